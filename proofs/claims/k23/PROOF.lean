import PyProof.Rows.All
import Wide.All
import OpenK.AllK
import Wide.FinOn
import HandS.ForMost
import HandS.Conv
import HandS.TupAny
import HandS.Star
import HandS.IsInst
import HandS.Zip
import HandS.SortInts
import HandS.Style
import PyProof.SumWalkG
import PyProof.WalksMore
import HandS.ForExc
import HandS.Defaults
import KE.GoesMore
import PyProof.Draws
import PyProof.EnumMake
import KE.KStateDown
import HandS.Head2
import HandS.HeadHook4
import HandS.HeadWalk
import HandS.Lambda
import HandS.EndTab
import HandS.SortKw
import KE.SortKeyHeap
import HandS.Exc
import HandS.ExcOwn
import HandS.WordsExc
import KE.SortData
import HandS.Dict
import HandS.CallLocal
import KE.KDictDisplayH
import KE.DataMinMax
import PySem.Challenge.RW_struckboards_k23_whole_several_boards
set_option linter.all false
/-! Strikes on boards: plain mathematics, no program in sight. -/
namespace K23
/-! ### rising lists -/
def srt (l : List Nat) : List Nat := l.mergeSort (fun a b => decide (a ≤ b))
theorem srt_perm (l : List Nat) : (srt l).Perm l := List.mergeSort_perm l _
theorem mem_srt {l : List Nat} {x : Nat} : x ∈ srt l ↔ x ∈ l := (srt_perm l).mem_iff
theorem srt_le (l : List Nat) : (srt l).Pairwise (· ≤ ·) := by
  have h := List.pairwise_mergeSort (le := fun a b : Nat => decide (a ≤ b)) (fun a b c h1 h2 => by simp at *; omega) (fun a b => by simp; omega) l
  exact h.imp fun {a b} h => by simpa using h
theorem srt_of {l m : List Nat} (p : m.Perm l) (s : m.Pairwise (· ≤ ·)) : m = srt l :=
  List.Perm.eq_of_pairwise (le := (· ≤ ·)) (fun a b _ _ h1 h2 => Nat.le_antisymm h1 h2) s (srt_le l) (p.trans (srt_perm l).symm)
theorem srt_nodup {l : List Nat} (h : l.Nodup) : (srt l).Nodup := (srt_perm l).nodup_iff.mpr h
def Rising (l : List Nat) : Prop := l.Pairwise (· < ·)
theorem Rising.nodup {l : List Nat} (h : Rising l) : l.Nodup := h.imp fun {a b} h => Nat.ne_of_lt h
theorem Rising.le {l : List Nat} (h : Rising l) : l.Pairwise (· ≤ ·) := h.imp fun {a b} h => Nat.le_of_lt h
theorem rising_of {l : List Nat} (h : l.Nodup) (s : l.Pairwise (· ≤ ·)) : Rising l :=
  (List.pairwise_and_iff.mpr ⟨s, h⟩).imp fun {a b} h => Nat.lt_of_le_of_ne h.1 h.2
theorem srt_rising {l : List Nat} (h : l.Nodup) : Rising (srt l) := rising_of (srt_nodup h) (srt_le l)
theorem rising_ext {l m : List Nat} (hl : Rising l) (hm : Rising m) (h : ∀ x, x ∈ l ↔ x ∈ m) : l = m :=
  List.Perm.eq_of_pairwise (le := (· ≤ ·)) (fun a b _ _ h1 h2 => Nat.le_antisymm h1 h2) hl.le hm.le ((List.perm_ext_iff_of_nodup hl.nodup hm.nodup).mpr h)
theorem rising_range (n : Nat) : Rising (List.range n) := List.pairwise_lt_range
theorem rising_filter {l : List Nat} (p : Nat → Bool) (h : Rising l) : Rising (l.filter p) := h.filter p
theorem srt_len (l : List Nat) : (srt l).length = l.length := (srt_perm l).length_eq
theorem nodup_snoc {l : List Nat} {x : Nat} (h : l.Nodup) (hx : x ∉ l) : (l ++ [x]).Nodup := by
  rw [List.nodup_append]
  exact ⟨h, by simp, fun a ha b hb e => hx (by simp at hb; rw [← hb, ← e]; exact ha)⟩

/-! ### an abstract game of strikes: n lines, R L x: behind L the line x may be struck -/
section
variable {n : Nat} {R : List Nat → Nat → Prop}
inductive Comes (n : Nat) (R : List Nat → Nat → Prop) (W : Nat → Prop) : List Nat → Prop
  | nil : Comes n R W []
  | step {L : List Nat} {x : Nat} : Comes n R W L → x < n → x ∉ L → W x → R L x → Comes n R W (srt (L ++ [x]))
theorem Comes.mono {W W' : Nat → Prop} (hW : ∀ x, W x → W' x) {L : List Nat} (h : Comes n R W L) : Comes n R W' L := by
  induction h with
  | nil => exact .nil
  | step _ hx hn hw hr ih => exact .step ih hx hn (hW _ hw) hr
theorem mem_with {L : List Nat} {x y : Nat} : y ∈ srt (L ++ [x]) ↔ y ∈ L ∨ y = x := by
  rw [mem_srt]; simp
theorem Comes.rising {W : Nat → Prop} {L : List Nat} (h : Comes n R W L) : Rising L := by
  induction h with
  | nil => exact .nil
  | step h hx hn hw hr ih => exact srt_rising (nodup_snoc ih.nodup hn)
theorem Comes.lt {W : Nat → Prop} {L : List Nat} (h : Comes n R W L) : ∀ x ∈ L, x < n := by
  induction h with
  | nil => intro x hx; cases hx
  | step h hx hn hw hr ih => intro y hy; rcases mem_with.mp hy with h | rfl; exact ih _ h; exact hx
theorem Comes.within {W : Nat → Prop} {L : List Nat} (h : Comes n R W L) : ∀ x ∈ L, W x := by
  induction h with
  | nil => intro x hx; cases hx
  | step h hx hn hw hr ih => intro y hy; rcases mem_with.mp hy with h | rfl; exact ih _ h; exact hw
theorem Comes.all {W : Nat → Prop} {L : List Nat} (h : Comes n R W L) : Comes n R (fun _ => True) L := h.mono fun _ _ => trivial
/-- all strikes of a lot that comes stay within any W that holds it -/
theorem Comes.own {W : Nat → Prop} {L : List Nat} (h : Comes n R W L) : Comes n R (fun x => x ∈ L) L := by
  induction h with
  | nil => exact .nil
  | step h hx hn hw hr ih => exact .step (ih.mono fun y hy => mem_with.mpr (.inl hy)) hx hn (mem_with.mpr (.inr rfl)) hr
/-- what may be struck stays so -/
def Keeps (n : Nat) (R : List Nat → Nat → Prop) : Prop := ∀ L L' x, Comes n R (fun _ => True) L → Comes n R (fun _ => True) L' → (∀ y, y ∈ L → y ∈ L') → x < n → x ∉ L' → R L x → R L' x
/-- nothing more of W can be struck -/
def Done (n : Nat) (R : List Nat → Nat → Prop) (W : Nat → Prop) (M : List Nat) : Prop := Comes n R W M ∧ ∀ x, x < n → x ∉ M → W x → ¬ R M x
theorem Done.most {W : Nat → Prop} {L M : List Nat} (K : Keeps n R) (d : Done n R W M) (h : Comes n R W L) : ∀ x, x ∈ L → x ∈ M := by
  induction h with
  | nil => intro x hx; cases hx
  | @step L x h hx hn hw hr ih =>
    intro y hy
    rcases mem_with.mp hy with hy | rfl
    · exact ih y hy
    · refine Classical.byContradiction fun hm => ?_
      exact d.2 y hx hm hw (K L M y h.all d.1.all ih hx hm hr)
theorem Done.one {W : Nat → Prop} {M M' : List Nat} (K : Keeps n R) (d : Done n R W M) (d' : Done n R W M') : M = M' :=
  rising_ext d.1.rising d'.1.rising fun x => ⟨d'.most K d.1 x, d.most K d'.1 x⟩
theorem Done.congr {W W' : Nat → Prop} {M : List Nat} (h : ∀ x, x < n → (W x ↔ W' x)) (d : Done n R W M) : Done n R W' M := by
  refine ⟨?_, fun x hx hm hw => d.2 x hx hm ((h x hx).mpr hw)⟩
  have : ∀ L, Comes n R W L → Comes n R W' L := fun L hL => by
    induction hL with
    | nil => exact .nil
    | step _ hx hn hw hr ih => exact .step ih hx hn ((h _ hx).mp hw) hr
  exact this M d.1
/-- a lot comes iff the greatest one within it is it -/
theorem comes_iff {L M : List Nat} (K : Keeps n R) (hL : Rising L) (d : Done n R (fun x => x ∈ L) M) : M = L ↔ Comes n R (fun _ => True) L := by
  constructor
  · intro e; rw [← e]; exact d.1.all
  · intro h
    exact rising_ext d.1.rising hL fun x => ⟨d.1.within x, d.most K h.own x⟩
/-- lines struck together, one behind the other -/
theorem comes_more (K : Keeps n R) {L : List Nat} (h : Comes n R (fun _ => True) L) : ∀ S : List Nat, S.Nodup → (∀ x ∈ S, x < n ∧ x ∉ L ∧ R L x) → Comes n R (fun _ => True) (srt (L ++ S)) := by
  intro S
  suffices H : ∀ k, k ≤ S.length → S.Nodup → (∀ x ∈ S, x < n ∧ x ∉ L ∧ R L x) → Comes n R (fun _ => True) (srt (L ++ S.take k)) by
    intro h1 h2
    have := H S.length (Nat.le_refl _) h1 h2
    rwa [List.take_length] at this
  intro k
  induction k with
  | zero =>
    intro _ _ _
    rw [List.take_zero, List.append_nil]
    rw [← srt_of (List.Perm.refl L) h.rising.le]
    exact h
  | succ k ih =>
    intro hk nd hS
    have c := ih (by omega) nd hS
    have hlt : k < S.length := by omega
    have ex : S.take (k + 1) = S.take k ++ [S[k]] := by rw [List.take_succ_eq_append_getElem hlt]
    have hm : S[k] ∈ S := List.getElem_mem hlt
    have hx := hS _ hm
    have hnot : S[k] ∉ srt (L ++ S.take k) := by
      rw [mem_srt, List.mem_append]
      rintro (h1 | h1)
      · exact hx.2.1 h1
      · obtain ⟨j, hj, e⟩ := List.mem_iff_getElem.mp h1
        rw [List.length_take] at hj
        rw [List.getElem_take] at e
        have := (List.getElem_inj nd).mp e
        omega
    have st := Comes.step (W := fun _ => True) c hx.1 hnot trivial (K L _ _ h c (fun y hy => mem_srt.mpr (List.mem_append_left _ hy)) hx.1 hnot hx.2.2)
    have e2 : srt (srt (L ++ S.take k) ++ [S[k]]) = srt (L ++ S.take (k + 1)) := by
      rw [ex, ← List.append_assoc]
      refine srt_of ?_ (srt_le _)
      exact (srt_perm _).trans ((srt_perm _).append_right _)
    rw [← e2]
    exact st
end

/-! ### boards of h rows and w columns -/
abbrev Board := List (List (Int × Int))
def cell (b : Board) (r c : Nat) : Int × Int := (b.getD r []).getD c (0, 0)
def rowsL (h : Nat) (lot : List Nat) : List Nat := (List.range h).filter fun r => !lot.contains r
def colsL (h w : Nat) (lot : List Nat) : List Nat := (List.range' h w).filter fun c => !lot.contains c
def cross (h w : Nat) (lot : List Nat) (x : Nat) : List Nat := if x < h then colsL h w lot else rowsL h lot
def val (h : Nat) (b : Board) (x c : Nat) : Int := if x < h then (cell b x (c - h)).1 else (cell b c (x - h)).2
def numbers (h w : Nat) (b : Board) (lot : List Nat) (x : Nat) : List Int := (cross h w lot x).map (val h b x)
def same (h x y : Nat) : Bool := decide (x < h) == decide (y < h)
def isGreater (h w : Nat) (b : Board) (lot : List Nat) (x y : Nat) : Bool := same h x y && ((numbers h w b lot x).zip (numbers h w b lot y)).all fun p => decide (p.1 < p.2)
/-- y is greater than x in the lines left that cross them -/
def Dom (h w : Nat) (b : Board) (lot : List Nat) (x y : Nat) : Prop := (x < h ↔ y < h) ∧ ∀ c ∈ cross h w lot x, val h b x c < val h b y c
def Left (h w : Nat) (lot : List Nat) : Prop := (∃ r, r < h ∧ r ∉ lot) ∧ ∃ c, h ≤ c ∧ c < h + w ∧ c ∉ lot
/-- x may be struck behind lot in all boards -/
def Falls (h w : Nat) (bs : List Board) (lot : List Nat) (x : Nat) : Prop := ∃ y, y < h + w ∧ y ∉ lot ∧ y ≠ x ∧ ∀ b ∈ bs, Dom h w b lot x y
section
variable {h w : Nat} {b : Board} {bs : List Board} {lot lot' : List Nat} {x y z c : Nat}
theorem mem_rowsL : x ∈ rowsL h lot ↔ x < h ∧ x ∉ lot := by
  unfold rowsL; rw [List.mem_filter, List.mem_range]; simp
theorem mem_colsL : x ∈ colsL h w lot ↔ h ≤ x ∧ x < h + w ∧ x ∉ lot := by
  unfold colsL; rw [List.mem_filter, List.mem_range'_1]; simp [and_assoc]
theorem cross_same (e : x < h ↔ y < h) : cross h w lot x = cross h w lot y := by
  unfold cross
  by_cases hx : x < h
  · rw [if_pos hx, if_pos (e.mp hx)]
  · rw [if_neg hx, if_neg fun q => hx (e.mpr q)]
theorem cross_sub (s : ∀ z, z ∈ lot → z ∈ lot') (hc : c ∈ cross h w lot' x) : c ∈ cross h w lot x := by
  unfold cross at *
  split
  · rename_i hx; rw [if_pos hx] at hc
    rw [mem_colsL] at *; exact ⟨hc.1, hc.2.1, fun q => hc.2.2 (s _ q)⟩
  · rename_i hx; rw [if_neg hx] at hc
    rw [mem_rowsL] at *; exact ⟨hc.1, fun q => hc.2 (s _ q)⟩
theorem Dom.mono (s : ∀ z, z ∈ lot → z ∈ lot') (d : Dom h w b lot x y) : Dom h w b lot' x y := ⟨d.1, fun c hc => d.2 c (cross_sub s hc)⟩
theorem Dom.trans (d : Dom h w b lot x y) (d' : Dom h w b lot y z) : Dom h w b lot x z :=
  ⟨d.1.trans d'.1, fun c hc => Int.lt_trans (d.2 c hc) (d'.2 c (by rw [← cross_same (lot := lot) (w := w) d.1]; exact hc))⟩
theorem cross_left (v : Left h w lot) (x : Nat) : ∃ c, c ∈ cross h w lot x := by
  obtain ⟨⟨r, r1, r2⟩, ⟨c, c1, c2, c3⟩⟩ := v
  unfold cross
  split
  · exact ⟨c, mem_colsL.mpr ⟨c1, c2, c3⟩⟩
  · exact ⟨r, mem_rowsL.mpr ⟨r1, r2⟩⟩
theorem Dom.irrefl (v : Left h w lot) : ¬ Dom h w b lot x x := fun d => by
  obtain ⟨c, hc⟩ := cross_left v x
  exact absurd (d.2 c hc) (Int.lt_irrefl _)
theorem isGreater_iff : isGreater h w b lot x y = true ↔ Dom h w b lot x y := by
  unfold isGreater Dom same
  rw [Bool.and_eq_true]
  have e1 : ((decide (x < h) == decide (y < h)) = true) ↔ (x < h ↔ y < h) := by
    by_cases hx : x < h <;> by_cases hy : y < h <;> simp [hx, hy]
  rw [e1]
  constructor
  · rintro ⟨e, a⟩
    refine ⟨e, fun c hc => ?_⟩
    unfold numbers at a
    rw [← cross_same (lot := lot) (w := w) e, List.zip_map', List.all_map, List.all_eq_true] at a
    simpa using a c hc
  · rintro ⟨e, a⟩
    refine ⟨e, ?_⟩
    unfold numbers
    rw [← cross_same (lot := lot) (w := w) e, List.zip_map', List.all_map, List.all_eq_true]
    intro c hc
    simpa using a c hc

/-! ### what comes -/
abbrev ComesB (h w : Nat) (bs : List Board) (W : Nat → Prop) : List Nat → Prop := Comes (h + w) (Falls h w bs) W
theorem comes_inv (h1 : 1 ≤ h) (w1 : 1 ≤ w) {W : Nat → Prop} (hb : ∃ b, b ∈ bs) {L : List Nat} (c : ComesB h w bs W L) :
    Left h w L ∧ ∀ x ∈ L, ∃ y, y < h + w ∧ y ∉ L ∧ ∀ b ∈ bs, Dom h w b L x y := by
  induction c with
  | nil => exact ⟨⟨⟨0, by omega, by simp⟩, ⟨h, by omega, by omega, by simp⟩⟩, fun x hx => by cases hx⟩
  | @step L x c hx hn hw hr ih =>
    obtain ⟨v, cov⟩ := ih
    obtain ⟨y, y1, y2, y3, y4⟩ := hr
    have sub : ∀ z, z ∈ L → z ∈ srt (L ++ [x]) := fun z hz => mem_with.mpr (.inl hz)
    have yn : y ∉ srt (L ++ [x]) := fun q => (mem_with.mp q).elim y2 y3
    constructor
    · obtain ⟨b, hb⟩ := hb
      obtain ⟨⟨r, r1, r2⟩, ⟨c, c1, c2, c3⟩⟩ := v
      by_cases hxh : x < h
      · exact ⟨⟨y, (y4 b hb).1.mp hxh, yn⟩, ⟨c, c1, c2, fun q => (mem_with.mp q).elim c3 fun e => by omega⟩⟩
      · exact ⟨⟨r, r1, fun q => (mem_with.mp q).elim r2 fun e => by omega⟩, ⟨y, Nat.le_of_not_lt fun q => hxh ((y4 b hb).1.mpr q), y1, yn⟩⟩
    · intro z hz
      rcases mem_with.mp hz with hz | rfl
      · obtain ⟨u, u1, u2, u3⟩ := cov z hz
        by_cases e : u = x
        · subst e
          exact ⟨y, y1, yn, fun b hb => ((u3 b hb).mono sub).trans ((y4 b hb).mono sub)⟩
        · exact ⟨u, u1, fun q => (mem_with.mp q).elim u2 e, fun b hb => (u3 b hb).mono sub⟩
      · exact ⟨y, y1, yn, fun b hb => (y4 b hb).mono sub⟩
theorem keepsB (h1 : 1 ≤ h) (w1 : 1 ≤ w) (hb : ∃ b, b ∈ bs) : Keeps (h + w) (Falls h w bs) := by
  intro L L' x c c' s hx hn hr
  obtain ⟨y, y1, y2, y3, y4⟩ := hr
  by_cases hy : y ∈ L'
  · obtain ⟨v, cov⟩ := comes_inv h1 w1 hb c'
    obtain ⟨u, u1, u2, u3⟩ := cov y hy
    refine ⟨u, u1, u2, fun e => ?_, fun b hb => ((y4 b hb).mono s).trans (u3 b hb)⟩
    subst e
    obtain ⟨b, hb⟩ := hb
    exact Dom.irrefl v (((y4 b hb).mono s).trans (u3 b hb))
  · exact ⟨y, y1, hy, y3, fun b hb => (y4 b hb).mono s⟩
end
end K23

set_option Elab.async false
set_option linter.all false
set_option maxRecDepth 100000
set_option maxHeartbeats 4000000
/-! What a reading evaluates to, told by data alone: the known part G of the heap grows by new objects; a slot's data, a list of one's own, the row of draws. -/
namespace K23
open PySem PySem.Spec PyProof.Rows L2

/-! ### data in the known part of a heap -/
mutual
inductive Rp (G : Hp) : V → PyData → Prop
  | non : Rp G .non .none
  | bl (b : Bool) : Rp G (.bl b) (.bool b)
  | int (i : Int) : Rp G (.int i) (.int i)
  | str (x : Str) : Rp G (.str x) (.str x)
  | lst {a : Addr} {xs : List V} {ds : List PyData} : G a = some (.lst xs) → Rps G xs ds → Rp G (.ref a) (.list ds)
  | tup {a : Addr} {xs : List V} {ds : List PyData} : G a = some (.tup xs) → Rps G xs ds → Rp G (.ref a) (.tuple ds)
inductive Rps (G : Hp) : List V → List PyData → Prop
  | nil : Rps G [] []
  | cons {v : V} {vs : List V} {d : PyData} {ds : List PyData} : Rp G v d → Rps G vs ds → Rps G (v :: vs) (d :: ds)
end
mutual
theorem Rp.mono {G G' : Hp} (e : Same G G') : ∀ (d : PyData) (v : V), Rp G v d → Rp G' v d
  | .none, _, h => by cases h; exact .non
  | .bool b, _, h => by cases h; exact .bl b
  | .int i, _, h => by cases h; exact .int i
  | .str x, _, h => by cases h; exact .str x
  | .list ds, _, h => by cases h with | lst h1 h2 => exact .lst (e _ _ h1) (Rps.mono e ds _ h2)
  | .tuple ds, _, h => by cases h with | tup h1 h2 => exact .tup (e _ _ h1) (Rps.mono e ds _ h2)
  | .dict _, _, h => by cases h
theorem Rps.mono {G G' : Hp} (e : Same G G') : ∀ (ds : List PyData) (vs : List V), Rps G vs ds → Rps G' vs ds
  | [], _, h => by cases h; exact .nil
  | d :: ds, _, h => by cases h with | cons h1 h2 => exact .cons (Rp.mono e d _ h1) (Rps.mono e ds _ h2)
end
theorem Rp.up {G G' : Hp} {d : PyData} {v : V} (h : Rp G v d) (e : Same G G') : Rp G' v d := Rp.mono e d v h
theorem Rps.up {G G' : Hp} {ds : List PyData} {vs : List V} (h : Rps G vs ds) (e : Same G G') : Rps G' vs ds := Rps.mono e ds vs h
mutual
theorem Rp.dp {K : PySem.W.Frag} {G : Hp} : ∀ (d : PyData) (v : V), Rp G v d → Dp K G v d
  | .none, _, h => by cases h; exact .non
  | .bool b, _, h => by cases h; exact .bl b
  | .int i, _, h => by cases h; exact .int i
  | .str x, _, h => by cases h; exact .str x
  | .list ds, _, h => by cases h with | lst h1 h2 => exact .lst (SqL.of h1) (Rps.dp ds _ h2)
  | .tuple ds, _, h => by cases h with | tup h1 h2 => exact .tup (SqT.of h1) (Rps.dp ds _ h2)
  | .dict _, _, h => by cases h
theorem Rps.dp {K : PySem.W.Frag} {G : Hp} : ∀ (ds : List PyData) (vs : List V), Rps G vs ds → DpAll K G vs ds
  | [], _, h => by cases h; exact .nil
  | d :: ds, _, h => by cases h with | cons h1 h2 => exact .cons (Rp.dp d _ h1) (Rps.dp ds _ h2)
end
theorem Rps.length {G : Hp} : ∀ {vs : List V} {ds : List PyData}, Rps G vs ds → vs.length = ds.length
  | _, _, .nil => rfl
  | _, _, .cons _ h => congrArg (· + 1) h.length
theorem Rps.get {G : Hp} : ∀ {vs : List V} {ds : List PyData} {i : Nat} {v : V}, Rps G vs ds → vs[i]? = some v → ∃ d, ds[i]? = some d ∧ Rp G v d
  | _, _, _, _, .nil, h => by simp at h
  | _, _, 0, _, .cons h _, e => by simp at e; subst e; exact ⟨_, rfl, h⟩
  | _, _, i + 1, v, .cons _ h, e => by
    obtain ⟨d, h1, h2⟩ := h.get (i := i) (v := v) (by simpa using e)
    exact ⟨d, by simpa using h1, h2⟩
theorem Rps.get' {G : Hp} : ∀ {vs : List V} {ds : List PyData} {i : Nat} {d : PyData}, Rps G vs ds → ds[i]? = some d → ∃ v, vs[i]? = some v ∧ Rp G v d
  | _, _, _, _, .nil, h => by simp at h
  | _, _, 0, _, .cons h _, e => by simp at e; subst e; exact ⟨_, rfl, h⟩
  | _, _, i + 1, d, .cons _ h, e => by
    obtain ⟨v, h1, h2⟩ := h.get' (i := i) (d := d) (by simpa using e)
    exact ⟨v, by simpa using h1, h2⟩
theorem Rps.append {G : Hp} : ∀ {vs ws : List V} {ds es : List PyData}, Rps G vs ds → Rps G ws es → Rps G (vs ++ ws) (ds ++ es)
  | _, _, _, _, .nil, h => h
  | _, _, _, _, .cons h1 h2, h => .cons h1 (h2.append h)
theorem Rps.one {G : Hp} {v : V} {d : PyData} (h : Rp G v d) : Rps G [v] [d] := .cons h .nil
theorem Rp.int_of {G : Hp} {v : V} {i : Int} (h : Rp G v (.int i)) : v = .int i := by cases h; rfl
theorem Rp.bool_of {G : Hp} {v : V} {b : Bool} (h : Rp G v (.bool b)) : v = .bl b := by cases h; rfl
theorem Rp.none_of {G : Hp} {v : V} (h : Rp G v .none) : v = .non := by cases h; rfl
theorem Rp.str_of {G : Hp} {v : V} {x : Str} (h : Rp G v (.str x)) : v = .str x := by cases h; rfl
theorem Rps.ints {G : Hp} : ∀ {vs : List V} {ns : List Int}, Rps G vs (ns.map PyData.int) → vs = ns.map V.int
  | _, [], h => by cases h; rfl
  | _, n :: ns, h => by
    cases h with
    | cons h1 h2 => rw [h1.int_of, h2.ints]; rfl
theorem Rps.ints' {G : Hp} : ∀ (ns : List Int), Rps G (ns.map V.int) (ns.map PyData.int)
  | [] => .nil
  | n :: ns => .cons (.int n) (Rps.ints' ns)
theorem Rps.bools {G : Hp} : ∀ {vs : List V} {ns : List Bool}, Rps G vs (ns.map PyData.bool) → vs = ns.map V.bl
  | _, [], h => by cases h; rfl
  | _, n :: ns, h => by
    cases h with
    | cons h1 h2 => rw [h1.bool_of, h2.bools]; rfl

/-! ### how the known part grows -/
abbrev NoO : Addr → Prop := fun _ => False
structure Ext (r : Option Addr) (O : Addr → Prop) (G H G' H' : Hp) : Prop where
  all : ∀ a o, some a ≠ r → ¬ O a → H a = some o → H' a = some o
  kn : ∀ a o, G a = some o → G' a = some o
  sub : ∀ a o, G' a = some o → H' a = some o
  new : ∀ a o, G' a = some o → G a = some o ∨ H a = none ∨ O a
theorem Ext.refl {r : Option Addr} {O : Addr → Prop} {G H : Hp} (s : Same G H) : Ext r O G H G H :=
  ⟨fun _ _ _ _ h => h, fun _ _ h => h, s, fun _ _ h => .inl h⟩
/-- the script: known, or frozen, or an object of the module -/
def ScrAt (K : PySem.W.Frag) (G H : Hp) (sa : Addr) (xs : List V) : Prop := G sa = some (.lst xs) ∨ (∃ o, H sa = some (.frz o (.lst xs))) ∨
  ∃ (o : Obj) (its : Array Value) (n : Nat), K.lookup sa = some o ∧ o.cls = .type "list" ∧ o.dict = none ∧ o.data = .seq its n ∧ its.size ≤ sizeLine ∧ Vals xs its.toList
theorem ScrAt.seq {K : PySem.W.Frag} {G H : Hp} {sa : Addr} {xs : List V} (h : ScrAt K G H sa xs) (s : Same G H) : SqL K H sa xs := by
  rcases h with h | ⟨o, h⟩ | h
  · exact .inl (.inl (s _ _ h))
  · exact .inl (.inr ⟨o, h⟩)
  · exact .inr h
theorem ScrAt.up {K : PySem.W.Frag} {G H G' H' : Hp} {sa : Addr} {xs : List V} (h : ScrAt K G H sa xs) (s : Same G G') (e : ∀ o u, H sa = some (.frz o u) → H' sa = some (.frz o u)) : ScrAt K G' H' sa xs := by
  rcases h with h | ⟨o, h⟩ | h
  · exact .inl (s _ _ h)
  · exact .inr (.inl ⟨o, e _ _ h⟩)
  · exact .inr (.inr h)
def RowAt (K : PySem.W.Frag) (G H : Hp) (a : Addr) : Prop := ∃ (sa : Addr) (ns : List Int) (k s rest : Int), H a = some (.lst [.ref sa, .int k, .int s, .int rest]) ∧ ScrAt K G H sa (ns.map V.int) ∧ 0 ≤ k ∧ 0 ≤ s ∧ s < 2147483647 ∧ 0 ≤ rest
def RowOk (K : PySem.W.Frag) (r : Option Addr) (G H : Hp) : Prop := ∀ a, r = some a → G a = none ∧ RowAt K G H a
theorem RowOk.no {K : PySem.W.Frag} {G H : Hp} : RowOk K none G H := fun a e => nomatch e
theorem RowOk.ne {K : PySem.W.Frag} {r : Option Addr} {G H : Hp} (h : RowOk K r G H) {a : Addr} (n : H a = none) : some a ≠ r := fun e => by
  obtain ⟨_, sa, ns, k, s, rest, e1, _⟩ := h a e.symm
  rw [n] at e1; cases e1
theorem SqL.up {K : PySem.W.Frag} {H H' : Hp} {a : Addr} {xs : List V} (h : SqL K H a xs) (e : ∀ o, H a = some o → H' a = some o) : SqL K H' a xs := by
  rcases h with (h | ⟨o, h⟩) | h
  · exact .inl (.inl (e _ h))
  · exact .inl (.inr ⟨o, e _ h⟩)
  · exact .inr h
theorem Ext.trans {K : PySem.W.Frag} {r : Option Addr} {O O1 : Addr → Prop} {G H G1 H1 G2 H2 : Hp} (x : Ext r O G H G1 H1) (y : Ext r O1 G1 H1 G2 H2) (w : RowOk K r G1 H1) (ow : ∀ a, O1 a → O a ∨ H a = none) : Ext r O G H G2 H2 where
  all := fun a o n1 n2 e => y.all a o n1 (fun z => (ow a z).elim n2 fun z => by rw [e] at z; cases z) (x.all a o n1 n2 e)
  kn := fun a o e => y.kn a o (x.kn a o e)
  sub := y.sub
  new := fun a o e => by
    rcases y.new a o e with h | h | h
    · exact x.new a o h
    · cases q : H a with
      | none => exact .inr (.inl rfl)
      | some u =>
        refine .inr (.inr (Classical.byContradiction fun nO => ?_))
        have := x.all a u (w.ne h) nO q
        rw [h] at this; cases this
    · exact (ow a h).elim (fun z => .inr (.inr z)) fun z => .inr (.inl z)
theorem Ext.trans0 {K : PySem.W.Frag} {r : Option Addr} {O : Addr → Prop} {G H G1 H1 G2 H2 : Hp} (x : Ext r O G H G1 H1) (y : Ext r NoO G1 H1 G2 H2) (w : RowOk K r G1 H1) : Ext r O G H G2 H2 := x.trans y w fun _ z => z.elim
theorem Ext.wk {r : Option Addr} {O : Addr → Prop} {G H G' H' : Hp} (x : Ext r NoO G H G' H') : Ext r O G H G' H' :=
  ⟨fun a o n _ e => x.all a o n (fun z => z) e, x.kn, x.sub, fun a o e => (x.new a o e).elim .inl fun z => z.elim (fun z => .inr (.inl z)) fun z => z.elim⟩
theorem Ext.any {r : Option Addr} {O : Addr → Prop} {G H G' H' : Hp} (x : Ext none NoO G H G' H') : Ext r O G H G' H' :=
  ⟨fun a o n _ e => x.all a o (by simp) (fun z => z) e, x.kn, x.sub, fun a o e => (x.new a o e).elim .inl fun z => z.elim (fun z => .inr (.inl z)) fun z => z.elim⟩
theorem Ext.same {G H G' H' : Hp} (x : Ext none NoO G H G' H') : Same H H' := fun a o e => x.all a o (by simp) (fun z => z) e
theorem RowOk.ext {K : PySem.W.Frag} {r : Option Addr} {G H G' H' : Hp} (w : RowOk K r G H) (x : Ext none NoO G H G' H') : RowOk K r G' H' := fun a e => by
  obtain ⟨g, sa, ns, k, s, rest, e1, e3, e4⟩ := w a e
  refine ⟨?_, sa, ns, k, s, rest, x.same _ _ e1, e3.up x.kn fun o u z => x.same _ _ z, e4⟩
  cases q : G' a with
  | none => rfl
  | some o =>
    rcases x.new a o q with z | z | z
    · rw [g] at z; cases z
    · rw [e1] at z; cases z
    · exact z.elim
/-- a list of one's own is changed: the row stands -/
theorem RowOk.mut {K : PySem.W.Frag} {r : Option Addr} {G H : Hp} {D : Addr} {u : HO} (w : RowOk K r G H) (n : some D ≠ r) (f : ∀ o u, H D ≠ some (.frz o u)) : RowOk K r G (upd H D u) := fun a e => by
  obtain ⟨g, sa, ns, k, s, rest, e1, e3, e4⟩ := w a e
  have na : a ≠ D := fun z => n (by rw [← z, e])
  exact ⟨g, sa, ns, k, s, rest, by rw [upd_ne na]; exact e1, e3.up (fun _ _ h => h) fun o u z => by rw [upd_ne (fun q => f o u (by rw [← q]; exact z))]; exact z, e4⟩
/-- an object becomes known -/
theorem RowOk.more {K : PySem.W.Frag} {r : Option Addr} {G H : Hp} {D : Addr} {u : HO} (w : RowOk K r G H) (n : some D ≠ r) (f : G D = none) : RowOk K r (upd G D u) H := fun a e => by
  obtain ⟨g, sa, ns, k, s, rest, e1, e3, e4⟩ := w a e
  have na : a ≠ D := fun z => n (by rw [← z, e])
  exact ⟨by rw [upd_ne na]; exact g, sa, ns, k, s, rest, e1, e3.up (fun b o h => by rw [upd_ne (ne_of_none h f)]; exact h) fun o u z => z, e4⟩
/-- one object more -/
theorem Ext.obj {G H : Hp} {p : Addr} {o : HO} (s : Same G H) (n : H p = none) : Ext none NoO G H (upd G p o) (upd H p o) := by
  refine ⟨fun a u _ _ e => ?_, fun a u e => ?_, fun a u e => ?_, fun a u e => ?_⟩
  · rw [upd_ne (ne_of_none e n)]; exact e
  · have : H a = some u := s a u e
    rw [upd_ne (ne_of_none this n)]; exact e
  · by_cases h : a = p
    · subst h; rw [upd_same] at e ⊢; exact e
    · rw [upd_ne h] at e ⊢; exact s a u e
  · by_cases h : a = p
    · subst h; exact .inr (.inl n)
    · rw [upd_ne h] at e; exact .inl e
/-- the known part made larger ahead -/
def uni (G1 G' : Hp) : Hp := fun a => match G1 a with | some o => some o | none => G' a
theorem uni_l {G1 G' : Hp} : Same G1 (uni G1 G') := fun a o e => by unfold uni; rw [e]
theorem uni_r {G1 G' H' : Hp} (h1 : Same G1 H') (h2 : Same G' H') : Same G' (uni G1 G') := fun a o e => by
  unfold uni
  cases q : G1 a with
  | none => exact e
  | some u =>
    have e1 := h1 a u q
    rw [h2 a o e] at e1
    exact e1.symm ▸ rfl
theorem Ext.lift {G G1 H G' H' : Hp} (x : Ext none NoO G H G' H') (s : Same G G1) (s1 : Same G1 H) : Ext none NoO G1 H (uni G1 G') H' ∧ Same G' (uni G1 G') := by
  have h1 : Same G1 H' := fun a o e => x.same a o (s1 a o e)
  refine ⟨⟨x.all, uni_l, fun a o e => ?_, fun a o e => ?_⟩, uni_r h1 x.sub⟩
  · unfold uni at e
    cases q : G1 a with
    | none => rw [q] at e; exact x.sub a o e
    | some u => rw [q] at e; cases e; exact h1 a o q
  · unfold uni at e
    cases q : G1 a with
    | none =>
      rw [q] at e
      rcases x.new a o e with z | z | z
      · have := s a o z
        rw [q] at this; cases this
      · exact .inr (.inl z)
      · exact z.elim
    | some u => rw [q] at e; exact .inl e

/-! ### a dict whose keys are tuples of ints -/
def kL (l : List Nat) : List L2.Key := l.map fun n : Nat => .inl (n : Int)
def DkAt (H : Hp) (a : Addr) (ls : List (List Nat)) : Prop := ∃ cs : List (List L2.Key × V), H a = some (.dT cs) ∧ cs.map (·.1) = ls.map kL ∧ ∀ p ∈ cs, ∃ z : Int, p.2 = .int z
/-! ### slots -/
inductive Sl where
  | no
  | val (d : PyData)
  | own (ds : List PyData)
  | row
  | raw (v : V)
  | dk (ls : List (List Nat))
abbrev Env := List Sl
def SlOk (r : Option Addr) (G H : Hp) (x : Option (Option V)) : Sl → Prop
  | .no => True
  | .val d => ∃ v, x = some (some v) ∧ Rp G v d
  | .own ds => ∃ (D : Addr) (vs : List V), x = some (some (.ref D)) ∧ G D = none ∧ some D ≠ r ∧ H D = some (.lst vs) ∧ Rps G vs ds
  | .row => ∃ a, r = some a ∧ x = some (some (.ref a))
  | .raw v => x = some (some v)
  | .dk ls => ∃ F : Addr, x = some (some (.ref F)) ∧ some F ≠ r ∧ DkAt H F ls
def Own (σ : L2.St) (Γ : Env) (a : Addr) : Prop := ∃ (i : Nat) (ds : List PyData), Γ[i]? = some (.own ds) ∧ σ[i]? = some (some (.ref a))
structure StOk (K : PySem.W.Frag) (r : Option Addr) (G H : Hp) (σ : L2.St) (Γ : Env) : Prop where
  same : Same G H
  row : RowOk K r G H
  len : σ.length = Γ.length
  ok : ∀ (i : Nat) (s : Sl), Γ[i]? = some s → SlOk r G H σ[i]? s
  sep : ∀ (i j : Nat) (ds es : List PyData) (a : Addr), Γ[i]? = some (.own ds) → Γ[j]? = some (.own es) → σ[i]? = some (some (.ref a)) → σ[j]? = some (some (.ref a)) → i = j
section
variable {K : PySem.W.Frag} {r : Option Addr} {G H G' H' : Hp} {σ : L2.St} {Γ : Env}
theorem Ext.fresh {O : Addr → Prop} (x : Ext r O G H G' H') {D : Addr} {o : HO} (g : G D = none) (h : H D = some o) (n : ¬ O D) : G' D = none := by
  cases q : G' D with
  | none => rfl
  | some u =>
    rcases x.new D u q with z | z | z
    · rw [g] at z; cases z
    · rw [h] at z; cases z
    · exact (n z).elim
theorem StOk.ext (S : StOk K r G H σ Γ) (x : Ext r NoO G H G' H') (w : RowOk K r G' H') : StOk K r G' H' σ Γ := by
  refine ⟨x.sub, w, S.len, fun i s e => ?_, S.sep⟩
  have q := S.ok i s e
  cases s with
  | no => trivial
  | val d =>
    obtain ⟨v, e1, e2⟩ := q
    exact ⟨v, e1, e2.up x.kn⟩
  | own ds =>
    obtain ⟨D, vs, e1, e2, e3, e4, e5⟩ := q
    exact ⟨D, vs, e1, x.fresh e2 e4 (fun z => z), e3, x.all _ _ e3 (fun z => z) e4, e5.up x.kn⟩
  | row => exact q
  | raw v => exact q
  | dk ls =>
    obtain ⟨F, e1, e2, cs, e3, e4⟩ := q
    exact ⟨F, e1, e2, cs, x.all _ _ e2 (fun z => z) e3, e4⟩
theorem StOk.ext0 (S : StOk K r G H σ Γ) (x : Ext none NoO G H G' H') : StOk K r G' H' σ Γ := S.ext x.any (S.row.ext x)
theorem StOk.set {i : Nat} {v : V} {d : PyData} (S : StOk K r G H σ Γ) (h : Rp G v d) : StOk K r G H (σ.set i (some v)) (Γ.set i (.val d)) := by
  refine ⟨S.same, S.row, by simpa using S.len, fun j s e => ?_, fun j k ds es a e1 e2 f1 f2 => ?_⟩
  · by_cases hj : i = j
    · subst hj
      by_cases hl : i < Γ.length
      · rw [List.getElem?_set_self hl] at e
        cases e
        rw [List.getElem?_set_self (by rw [S.len]; exact hl)]
        exact ⟨v, rfl, h⟩
      · rw [List.getElem?_eq_none (by simpa using hl)] at e; cases e
    · rw [List.getElem?_set_ne hj] at e ⊢
      exact S.ok j s e
  · have ne : ∀ {j : Nat} {ds : List PyData}, (Γ.set i (.val d))[j]? = some (.own ds) → i ≠ j ∧ Γ[j]? = some (.own ds) := fun {j ds} e => by
      by_cases hj : i = j
      · subst hj
        by_cases hl : i < Γ.length
        · rw [List.getElem?_set_self hl] at e; cases e
        · rw [List.getElem?_eq_none (by simpa using hl)] at e; cases e
      · rw [List.getElem?_set_ne hj] at e
        exact ⟨hj, e⟩
    obtain ⟨n1, e1⟩ := ne e1
    obtain ⟨n2, e2⟩ := ne e2
    rw [List.getElem?_set_ne n1] at f1
    rw [List.getElem?_set_ne n2] at f2
    exact S.sep j k ds es a e1 e2 f1 f2
theorem own_set {i : Nat} {v : V} {d : PyData} {a : Addr} (h : Own (σ.set i (some v)) (Γ.set i (.val d)) a) : Own σ Γ a := by
  obtain ⟨j, ds, e1, e2⟩ := h
  by_cases hj : i = j
  · subst hj
    by_cases hl : i < Γ.length
    · rw [List.getElem?_set_self hl] at e1; cases e1
    · rw [List.getElem?_eq_none (by simpa using hl)] at e1; cases e1
  · rw [List.getElem?_set_ne hj] at e1 e2
    exact ⟨j, ds, e1, e2⟩
end

/-! ### the judgements -/
def EvN (K : PySem.W.Frag) (te : TE) (Γ : Env) (P : PyData → Prop) : Prop :=
  ∀ (r : Option Addr) (G H : Hp) (σ : L2.St), StOk K r G H σ Γ → ∀ Q : VK, (∀ v d G' H', P d → Ext r NoO G H G' H' → RowOk K r G' H' → Rp G' v d → Q v H') → te σ H Q
abbrev Ev (K : PySem.W.Frag) (te : TE) (Γ : Env) (d : PyData) : Prop := EvN K te Γ (fun x => x = d)
def EvTN (K : PySem.W.Frag) (tt : TT) (Γ : Env) (P : Bool → Prop) : Prop :=
  ∀ (r : Option Addr) (G H : Hp) (σ : L2.St), StOk K r G H σ Γ → ∀ Q : Bool → Hp → Prop, (∀ b G' H', P b → Ext r NoO G H G' H' → RowOk K r G' H' → Q b H') → tt σ H Q
abbrev EvT (K : PySem.W.Frag) (tt : TT) (Γ : Env) (b : Bool) : Prop := EvTN K tt Γ (fun x => x = b)
def EvA (K : PySem.W.Frag) (ta : TA) (Γ : Env) (P : List PyData → Prop) : Prop :=
  ∀ (r : Option Addr) (G H : Hp) (σ : L2.St), StOk K r G H σ Γ → ∀ Q : List V → Hp → Prop, (∀ vs ds G' H', P ds → Ext r NoO G H G' H' → RowOk K r G' H' → Rps G' vs ds → Q vs H') → ta σ H Q
/-- a two-place, a one-place operation, a call, by data -/
def RV (r : R2) (dx dy : PyData) (P : PyData → Prop) : Prop := ∀ (G H : Hp) (x y : V), Same G H → Rp G x dx → Rp G y dy → ∀ Q : VK, (∀ v d G' H', P d → Ext none NoO G H G' H' → Rp G' v d → Q v H') → r x y H Q
def RC (r : List V → Hp → VK → Prop) (ds : List PyData) (P : PyData → Prop) : Prop := ∀ (G H : Hp) (vs : List V), Same G H → Rps G vs ds → ∀ Q : VK, (∀ v d G' H', P d → Ext none NoO G H G' H' → Rp G' v d → Q v H') → r vs H Q
section
variable {K : PySem.W.Frag} {Γ : Env} {ta tb tc te : TE} {t u : TT} {P P1 P2 P3 : PyData → Prop}
theorem EvN.imp (h : EvN K te Γ P) (i : ∀ d, P d → P1 d) : EvN K te Γ P1 := fun r G H σ S Q q => h r G H σ S Q fun v d G' H' p => q v d G' H' (i d p)
theorem EvTN.imp {B B1 : Bool → Prop} (h : EvTN K t Γ B) (i : ∀ d, B d → B1 d) : EvTN K t Γ B1 := fun r G H σ S Q q => h r G H σ S Q fun d G' H' p => q d G' H' (i d p)
theorem Ev.to {d e : PyData} (h : Ev K te Γ d) (i : d = e) : Ev K te Γ e := i ▸ h
theorem EvT.to {d e : Bool} (h : EvT K t Γ d) (i : d = e) : EvT K t Γ e := i ▸ h
theorem ev_var {i : Nat} {d : PyData} (h : Γ[i]? = some (.val d) := by rfl) : Ev K (tVar i) Γ d := fun r G H σ S Q q => by
  obtain ⟨v, e1, e2⟩ := S.ok i _ h
  exact ⟨v, e1, q v d G H rfl (.refl S.same) S.row e2⟩
theorem ev_int {i : Int} : Ev K (tC (.int i)) Γ (.int i) := fun r G H σ S Q q => q _ _ G H rfl (.refl S.same) S.row (.int i)
theorem ev_bl {b : Bool} : Ev K (tC (.bl b)) Γ (.bool b) := fun r G H σ S Q q => q _ _ G H rfl (.refl S.same) S.row (.bl b)
theorem ev_non : Ev K (tC .non) Γ .none := fun r G H σ S Q q => q _ _ G H rfl (.refl S.same) S.row .non
theorem ev_str {x : Str} : Ev K (tC (.str x)) Γ (.str x) := fun r G H σ S Q q => q _ _ G H rfl (.refl S.same) S.row (.str x)
theorem evn_op {r : R2} (ha : EvN K ta Γ P1) (hb : EvN K tb Γ P2) (hr : ∀ dx dy, P1 dx → P2 dy → RV r dx dy P) : EvN K (tOp r ta tb) Γ P := fun ρ G H σ S Q q =>
  ha ρ G H σ S _ fun x dx G1 H1 p1 x1 w1 r1 => hb ρ G1 H1 σ (S.ext x1 w1) _ fun y dy G2 H2 p2 x2 w2 r2 => hr dx dy p1 p2 G2 H2 x y x2.sub (r1.up x2.kn) r2 Q fun v d G' H' p x3 r3 =>
    q v d G' H' p ((x1.trans0 x2 w1).trans0 x3.any w2) (w2.ext x3) r3
theorem ev_op {r : R2} {dx dy dz : PyData} (ha : Ev K ta Γ dx) (hb : Ev K tb Γ dy) (hr : RV r dx dy (fun x => x = dz)) : Ev K (tOp r ta tb) Γ dz := evn_op ha hb fun _ _ e1 e2 => by subst e1 e2; exact hr
theorem ea_nil : EvA K tNil Γ (fun ds => ds = []) := fun r G H σ S Q q => q [] [] G H rfl (.refl S.same) S.row .nil
theorem ea_cons {t : TA} {A A1 : List PyData → Prop} (h : EvN K te Γ P) (hr : EvA K t Γ A) (i : ∀ d ds, P d → A ds → A1 (d :: ds)) : EvA K (tCons te t) Γ A1 := fun r G H σ S Q q =>
  h r G H σ S _ fun v d G1 H1 p1 x1 w1 r1 => hr r G1 H1 σ (S.ext x1 w1) _ fun vs ds G2 H2 p2 x2 w2 r2 => q (v :: vs) (d :: ds) G2 H2 (i d ds p1 p2) (x1.trans0 x2 w1) w2 (.cons (r1.up x2.kn) r2)
abbrev Ea (K : PySem.W.Frag) (ta : TA) (Γ : Env) (ds : List PyData) : Prop := EvA K ta Γ (fun x => x = ds)
theorem ea_c {t : TA} {d : PyData} {ds : List PyData} (h : Ev K te Γ d) (hr : Ea K t Γ ds) : Ea K (tCons te t) Γ (d :: ds) := ea_cons h hr fun _ _ e1 e2 => by subst e1 e2; rfl
theorem ea_starT {t : TA} {ds es : List PyData} (h : Ev K te Γ (.tuple ds)) (hr : Ea K t Γ es) : Ea K (StX.tStar K te t) Γ (ds ++ es) := fun r G H σ S Q q =>
  h r G H σ S _ fun v d G1 H1 p1 x1 w1 r1 => by
    subst p1
    cases r1 with
    | @tup a xs _ g rs =>
      exact ⟨a, xs, rfl, .inl (SqT.of (x1.sub _ _ g)), hr r G1 H1 σ (S.ext x1 w1) _ fun vs ds2 G2 H2 p2 x2 w2 r2 => q _ _ G2 H2 (by rw [p2]) (x1.trans0 x2 w1) w2 ((rs.up x2.kn).append r2)⟩
theorem ea_starL {t : TA} {ds es : List PyData} (h : Ev K te Γ (.list ds)) (hr : Ea K t Γ es) : Ea K (StX.tStar K te t) Γ (ds ++ es) := fun r G H σ S Q q =>
  h r G H σ S _ fun v d G1 H1 p1 x1 w1 r1 => by
    subst p1
    cases r1 with
    | @lst a xs _ g rs =>
      exact ⟨a, xs, rfl, .inr (SqL.of (x1.sub _ _ g)), hr r G1 H1 σ (S.ext x1 w1) _ fun vs ds2 G2 H2 p2 x2 w2 r2 => q _ _ G2 H2 (by rw [p2]) (x1.trans0 x2 w1) w2 ((rs.up x2.kn).append r2)⟩
theorem small_line {n : Nat} (h : n ≤ 1000000) : n ≤ sizeLine := Nat.le_trans h (by decide)
/-- a new tuple, a new list at p -/
theorem new_tup {ρ : Option Addr} {G H : Hp} {p : Addr} {vs : List V} {ds : List PyData} (s : Same G H) (n : H p = none) (rs : Rps G vs ds) : Ext none NoO G H (upd G p (.tup vs)) (upd H p (.tup vs)) ∧ Rp (upd G p (.tup vs)) (.ref p) (.tuple ds) := by
  have x : Ext none NoO G H (upd G p (.tup vs)) (upd H p (.tup vs)) := Ext.obj s n
  exact ⟨x, .tup upd_same (rs.up x.kn)⟩
theorem new_lst {ρ : Option Addr} {G H : Hp} {p : Addr} {vs : List V} {ds : List PyData} (s : Same G H) (n : H p = none) (rs : Rps G vs ds) : Ext none NoO G H (upd G p (.lst vs)) (upd H p (.lst vs)) ∧ Rp (upd G p (.lst vs)) (.ref p) (.list ds) := by
  have x : Ext none NoO G H (upd G p (.lst vs)) (upd H p (.lst vs)) := Ext.obj s n
  exact ⟨x, .lst upd_same (rs.up x.kn)⟩
theorem evn_tup {t : TA} {A : List PyData → Prop} (h : EvA K t Γ A) (hl : ∀ ds, A ds → ds.length ≤ 1000000) (i : ∀ ds, A ds → P (.tuple ds)) : EvN K (tTup t) Γ P := fun r G H σ S Q q =>
  h r G H σ S _ fun vs ds G1 H1 p1 x1 w1 r1 => ⟨by rw [r1.length]; exact small_line (hl ds p1), fun p hp => by
    obtain ⟨x2, r2⟩ := new_tup (ρ := r) x1.sub hp r1
    exact q _ _ _ _ (i ds p1) (x1.trans0 x2.any w1) (w1.ext x2) r2⟩
theorem ev_tup {t : TA} {ds : List PyData} (h : Ea K t Γ ds) (hl : ds.length ≤ 1000000) : Ev K (tTup t) Γ (.tuple ds) := evn_tup h (fun _ e => e ▸ hl) fun _ e => e ▸ rfl
theorem evn_lst {t : TA} {A : List PyData → Prop} (h : EvA K t Γ A) (hl : ∀ ds, A ds → ds.length ≤ 1000000) (i : ∀ ds, A ds → P (.list ds)) : EvN K (tLst t) Γ P := fun r G H σ S Q q =>
  h r G H σ S _ fun vs ds G1 H1 p1 x1 w1 r1 => ⟨by rw [r1.length]; exact small_line (hl ds p1), fun p hp => by
    obtain ⟨x2, r2⟩ := new_lst (ρ := r) x1.sub hp r1
    exact q _ _ _ _ (i ds p1) (x1.trans0 x2.any w1) (w1.ext x2) r2⟩
theorem ev_lst {t : TA} {ds : List PyData} (h : Ea K t Γ ds) (hl : ds.length ≤ 1000000) : Ev K (tLst t) Γ (.list ds) := evn_lst h (fun _ e => e ▸ hl) fun _ e => e ▸ rfl
/-- a built-in by values -/
theorem evn_cb {r : List V → Hp → VK → Prop} {t : TA} {A : List PyData → Prop} (h : EvA K t Γ A) (hr : ∀ ds, A ds → RC r ds P) : EvN K (tCB r t) Γ P := fun ρ G H σ S Q q =>
  h ρ G H σ S _ fun vs ds G1 H1 p1 x1 w1 r1 => hr ds p1 G1 H1 vs x1.sub r1 Q fun v d G' H' p x3 r3 => q v d G' H' p (x1.trans0 x3.any w1) (w1.ext x3) r3
theorem ev_cb {r : List V → Hp → VK → Prop} {t : TA} {ds : List PyData} {d : PyData} (h : Ea K t Γ ds) (hr : RC r ds (fun x => x = d)) : Ev K (tCB r t) Γ d := evn_cb h fun _ e => e ▸ hr

/-! ### operators -/
theorem rv_I {g : Int → Int → Int} {i j : Int} : RV (rI0 fun i j => .int (g i j)) (.int i) (.int j) (fun x => x = .int (g i j)) := fun G H x y s h1 h2 Q q =>
  ⟨i, j, h1.int_of, h2.int_of, q _ _ G H rfl (.refl s) (.int _)⟩
theorem rv_IC {C : Int → Int → Prop} {g : Int → Int → Int} {i j : Int} (c : C i j) : RV (rI C fun i j => .int (g i j)) (.int i) (.int j) (fun x => x = .int (g i j)) := fun G H x y s h1 h2 Q q =>
  ⟨i, j, h1.int_of, h2.int_of, c, q _ _ G H rfl (.refl s) (.int _)⟩
theorem rv_B {g : Int → Int → Bool} {i j : Int} : RV (rI0 fun i j => .bl (g i j)) (.int i) (.int j) (fun x => x = .bool (g i j)) := fun G H x y s h1 h2 Q q =>
  ⟨i, j, h1.int_of, h2.int_of, q _ _ G H rfl (.refl s) (.bl _)⟩
theorem rv_eqI {i j : Int} : RV rEq (.int i) (.int j) (fun x => x = .bool (decide (i = j))) := fun G H x y s h1 h2 Q q => by
  rw [h1.int_of, h2.int_of]
  refine ⟨rfl, ?_⟩
  have e : decide (V.int i = V.int j) = decide (i = j) := by simp
  rw [e]
  exact q _ _ G H rfl (.refl s) (.bl _)
theorem rv_neI {i j : Int} : RV rNe (.int i) (.int j) (fun x => x = .bool (!decide (i = j))) := fun G H x y s h1 h2 Q q => by
  rw [h1.int_of, h2.int_of]
  refine ⟨rfl, ?_⟩
  have e : decide (V.int i = V.int j) = decide (i = j) := by simp
  rw [e]
  exact q _ _ G H rfl (.refl s) (.bl _)
theorem rv_eqB {i j : Bool} : RV rEq (.bool i) (.bool j) (fun x => x = .bool (i == j)) := fun G H x y s h1 h2 Q q => by
  rw [h1.bool_of, h2.bool_of]
  refine ⟨rfl, ?_⟩
  have e : decide (V.bl i = V.bl j) = (i == j) := by cases i <;> cases j <;> rfl
  rw [e]
  exact q _ _ G H rfl (.refl s) (.bl _)
theorem rv_neB {i j : Bool} : RV rNe (.bool i) (.bool j) (fun x => x = .bool (!(i == j))) := fun G H x y s h1 h2 Q q => by
  rw [h1.bool_of, h2.bool_of]
  refine ⟨rfl, ?_⟩
  have e : decide (V.bl i = V.bl j) = (i == j) := by cases i <;> cases j <;> rfl
  rw [e]
  exact q _ _ G H rfl (.refl s) (.bl _)
theorem rv_eqN : RV rEq .none .none (fun x => x = .bool true) := fun G H x y s h1 h2 Q q => by
  rw [h1.none_of, h2.none_of]
  exact ⟨rfl, q _ _ G H rfl (.refl s) (.bl _)⟩
theorem rv_eqD {dx dy : PyData} (sx : SeqAt.shaped dx = true) (sy : SeqAt.shaped dy = true) : RV (rEqD K) dx dy (fun x => x = .bool (PyData.eqv dx dy)) := fun G H x y s h1 h2 Q q =>
  ⟨dx, dy, (h1.up s).dp, (h2.up s).dp, sx, sy, q _ _ G H rfl (.refl s) (.bl _)⟩
theorem rv_neD {dx dy : PyData} (sx : SeqAt.shaped dx = true) (sy : SeqAt.shaped dy = true) : RV (rNeD K) dx dy (fun x => x = .bool (!PyData.eqv dx dy)) := fun G H x y s h1 h2 Q q =>
  ⟨dx, dy, (h1.up s).dp, (h2.up s).dp, sx, sy, q _ _ G H rfl (.refl s) (.bl _)⟩
theorem inV_ints {i : Int} {ns : List Int} : inV (.int i) (ns.map V.int) = ns.contains i := by
  unfold inV
  rw [List.any_map]
  induction ns with
  | nil => rfl
  | cons n ns ih =>
    rw [List.any_cons, List.contains_cons, ih]
    have e : ((fun y => eqV y (V.int i)) ∘ V.int) n = (i == n) := by
      show eqV (V.int n) (V.int i) = (i == n)
      have e0 : eqV (V.int n) (V.int i) = (n == i) := by
        first | rfl | simp [eqV]
      rw [e0]
      exact Bool.beq_comm
    rw [e]
theorem flat_ints {ns : List Int} : (ns.map V.int).all flatV = true := by
  rw [List.all_map]; exact List.all_eq_true.mpr fun _ _ => rfl
theorem rv_inT {neg : Bool} {i : Int} {ns : List Int} : RV (rIn K neg) (.int i) (.tuple (ns.map .int)) (fun x => x = .bool (if neg then !ns.contains i else ns.contains i)) := fun G H x y s h1 h2 Q q => by
  rw [h1.int_of]
  cases h2 with
  | tup g rs =>
    have e := rs.ints
    subst e
    refine ⟨_, _, rfl, .inr (SqT.of (s _ _ g)), rfl, flat_ints, ?_⟩
    rw [inV_ints]
    exact q _ _ G H rfl (.refl s) (.bl _)
theorem rv_inL {neg : Bool} {i : Int} {ns : List Int} : RV (rIn K neg) (.int i) (.list (ns.map .int)) (fun x => x = .bool (if neg then !ns.contains i else ns.contains i)) := fun G H x y s h1 h2 Q q => by
  rw [h1.int_of]
  cases h2 with
  | lst g rs =>
    have e := rs.ints
    subst e
    refine ⟨_, _, rfl, .inl (SqL.of (s _ _ g)), rfl, flat_ints, ?_⟩
    rw [inV_ints]
    exact q _ _ G H rfl (.refl s) (.bl _)
theorem atI_rps {G : Hp} {vs : List V} {ds : List PyData} {i : Int} {d : PyData} (rs : Rps G vs ds) (h : atI ds i = some d) : ∃ v, atI vs i = some v ∧ Rp G v d := by
  unfold atI at h ⊢
  rw [rs.length]
  cases e : ixN ds.length i with
  | none => rw [e] at h; simp at h
  | some j =>
    rw [e] at h
    exact rs.get' (by simpa using h)
theorem rv_ixL {i : Int} {ds : List PyData} {d : PyData} (h : atI ds i = some d) : RV (rIxL K) (.list ds) (.int i) (fun x => x = d) := fun G H x y s h1 h2 Q q => by
  rw [h2.int_of]
  cases h1 with
  | lst g rs =>
    obtain ⟨v, e1, e2⟩ := atI_rps rs h
    exact ⟨_, _, i, v, rfl, rfl, SqL.of (s _ _ g), e1, q v d G H rfl (.refl s) e2⟩
theorem rv_ixT {i : Int} {ds : List PyData} {d : PyData} (h : atI ds i = some d) : RV (rIxT K) (.tuple ds) (.int i) (fun x => x = d) := fun G H x y s h1 h2 Q q => by
  rw [h2.int_of]
  cases h1 with
  | tup g rs =>
    obtain ⟨v, e1, e2⟩ := atI_rps rs h
    exact ⟨_, _, i, v, rfl, rfl, SqT.of (s _ _ g), e1, q v d G H rfl (.refl s) e2⟩
theorem rv_cat {xs ys : List PyData} (hl : xs.length + ys.length ≤ 1000000) : RV rCat (.list xs) (.list ys) (fun x => x = .list (xs ++ ys)) := fun G H x y s h1 h2 Q q => by
  cases h1 with
  | lst g1 r1 =>
    cases h2 with
    | lst g2 r2 =>
      refine ⟨_, _, _, _, rfl, rfl, s _ _ g1, s _ _ g2, by rw [r1.length, r2.length]; exact small_line hl, fun p hp => ?_⟩
      obtain ⟨x2, r3⟩ := new_lst (ρ := none) s hp (r1.append r2)
      exact q _ _ _ _ rfl x2 r3
theorem rv_catT {xs ys : List PyData} (hl : xs.length + ys.length ≤ 1000000) : RV (rCatA K) (.tuple xs) (.tuple ys) (fun x => x = .tuple (xs ++ ys)) := fun G H x y s h1 h2 Q q => by
  cases h1 with
  | @tup a vs _ g1 r1 =>
    cases h2 with
    | @tup b ws _ g2 r2 =>
      refine ⟨a, b, vs, ws, rfl, rfl, SqT.of (s _ _ g1), SqT.of (s _ _ g2), by rw [r1.length, r2.length]; exact small_line hl, fun e => ?_, fun e1 e2 => ?_, fun e1 e2 p hp => ?_⟩
      · have e : xs = [] := by
          have := r1.length
          rw [e] at this
          exact List.eq_nil_of_length_eq_zero this.symm
        subst e
        exact q _ _ G H rfl (.refl s) (.tup g2 r2)
      · have e : ys = [] := by
          have := r2.length
          rw [e2] at this
          exact List.eq_nil_of_length_eq_zero this.symm
        subst e
        exact q _ _ G H (by rw [List.append_nil]) (.refl s) (.tup g1 r1)
      · obtain ⟨x2, r3⟩ := new_tup (ρ := none) s hp (r1.append r2)
        exact q _ _ _ _ rfl x2 r3
/-! ### and, or, not, if, chains -/
theorem ev_andV {a b : Bool} (h1 : Ev K ta Γ (.bool a)) (h2 : a = true → Ev K tb Γ (.bool b)) (hf : a = false → b = false) : Ev K (tAndV ta tb) Γ (.bool b) := fun r G H σ S Q q =>
  h1 r G H σ S _ fun v d G1 H1 p1 x1 w1 r1 => by
    subst p1
    refine ⟨a, r1.bool_of, ?_⟩
    cases a with
    | true => exact iteT (h2 rfl r G1 H1 σ (S.ext x1 w1) _ fun v d G2 H2 p2 x2 w2 r2 => q v d G2 H2 p2 (x1.trans0 x2 w1) w2 r2)
    | false => exact iteF (q _ _ G1 H1 (by rw [hf rfl]) x1 w1 (.bl false))
theorem ev_orV {a b : Bool} (h1 : Ev K ta Γ (.bool a)) (h2 : a = false → Ev K tb Γ (.bool b)) (hf : a = true → b = true) : Ev K (tOrV ta tb) Γ (.bool b) := fun r G H σ S Q q =>
  h1 r G H σ S _ fun v d G1 H1 p1 x1 w1 r1 => by
    subst p1
    refine ⟨a, r1.bool_of, ?_⟩
    cases a with
    | false => exact iteF (h2 rfl r G1 H1 σ (S.ext x1 w1) _ fun v d G2 H2 p2 x2 w2 r2 => q v d G2 H2 p2 (x1.trans0 x2 w1) w2 r2)
    | true => exact iteT (q _ _ G1 H1 (by rw [hf rfl]) x1 w1 (.bl true))
theorem ev_notV {a : Bool} (h1 : Ev K ta Γ (.bool a)) : Ev K (tNotV ta) Γ (.bool (!a)) := fun r G H σ S Q q =>
  h1 r G H σ S _ fun v d G1 H1 p1 x1 w1 r1 => by
    subst p1
    exact ⟨a, r1.bool_of, q _ _ G1 H1 rfl x1 w1 (.bl _)⟩
theorem evn_if {B : Bool → Prop} (h : EvTN K t Γ B) (h1 : B true → EvN K ta Γ P) (h2 : B false → EvN K tb Γ P) : EvN K (tIf t ta tb) Γ P := fun r G H σ S Q q =>
  h r G H σ S _ fun b G1 H1 p1 x1 w1 => by
    cases b with
    | true => exact iteT (h1 p1 r G1 H1 σ (S.ext x1 w1) _ fun v d G2 H2 p2 x2 w2 r2 => q v d G2 H2 p2 (x1.trans0 x2 w1) w2 r2)
    | false => exact iteF (h2 p1 r G1 H1 σ (S.ext x1 w1) _ fun v d G2 H2 p2 x2 w2 r2 => q v d G2 H2 p2 (x1.trans0 x2 w1) w2 r2)
theorem ev_if {b : Bool} (h : EvT K t Γ b) (h1 : b = true → EvN K ta Γ P) (h2 : b = false → EvN K tb Γ P) : EvN K (tIf t ta tb) Γ P := evn_if h (fun e => h1 e.symm) fun e => h2 e.symm
theorem ev_chain {r r' : R2} {dx dy dz : PyData} {a b : Bool} (h1 : Ev K ta Γ dx) (h2 : Ev K tb Γ dy) (hr : RV r dx dy (fun x => x = .bool a)) (h3 : a = true → Ev K tc Γ dz) (hr' : RV r' dy dz (fun x => x = .bool b)) : Ev K (tChain r r' ta tb tc) Γ (.bool (a && b)) := fun ρ G H σ S Q q =>
  h1 ρ G H σ S _ fun x dx G1 H1 p1 x1 w1 r1 => h2 ρ G1 H1 σ (S.ext x1 w1) _ fun y dy G2 H2 p2 x2 w2 r2 => by
    subst p1 p2
    refine hr G2 H2 x y x2.sub (r1.up x2.kn) r2 _ fun v d G3 H3 p3 x3 r3 => ?_
    subst p3
    refine ⟨a, r3.bool_of, ?_⟩
    have xx := (x1.trans0 x2 w1).trans0 x3.any w2
    have ww := w2.ext x3
    cases a with
    | true =>
      refine iteT (h3 rfl ρ G3 H3 σ (S.ext xx ww) _ fun z dz G4 H4 p4 x4 w4 r4 => ?_)
      subst p4
      exact hr' G4 H4 y z x4.sub ((r2.up x3.kn).up x4.kn) r4 Q fun v d G5 H5 p5 x5 r5 => q v d G5 H5 (by rw [p5]; rfl) ((xx.trans0 x4 ww).trans0 x5.any w4) (w4.ext x5) r5
    | false => exact iteF (q _ _ G3 H3 rfl xx ww (.bl false))
/-! ### tests -/
theorem etn_test {B : Bool → Prop} (h : EvN K te Γ P) (i : ∀ d, P d → ∃ b, d = .bool b ∧ B b) : EvTN K (tTest te) Γ B := fun r G H σ S Q q =>
  h r G H σ S _ fun v d G1 H1 p1 x1 w1 r1 => by
    obtain ⟨b, rfl, hb⟩ := i d p1
    exact ⟨b, r1.bool_of, q b G1 H1 hb x1 w1⟩
theorem et_test {b : Bool} (h : Ev K te Γ (.bool b)) : EvT K (tTest te) Γ b := etn_test h fun d e => ⟨b, e, rfl⟩
theorem et_B {b : Bool} (h : Ev K te Γ (.bool b)) : EvT K (tB te) Γ b := etn_test h fun d e => ⟨b, e, rfl⟩
theorem et_and {a b : Bool} (h1 : EvT K t Γ a) (h2 : a = true → EvT K u Γ b) (hf : a = false → b = false) : EvT K (tAnd t u) Γ b := fun r G H σ S Q q =>
  h1 r G H σ S _ fun c G1 H1 p1 x1 w1 => by
    subst p1
    cases c with
    | true => exact iteT (h2 rfl r G1 H1 σ (S.ext x1 w1) _ fun d G2 H2 p2 x2 w2 => q d G2 H2 p2 (x1.trans0 x2 w1) w2)
    | false => exact iteF (q _ G1 H1 (hf rfl).symm x1 w1)
theorem et_or {a b : Bool} (h1 : EvT K t Γ a) (h2 : a = false → EvT K u Γ b) (hf : a = true → b = true) : EvT K (tOr t u) Γ b := fun r G H σ S Q q =>
  h1 r G H σ S _ fun c G1 H1 p1 x1 w1 => by
    subst p1
    cases c with
    | false => exact iteF (h2 rfl r G1 H1 σ (S.ext x1 w1) _ fun d G2 H2 p2 x2 w2 => q d G2 H2 p2 (x1.trans0 x2 w1) w2)
    | true => exact iteT (q _ G1 H1 (hf rfl).symm x1 w1)
theorem et_not {a : Bool} (h1 : EvT K t Γ a) : EvT K (tNot t) Γ (!a) := fun r G H σ S Q q => h1 r G H σ S _ fun c G1 H1 p1 x1 w1 => q _ G1 H1 (by rw [p1]) x1 w1
theorem et_yes : EvT K tYes Γ true := fun r G H σ S Q q => q true G H rfl (.refl S.same) S.row
end
end K23

set_option Elab.async false
set_option linter.all false
set_option maxRecDepth 100000
set_option maxHeartbeats 4000000
/-! What is walked, comprehensions, calls, statements: by data. -/
namespace K23
open PySem PySem.Spec PyProof.Rows L2
/-! ### what is walked -/
structure Walks (J : It) (G : Hp) (items : List PyData) : Prop where
  go : ∀ (i : Nat) (d : PyData) (G2 H2 : Hp), items[i]? = some d → Same G G2 → Same G2 H2 → J.go i H2 ∧ ∀ x H3, J.yld i H2 x H3 → ∃ G3, Ext none NoO G2 H2 G3 H3 ∧ Rp G3 x d
  stop : ∀ H2 : Hp, Same G H2 → J.stop items.length H2
def EvI (K : PySem.W.Frag) (wi : TI) (Γ : Env) (A : List PyData → Prop) : Prop :=
  ∀ (r : Option Addr) (G H : Hp) (σ : L2.St), StOk K r G H σ Γ → ∀ R : It → Hp → Prop, (∀ J items G' H', A items → Ext r NoO G H G' H' → RowOk K r G' H' → Walks J G' items → R J H') → wi σ H R
section
variable {K : PySem.W.Frag} {Γ : Env} {ta tb te tl : TE} {tt : TT} {P : PyData → Prop} {A : List PyData → Prop}
theorem walks_list {G : Hp} {a : Addr} {xs : List V} {ds : List PyData} (g : G a = some (.lst xs)) (rs : Rps G xs ds) : Walks (Itl K a) G ds where
  go := fun i d G2 H2 e s1 s2 => by
    obtain ⟨v, e1, e2⟩ := rs.get' e
    have hq : SqL K H2 a xs := SqL.of (s2 _ _ (s1 _ _ g))
    refine ⟨⟨xs, v, hq, e1⟩, fun x H3 y => ?_⟩
    obtain ⟨rfl, y⟩ := y
    have e3 := y xs hq
    rw [e1] at e3
    cases e3
    exact ⟨G2, .refl s2, e2.up s1⟩
  stop := fun H2 s => ⟨xs, SqL.of (s _ _ g), by rw [rs.length]; exact Nat.le_refl _⟩
theorem walks_tup {G : Hp} {a : Addr} {xs : List V} {ds : List PyData} (g : G a = some (.tup xs)) (rs : Rps G xs ds) : Walks (Itt K a) G ds where
  go := fun i d G2 H2 e s1 s2 => by
    obtain ⟨v, e1, e2⟩ := rs.get' e
    have hq : SqT K H2 a xs := SqT.of (s2 _ _ (s1 _ _ g))
    refine ⟨⟨xs, v, hq, e1⟩, fun x H3 y => ?_⟩
    obtain ⟨rfl, y⟩ := y
    have e3 := y xs hq
    rw [e1] at e3
    cases e3
    exact ⟨G2, .refl s2, e2.up s1⟩
  stop := fun H2 s => ⟨xs, SqT.of (s _ _ g), by rw [rs.length]; exact Nat.le_refl _⟩
theorem ei_list (h : EvN K tl Γ P) (i : ∀ d, P d → ∃ ds, d = .list ds ∧ A ds) : EvI K (iList K tl) Γ A := fun r G H σ S R q => h r G H σ S _ fun v d G1 H1 p1 x1 w1 r1 => by
  obtain ⟨ds, rfl, hA⟩ := i d p1
  cases r1 with
  | lst g rs => exact ⟨_, rfl, ⟨_, SqL.of (x1.sub _ _ g)⟩, q _ ds G1 H1 hA x1 w1 (walks_list g rs)⟩
theorem ei_tup (h : EvN K tl Γ P) (i : ∀ d, P d → ∃ ds, d = .tuple ds ∧ A ds) : EvI K (iTup K tl) Γ A := fun r G H σ S R q => h r G H σ S _ fun v d G1 H1 p1 x1 w1 r1 => by
  obtain ⟨ds, rfl, hA⟩ := i d p1
  cases r1 with
  | tup g rs => exact ⟨_, rfl, ⟨_, SqT.of (x1.sub _ _ g)⟩, q _ ds G1 H1 hA x1 w1 (walks_tup g rs)⟩
theorem ei_listD {ds : List PyData} (h : Ev K tl Γ (.list ds)) : EvI K (iList K tl) Γ (fun x => x = ds) := ei_list h fun d e => ⟨ds, e, rfl⟩
theorem ei_tupD {ds : List PyData} (h : Ev K tl Γ (.tuple ds)) : EvI K (iTup K tl) Γ (fun x => x = ds) := ei_tup h fun d e => ⟨ds, e, rfl⟩
def rangeD (lo : Int) (n : Nat) : List PyData := (List.range n).map fun i => .int (lo + (i : Nat))
theorem rangeD_len (lo : Int) (n : Nat) : (rangeD lo n).length = n := by simp [rangeD]
theorem walks_range {G : Hp} {lo : Int} {n : Nat} : Walks (Itr lo n) G (rangeD lo n) where
  go := fun i d G2 H2 e s1 s2 => by
    have hi : i < n := by have := (List.getElem?_eq_some_iff.mp e).1; rwa [rangeD_len] at this
    refine ⟨hi, fun x H3 y => ?_⟩
    obtain ⟨rfl, rfl⟩ := y
    unfold rangeD at e
    rw [List.getElem?_map, List.getElem?_range hi] at e
    cases e
    exact ⟨G2, .refl s2, .int _⟩
  stop := fun H2 s => by rw [rangeD_len]; exact Nat.le_refl _
theorem ei_range1 {t : TA} (h : EvA K t Γ A) (i : ∀ ds, A ds → ∃ n : Int, ds = [.int n] ∧ 0 ≤ n ∧ n ≤ 1000000) : EvI K (iRng1 t) Γ (fun x => ∃ n : Int, A [.int n] ∧ x = rangeD 0 n.toNat) := fun r G H σ S R q => h r G H σ S _ fun vs ds G1 H1 p1 x1 w1 r1 => by
  obtain ⟨n, rfl, h0, h1⟩ := i ds p1
  have e : vs = [V.int n] := Rps.ints (ns := [n]) r1
  exact ⟨n, e, by omega, by omega, q _ _ G1 H1 ⟨n, p1, rfl⟩ x1 w1 walks_range⟩
theorem ei_range1D {t : TA} {n : Int} (h : Ea K t Γ [.int n]) (h0 : 0 ≤ n) (h1 : n ≤ 1000000) : EvI K (iRng1 t) Γ (fun x => x = rangeD 0 n.toNat) := fun r G H σ S R q =>
  ei_range1 h (fun ds e => ⟨n, e, h0, h1⟩) r G H σ S R fun J items G' H' ⟨m, e, e2⟩ x1 w1 ww => q J items G' H' (by
    have : m = n := by simpa using e
    rw [e2, this]) x1 w1 ww
theorem ei_range2D {t : TA} {m n : Int} (h : Ea K t Γ [.int m, .int n]) (h0 : 0 ≤ m) (h1 : n ≤ 1000000) (h2 : m ≤ n) : EvI K (iRng2 t) Γ (fun x => x = rangeD m (n - m).toNat) := fun r G H σ S R q => h r G H σ S _ fun vs ds G1 H1 p1 x1 w1 r1 => by
  subst p1
  have e : vs = [V.int m, V.int n] := Rps.ints (ns := [m, n]) r1
  exact ⟨m, n, e, by omega, q _ _ G1 H1 rfl x1 w1 walks_range⟩
theorem same_upd {G : Hp} {p : Addr} {o : HO} (n : G p = none) : Same G (upd G p o) := fun b u e => by rw [upd_ne (ne_of_none e n)]; exact e
/-- the pairs of two lists (tuples) of one length -/
def pairsD (xs ys : List PyData) : List PyData := (xs.zip ys).map fun p => .tuple [p.1, p.2]
theorem pairs_len {xs ys : List PyData} : (pairsD xs ys).length = min xs.length ys.length := by simp [pairsD]
theorem pairs_at {xs ys : List PyData} {i : Nat} {d : PyData} (h : (pairsD xs ys)[i]? = some d) : ∃ x y, xs[i]? = some x ∧ ys[i]? = some y ∧ d = .tuple [x, y] := by
  unfold pairsD at h
  rw [List.getElem?_map] at h
  cases e : (xs.zip ys)[i]? with
  | none => rw [e] at h; cases h
  | some p =>
    rw [e] at h
    cases h
    obtain ⟨h1, h2⟩ := List.getElem?_zip_eq_some.mp e
    exact ⟨p.1, p.2, h1, h2, rfl⟩
theorem walks_zipL {G : Hp} {a b : Addr} {xs ys : List V} {ds es : List PyData} (g : G a = some (.lst xs)) (rs : Rps G xs ds) (g2 : G b = some (.lst ys)) (rs2 : Rps G ys es) : Walks (Itz K a b) G (pairsD ds es) where
  go := fun i d G2 H2 e s1 s2 => by
    obtain ⟨d1, d2, e1, e2, rfl⟩ := pairs_at e
    obtain ⟨v1, f1, r1⟩ := rs.get' e1
    obtain ⟨v2, f2, r2⟩ := rs2.get' e2
    have hq : SqL K H2 a xs := SqL.of (s2 _ _ (s1 _ _ g))
    have hq2 : SqL K H2 b ys := SqL.of (s2 _ _ (s1 _ _ g2))
    refine ⟨⟨xs, ys, v1, v2, hq, hq2, f1, f2⟩, fun x H3 y => ?_⟩
    obtain ⟨T, x1, x2, rfl, n, rfl, y1, y2⟩ := y
    have z1 := y1 xs hq
    have z2 := y2 ys hq2
    rw [f1] at z1
    rw [f2] at z2
    cases z1
    cases z2
    obtain ⟨x3, r3⟩ := new_tup (ρ := none) s2 n (Rps.cons (r1.up s1) (Rps.cons (r2.up s1) .nil))
    exact ⟨_, x3, r3⟩
  stop := fun H2 s => ⟨xs, ys, SqL.of (s _ _ g), SqL.of (s _ _ g2), by rw [pairs_len, rs.length, rs2.length]; omega⟩
theorem walks_zipT {G : Hp} {a b : Addr} {xs ys : List V} {ds es : List PyData} (g : G a = some (.tup xs)) (rs : Rps G xs ds) (g2 : G b = some (.tup ys)) (rs2 : Rps G ys es) : Walks (RZ.ItzT K a b) G (pairsD ds es) where
  go := fun i d G2 H2 e s1 s2 => by
    obtain ⟨d1, d2, e1, e2, rfl⟩ := pairs_at e
    obtain ⟨v1, f1, r1⟩ := rs.get' e1
    obtain ⟨v2, f2, r2⟩ := rs2.get' e2
    have hq : SqT K H2 a xs := SqT.of (s2 _ _ (s1 _ _ g))
    have hq2 : SqT K H2 b ys := SqT.of (s2 _ _ (s1 _ _ g2))
    refine ⟨⟨xs, ys, v1, v2, hq, hq2, f1, f2⟩, fun x H3 y => ?_⟩
    obtain ⟨T, x1, x2, rfl, n, rfl, y1, y2⟩ := y
    have z1 := y1 xs hq
    have z2 := y2 ys hq2
    rw [f1] at z1
    rw [f2] at z2
    cases z1
    cases z2
    obtain ⟨x3, r3⟩ := new_tup (ρ := none) s2 n (Rps.cons (r1.up s1) (Rps.cons (r2.up s1) .nil))
    exact ⟨_, x3, r3⟩
  stop := fun H2 s => ⟨xs, ys, SqT.of (s _ _ g), SqT.of (s _ _ g2), by rw [pairs_len, rs.length, rs2.length]; omega⟩
theorem ei_zipL {t : TA} {ds es : List PyData} (h : Ea K t Γ [.list ds, .list es]) : EvI K (RZ.iZipA K t) Γ (fun x => x = pairsD ds es) := fun r G H σ S R q => h r G H σ S _ fun vs zs G1 H1 p1 x1 w1 r1 => by
  subst p1
  cases r1 with
  | cons ra rb =>
    cases rb with
    | cons rb rn =>
      cases rn
      cases ra with
      | lst g1 s1 =>
        cases rb with
        | lst g2 s2 => exact ⟨_, _, _, _, rfl, .inl ⟨SqL.of (x1.sub _ _ g1), SqL.of (x1.sub _ _ g2), q _ _ G1 H1 rfl x1 w1 (walks_zipL g1 s1 g2 s2)⟩⟩
theorem ei_zipT {t : TA} {ds es : List PyData} (h : Ea K t Γ [.tuple ds, .tuple es]) : EvI K (RZ.iZipA K t) Γ (fun x => x = pairsD ds es) := fun r G H σ S R q => h r G H σ S _ fun vs zs G1 H1 p1 x1 w1 r1 => by
  subst p1
  cases r1 with
  | cons ra rb =>
    cases rb with
    | cons rb rn =>
      cases rn
      cases ra with
      | tup g1 s1 =>
        cases rb with
        | tup g2 s2 => exact ⟨_, _, _, _, rfl, .inr ⟨SqT.of (x1.sub _ _ g1), SqT.of (x1.sub _ _ g2), q _ _ G1 H1 rfl x1 w1 (walks_zipT g1 s1 g2 s2)⟩⟩

/-! ### comprehensions -/
/-- what a comprehension's turns make of the items: I tells the list so far; Γx the slots in a turn -/
def LcOk (K : PySem.W.Frag) (tt : TT) (te : TE) (Γx : PyData → Env) (P : PyData → Prop) (items : List PyData) : Prop :=
  ∃ I : Nat → List PyData → Prop, I 0 [] ∧ items.length ≤ 1000000 ∧ (∀ k x acc, items[k]? = some x → I k acc → acc.length ≤ k → ∃ T : Bool → Prop, EvTN K tt (Γx x) T ∧ (T true → EvN K te (Γx x) fun y => I (k + 1) (acc ++ [y])) ∧ (T false → I (k + 1) acc)) ∧ ∀ acc, I items.length acc → P (.list acc)
/-- the target g binds an item: from the slots Γ to Γx; vs the comprehension's own slots -/
def Tgt (K : PySem.W.Frag) (g : TG) (vs : List Nat) (Γ : Env) (Γx : PyData → Env) (B : PyData → Prop) : Prop :=
  ∀ (r : Option Addr) (G H : Hp) (σ : L2.St) (v : V) (d : PyData), StOk K r G H σ Γ → B d → Rp G v d → ∀ Q : L2.St → Hp → Prop, (∀ σ', StOk K r G H σ' (Γx d) → wipe σ' vs = wipe σ vs → Q σ' H) → g v (wipe σ vs) H Q
theorem wipe1 (σ : L2.St) (j : Nat) : wipe σ [j] = σ.set j none := rfl
theorem tgt_name {j : Nat} {B : PyData → Prop} : Tgt K (gName j) [j] Γ (fun d => Γ.set j (.val d)) B := fun r G H σ v d S hB rd Q q => by
  show Q ((wipe σ [j]).set j (some v)) H
  rw [wipe1, List.set_set]
  exact q _ (S.set rd) (by rw [wipe1, wipe1, List.set_set])
theorem wipe2 (σ : L2.St) (i j : Nat) : wipe σ [i, j] = (σ.set j none).set i none := rfl
/-- a pair into two names -/
theorem tgt_pair {i j : Nat} {B : PyData → Prop} (hij : i ≠ j) (hB : ∀ d, B d → ∃ x y, d = .tuple [x, y]) :
    Tgt K (gTup K 2 (gCons (gName i) (gCons (gName j) gNil))) [i, j] Γ (fun d => match d with | .tuple [x, y] => (Γ.set i (.val x)).set j (.val y) | _ => Γ) B := fun r G H σ v d S hb rd Q q => by
  obtain ⟨x, y, rfl⟩ := hB d hb
  cases rd with
  | tup g rs =>
    cases rs with
    | cons r1 rs =>
      cases rs with
      | cons r2 rs =>
        cases rs
        rename_i a v1 v2
        refine ⟨a, _, rfl, SqT.of (S.same _ _ g), rfl, v1, _, rfl, v2, _, rfl, rfl, ?_⟩
        show Q (((wipe σ [i, j]).set i (some v1)).set j (some v2)) H
        have e : ((wipe σ [i, j]).set i (some v1)).set j (some v2) = (σ.set i (some v1)).set j (some v2) := by
          rw [wipe2, List.set_set, List.set_comm _ _ (Ne.symm hij), List.set_set]
        rw [e]
        refine q _ ((S.set r1).set r2) ?_
        rw [wipe2, wipe2, List.set_set, List.set_comm _ _ (Ne.symm hij), List.set_comm none none (Ne.symm hij), List.set_set]
/-- a comprehension whose items are walked by J -/
theorem lc_at {J : It} {items : List PyData} {r : Option Addr} {G1 H1 : Hp} {σ : L2.St} {g : TG} {vs : List Nat} {Γx : PyData → Env} {B : PyData → Prop} (S1 : StOk K r G1 H1 σ Γ) (ww : Walks J G1 items) (hg : Tgt K g vs Γ Γx B) (hB : ∀ d ∈ items, B d) (h : LcOk K tt te Γx P items) (Q : VK) (q : ∀ v d G' H', P d → Ext r NoO G1 H1 G' H' → RowOk K r G' H' → Rp G' v d → Q v H') : tLc (fun _ H R => R J H) g tt te vs σ H1 Q := fun D hD => by
    obtain ⟨I, i0, hlen, hstep, hend⟩ := h
    have w1 := S1.row
    have nD : some D ≠ r := w1.ne hD
    have g1D : G1 D = none := by
      cases e : G1 D with
      | none => rfl
      | some o => rw [S1.same _ _ e] at hD; cases hD
    refine ⟨fun i m H' => m = items.length - i ∧ i ≤ items.length ∧ ∃ G' acc us, I i acc ∧ acc.length ≤ i ∧ Ext r NoO G1 H1 G' H' ∧ RowOk K r G' H' ∧ G' D = none ∧ H' D = some (.lst us) ∧ Rps G' us acc, ⟨items.length, by simp, Nat.zero_le _, G1, [], [], i0, Nat.le_refl _, ?_, ?_, g1D, upd_same, .nil⟩, ?_⟩
    · refine ⟨fun a o n _ e => ?_, fun a o e => e, fun a o e => ?_, fun a o e => .inl e⟩
      · rw [upd_ne (ne_of_none e hD)]; exact e
      · rw [upd_ne (ne_of_none e g1D)]; exact S1.same _ _ e
    · exact w1.mut nD fun o u z => by rw [hD] at z; cases z
    · rintro i m H' ⟨rfl, hi, G', acc, us, hI, hal, x2, w2, gD, hDl, rs⟩
      have S2 := S1.ext x2 w2
      by_cases hlt : i < items.length
      · obtain ⟨go, yl⟩ := ww.go i items[i] G' H' (by rw [List.getElem?_eq_getElem hlt]) x2.kn x2.sub
        have hit : items[i]? = some items[i] := by rw [List.getElem?_eq_getElem hlt]
        refine .inr ⟨go, fun H'' => (i + 1 ≤ items.length ∧ ∃ G' acc us, I (i + 1) acc ∧ acc.length ≤ i + 1 ∧ Ext r NoO G1 H1 G' H'' ∧ RowOk K r G' H'' ∧ G' D = none ∧ H'' D = some (.lst us) ∧ Rps G' us acc), fun H'' hN => ⟨items.length - (i + 1), by omega, rfl, hN.1, hN.2⟩, fun x H3 y => ?_⟩
        obtain ⟨G3, x3, r3⟩ := yl x H3 y
        have S3 := S2.ext0 x3
        have D3 : G3 D = none := x3.fresh gD hDl (fun z => z)
        have hD3 : H3 D = some (.lst us) := x3.same _ _ hDl
        have X3 := x2.trans0 x3.any w2
        have W3 := w2.ext x3
        refine hg r G3 H3 σ x items[i] S3 (hB _ (List.getElem_mem hlt)) r3 _ fun σ' S3' we => ⟨we, ?_⟩
        obtain ⟨T, ht, h1, h2⟩ := hstep i items[i] acc hit hI hal
        refine ht r G3 H3 σ' S3' _ fun b G4 H4 pb x4 w4 => ?_
        have D4 : G4 D = none := x4.fresh D3 hD3 (fun z => z)
        have hD4 : H4 D = some (.lst us) := x4.all _ _ nD (fun z => z) hD3
        have X4 := X3.trans0 x4 W3
        cases b with
        | true =>
          refine iteT (h1 pb r G4 H4 σ' (S3'.ext x4 w4) _ fun v d G5 H5 pd x5 w5 r5 => ?_)
          have D5 : G5 D = none := x5.fresh D4 hD4 (fun z => z)
          have hD5 : H5 D = some (.lst us) := x5.all _ _ nD (fun z => z) hD4
          have X5 := X4.trans0 x5 w4
          have rs5 : Rps G5 us acc := (((rs.up x3.kn).up x4.kn).up x5.kn)
          refine ⟨us, hD5, ?_, hlt, G5, acc ++ [d], us ++ [v], pd, by rw [List.length_append]; simp; exact hal, ?_, ?_, D5, upd_same, rs5.append (.one r5)⟩
          · rw [rs.length]
            exact Nat.lt_of_lt_of_le (show acc.length < 1000001 by omega) (by decide)
          · refine ⟨fun a o n _ e => ?_, X5.kn, fun a o e => ?_, X5.new⟩
            · rw [upd_ne (ne_of_none e hD)]; exact X5.all a o n (fun z => z) e
            · rw [upd_ne (ne_of_none e D5)]; exact X5.sub _ _ e
          · exact w5.mut nD fun o u z => by rw [hD5] at z; cases z
        | false => exact iteF ⟨hlt, G4, acc, us, h2 pb, by omega, X4, w4, D4, hD4, (rs.up x3.kn).up x4.kn⟩
      · have e : i = items.length := by omega
        subst e
        refine .inl ⟨ww.stop H' (fun a o e => x2.sub _ _ (x2.kn _ _ e)), ?_⟩
        have xD : Ext r NoO G1 H1 (upd G' D (.lst us)) H' := by
          refine ⟨x2.all, fun a o e => ?_, fun a o e => ?_, fun a o e => ?_⟩
          · rw [upd_ne (ne_of_none (x2.kn _ _ e) gD)]; exact x2.kn _ _ e
          · by_cases z : a = D
            · subst z; rw [upd_same] at e; cases e; exact hDl
            · rw [upd_ne z] at e; exact x2.sub _ _ e
          · by_cases z : a = D
            · subst z; exact .inr (.inl hD)
            · rw [upd_ne z] at e; exact x2.new _ _ e
        exact q _ _ _ H' (hend acc hI) xD (w2.more nD gD) (.lst upd_same (rs.up (same_upd gD)))
theorem evn_lc {wi : TI} {g : TG} {vs : List Nat} {Γx : PyData → Env} {B : PyData → Prop} (hi : EvI K wi Γ A) (hg : Tgt K g vs Γ Γx B) (hB : ∀ items, A items → ∀ d ∈ items, B d) (h : ∀ items, A items → LcOk K tt te Γx P items) : EvN K (tLc wi g tt te vs) Γ P := fun r G H σ S Q q =>
  hi r G H σ S _ fun J items G1 H1 hA x1 w1 ww => lc_at (S.ext x1 w1) ww hg (hB items hA) (h items hA) Q fun v d G' H' p x w rp => q v d G' H' p (x1.trans0 x w1) w rp
/-- over data of a kind, a filter and a value each -/
theorem lc_ok {α : Type} {l : List α} {enc : α → PyData} {Γx : PyData → Env} (p : α → Bool) (f : α → PyData) (hlen : l.length ≤ 1000000) (ht : ∀ a ∈ l, EvT K tt (Γx (enc a)) (p a)) (he : ∀ a ∈ l, p a = true → Ev K te (Γx (enc a)) (f a)) :
    LcOk K tt te Γx (fun x => x = .list ((l.filter p).map f)) (l.map enc) := by
  refine ⟨fun k acc => acc = ((l.take k).filter p).map f, by simp, by rw [List.length_map]; exact hlen, fun k x acc hx hacc _ => ?_, fun acc h => ?_⟩
  · rw [List.getElem?_map] at hx
    cases e : l[k]? with
    | none => rw [e] at hx; cases hx
    | some a =>
      rw [e] at hx
      cases hx
      have ha : a ∈ l := List.mem_of_getElem? e
      have et : l.take (k + 1) = l.take k ++ [a] := by rw [List.take_add_one, e]; rfl
      refine ⟨fun b => b = p a, ht a ha, fun hb => (he a ha hb.symm).imp fun d hd => ?_, fun hb => ?_⟩
      · have hb : true = p a := hb
        show acc ++ [d] = ((l.take (k + 1)).filter p).map f
        rw [et, List.filter_append, List.map_append, hacc, hd]
        congr 1
        rw [List.filter_cons, if_pos hb.symm]; rfl
      · have hb : false = p a := hb
        show acc = ((l.take (k + 1)).filter p).map f
        rw [et, List.filter_append, List.map_append, hacc, List.filter_cons, if_neg (by rw [← hb]; simp)]
        simp
  · rw [h, List.length_map, List.take_length]
theorem ev_lc {α : Type} {l : List α} {enc : α → PyData} {wi : TI} {j : Nat} (p : α → Bool) (f : α → PyData) (hi : EvI K wi Γ (fun x => x = l.map enc)) (hlen : l.length ≤ 1000000)
    (ht : ∀ a ∈ l, EvT K tt (Γ.set j (.val (enc a))) (p a)) (he : ∀ a ∈ l, p a = true → Ev K te (Γ.set j (.val (enc a))) (f a)) : Ev K (tLc wi (gName j) tt te [j]) Γ (.list ((l.filter p).map f)) :=
  evn_lc (B := fun _ => True) hi tgt_name (fun _ _ _ _ => trivial) fun items e => by rw [e]; exact lc_ok (Γx := fun d => Γ.set j (.val d)) p f hlen ht he
/-- without a test -/
theorem ev_lcm {α : Type} {l : List α} {enc : α → PyData} {wi : TI} {j : Nat} (f : α → PyData) (hi : EvI K wi Γ (fun x => x = l.map enc)) (hlen : l.length ≤ 1000000)
    (he : ∀ a ∈ l, Ev K te (Γ.set j (.val (enc a))) (f a)) : Ev K (tLc wi (gName j) tYes te [j]) Γ (.list (l.map f)) := by
  have h := ev_lc (K := K) (tt := tYes) (te := te) (Γ := Γ) (j := j) (fun _ => true) f hi hlen (fun a _ => et_yes) fun a ha _ => he a ha
  rwa [List.filter_eq_self.mpr (fun _ _ => rfl)] at h
/-- pairs into two names -/
theorem ev_lcp {xs ys : List PyData} {wi : TI} {i j : Nat} (f : PyData → PyData → PyData) (hij : i ≠ j) (hi : EvI K wi Γ (fun x => x = pairsD xs ys)) (hlen : xs.length ≤ 1000000)
    (he : ∀ x y, (x, y) ∈ xs.zip ys → Ev K te ((Γ.set i (.val x)).set j (.val y)) (f x y)) : Ev K (tLc wi (gTup K 2 (gCons (gName i) (gCons (gName j) gNil))) tYes te [i, j]) Γ (.list ((xs.zip ys).map fun p => f p.1 p.2)) :=
  evn_lc (B := fun d => d ∈ pairsD xs ys) hi (tgt_pair hij fun d hd => by
    obtain ⟨p, _, e⟩ := List.mem_map.mp hd
    exact ⟨_, _, e.symm⟩) (fun items e d hd => e ▸ hd) fun items e => by
      rw [e]
      have h := lc_ok (K := K) (tt := tYes) (te := te) (l := xs.zip ys) (enc := fun p => .tuple [p.1, p.2]) (Γx := fun d => match d with | .tuple [x, y] => (Γ.set i (.val x)).set j (.val y) | _ => Γ) (fun _ => true) (fun p => f p.1 p.2) (by rw [List.length_zip]; omega) (fun a _ => et_yes) fun p hp _ => he p.1 p.2 hp
      rwa [List.filter_eq_self.mpr (fun _ _ => rfl)] at h
end
end K23

set_option Elab.async false
set_option linter.all false
set_option maxRecDepth 100000
set_option maxHeartbeats 4000000
/-! Calls, built-ins, statements: by data. -/
namespace K23
open PySem PySem.Spec PyProof.Rows L2
theorem Rps.drop {G : Hp} : ∀ {vs : List V} {ds : List PyData} (n : Nat), Rps G vs ds → Rps G (vs.drop n) (ds.drop n)
  | _, _, 0, h => h
  | _, _, _ + 1, .nil => .nil
  | _, _, n + 1, .cons _ h => h.drop n
/-! ### a def's promise, by data -/
def spF {α : Type} (enc : α → List PyData) (pre : α → Prop) (f : α → PyData) : Sp := fun vs H Q _ => ∃ (a : α) (G : Hp), Same G H ∧ Rps G vs (enc a) ∧ pre a ∧ ∀ v G' H', Ext none NoO G H G' H' → Rp G' v (f a) → Q v H'
/-- a def whose first parameter is the row of draws: its value is one of rel's -/
def spR (K : PySem.W.Frag) {α : Type} (enc : α → List PyData) (pre : α → Prop) (rel : α → PyData → Prop) : Sp := fun vs H Q _ => ∃ (a : α) (r : Addr) (G : Hp) (ws : List V), vs = .ref r :: ws ∧ Same G H ∧ RowOk K (some r) G H ∧ Rps G ws (enc a) ∧ pre a ∧
  ∀ v d G' H', rel a d → Ext (some r) NoO G H G' H' → RowOk K (some r) G' H' → Rp G' v d → Q v H'
section
variable {K : PySem.W.Frag} {Γ : Env} {ta tb te tl : TE} {tt : TT} {P : PyData → Prop}
theorem ev_call {α : Type} {enc : α → List PyData} {pre : α → Prop} {f : α → PyData} {t : TA} (a : α) (h : Ea K t Γ (enc a)) (hp : pre a) : Ev K (tCall (spF enc pre f) [] E0 t) Γ (f a) := fun r G H σ S Q q =>
  h r G H σ S _ fun vs ds G1 H1 p1 x1 w1 r1 => by
    subst p1
    rw [List.append_nil]
    exact ⟨a, G1, x1.sub, r1, hp, fun v G' H' x2 r2 => q v _ G' H' rfl (x1.trans0 x2.any w1) (w1.ext x2) r2⟩
/-- the arguments' data may be one of several -/
theorem evn_call {α : Type} {enc : α → List PyData} {pre : α → Prop} {f : α → PyData} {t : TA} {A : List PyData → Prop} (h : EvA K t Γ A) (i : ∀ ds, A ds → ∃ a, ds = enc a ∧ pre a ∧ P (f a)) : EvN K (tCall (spF enc pre f) [] E0 t) Γ P := fun r G H σ S Q q =>
  h r G H σ S _ fun vs ds G1 H1 p1 x1 w1 r1 => by
    obtain ⟨a, rfl, hp, hP⟩ := i ds p1
    rw [List.append_nil]
    exact ⟨a, G1, x1.sub, r1, hp, fun v G' H' x2 r2 => q v _ G' H' hP (x1.trans0 x2.any w1) (w1.ext x2) r2⟩
theorem evn_row {α : Type} {enc : α → List PyData} {pre : α → Prop} {rel : α → PyData → Prop} {i : Nat} {t : TA} {A : List PyData → Prop} (hr : Γ[i]? = some .row) (h : EvA K t Γ A) (j : ∀ ds, A ds → ∃ a, ds = enc a ∧ pre a ∧ ∀ d, rel a d → P d) :
    EvN K (tCall (spR K enc pre rel) [] E0 (tCons (tVar i) t)) Γ P := fun r G H σ S Q q => by
  obtain ⟨p, e1, e2⟩ := S.ok i _ hr
  refine ⟨.ref p, e2, h r G H σ S _ fun vs ds G1 H1 p1 x1 w1 r1 => ?_⟩
  obtain ⟨a, rfl, hp, hP⟩ := j ds p1
  rw [List.append_nil]
  subst e1
  exact ⟨a, p, G1, vs, rfl, x1.sub, w1, r1, hp, fun v d G' H' hd x2 w2 r2 => q v d G' H' (hP d hd) (x1.trans0 x2 w1) w2 r2⟩

/-! ### built-ins -/
def rLenK (K : PySem.W.Frag) : List V → Hp → VK → Prop := fun xs H Q => ∃ p ys, xs = [.ref p] ∧ (SqL K H p ys ∨ SqT K H p ys) ∧ Q (.int ys.length) H
theorem call_lenK {X : Cx} : CallR X (.builtin "len") (rLenK X.K) := call_len_seq
theorem rc_lenT {ds : List PyData} : RC (rLenK K) [.tuple ds] (fun x => x = .int ds.length) := fun G H vs s rs Q q => by
  cases rs with
  | cons r1 rn =>
    cases rn
    cases r1 with
    | tup g r1 =>
      refine ⟨_, _, rfl, .inr (SqT.of (s _ _ g)), ?_⟩
      rw [r1.length]
      exact q _ _ G H rfl (.refl s) (.int _)
theorem rc_lenL {ds : List PyData} : RC (rLenK K) [.list ds] (fun x => x = .int ds.length) := fun G H vs s rs Q q => by
  cases rs with
  | cons r1 rn =>
    cases rn
    cases r1 with
    | lst g r1 =>
      refine ⟨_, _, rfl, .inl (SqL.of (s _ _ g)), ?_⟩
      rw [r1.length]
      exact q _ _ G H rfl (.refl s) (.int _)
theorem ev_lenT {ds : List PyData} (h : Ev K te Γ (.tuple ds)) : Ev K (tCB (rLenK K) (tCons te tNil)) Γ (.int ds.length) := ev_cb (ea_c h ea_nil) rc_lenT
theorem ev_lenL {ds : List PyData} (h : Ev K te Γ (.list ds)) : Ev K (tCB (rLenK K) (tCons te tNil)) Γ (.int ds.length) := ev_cb (ea_c h ea_nil) rc_lenL
theorem evn_tupleL (h : EvN K te Γ P) {P1 : PyData → Prop} (i : ∀ d, P d → ∃ ds, d = .list ds ∧ P1 (.tuple ds)) : EvN K (tThen te (kTup K)) Γ P1 := fun r G H σ S Q q => h r G H σ S _ fun v d G1 H1 p1 x1 w1 r1 => by
  obtain ⟨ds, rfl, hP⟩ := i d p1
  cases r1 with
  | @lst a xs _ g rs =>
    refine .inl ⟨a, xs, rfl, SqL.of (x1.sub _ _ g), fun p hp => ?_⟩
    obtain ⟨x2, r2⟩ := new_tup (ρ := r) x1.sub hp rs
    exact q _ _ _ _ hP (x1.trans0 x2.any w1) (w1.ext x2) r2
theorem ev_tupleL {ds : List PyData} (h : Ev K te Γ (.list ds)) : Ev K (tThen te (kTup K)) Γ (.tuple ds) := evn_tupleL h fun d e => ⟨ds, e, rfl⟩
theorem rc_any {bs : List Bool} : RC (rAny K) [.list (bs.map .bool)] (fun x => x = .bool (bs.any id)) := fun G H vs s rs Q q => by
  cases rs with
  | cons r1 rn =>
    cases rn
    cases r1 with
    | lst g r1 =>
      have e := r1.bools
      subst e
      exact ⟨_, bs, rfl, SqL.of (s _ _ g), q _ _ G H rfl (.refl s) (.bl _)⟩
theorem rc_all {bs : List Bool} : RC (rAll K) [.list (bs.map .bool)] (fun x => x = .bool (bs.all id)) := fun G H vs s rs Q q => by
  cases rs with
  | cons r1 rn =>
    cases rn
    cases r1 with
    | lst g r1 =>
      have e := r1.bools
      subst e
      exact ⟨_, bs, rfl, SqL.of (s _ _ g), q _ _ G H rfl (.refl s) (.bl _)⟩
theorem ev_any {bs : List Bool} (h : Ev K te Γ (.list (bs.map .bool))) : Ev K (tCB (rAny K) (tCons te tNil)) Γ (.bool (bs.any id)) := ev_cb (ea_c h ea_nil) rc_any
theorem ev_all {bs : List Bool} (h : Ev K te Γ (.list (bs.map .bool))) : Ev K (tCB (rAll K) (tCons te tNil)) Γ (.bool (bs.all id)) := ev_cb (ea_c h ea_nil) rc_all
/-- sorted of ints -/
theorem ev_sortedI {ns ms : List Int} (h : Ev K te Γ (.list (ns.map .int))) (hs : ∀ ns' : List Int, ns'.Perm ns → ns'.Pairwise (· ≤ ·) → ns' = ms) : Ev K (tCB (rSortedI K) (tCons te tNil)) Γ (.list (ms.map .int)) := ev_cb (ea_c h ea_nil) fun G H vs s rs Q q => by
  cases rs with
  | cons r1 rn =>
    cases rn
    cases r1 with
    | lst g r1 =>
      have e := r1.ints
      subst e
      refine ⟨_, ns, rfl, SqL.of (s _ _ g), fun ns' p pm st hp => ?_⟩
      have e := hs ns' pm st
      subst e
      obtain ⟨x2, r2⟩ := new_lst (ρ := none) s hp (Rps.ints' (G := G) ns')
      exact q _ _ _ _ rfl x2 r2
def rInt1 : List V → Hp → VK → Prop := fun xs H Q => (∃ i, xs = [.int i] ∧ Q (.int i) H) ∨ ∃ k, xs = [.bl k] ∧ Q (.int (if k then 1 else 0)) H
theorem call_intK {X : Cx} : CallR X (.type "int") rInt1 := call_int1
theorem rc_int {i : Int} : RC rInt1 [.int i] (fun x => x = .int i) := fun G H vs s rs Q q => by
  have e : vs = [V.int i] := Rps.ints (ns := [i]) rs
  exact .inl ⟨i, e, q _ _ G H rfl (.refl s) (.int i)⟩
theorem ev_intI {i : Int} (h : Ev K te Γ (.int i)) : Ev K (tCB rInt1 (tCons te tNil)) Γ (.int i) := ev_cb (ea_c h ea_nil) rc_int
theorem ev_neg {i : Int} (h : Ev K te Γ (.int i)) : Ev K (tUn (rU fun i => .int (-i)) te) Γ (.int (-i)) := fun r G H σ S Q q => h r G H σ S _ fun v d G1 H1 p1 x1 w1 r1 => by
  subst p1
  exact ⟨i, r1.int_of, q _ _ G1 H1 rfl x1 w1 (.int _)⟩
/-- sum of a tuple of ints -/
def rSumT (K : PySem.W.Frag) : List V → Hp → VK → Prop := fun vs H Q => ∃ (a : Addr) (ns : List Int), vs = [V.ref a] ∧ SqT K H a (ns.map V.int) ∧ Q (.int ns.sum) H
theorem cr_sumT {X : Cx} (hc : X.calm = true) : CallR X (.builtin "sum") (rSumT X.K) := by
  intro pins s σ H vs us Q I r h
  obtain ⟨a, ns, rfl, hs, q⟩ := h
  obtain ⟨its, rv, ht, _⟩ := I.tuple hs
  rw [Vals.ref1 r]
  have hi := rv.ints
  obtain ⟨xs, e⟩ := hi.allInts.items
  have hn : numsOf (intItems xs).toList = ns := by rw [← e]; exact hi.numsOf
  rw [nums_intItems] at hn
  rw [e] at ht
  have ht' : s.heap.IsTuple a (intItems xs) := ht
  refine call_sum_walkG (wpAny_pyIter_tuple ht' ?_)
  have hlt : a < s.heap.objs.size := by obtain ⟨o, eo, _⟩ := id ht'; exact Heap.lt_size eo
  refine ⟨s.heap.objs.size, [s.heap.objs.size, a], [s.heap.objs.size], _, _, _, numAt xs, rfl, Walks.tuple (A := X.A.in1) (I.ok.hd hc) _ a (Nat.ne_of_lt hlt) (intItems xs), ⟨⟨_, Heap.get?_push_size _ rfl, rfl, rfl⟩, ht'.push _⟩, fun c hc => ?_, fun _ _ => intItems_at, fun h' tk t' hk => ?_⟩
  · rw [Heap.size_push]
    rcases List.mem_cons.mp hc with rfl | hc
    · exact Nat.lt_succ_self _
    · rcases List.mem_cons.mp hc with rfl | hc
      · exact Nat.lt_succ_of_lt hlt
      · cases hc
  · have hold : ∀ c o, s.heap.get? c = some o → h'.get? c = some o := fun c o e => by
      refine hk c o (fun hm => ?_) (Heap.get?_push_of_some _ e)
      rcases List.mem_cons.mp hm with e1 | hm
      · have := Heap.lt_size e; rw [e1] at this; exact Nat.lt_irrefl _ this
      · cases hm
    refine ⟨.int _, H, I.kept (t' := tk) hold, ⟨_, rfl⟩, ?_⟩
    have e2 : preSum (numAt xs) (intItems xs).size = ns.sum := by
      rw [preSum_eq, List.take_of_length_le (by simp [intItems]), hn]
    rw [e2]
    exact q
theorem rc_sumT {ns : List Int} : RC (rSumT K) [.tuple (ns.map .int)] (fun x => x = .int ns.sum) := fun G H vs s rs Q q => by
  cases rs with
  | cons r1 rn =>
    cases rn
    cases r1 with
    | tup g r1 =>
      have e := r1.ints
      subst e
      exact ⟨_, ns, rfl, SqT.of (s _ _ g), q _ _ G H rfl (.refl s) (.int _)⟩
theorem ev_sumT {ns : List Int} (h : Ev K te Γ (.tuple (ns.map .int))) : Ev K (tCB (rSumT K) (tCons te tNil)) Γ (.int ns.sum) := ev_cb (ea_c h ea_nil) rc_sumT
/-- tuple(range(n)) -/
theorem ev_tupRg {n : Int} (h : Ev K te Γ (.int n)) (h0 : 0 ≤ n) (h1 : n ≤ 1000000) : Ev K (tTupRg (tRg1 te)) Γ (.tuple (rangeD 0 n.toNat)) := fun r G H σ S Q q => h r G H σ S _ fun v d G1 H1 p1 x1 w1 r1 => by
  subst p1
  refine ⟨n, r1.int_of, ⟨by omega, by omega, by omega, by omega, by omega⟩, fun p hp => ?_⟩
  have e : rgV 0 n = ((List.range n.toNat).map fun i : Nat => (0 : Int) + (i : Nat)).map V.int := by
    unfold rgV
    rw [List.map_map, Int.sub_zero]; rfl
  have e2 : rangeD 0 n.toNat = ((List.range n.toNat).map fun i : Nat => (0 : Int) + (i : Nat)).map PyData.int := by
    unfold rangeD
    rw [List.map_map]; rfl
  obtain ⟨x2, r2⟩ := new_tup (ρ := r) x1.sub hp (Rps.ints' (G := G1) ((List.range n.toNat).map fun i : Nat => (0 : Int) + (i : Nat)))
  rw [e]
  exact q _ _ _ _ (by rw [e2]) (x1.trans0 x2.any w1) (w1.ext x2) r2
/-! ### isinstance -/
def tyD : PyData → String
  | .none => "NoneType"
  | .bool _ => "bool"
  | .int _ => "int"
  | .str _ => "str"
  | .list _ => "list"
  | .tuple _ => "tuple"
  | .dict _ => "dict"
theorem Rp.ty {G H : Hp} {v : V} {d : PyData} (h : Rp G v d) (s : Same G H) : TyX K H v (.type (tyD d)) := by
  cases h with
  | non => exact .base .non
  | bl b => exact .base (.bl b)
  | int i => exact .base (.int i)
  | str x => exact .base (.str x)
  | lst g _ => exact .base (.lst (s _ _ g))
  | tup g _ => exact .base (.tup (s _ _ g))
theorem ev_isi {d : PyData} {T : String} {b : Bool} (h : Ev K te Γ d) (hb : kitB (tyD d) T = some b) : Ev K (tCB (rIsi K) (tCons te (tCons (tC (.ty T)) tNil))) Γ (.bool b) := fun r G H σ S Q q => h r G H σ S _ fun v d G1 H1 p1 x1 w1 r1 => by
  subst p1
  exact ⟨v, .ty T, _, _, b, rfl, .ty T, r1.ty x1.sub, kit_ty hb, q _ _ G1 H1 rfl x1 w1 (.bl b)⟩
theorem ev_isiT {d : PyData} {T T' : String} {b b' : Bool} (h : Ev K te Γ d) (hb : kitB (tyD d) T = some b) (hb' : kitB (tyD d) T' = some b') :
    Ev K (tCB (rIsiT K) (tCons te (tCons (tTup (tCons (tC (.ty T)) (tCons (tC (.ty T')) tNil))) tNil))) Γ (.bool (b || b')) := fun r G H σ S Q q => h r G H σ S _ fun v d G1 H1 p1 x1 w1 r1 => by
  subst p1
  refine ⟨by show 2 ≤ sizeLine; decide, fun p hp => ?_⟩
  have x2 : Ext none NoO G1 H1 G1 (upd H1 p (.tup [.ty T, .ty T'])) := ⟨fun a o _ _ e => by rw [upd_ne (ne_of_none e hp)]; exact e, fun _ _ e => e, fun a o e => by
    have := x1.sub a o e
    rw [upd_ne (ne_of_none this hp)]; exact this, fun a o e => .inl e⟩
  refine ⟨v, p, [.ty T, .ty T'], .type (tyD d), [.type T, .type T'], b || b', rfl, upd_same, .cons (.ty T) (.cons (.ty T') .nil), r1.ty x2.sub, kitAny_cons (kit_ty hb) (fun e => ?_) (fun e => by rw [e]; rfl), q _ _ G1 _ rfl (x1.trans0 x2.any w1) (w1.ext x2) (.bl _)⟩
  rw [e, Bool.false_or]
  refine kitAny_cons (kit_ty hb') (fun e => ?_) (fun e => e)
  rw [e]; exact kitAny_nil
/-! ### slices t[n:] -/
theorem ev_slT {ds : List PyData} {n : Nat} (h : Ev K te Γ (.tuple ds)) (hn : Ev K tl Γ (.int n)) : Ev K (tSl (rSlA K) te (tPart tl) tNoPart) Γ (.tuple (ds.drop n)) := fun r G H σ S Q q => h r G H σ S _ fun v d G1 H1 p1 x1 w1 r1 => by
  subst p1
  refine hn r G1 H1 σ (S.ext x1 w1) _ fun u e G2 H2 p2 x2 w2 r2 => ?_
  subst p2
  refine ⟨n, r2.int_of, ?_⟩
  have xx := x1.trans0 x2 w1
  have r3 := r1.up x2.kn
  have rv := r3
  cases r3 with
  | @tup a xs _ g rs =>
    have e1 : HT.sIx xs.length 0 (some (n : Int)) = min n xs.length := HT.sIx_nat _ _ _
    have e2 : HT.sIx xs.length xs.length none = xs.length := rfl
    refine ⟨a, xs, rfl, SqT.of (x2.sub _ _ g), fun hw => ?_, fun hw p hp => ?_⟩
    · rw [e1] at hw
      have e3 : ds.drop n = ds := by
        have hl := rs.length
        rcases Nat.eq_zero_or_pos n with z | z
        · rw [z]; rfl
        · have h0 : ds.length = 0 := by have := hw.1; omega
          rw [List.eq_nil_of_length_eq_zero h0]; simp
      exact q _ _ G2 H2 (by rw [e3]) xx w2 rv
    · have e4 : cutV xs (some (n : Int)) none = xs.drop n := by
        unfold cutV
        rw [e1, e2]
        rcases Nat.le_total n xs.length with z | z
        · rw [Nat.min_eq_left z]; exact List.take_of_length_le (by rw [List.length_drop]; exact Nat.le_refl _)
        · rw [Nat.min_eq_right z, List.drop_eq_nil_of_le (Nat.le_refl _), List.drop_eq_nil_of_le z]; simp
      have rd : Rps G2 (xs.drop n) (ds.drop n) := rs.drop n
      rw [e4]
      obtain ⟨x3, r4⟩ := new_tup (ρ := r) x2.sub hp rd
      exact q _ _ _ _ rfl (xx.trans0 x3.any w2) (w2.ext x3) r4
end

/-! ### statements -/
def Wp (K : PySem.W.Frag) (ts : TS) (Γ : Env) (N : Env → Prop) (R : PyData → Prop) : Prop :=
  ∀ (r : Option Addr) (G H : Hp) (σ : L2.St), StOk K r G H σ Γ → ∀ D : Ends,
    (∀ Γ' σ' G' H', N Γ' → Ext r (Own σ Γ) G H G' H' → StOk K r G' H' σ' Γ' → (∀ a, Own σ' Γ' a → Own σ Γ a ∨ H a = none) → D.nx σ' H') →
    (∀ v d G' H', R d → Ext r (Own σ Γ) G H G' H' → RowOk K r G' H' → Rp G' v d → D.rt v H') → ts D σ H
section
variable {K : PySem.W.Frag} {Γ : Env} {ta tb te tl : TE} {tc : TT} {t u : TS} {P R : PyData → Prop} {N N1 : Env → Prop}
theorem own_none {r : Option Addr} {G H : Hp} {σ : L2.St} {a : Addr} (S : StOk K r G H σ Γ) (h : Own σ Γ a) : ∃ vs, G a = none ∧ some a ≠ r ∧ H a = some (.lst vs) := by
  obtain ⟨i, ds, e1, e2⟩ := h
  obtain ⟨D, vs, f1, f2, f3, f4, _⟩ := S.ok i _ e1
  rw [e2] at f1
  cases f1
  exact ⟨vs, f2, f3, f4⟩
theorem Wp.imp (h : Wp K t Γ N R) {N' : Env → Prop} {R' : PyData → Prop} (i : ∀ Γ', N Γ' → N' Γ') (j : ∀ d, R d → R' d) : Wp K t Γ N' R' := fun r G H σ S D n q =>
  h r G H σ S D (fun Γ' σ' G' H' a => n Γ' σ' G' H' (i _ a)) fun v d G' H' a => q v d G' H' (j _ a)
theorem wp_seq (h : Wp K t Γ N1 R) (k : ∀ Γ', N1 Γ' → Wp K u Γ' N R) : Wp K (tSeq t u) Γ N R := fun r G H σ S D n q =>
  h r G H σ S { D with nx := u D } (fun Γ1 σ1 G1 H1 n1 x1 S1 o1 => k Γ1 n1 r G1 H1 σ1 S1 D (fun Γ2 σ2 G2 H2 n2 x2 S2 o2 => n Γ2 σ2 G2 H2 n2 (x1.trans x2 S1.row o1) S2 fun a z => by
      rcases o2 a z with z | z
      · exact o1 a z
      · cases e : H a with
        | none => exact .inr rfl
        | some o =>
          refine .inl (Classical.byContradiction fun nO => ?_)
          rw [x1.all a o (S1.row.ne z) nO e] at z; cases z)
    fun v d G2 H2 r2 x2 w2 rp => q v d G2 H2 r2 (x1.trans x2 S1.row o1) w2 rp) q
theorem wp_next (h : N Γ) : Wp K tNext Γ N R := fun r G H σ S D n q => n Γ σ G H h (.refl S.same) S fun a z => .inl z
theorem wp_set {i : Nat} (h : EvN K te Γ P) (k : ∀ d, P d → N (Γ.set i (.val d))) : Wp K (tAsg te (gName i)) Γ N R := fun r G H σ S D n q =>
  h r G H σ S _ fun v d G1 H1 p1 x1 w1 r1 => n _ _ G1 H1 (k d p1) x1.wk ((S.ext x1 w1).set r1) fun a z => .inl (own_set z)
theorem wp_setD {i : Nat} {d : PyData} (h : Ev K te Γ d) (k : N (Γ.set i (.val d))) : Wp K (tAsg te (gName i)) Γ N R := wp_set h fun _ e => e ▸ k
theorem wp_ret (h : EvN K te Γ P) (k : ∀ d, P d → R d) : Wp K (tRet te) Γ N R := fun r G H σ S D n q => h r G H σ S _ fun v d G1 H1 p1 x1 w1 r1 => q v d G1 H1 (k d p1) x1.wk w1 r1
theorem wp_retD {d : PyData} (h : Ev K te Γ d) (k : R d) : Wp K (tRet te) Γ N R := wp_ret h fun _ e => e ▸ k
theorem wp_drop (h : EvN K te Γ P) (k : N Γ) : Wp K (tDrop te) Γ N R := fun r G H σ S D n q => h r G H σ S _ fun v d G1 H1 p1 x1 w1 r1 => n Γ σ G1 H1 k x1.wk (S.ext x1 w1) fun a z => .inl z
theorem wp_ifN {B : Bool → Prop} (h : EvTN K tc Γ B) (h1 : B true → Wp K t Γ N R) (h2 : B false → Wp K u Γ N R) : Wp K (tIfS tc t u) Γ N R := fun r G H σ S D n q => h r G H σ S _ fun b G1 H1 p1 x1 w1 => by
  have nn : ∀ Γ' σ' G' H', N Γ' → Ext r (Own σ Γ) G1 H1 G' H' → StOk K r G' H' σ' Γ' → (∀ a, Own σ' Γ' a → Own σ Γ a ∨ H1 a = none) → D.nx σ' H' := fun Γ2 σ2 G2 H2 n2 x2 S2 o2 => n Γ2 σ2 G2 H2 n2 (x1.wk.trans x2 w1 fun a z => .inl z) S2 fun a z => (o2 a z).imp_right fun z => by
    cases e : H a with
    | none => rfl
    | some o => rw [x1.all a o (w1.ne z) (fun z => z) e] at z; cases z
  have qq : ∀ v d G' H', R d → Ext r (Own σ Γ) G1 H1 G' H' → RowOk K r G' H' → Rp G' v d → D.rt v H' := fun v d G2 H2 rd x2 w2 r2 => q v d G2 H2 rd (x1.wk.trans x2 w1 fun a z => .inl z) w2 r2
  cases b with
  | true => exact iteT (h1 p1 r G1 H1 σ (S.ext x1 w1) D nn qq)
  | false => exact iteF (h2 p1 r G1 H1 σ (S.ext x1 w1) D nn qq)
theorem wp_if {b : Bool} (h : EvT K tc Γ b) (h1 : b = true → Wp K t Γ N R) (h2 : b = false → Wp K u Γ N R) : Wp K (tIfS tc t u) Γ N R := wp_ifN h (fun e => h1 e.symm) fun e => h2 e.symm
/-- a way that is not taken -/
theorem wp_no (h : EvT K tc Γ false) (h2 : Wp K u Γ N R) : Wp K (tIfS tc t u) Γ N R := wp_if h (fun e => by cases e) fun _ => h2
theorem wp_yes (h : EvT K tc Γ true) (h2 : Wp K t Γ N R) : Wp K (tIfS tc t u) Γ N R := wp_if h (fun _ => h2) fun e => by cases e
/-- a list of one's own -/
theorem own_set2 {i : Nat} {v : V} {ds : List PyData} {σ : L2.St} {a : Addr} (h : Own (σ.set i (some v)) (Γ.set i (.own ds)) a) : Own σ Γ a ∨ v = .ref a := by
  obtain ⟨j, es, e1, e2⟩ := h
  by_cases hj : i = j
  · subst hj
    by_cases hl : i < σ.length
    · rw [List.getElem?_set_self hl] at e2; cases e2; exact .inr rfl
    · rw [List.getElem?_eq_none (by simpa using hl)] at e2; cases e2
  · rw [List.getElem?_set_ne hj] at e1 e2
    exact .inl ⟨j, es, e1, e2⟩
/-- slot i holds the list at p, new, not known -/
theorem StOk.setOwn {r : Option Addr} {G H : Hp} {σ : L2.St} {i : Nat} {p : Addr} {us : List V} {ds : List PyData} (S : StOk K r G H σ Γ) (hp : H p = none) (rs : Rps G us ds) :
    StOk K r G (upd H p (.lst us)) (σ.set i (some (.ref p))) (Γ.set i (.own ds)) := by
  have x : Ext r NoO G H G (upd H p (.lst us)) := ⟨fun a o _ _ e => by rw [upd_ne (ne_of_none e hp)]; exact e, fun _ _ e => e, fun a o e => by
    have := S.same a o e
    rw [upd_ne (ne_of_none this hp)]; exact this, fun a o e => .inl e⟩
  have S1 := S.ext x (S.row.mut (S.row.ne hp) fun o u z => by rw [hp] at z; cases z)
  have gp : G p = none := by
    cases e : G p with
    | none => rfl
    | some o => rw [S.same _ _ e] at hp; cases hp
  have old : ∀ {j : Nat} {es : List PyData} {a : Addr}, Γ[j]? = some (.own es) → σ[j]? = some (some (.ref a)) → a ≠ p := fun {j es a} e1 e2 z => by
    obtain ⟨vs, _, _, f⟩ := own_none S ⟨j, es, e1, e2⟩
    rw [z, hp] at f; cases f
  refine ⟨S1.same, S1.row, by simpa using S.len, fun j s e => ?_, fun j k es fs a e1 e2 f1 f2 => ?_⟩
  · by_cases hj : i = j
    · subst hj
      by_cases hl : i < Γ.length
      · rw [List.getElem?_set_self hl] at e
        cases e
        rw [List.getElem?_set_self (by rw [S.len]; exact hl)]
        exact ⟨p, us, rfl, gp, S.row.ne hp, upd_same, rs⟩
      · rw [List.getElem?_eq_none (by simpa using hl)] at e; cases e
    · rw [List.getElem?_set_ne hj] at e ⊢
      exact S1.ok j s e
  · by_cases hj : i = j
    · subst hj
      by_cases hk : i = k
      · exact hk
      · rw [List.getElem?_set_ne hk] at e2 f2
        by_cases hl : i < σ.length
        · rw [List.getElem?_set_self hl] at f1
          cases f1
          exact absurd rfl (old e2 f2)
        · rw [List.getElem?_eq_none (by simpa using hl)] at f1; cases f1
    · rw [List.getElem?_set_ne hj] at e1 f1
      by_cases hk : i = k
      · subst hk
        by_cases hl : i < σ.length
        · rw [List.getElem?_set_self hl] at f2
          cases f2
          exact absurd rfl (old e1 f1)
        · rw [List.getElem?_eq_none (by simpa using hl)] at f2; cases f2
      · rw [List.getElem?_set_ne hk] at e2 f2
        exact S.sep j k es fs a e1 e2 f1 f2
theorem ext_new {r : Option Addr} {G H : Hp} {p : Addr} {u : HO} (s : Same G H) (hp : H p = none) : Ext r NoO G H G (upd H p u) := ⟨fun a o _ _ e => by rw [upd_ne (ne_of_none e hp)]; exact e, fun _ _ e => e, fun a o e => by
    have := s a o e
    rw [upd_ne (ne_of_none this hp)]; exact this, fun a o e => .inl e⟩
theorem back_none {r : Option Addr} {O : Addr → Prop} {G H G1 H1 : Hp} (x : Ext r O G H G1 H1) (w : RowOk K r G1 H1) {a : Addr} (nO : ¬ O a) (z : H1 a = none) : H a = none := by
  cases e : H a with
  | none => rfl
  | some o => rw [x.all a o (w.ne z) nO e] at z; cases z
/-- x = [..], to be appended to -/
theorem wp_setOwn {i : Nat} {ta : TA} {A : List PyData → Prop} (h : EvA K ta Γ A) (hl : ∀ ds, A ds → ds.length ≤ 1000000) (k : ∀ ds, A ds → N (Γ.set i (.own ds))) : Wp K (tAsg (tLst ta) (gName i)) Γ N R := fun r G H σ S D n q =>
  h r G H σ S _ fun us ds G1 H1 p1 x1 w1 r1 => ⟨by rw [r1.length]; exact small_line (hl ds p1), fun p hp => by
    have S1 := S.ext x1 w1
    have x2 : Ext r NoO G1 H1 G1 (upd H1 p (.lst us)) := ext_new x1.sub hp
    refine n _ _ G1 _ (k ds p1) (x1.trans0 x2 w1).wk (S1.setOwn hp r1) fun a z => ?_
    rcases own_set2 z with z | z
    · exact .inl z
    · cases z
      exact .inr (back_none x1 w1 (fun z => z) hp)⟩
/-- the list becomes known -/
theorem wp_pub {i : Nat} {ds : List PyData} (e : Γ[i]? = some (.own ds)) (h : Wp K t (Γ.set i (.val (.list ds))) N R) : Wp K t Γ N R := fun r G H σ S D n q => by
  obtain ⟨p, us, e1, gp, pr, hp, rs⟩ := S.ok i _ e
  have sG : Same (upd G p (.lst us)) H := fun a o z => by
    by_cases ha : a = p
    · subst ha; rw [upd_same] at z; cases z; exact hp
    · rw [upd_ne ha] at z; exact S.same _ _ z
  have kn : Same G (upd G p (.lst us)) := same_upd gp
  have hli : i < Γ.length := (List.getElem?_eq_some_iff.mp e).1
  have nw : ∀ {j : Nat} {es : List PyData}, (Γ.set i (.val (.list ds)))[j]? = some (.own es) → i ≠ j ∧ Γ[j]? = some (.own es) := fun {j es} z => by
    by_cases hj : i = j
    · subst hj; rw [List.getElem?_set_self hli] at z; cases z
    · rw [List.getElem?_set_ne hj] at z; exact ⟨hj, z⟩
  have S1 : StOk K r (upd G p (.lst us)) H σ (Γ.set i (.val (.list ds))) := by
    refine ⟨sG, S.row.more pr gp, by simpa using S.len, fun j s z => ?_, fun j k es fs a f1 f2 g1 g2 => ?_⟩
    · by_cases hj : i = j
      · subst hj
        rw [List.getElem?_set_self hli] at z
        cases z
        exact ⟨.ref p, e1, .lst upd_same (rs.up kn)⟩
      · rw [List.getElem?_set_ne hj] at z
        have w := S.ok j s z
        cases s with
        | no => trivial
        | val d => obtain ⟨v, w1, w2⟩ := w; exact ⟨v, w1, w2.up kn⟩
        | own es =>
          obtain ⟨D', vs, w1, w2, w3, w4, w5⟩ := w
          have ne : D' ≠ p := fun q => hj (S.sep i j ds es p e z e1 (by rw [w1, q]))
          exact ⟨D', vs, w1, by rw [upd_ne ne]; exact w2, w3, w4, w5.up kn⟩
        | row => exact w
        | raw v => exact w
        | dk ls => exact w
    · exact S.sep j k es fs a (nw f1).2 (nw f2).2 g1 g2
  have oi : ∀ a, Own σ (Γ.set i (.val (.list ds))) a → Own σ Γ a := fun a ⟨j, es, z1, z2⟩ => ⟨j, es, (nw z1).2, z2⟩
  have xx : ∀ {G' H'}, Ext r (Own σ (Γ.set i (.val (.list ds)))) (upd G p (.lst us)) H G' H' → Ext r (Own σ Γ) G H G' H' := fun {G' H'} x =>
    ⟨fun a o n1 n2 z => x.all a o n1 (fun y => n2 (oi a y)) z, fun a o z => x.kn _ _ (kn _ _ z), x.sub, fun a o z => by
      rcases x.new a o z with z | z | z
      · by_cases ha : a = p
        · subst ha; exact .inr (.inr ⟨i, ds, e, e1⟩)
        · rw [upd_ne ha] at z; exact .inl z
      · exact .inr (.inl z)
      · exact .inr (.inr (oi a z))⟩
  exact h r _ H σ S1 D (fun Γ' σ' G' H' n1 x S' o => n Γ' σ' G' H' n1 (xx x) S' fun a z => (o a z).imp_left (oi a)) fun v d G' H' rd x w rp => q v d G' H' rd (xx x) w rp
/-- x.append(e) -/
theorem wp_app {i : Nat} {ds : List PyData} (e : Γ[i]? = some (.own ds)) (h : EvN K te Γ P) (hl : ds.length ≤ 1000000) (k : ∀ d, P d → N (Γ.set i (.own (ds ++ [d])))) : Wp K (tDrop (tBM K "list" rAppend (tVar i) (tCons te tNil))) Γ N R := fun r G H σ S D n q => by
  obtain ⟨p, us, e1, gp, pr, hp, rs⟩ := S.ok i _ e
  refine ⟨.ref p, e1, .inl ⟨rfl, us, SqL.of hp⟩, h r G H σ S _ fun v d G1 H1 p1 x1 w1 r1 => ?_⟩
  have hp1 : H1 p = some (.lst us) := x1.all _ _ pr (fun z => z) hp
  have gp1 : G1 p = none := x1.fresh gp hp fun z => z
  refine ⟨p, us, v, rfl, rfl, hp1, ?_, ?_⟩
  · rw [rs.length]; exact Nat.lt_of_lt_of_le (show ds.length < 1000001 by omega) (by decide)
  have S1 := S.ext x1 w1
  have hli : i < Γ.length := (List.getElem?_eq_some_iff.mp e).1
  have s2 : Same G1 (upd H1 p (.lst (us ++ [v]))) := fun a o z => by
    rw [upd_ne (ne_of_none z gp1)]; exact x1.sub _ _ z
  refine n _ σ G1 _ (k d p1) ⟨fun a o n1 n2 z => ?_, x1.kn, s2, fun a o z => (x1.new a o z).imp_right fun z => z.imp_right fun z => z.elim⟩ ⟨s2, w1.mut pr fun o u z => (by rw [hp1] at z; cases z), by simpa using S.len, fun j s z => ?_, fun j k es fs a f1 f2 g1 g2 => ?_⟩ fun a z => ?_
  · have ne : a ≠ p := fun q => n2 (by rw [q]; exact ⟨i, ds, e, e1⟩)
    rw [upd_ne ne]; exact x1.all a o n1 (fun z => z) z
  · by_cases hj : i = j
    · subst hj
      rw [List.getElem?_set_self hli] at z
      cases z
      exact ⟨p, us ++ [v], e1, gp1, pr, upd_same, (rs.up x1.kn).append (.one r1)⟩
    · rw [List.getElem?_set_ne hj] at z
      have w := S1.ok j s z
      cases s with
      | no => trivial
      | val d => exact w
      | own es =>
        obtain ⟨D', vs, w1, w2, w3, w4, w5⟩ := w
        have ne : D' ≠ p := fun q => hj (S.sep i j ds es p e z e1 (by rw [w1, q]))
        exact ⟨D', vs, w1, w2, w3, by rw [upd_ne ne]; exact w4, w5⟩
      | row => exact w
      | raw v => exact w
      | dk ls =>
        obtain ⟨F, w1, w2, cs, w3, w4⟩ := w
        have ne : F ≠ p := fun q => by rw [q, hp1] at w3; cases w3
        exact ⟨F, w1, w2, cs, by rw [upd_ne ne]; exact w3, w4⟩
  · have nw : ∀ {j : Nat} {es : List PyData}, (Γ.set i (.own (ds ++ [d])))[j]? = some (.own es) → ∃ es', Γ[j]? = some (.own es') := fun {j es} z => by
      by_cases hj : i = j
      · subst hj; exact ⟨_, e⟩
      · rw [List.getElem?_set_ne hj] at z; exact ⟨_, z⟩
    obtain ⟨es', f1'⟩ := nw f1
    obtain ⟨fs', f2'⟩ := nw f2
    exact S.sep j k es' fs' a f1' f2' g1 g2
  · obtain ⟨j, es, z1, z2⟩ := z
    by_cases hj : i = j
    · subst hj; exact .inl ⟨i, ds, e, z2⟩
    · rw [List.getElem?_set_ne hj] at z1; exact .inl ⟨j, es, z1, z2⟩
/-- a, b = e1, e2 -/
theorem wp_par {i j : Nat} {ta : TA} {A : List PyData → Prop} (hij : i ≠ j) (h : EvA K ta Γ A) (k : ∀ ds, A ds → ∃ x y, ds = [x, y] ∧ N ((Γ.set i (.val x)).set j (.val y))) : Wp K (tPar i j ta) Γ N R := fun r G H σ S D n q =>
  h r G H σ S _ fun us ds G1 H1 p1 x1 w1 r1 => by
    obtain ⟨x, y, rfl, hN⟩ := k ds p1
    cases r1 with
    | cons ra rb =>
      cases rb with
      | cons rb rn =>
        cases rn
        exact ⟨_, _, rfl, n _ _ G1 H1 hN x1.wk (((S.ext x1 w1).set ra).set rb) fun a z => .inl (own_set (own_set z))⟩
theorem wp_parD {i j : Nat} {ta : TA} {x y : PyData} (hij : i ≠ j) (h : Ea K ta Γ [x, y]) (k : N ((Γ.set i (.val x)).set j (.val y))) : Wp K (tPar i j ta) Γ N R := wp_par hij h fun _ e => ⟨x, y, e, k⟩
/-- a, b = e1, [] -/
theorem wp_parO {i j : Nat} (hij : i ≠ j) (h : EvN K te Γ P) (k : ∀ d, P d → N ((Γ.set i (.val d)).set j (.own []))) : Wp K (tPar i j (tCons te (tCons (tLst tNil) tNil))) Γ N R := fun r G H σ S D n q =>
  h r G H σ S _ fun v d G1 H1 p1 x1 w1 r1 => ⟨Nat.zero_le _, fun p hp => ⟨_, _, rfl, by
    have S1 := (S.ext x1 w1).set (i := i) r1
    have x2 : Ext r NoO G1 H1 G1 (upd H1 p (.lst [])) := ext_new x1.sub hp
    refine n _ _ G1 _ (k d p1) (x1.trans0 x2 w1).wk (S1.setOwn hp .nil) fun a z => ?_
    rcases own_set2 z with z | z
    · exact .inl (own_set z)
    · cases z
      exact .inr (back_none x1 w1 (fun z => z) hp)⟩⟩
/-- a, b = a tuple -/
theorem wp_asg2 {i j : Nat} (hij : i ≠ j) (h : EvN K te Γ P) (k : ∀ d, P d → ∃ x y, d = .tuple [x, y] ∧ N ((Γ.set i (.val x)).set j (.val y))) : Wp K (tAsg te (gTup K 2 (gCons (gName i) (gCons (gName j) gNil)))) Γ N R := fun r G H σ S D n q =>
  h r G H σ S _ fun v d G1 H1 p1 x1 w1 r1 => by
    obtain ⟨x, y, rfl, hN⟩ := k d p1
    cases r1 with
    | tup g rs =>
      cases rs with
      | cons ra rs =>
        cases rs with
        | cons rb rs =>
          cases rs
          exact ⟨_, _, rfl, SqT.of (x1.sub _ _ g), rfl, _, _, rfl, _, _, rfl, rfl, n _ _ G1 H1 hN x1.wk (((S.ext x1 w1).set ra).set rb) fun a z => .inl (own_set (own_set z))⟩
theorem wp_asg2D {i j : Nat} {x y : PyData} (hij : i ≠ j) (h : Ev K te Γ (.tuple [x, y])) (k : N ((Γ.set i (.val x)).set j (.val y))) : Wp K (tAsg te (gTup K 2 (gCons (gName i) (gCons (gName j) gNil)))) Γ N R := wp_asg2 hij h fun _ e => ⟨x, y, e, k⟩
/-! ### loops -/
def TgtS (K : PySem.W.Frag) (g : TG) (Γ : Env) (d : PyData) (Γ' : Env) : Prop :=
  ∀ (r : Option Addr) (G H : Hp) (σ : L2.St) (v : V), StOk K r G H σ Γ → Rp G v d → ∀ Q : L2.St → Hp → Prop, (∀ σ', StOk K r G H σ' Γ' → (∀ a, Own σ' Γ' a → Own σ Γ a) → Q σ' H) → g v σ H Q
theorem tgs_name {j : Nat} {d : PyData} : TgtS K (gName j) Γ d (Γ.set j (.val d)) := fun r G H σ v S rd Q q => q _ (S.set rd) fun a z => own_set z
theorem tgs_pair {i j : Nat} {x y : PyData} : TgtS K (gTup K 2 (gCons (gName i) (gCons (gName j) gNil))) Γ (.tuple [x, y]) ((Γ.set i (.val x)).set j (.val y)) := fun r G H σ v S rd Q q => by
  cases rd with
  | tup g rs =>
    cases rs with
    | cons ra rs =>
      cases rs with
      | cons rb rs =>
        cases rs
        exact ⟨_, _, rfl, SqT.of (S.same _ _ g), rfl, _, _, rfl, _, _, rfl, rfl, q _ ((S.set ra).set rb) fun a z => own_set (own_set z)⟩
theorem wp_for {wi : TI} {g : TG} {A : List PyData → Prop} (hi : EvI K wi Γ A) (h : ∀ items, A items → ∃ I : Nat → Env → Prop, I 0 Γ ∧ (∀ k x Γ', items[k]? = some x → I k Γ' → ∃ Γ'', TgtS K g Γ' x Γ'' ∧ Wp K t Γ'' (I (k + 1)) R) ∧ ∀ Γ', I items.length Γ' → N Γ') : Wp K (tFor wi g t) Γ N R := fun r G H σ S D n q =>
  hi r G H σ S _ fun J items G1 H1 hA x1 w1 ww => by
    obtain ⟨I, i0, hs, he⟩ := h items hA
    have S1 := S.ext x1 w1
    refine ⟨fun i m σ' H' => m = items.length - i ∧ i ≤ items.length ∧ ∃ Γ' G', I i Γ' ∧ Ext r (Own σ Γ) G1 H1 G' H' ∧ StOk K r G' H' σ' Γ' ∧ ∀ a, Own σ' Γ' a → Own σ Γ a ∨ H1 a = none,
      ⟨items.length, by simp, Nat.zero_le _, Γ, G1, i0, .refl S1.same, S1, fun a z => .inl z⟩, ?_⟩
    rintro i m σ' H' ⟨rfl, hi, Γ', G', hI, x2, S2, o2⟩
    by_cases hlt : i < items.length
    · have hit : items[i]? = some items[i] := by rw [List.getElem?_eq_getElem hlt]
      obtain ⟨go, yl⟩ := ww.go i items[i] G' H' hit x2.kn x2.sub
      refine .inr ⟨go, fun σ'' H'' => (i + 1 ≤ items.length ∧ ∃ Γ' G', I (i + 1) Γ' ∧ Ext r (Own σ Γ) G1 H1 G' H'' ∧ StOk K r G' H'' σ'' Γ' ∧ ∀ a, Own σ'' Γ' a → Own σ Γ a ∨ H1 a = none), fun σ'' H'' hN => ⟨items.length - (i + 1), by omega, rfl, hN⟩, fun x H3 y => ?_⟩
      obtain ⟨G3, x3, r3⟩ := yl x H3 y
      have S3 := S2.ext0 x3
      obtain ⟨Γ'', tg, hw⟩ := hs i items[i] Γ' hit hI
      refine tg r G3 H3 σ' x S3 r3 _ fun σ3 S4 o4 => ?_
      have X3 : Ext r (Own σ Γ) G1 H1 G3 H3 := x2.trans0 x3.any S2.row
      have OO : ∀ a, Own σ3 Γ'' a → Own σ Γ a ∨ H1 a = none := fun a z => o2 a (o4 a z)
      refine hw r G3 H3 σ3 S4 _ (fun Γ5 σ5 G5 H5 n5 x5 S5 o5 => ⟨hlt, Γ5, G5, n5, X3.trans x5 S4.row OO, S5, fun a z => ?_⟩) fun v d G5 H5 rd x5 w5 r5 => q v d G5 H5 rd (x1.wk.trans (X3.trans x5 S4.row OO) w1 fun a z => .inl z) w5 r5
      rcases o5 a z with z | z
      · exact OO a z
      · by_cases hO : Own σ Γ a
        · exact .inl hO
        · exact .inr (back_none X3 S4.row hO z)
    · have e : i = items.length := by omega
      subst e
      refine .inl ⟨ww.stop H' (fun a o e => x2.sub _ _ (x2.kn _ _ e)), ?_⟩
      refine n Γ' σ' G' H' (he Γ' hI) (x1.wk.trans x2 w1 fun a z => .inl z) S2 fun a z => (o2 a z).imp_right fun z => back_none x1 w1 (fun z => z) z
theorem wp_while (W : Nat → Env → Prop) (m0 : Nat) (h0 : W m0 Γ) (hs : ∀ m Γ', W m Γ' → ∃ b, EvT K tc Γ' b ∧ (b = true → Wp K t Γ' (fun Γ'' => ∃ m', m' < m ∧ W m' Γ'') R) ∧ (b = false → N Γ')) : Wp K (tWhile tc t) Γ N R := fun r G H σ S D n q => by
  refine ⟨fun m σ' H' => ∃ Γ' G', W m Γ' ∧ Ext r (Own σ Γ) G H G' H' ∧ StOk K r G' H' σ' Γ' ∧ ∀ a, Own σ' Γ' a → Own σ Γ a ∨ H a = none, ⟨m0, Γ, G, h0, .refl S.same, S, fun a z => .inl z⟩, ?_⟩
  rintro m σ' H' ⟨Γ', G', hW, x1, S1, o1⟩
  obtain ⟨b, ht, h1, h2⟩ := hs m Γ' hW
  refine ht r G' H' σ' S1 _ fun c G2 H2 pc x2 w2 => ?_
  subst pc
  have X2 : Ext r (Own σ Γ) G H G2 H2 := x1.trans0 x2 S1.row
  have S2 := S1.ext x2 w2
  cases c with
  | true =>
    refine iteT ⟨fun σ'' H'' => ∃ m', m' < m ∧ ∃ Γ' G', W m' Γ' ∧ Ext r (Own σ Γ) G H G' H'' ∧ StOk K r G' H'' σ'' Γ' ∧ ∀ a, Own σ'' Γ' a → Own σ Γ a ∨ H a = none, fun σ'' H'' hN => hN, ?_⟩
    refine h1 rfl r G2 H2 σ' S2 _ (fun Γ3 σ3 G3 H3 ⟨m', hm, hW'⟩ x3 S3 o3 => ⟨m', hm, Γ3, G3, hW', X2.trans x3 w2 o1, S3, fun a z => ?_⟩) fun v d G3 H3 rd x3 w3 r3 => q v d G3 H3 rd (X2.trans x3 w2 o1) w3 r3
    rcases o3 a z with z | z
    · exact o1 a z
    · by_cases hO : Own σ Γ a
      · exact .inl hO
      · exact .inr (back_none X2 w2 hO z)
  | false => exact iteF (n Γ' σ' G2 H2 (h2 rfl) X2 S2 o1)
end
/-! ### a def's body -/
def start0 (ds : List PyData) (m : Nat) : Env := ds.map Sl.val ++ List.replicate m .no
theorem st_start {K : PySem.W.Frag} {G H : Hp} {vs : List V} {ds : List PyData} {N : List Str} {m : Nat} (s : Same G H) (rs : Rps G vs ds) (hm : N.length = ds.length + m) : StOk K none G H (L2.start N vs) (start0 ds m) := by
  have hl : vs.length = ds.length := rs.length
  refine ⟨s, .no, ?_, fun i sl e => ?_, fun i j es fs a e1 _ _ _ => ?_⟩
  · unfold L2.start start0
    simp [hl]; omega
  · unfold start0 at e
    by_cases hi : i < ds.length
    · rw [List.getElem?_append_left (by simpa using hi), List.getElem?_map, List.getElem?_eq_getElem hi] at e
      cases e
      obtain ⟨v, e1, e2⟩ := rs.get' (List.getElem?_eq_getElem hi)
      refine ⟨v, ?_, e2⟩
      unfold L2.start
      rw [List.getElem?_append_left (by simpa [hl] using hi), List.getElem?_map, e1]; rfl
    · rw [List.getElem?_append_right (by simpa using hi)] at e
      have := List.mem_of_getElem? e
      rw [List.mem_replicate] at this
      rw [this.2]; trivial
  · unfold start0 at e1
    by_cases hi : i < ds.length
    · rw [List.getElem?_append_left (by simpa using hi), List.getElem?_map, List.getElem?_eq_getElem hi] at e1
      cases e1
    · rw [List.getElem?_append_right (by simpa using hi)] at e1
      have := List.mem_of_getElem? e1
      rw [List.mem_replicate] at this
      cases this.2
theorem no_own {ds : List PyData} {m : Nat} {σ : L2.St} {a : Addr} : ¬ Own σ (start0 ds m) a := by
  rintro ⟨i, es, e1, _⟩
  unfold start0 at e1
  by_cases hi : i < ds.length
  · rw [List.getElem?_append_left (by simpa using hi), List.getElem?_map, List.getElem?_eq_getElem hi] at e1
    cases e1
  · rw [List.getElem?_append_right (by simpa using hi)] at e1
    have := List.mem_of_getElem? e1
    rw [List.mem_replicate] at this
    cases this.2
/-- from the body's walk to the promise -/
theorem body_ok {K : PySem.W.Frag} {α : Type} {enc : α → List PyData} {pre : α → Prop} {f : α → PyData} {N : List Str} {t : TS} (m : Nat) (hm : ∀ a, N.length = (enc a).length + m) {vs : List V} {H : Hp} {Q : VK} {E : XK}
    (h : ∀ a, pre a → Wp K t (start0 (enc a) m) (fun _ => f a = .none) (fun d => d = f a)) (hs : spF enc pre f vs H Q E) : t { nx := fun _ H' => Q .non H', rt := Q } (L2.start N vs) H := by
  obtain ⟨a, G, s, rs, hp, q⟩ := hs
  have cl : ∀ {G' H'}, Ext none (Own (L2.start N vs) (start0 (enc a) m)) G H G' H' → Ext none NoO G H G' H' := fun {G' H'} x =>
    ⟨fun b o n _ e => x.all b o n no_own e, x.kn, x.sub, fun b o e => (x.new b o e).imp_right fun z => z.imp_right fun z => (no_own z).elim⟩
  exact h a hp none G H _ (st_start s rs (hm a)) _ (fun Γ' σ' G' H' e x S' _ => q .non G' H' (cl x) (by rw [e]; exact .non)) fun v d G' H' e x w r => q v G' H' (cl x) (by rw [← e]; exact r)
theorem spF_len {α : Type} {enc : α → List PyData} {pre : α → Prop} {f : α → PyData} {n : Nat} (hn : ∀ a, (enc a).length = n) {vs : List V} {H : Hp} {Q : VK} {E : XK} (h : spF enc pre f vs H Q E) : vs.length = n := by
  obtain ⟨a, G, _, rs, _⟩ := h
  rw [rs.length, hn]
end K23

set_option Elab.async false
set_option linter.all false
set_option maxRecDepth 100000
set_option maxHeartbeats 4000000
/-! Calls by name, what is a list or a tuple walked, enumerate of a tuple. -/
namespace K23
open PySem PySem.Spec PyProof.Rows L2
/-! ### enumerate of a tuple -/
theorem meets_enumerate_new1 {v : Value} {o : Obj} {H : Heap → Prop} (B : Begins v o H) :
    Meets (Builtin.«enumerate.__new__» ⟨[.type "enumerate", v], []⟩) (fun _ R s => H s.heap ∧
      R (.ok (.ret (.ref (s.heap.push o).objs.size))) { s with heap := (s.heap.push o).push { cls := .type "enumerate", data := .fields #[.none, .bool false, .ref s.heap.objs.size, rawInt 0, .none, .none] } }) :=
  .of_wp fun prog w A R s h => by
    obtain ⟨hp, g, d, tk, os⟩ := s; obtain ⟨h1, h⟩ := h
    have hsub := sub_enumerate
    have q1 : ∀ {A' : Around} {E : Value → Shared → Prop} {Q : Value → Shared → Prop}, Q (.ref hp.objs.size) ⟨hp.push o, g, d, tk, os⟩ → wpAny (model prog w) A' (pyIter v) Q E ⟨hp, g, d, tk, os⟩ :=
      fun q => B.iter prog w _ _ ⟨hp, g, d, tk, os⟩ _ h1 q
    wp_walk using q1
    refine wpAny_stack_any fun st => wpAny_pure ?_
    split
    · rename_i c _ _ _ _ _
      cases (c == Value.type "enumerate")
      · wp_walk using q1
        exact ⟨_, rfl, h⟩
      · wp_walk using q1
        exact ⟨_, rfl, h⟩
    · wp_walk using q1
      exact ⟨_, rfl, h⟩
theorem call_enumerate_tup {prog : Program} {w : World} {A : Around} {E : Value → Shared → Prop} {s : Shared} {l : Addr} {items : Array Value} {Q : Value → Shared → Prop} (hL : s.heap.IsTuple l items)
    (h : ∀ h', IsEnum h' (s.heap.objs.size + 1) s.heap.objs.size 0 .none → h'.IsTupleIter s.heap.objs.size l 0 → h'.objs.size = s.heap.objs.size + 2 →
      (∀ b o, s.heap.get? b = some o → h'.get? b = some o) → Q (.ref (s.heap.objs.size + 1)) { s with heap := h' }) :
    wpAny (model prog w) A (call (.type "enumerate") [.ref l]) Q E s := by
  have B := begins_tuple l items
  refine callType_new F.called_enumerate (by decide) (F.typeCall_enumerate_1 _) (F.newCall_enumerate_1 _) (fun obj => F.args_object_init_2 obj _) F.entry_enumerate_new
    (meets_enumerate_new1 B) ⟨hL, ?_⟩
  have hz : (s.heap.push { cls := .type "tuple_iterator", data := .fields #[.ref l, .int 0 0] }).objs.size = s.heap.objs.size + 1 := Heap.size_push ..
  show _ ∧ _
  rw [hz]
  have he : IsEnum ((s.heap.push { cls := .type "tuple_iterator", data := .fields #[.ref l, .int 0 0] }).push { cls := .type "enumerate", data := .fields #[.none, .bool false, .ref s.heap.objs.size, rawInt 0, .none, .none] }) (s.heap.objs.size + 1) s.heap.objs.size 0 .none := by
    have := Heap.get?_push_size (s.heap.push { cls := .type "tuple_iterator", data := .fields #[.ref l, .int 0 0] }) (o := { cls := .type "enumerate", data := .fields #[.none, .bool false, .ref s.heap.objs.size, rawInt 0, .none, .none] }) rfl
    rw [hz] at this; exact this
  refine ⟨⟨_, he, rfl⟩, h _ he ⟨_, Heap.get?_push_of_some _ (Heap.get?_push_size _ rfl), rfl, rfl⟩ (by rw [Heap.size_push, hz]) fun b o x => Heap.get?_push_of_some _ (Heap.get?_push_of_some _ x)⟩
/-- the tuple at a as it stands at each turn, each item in a new pair -/
def IteT (K : PySem.W.Frag) (a : Addr) : It :=
  ⟨fun i H => ∃ (xs : List V) (x : V), SqT K H a xs ∧ xs[i]? = some x, fun i H v H' => ∃ T x, v = .ref T ∧ H T = none ∧ H' = upd H T (.tup [.int (i : Nat), x]) ∧ ∀ xs, SqT K H a xs → xs[i]? = some x, fun i H => ∃ xs : List V, SqT K H a xs ∧ xs.length ≤ i⟩
theorem turn_enumT {P : Program} {w : World} {K : PySem.W.Frag} {elts : List Expr} {kk : Nat} {tpos : Pos} (a e it : Addr) (hai : a ≠ it) (hea : e ≠ a) :
    Turn P w K (.Tuple elts kk tpos) (IteT K a) [e, it] e (fun i h => (∃ old, IsEnum h e it ((i : Nat) : Int) old) ∧ h.IsTupleIter it a i ∧ e ≠ it) where
  mem := by simp
  obj := fun i h st b hb => by
    obtain ⟨⟨old, he⟩, ⟨o, ho, hc, hd⟩, _⟩ := st
    have e' : b = e ∨ b = it := by simpa using hb
    rcases e' with z | z
    · rw [z]; exact ⟨_, he, fun v q => nomatch q⟩
    · rw [z]; exact ⟨o, ho, fun v q => by rw [hd] at q; cases q⟩
  keep := fun i h h' st k => let ⟨⟨old, he⟩, hi, hne⟩ := st; ⟨⟨old, k e (by simp) _ he⟩, hi.at fun o q => k it (by simp) o q, hne⟩
  item := by
    intro X hP hw hK hc i pins s σ H E I hf st hg
    subst hP hw hK
    obtain ⟨⟨old, he⟩, hit, hne⟩ := st
    obtain ⟨xs, x, hq, hx⟩ := hg
    obtain ⟨its, rv, p, hz⟩ := I.tuple hq
    obtain ⟨u, hu, ru⟩ := rv.get hx
    have hel : e < s.heap.objs.size := Heap.lt_size he
    have hil : it < s.heap.objs.size := by obtain ⟨_, q, _⟩ := hit; exact Heap.lt_size q
    have hlt : i < its.toArray.size := by
      have := (List.getElem?_eq_some_iff.mp hu).1
      simpa using this
    have D := Draws.tuple (prog := X.prog) (w := X.w) (A := X.A.in1) (I.ok.hd hc) it a hai its.toArray
    refine wpAny_pyNext_enum_itemD D he ⟨hit, p⟩ hlt hne (by simp [hne, hea]) fun x' h' tk hx' ho hs' hT hsz hk => ?_
    have ex : x' = u := by
      have hx'' : its.toArray[i]? = some x' := hx'
      have : its[i]? = some x' := by simpa using hx''
      rw [hu] at this
      exact (Option.some.inj this).symm
    subst ex
    refine ⟨_, rfl, wpAny_letOwnedTupleGo_enum (s := { s with heap := h', toks := tk + 1 }) ho fun h'' he' sb => ?_⟩
    have hT2 : h''.get? s.heap.objs.size = some { cls := .type "tuple", data := .seq #[.int i tk, x'] } := (sb.2 _ (Nat.ne_of_gt hel)).trans hT
    have new : ObjOk X.prog X.w (upd H s.heap.objs.size (.tup [.int (i : Nat), x])) h'' s.heap.objs.size (.tup [.int (i : Nat), x]) :=
      ⟨by show 2 ≤ sizeLine; decide, [.int i tk, x'], .cons ⟨_, rfl⟩ (.cons ru .nil), ⟨_, hT2, rfl, _, rfl⟩⟩
    have I1 : Inv X pins σ (upd H s.heap.objs.size (.tup [.int (i : Nat), x])) { s with heap := h'', toks := tk + 1 } :=
      I.turnedNew (ch := [e, it]) (fun b ob hb q => (sb.2 b (fun z => hb (by simp [z]))).trans (hk b ob (fun z => hb (by simp [z])) (fun z => hb (by simp [z])) q)) hf (Nat.le_refl _) new
    refine ⟨.ref s.heap.objs.size, _, I1, rfl, ⟨_, x, rfl, I.hok.fresh (Nat.le_refl _), rfl, fun ys hy => by rw [I.tuple_inj hy hq]; exact hx⟩, ⟨⟨x', ?_⟩, hs'.1.at fun o q => (sb.2 it (Ne.symm hne)).trans q, hne⟩, fun b hb => ?_⟩
    · have e1 : ((i + 1 : Nat) : Int) = (i : Int) + 1 := by omega
      rw [e1]; exact he'
    · have hb' : b < s.heap.objs.size := by
        have e' : b = e ∨ b = it := by simpa using hb
        rcases e' with z | z
        · rw [z]; exact hel
        · rw [z]; exact hil
      rw [upd_ne (Nat.ne_of_lt hb')]
      exact (hf b hb).1
  done := by
    intro X hP hw hK hc i pins s σ H E I hf st hg
    subst hP hw hK
    obtain ⟨⟨old, he⟩, hit, hne⟩ := st
    obtain ⟨xs, hq, hx⟩ := hg
    obtain ⟨its, rv, p, hz⟩ := I.tuple hq
    obtain ⟨f0, f1, f2, f3, f4, f5⟩ := hf it (by simp)
    have hl := rv.length
    have hT : s.TypeIs (.ref e) "enumerate" := ⟨_, he, rfl⟩
    unfold pyNext
    refine wpAny_bind (wpAny_attempt (wpAny_callSpecial?_slot (name := Str.ofString "__next__") hT F.slot_enumerate_next
      (wpAny_call_entry F.slot_enumerate_next hT F.entry_enumerate_next ?_ (F.args_enumerate_next_1 _))))
    show wpAny _ _ (field (.ref e) 2 >>= _) _ _ _
    refine wpAny_bind (wpAny_field he rfl (x := .ref it) rfl ?_)
    refine wpAny_bind (wpAny_nextOf_tuple_end (I.ok.hd hc) hit (show s.heap.IsTuple a its.toArray from p) (by simp; omega) fun h' x' he' hx' => ?_)
    obtain ⟨o, ho, hc'⟩ := hx'
    refine wpAny_bind (wpAny_isInstance (T := "StopIteration") (b := true) ⟨o, ho, hc'⟩ isSubtype_stop ?_)
    exact wpAny_pure ⟨rfl, I.turned (t' := s.toks) (fun b o hb q => he' b o hb q) f0 f1 f3 f4 f5⟩
  self := fun A i s Q E st h => let ⟨⟨_, he⟩, _⟩ := st; wpAny_pyIter_enum he h
def iEnumT (K : PySem.W.Frag) (ta : TA) : TI := fun σ H R => ta σ H fun vs H1 => ∃ a xs, vs = [.ref a] ∧ SqT K H1 a xs ∧ R (IteT K a) H1
theorem pi_enumT {X : Cx} {e : Expr} {ta : TA} {p pos tpos : Pos} {elts : List Expr} {kk : Nat} (hg : Gl X "enumerate") (hm : X.mg "enumerate" = none) (ha : PA X [e] ta) (hs : starEach [e] X.env = [(false, eval e X.env)] := by rfl) :
    PI X (.Tuple elts kk tpos) (.Call (.Name "enumerate" p) [e] [] pos) (iEnumT X.K ta) := by
  refine ⟨fun pins s σ H R I h => ?_⟩
  refine Call_ (ld_blt I hg hm boot_enumerate (PyProof.Rows.callWith_type1 (thn (ha.run pos pins s σ H _ I h) fun us s1 ⟨vs, H1, I1, r1, q1⟩ => ?_) hs rfl))
  obtain ⟨a, xs, ex, hq, q⟩ := q1
  subst ex
  cases r1 with
  | cons r rr =>
    cases rr
    cases r
    obtain ⟨its, rv, p', hz⟩ := I1.tuple hq
    have hal : a < s1.heap.objs.size := by obtain ⟨o, eo, _⟩ := id p'; exact Heap.lt_size eo
    refine call_enumerate_tup (show s1.heap.IsTuple a its.toArray from p') fun h' he hit hsz hk => wpAny_pyIter_enum he ?_
    have I2 : Inv X pins σ H1 { s1 with heap := h' } := I1.kept (t' := s1.toks) hk
    refine ⟨s1.heap.objs.size + 1, [s1.heap.objs.size + 1, s1.heap.objs.size], _, _, H1, rfl, I2, turn_enumT a (s1.heap.objs.size + 1) s1.heap.objs.size (Nat.ne_of_lt hal) (Nat.ne_of_gt (Nat.lt_succ_of_lt hal)), ⟨⟨.none, he⟩, hit, Nat.succ_ne_self _⟩, fun b hb => ?_, q⟩
    have e' : b = s1.heap.objs.size + 1 ∨ b = s1.heap.objs.size := by simpa using hb
    have hle : s1.heap.objs.size ≤ b := by
      rcases e' with z | z
      · rw [z]; exact Nat.le_add_right _ _
      · rw [z]; exact Nat.le_refl _
    exact I1.fpOk hle (I1.hok.fresh hle)
/-! ### by data -/
section
variable {K : PySem.W.Frag} {Γ : Env} {ta tb te tl : TE}
def enumD (xs : List PyData) : List PyData := (List.range xs.length).map fun i => .tuple [.int (i : Nat), xs.getD i .none]
theorem enumD_len (xs : List PyData) : (enumD xs).length = xs.length := by simp [enumD]
theorem walks_enumT {G : Hp} {a : Addr} {xs : List V} {ds : List PyData} (g : G a = some (.tup xs)) (rs : Rps G xs ds) : Walks (IteT K a) G (enumD ds) where
  go := fun i d G2 H2 e s1 s2 => by
    have hi : i < ds.length := by have := (List.getElem?_eq_some_iff.mp e).1; rwa [enumD_len] at this
    obtain ⟨v, e1, e2⟩ := rs.get' (List.getElem?_eq_getElem hi)
    have hq : SqT K H2 a xs := SqT.of (s2 _ _ (s1 _ _ g))
    refine ⟨⟨xs, v, hq, e1⟩, fun x H3 y => ?_⟩
    obtain ⟨T, x1, rfl, n, rfl, y1⟩ := y
    have z1 := y1 xs hq
    rw [e1] at z1
    cases z1
    have ed : d = .tuple [.int (i : Nat), ds[i]] := by
      unfold enumD at e
      rw [List.getElem?_map, List.getElem?_range hi] at e
      have := Option.some.inj e
      rw [← this]
      show PyData.tuple [.int (i : Nat), ds.getD i .none] = _
      rw [List.getD_eq_getElem?_getD, List.getElem?_eq_getElem hi]; rfl
    rw [ed]
    obtain ⟨x3, r3⟩ := new_tup (ρ := none) s2 n (Rps.cons (.int (i : Nat)) (Rps.cons (e2.up s1) .nil))
    exact ⟨_, x3, r3⟩
  stop := fun H2 s => ⟨xs, SqT.of (s _ _ g), by rw [enumD_len, rs.length]; exact Nat.le_refl _⟩
theorem ei_enumT {ds : List PyData} (h : Ev K te Γ (.tuple ds)) : EvI K (iEnumT K (tCons te tNil)) Γ (fun x => x = enumD ds) := fun r G H σ S R q => h r G H σ S _ fun v d G1 H1 p1 x1 w1 r1 => by
  subst p1
  cases r1 with
  | tup g rs => exact ⟨_, _, rfl, SqT.of (x1.sub _ _ g), q _ _ G1 H1 rfl x1 w1 (walks_enumT g rs)⟩
end
/-! ### a list or a tuple, walked -/
def iSeq (K : PySem.W.Frag) (tl : TE) : TI := fun σ H R => tl σ H fun x H1 => ∃ a, x = .ref a ∧ (((∃ xs, SqL K H1 a xs) ∧ R (Itl K a) H1) ∨ ((∃ xs, SqT K H1 a xs) ∧ R (Itt K a) H1))
theorem pi_seq {X : Cx} {tg : Expr} {l : Expr} {tl : TE} (hl : PE X l tl) : PI X tg l (iSeq X.K tl) := by
  refine ⟨fun pins s σ H R I h => ?_⟩
  refine thn (hl.run pins s σ H _ I h) fun v s1 ⟨x, H1, I1, r1, q1⟩ => ?_
  obtain ⟨a, e, ⟨⟨xs, hq⟩, q⟩ | ⟨⟨xs, hq⟩, q⟩⟩ := q1
  · subst e
    cases r1
    obtain ⟨its, rv, p, hz⟩ := I1.list hq
    refine wpAny_pyIter_list p.isList ?_
    refine ⟨s1.heap.objs.size, [s1.heap.objs.size], _, _, H1, rfl, I1.kept (t' := s1.toks) fun b o e => Heap.get?_push_of_some _ e, turn_list a _, ⟨_, Heap.get?_push_size _ rfl, rfl, rfl⟩, fun b hb => ?_, q⟩
    have e : b = s1.heap.objs.size := by simpa using hb
    subst e
    exact I1.fpOk (Nat.le_refl _) (I1.hok.fresh (Nat.le_refl _))
  · subst e
    cases r1
    obtain ⟨its, rv, p, hz⟩ := I1.tuple hq
    refine wpAny_pyIter_tuple (show s1.heap.IsTuple a its.toArray from p) ?_
    refine ⟨s1.heap.objs.size, [s1.heap.objs.size], _, _, H1, rfl, I1.kept (t' := s1.toks) fun b o e => Heap.get?_push_of_some _ e, turn_tuple a _, ⟨_, Heap.get?_push_size _ rfl, rfl, rfl⟩, fun b hb => ?_, q⟩
    have e : b = s1.heap.objs.size := by simpa using hb
    subst e
    exact I1.fpOk (Nat.le_refl _) (I1.hok.fresh (Nat.le_refl _))
section
variable {K : PySem.W.Frag} {Γ : Env} {tl : TE}
theorem ei_seqL {ds : List PyData} (h : Ev K tl Γ (.list ds)) : EvI K (iSeq K tl) Γ (fun x => x = ds) := fun r G H σ S R q => h r G H σ S _ fun v d G1 H1 p1 x1 w1 r1 => by
  subst p1
  cases r1 with
  | lst g rs => exact ⟨_, rfl, .inl ⟨⟨_, SqL.of (x1.sub _ _ g)⟩, q _ _ G1 H1 rfl x1 w1 (walks_list g rs)⟩⟩
theorem ei_seqT {ds : List PyData} (h : Ev K tl Γ (.tuple ds)) : EvI K (iSeq K tl) Γ (fun x => x = ds) := fun r G H σ S R q => h r G H σ S _ fun v d G1 H1 p1 x1 w1 r1 => by
  subst p1
  cases r1 with
  | tup g rs => exact ⟨_, rfl, .inr ⟨⟨_, SqT.of (x1.sub _ _ g)⟩, q _ _ G1 H1 rfl x1 w1 (walks_tup g rs)⟩⟩
end
/-! ### the rules with the written part named -/
section
variable {X : Cx} {K : PySem.W.Frag} {tg e l : Expr} {es : List Expr} {te tl : TE} {t : TA} {p pos : Pos} {gs : TGs} {n k : Nat}
theorem lenK (h : X.K = K) : CallR X (.builtin "len") (rLenK K) := by subst h; exact call_lenK
theorem isiK (h : X.K = K) : CallR X (.builtin "isinstance") (rIsi K) := by subst h; exact call_isi
theorem isiTK (h : X.K = K) : CallR X (.builtin "isinstance") (rIsiT K) := by subst h; exact call_isiT
theorem allK (h : X.K = K) (hc : X.calm = true) : CallR X (.builtin "all") (rAll K) := by subst h; exact cr_all hc
theorem anyK (h : X.K = K) (hc : X.calm = true) : CallR X (.builtin "any") (rAny K) := by subst h; exact cr_any hc
theorem sumK (h : X.K = K) (hc : X.calm = true) : CallR X (.builtin "sum") (rSumT K) := by subst h; exact cr_sumT hc
theorem sortedK (h : X.K = K) : CallR X (.builtin "sorted") (rSortedI K) := by subst h; exact cr_sortedI
theorem inK (h : X.K = K) : OpR X (compareOp .In) (rIn K false) := by subst h; exact op_in_seq
theorem ninK (h : X.K = K) : OpR X (compareOp .NotIn) (rIn K true) := by subst h; exact op_notIn_seq
theorem eqDK (h : X.K = K) (hu : X.A.units + 64 < cLine) : OpR X (compareOp .Eq) (rEqD K) := by subst h; exact op_eqD hu
theorem neDK (h : X.K = K) (hu : X.A.units + 64 < cLine) : OpR X (compareOp .NotEq) (rNeD K) := by subst h; exact op_neD hu
theorem catK (h : X.K = K) : OpR X (binaryOp .Add) (rCatA K) := by subst h; exact op_catA
theorem ixLK (h : X.K = K) : IxR X (rIxL K) := by subst h; exact ix_list
theorem ixTK (h : X.K = K) : IxR X (rIxT K) := by subst h; exact ix_tup
theorem slTK (h : X.K = K) : SlR X (rSlA K) := by subst h; exact sl_tupA
theorem tupleK (h : X.K = K) (hg : Gl X "tuple") (hm : X.mg "tuple" = none) (ha : PE X e te) (na : starEach [e] X.env = (false, eval e X.env) :: starEach [] X.env := by rfl) : PE X (.Call (.Name "tuple" p) [e] [] pos) (tThen te (kTup K)) := by
  subst h; exact pe_tupleOf hg hm ha na
theorem starK (h : X.K = K) (he : PE X e te) (ha : PA X es t) : PA X (.Starred e p :: es) (StX.tStar K te t) := by subst h; exact StX.pa_star he ha
theorem tupI (h : X.K = K) (hl : PE X l tl) : PI X tg l (iTup K tl) := by subst h; exact pi_tup hl
theorem listI (h : X.K = K) (hl : PE X l tl) : PI X tg l (iList K tl) := by subst h; exact pi_list hl
theorem seqI (h : X.K = K) (hl : PE X l tl) : PI X tg l (iSeq K tl) := by subst h; exact pi_seq hl
theorem zipI {elts : List Expr} {kk : Nat} {tpos : Pos} {e2 : Expr} {ta : TA} (h : X.K = K) (hg : Gl X "zip") (hm : X.mg "zip" = none) (ha : PA X [e, e2] ta) (hs : starEach [e, e2] X.env = (false, eval e X.env) :: starEach [e2] X.env := by rfl) (hpl : (backTo pos (starEach [e2] X.env)).any (·.1) = false := by rfl) : PI X (.Tuple elts kk tpos) (.Call (.Name "zip" p) [e, e2] [] pos) (RZ.iZipA K ta) := by
  subst h; exact RZ.pi_zipA hg hm ha hs hpl
theorem tupG (h : X.K = K) (hc : X.calm = true) (hp : PGs X es gs) (hn : (assignEach es X.env).length = n := by rfl) (hst : (assignEach es X.env).findIdx? (·.1) = none := by rfl) : PG X (.Tuple es k pos) (gTup K n gs) := by
  subst h; exact pg_tup hc hp hn hst
end
/-! ### defs by name -/
/-- the def named x keeps the promise -/
structure Def (P : Program) (w : World) (K : PySem.W.Frag) (mg : Str → Option Value) (base : Heap) (k : Nat) (x : Str) (ps : List Str) (sp : Sp) : Prop where
  ex : ∃ f fd, mg x = some (.ref f) ∧ PySem.W.keepIn K (.ref f) = true ∧ Binds K fd ps [] ∧ FnOk P w K mg base CX0 k f fd ps sp
theorem pe_def {X : Cx} {k : Nat} {x : Str} {ps : List Str} {sp : Sp} {p pos : Pos} {e : Expr} {es : List Expr} {t : TA} (D : Def X.prog X.w X.K X.mg X.base k x ps sp) (hr : Room k X.A) (hg : Gl X x) (ha : PA X (e :: es) t) (hdb : (x == ("__debug__" : Str)) = false := by decide)
    (he : starEach (e :: es) X.env = (false, eval e X.env) :: starEach es X.env := by rfl) (hpl : (backTo pos (starEach es X.env)).any (·.1) = false := by rfl) : PE X (.Call (.Name x p) (e :: es) [] pos) (tCall sp [] E0 t) := by
  obtain ⟨f, fd, h1, h2, h3, h4⟩ := D.ex
  exact pe_call h4 hr hg h1 h2 h3 .nil pass0 ha hdb he hpl
abbrev FnD (K : PySem.W.Frag) (x : Str) (st : Stmt) (f : Addr) (fd : FuncData) : Prop := FunD K x x (defArgs st) (defBody st) (defScope st) [] [] f fd
/-- where the def stands -/
structure FnAt (K : PySem.W.Frag) (mg : Str → Option Value) (x : Str) (st : Stmt) (ps : List Str) : Prop where
  ex : ∃ f fd, mg x = some (.ref f) ∧ FnD K x st f fd ∧ Binds K fd ps []
theorem FnAt.ok {P : Program} {w : World} {K : PySem.W.Frag} {mg : Str → Option Value} {base : Heap} {x : Str} {st : Stmt} {ps N : List Str} {k : Nat} {sp : Sp} (F : FnAt K mg x st ps) (S : FnScope N ps (defScope st)) (len : ∀ vs H Q E, sp vs H Q E → vs.length = ps.length)
    (hbody : ∀ (f : Addr) (cdv : Value) (A : Around) (outer : List PySem.Env) (s : Shared) (H : Hp) (vs : List V) (Q : VK) (E : XK), Room k (A.deeper (envOfC x (defScope st) s.heap.objs.size f cdv)) → sp vs H Q E →
      ∃ t, PSs (cxOf CX0 P w K mg base N x (defScope st) f cdv A outer s H E).nox (defBody st) t ∧ t { nx := fun _ H' => Q .non H', rt := Q } (L2.start N vs) H) : Def P w K mg base (k + 1) x ps sp := by
  obtain ⟨f, fd, h1, h2, h3⟩ := F.ex
  refine ⟨f, fd, h1, h2.kp, h3, FunD.ok h2 S len fun cdv A outer s H vs Q E hr hs => ?_⟩
  obtain ⟨t, a, b⟩ := hbody f cdv A outer s H vs Q E hr hs
  exact ⟨t, a.nox, b⟩
theorem pe_globI {X : Cx} {x : Str} {i : Int} {pos : Pos} (hg : Gl X x) (hm : ∃ t, X.mg x = some (.int i t)) (hd : (x == ("__debug__" : Str)) = false := by decide) : PE X (.Name x pos) (tC (.int i)) := by
  obtain ⟨t, hm⟩ := hm
  exact pe_glob hg hm ⟨t, rfl⟩ hd
/-- the built-ins' names are free, the module's constants -/
structure Txt (mg : Str → Option Value) : Prop where
  all : mg "all" = none
  any : mg "any" = none
  bool : mg "bool" = none
  enumerate : mg "enumerate" = none
  int : mg "int" = none
  isinstance : mg "isinstance" = none
  len : mg "len" = none
  list : mg "list" = none
  max : mg "max" = none
  range : mg "range" = none
  sorted : mg "sorted" = none
  str : mg "str" = none
  sum : mg "sum" = none
  tuple : mg "tuple" = none
  zip : mg "zip" = none
  MOST_SIDE : ∃ t, mg "MOST_SIDE" = some (.int 6 t)
  MOST_VALUE : ∃ t, mg "MOST_VALUE" = some (.int 1000 t)
  MOST_BOARDS : ∃ t, mg "MOST_BOARDS" = some (.int 4 t)
end K23

set_option Elab.async false
set_option linter.all false
set_option maxRecDepth 100000
set_option maxHeartbeats 4000000
/-! Boards, lots and lines as data. -/
namespace K23
open PySem PySem.Spec PyProof.Rows L2
/-- numbers of lines -/
def dI (l : List Nat) : List PyData := l.map fun n : Nat => PyData.int (n : Int)
def nI (l : List Nat) : List Int := l.map fun n : Nat => (n : Int)
theorem dI_ints (l : List Nat) : dI l = (nI l).map .int := by unfold dI nI; rw [List.map_map]; rfl
theorem dI_len (l : List Nat) : (dI l).length = l.length := by simp [dI]
theorem dI_app (l m : List Nat) : dI (l ++ m) = dI l ++ dI m := by simp [dI]
theorem dI_one (x : Nat) : dI [x] = [.int (x : Int)] := rfl
theorem ints_contains (l : List Nat) (x : Nat) : (nI l).contains (x : Int) = l.contains x := by
  unfold nI
  rw [Bool.eq_iff_iff, List.contains_iff_mem, List.contains_iff_mem, List.mem_map]
  constructor
  · rintro ⟨y, hy, e⟩
    rwa [← Int.ofNat.inj e]
  · intro h; exact ⟨x, h, rfl⟩
theorem rangeD_nat (m n : Nat) : rangeD (m : Int) n = dI (List.range' m n) := by
  unfold rangeD dI
  rw [List.range'_eq_map_range, List.map_map]
  refine List.map_congr_left fun i _ => ?_
  show PyData.int ((m : Int) + (i : Int)) = .int ((m + i : Nat) : Int)
  rw [Int.natCast_add]
theorem rangeD_zero (n : Nat) : rangeD 0 n = dI (List.range n) := by
  have := rangeD_nat 0 n
  rw [List.range_eq_range']
  exact this
theorem rv_inTN {K : PySem.W.Frag} {neg : Bool} {x : Nat} {l : List Nat} : RV (rIn K neg) (.int x) (.tuple (dI l)) (fun d => d = .bool (if neg then !l.contains x else l.contains x)) := by
  rw [dI_ints, ← ints_contains]; exact rv_inT
theorem rv_inLN {K : PySem.W.Frag} {neg : Bool} {x : Nat} {l : List Nat} : RV (rIn K neg) (.int x) (.list (dI l)) (fun d => d = .bool (if neg then !l.contains x else l.contains x)) := by
  rw [dI_ints, ← ints_contains]; exact rv_inL
theorem rv_ltN {x y : Nat} : RV (rI0 fun i j => .bl (decide (i < j))) (.int x) (.int y) (fun d => d = .bool (decide (x < y))) := by
  have h := @rv_B (fun i j => decide (i < j)) (x : Int) (y : Int)
  have e : decide ((x : Int) < (y : Int)) = decide (x < y) := by
    by_cases c : x < y
    · rw [decide_eq_true c, decide_eq_true (Int.ofNat_lt.mpr c)]
    · rw [decide_eq_false c, decide_eq_false fun z => c (Int.ofNat_lt.mp z)]
  rw [← e]; exact h
def dP (p : Int × Int) : PyData := .tuple [.int p.1, .int p.2]
def dRow (r : List (Int × Int)) : PyData := .tuple (r.map dP)
def dB (b : Board) : PyData := .tuple (b.map dRow)
structure BD where
  h : Nat
  w : Nat
  b : Board
structure Good (B : BD) : Prop where
  len : B.b.length = B.h
  row : ∀ r ∈ B.b, r.length = B.w
  h1 : 1 ≤ B.h
  h6 : B.h ≤ 6
  w1 : 1 ≤ B.w
  w6 : B.w ≤ 6
  vals : ∀ r ∈ B.b, ∀ p ∈ r, (-1000 ≤ p.1 ∧ p.1 ≤ 1000) ∧ -1000 ≤ p.2 ∧ p.2 ≤ 1000
theorem Good.at {B : BD} (g : Good B) {i : Nat} (hi : i < B.h) : (B.b.map dRow)[i]? = some (dRow (B.b.getD i [])) := by
  have hl : i < B.b.length := by rw [g.len]; exact hi
  rw [List.getElem?_map, List.getElem?_eq_getElem hl, List.getD_eq_getElem?_getD, List.getElem?_eq_getElem hl]; rfl
theorem Good.rlen {B : BD} (g : Good B) {i : Nat} (hi : i < B.h) : (B.b.getD i []).length = B.w := by
  have hl : i < B.b.length := by rw [g.len]; exact hi
  rw [List.getD_eq_getElem?_getD, List.getElem?_eq_getElem hl]
  exact g.row _ (List.getElem_mem hl)
theorem Good.place {B : BD} (g : Good B) {i j : Nat} (hi : i < B.h) (hj : j < B.w) : ((B.b.getD i []).map dP)[j]? = some (dP (cell B.b i j)) := by
  have hl : j < (B.b.getD i []).length := by rw [g.rlen hi]; exact hj
  have e : cell B.b i j = (B.b.getD i [])[j] := by
    unfold cell
    generalize B.b.getD i [] = r at hl ⊢
    rw [List.getD_eq_getElem?_getD, List.getElem?_eq_getElem hl]; rfl
  rw [List.getElem?_map, List.getElem?_eq_getElem hl, e]; rfl
theorem atI_of {α : Type} {xs : List α} {i : Int} {j : Nat} {v : α} (e : i = (j : Int)) (h : xs[j]? = some v) : atI xs i = some v := by
  rw [e]; exact atI_nat h
theorem ev_is {K : PySem.W.Frag} {Γ : Env} {te : TE} {d : PyData} {T : String} (T0 : String) (b : Bool) (h : Ev K te Γ d) (hb : kitB T0 T = some b) (ht : tyD d = T0 := by rfl) : Ev K (tCB (rIsi K) (tCons te (tCons (tC (.ty T)) tNil))) Γ (.bool b) := ev_isi h (by rw [ht]; exact hb)
theorem ev_isT {K : PySem.W.Frag} {Γ : Env} {te : TE} {d : PyData} {T T' : String} (T0 : String) (b b' : Bool) (h : Ev K te Γ d) (hb : kitB T0 T = some b) (hb' : kitB T0 T' = some b') (ht : tyD d = T0 := by rfl) :
    Ev K (tCB (rIsiT K) (tCons te (tCons (tTup (tCons (tC (.ty T)) (tCons (tC (.ty T')) tNil))) tNil))) Γ (.bool (b || b')) := ev_isiT h (by rw [ht]; exact hb) (by rw [ht]; exact hb')
/-- a lot that may be told -/
structure Lot (h w : Nat) (lot : List Nat) : Prop where
  rise : Rising lot
  lt : ∀ x ∈ lot, x < h + w
  left : Left h w lot
theorem rising_len {l : List Nat} {n : Nat} (h : Rising l) (lt : ∀ x ∈ l, x < n) : l.length ≤ n := by
  have := List.Nodup.length_le_of_subset h.nodup (l₂ := List.range n) fun x hx => List.mem_range.mpr (lt x hx)
  rwa [List.length_range] at this
/-! ### rules in short -/
section
variable {K : PySem.W.Frag} {Γ : Env} {ta tb te tl : TE} {tt : TT} {t : TA}
theorem rv_niTN {x : Nat} {l : List Nat} : RV (rIn K true) (.int x) (.tuple (dI l)) (fun d => d = .bool (!l.contains x)) := rv_inTN
theorem rv_isTN {x : Nat} {l : List Nat} : RV (rIn K false) (.int x) (.tuple (dI l)) (fun d => d = .bool (l.contains x)) := rv_inTN
theorem rv_niLN {x : Nat} {l : List Nat} : RV (rIn K true) (.int x) (.list (dI l)) (fun d => d = .bool (!l.contains x)) := rv_inLN
theorem rv_isLN {x : Nat} {l : List Nat} : RV (rIn K false) (.int x) (.list (dI l)) (fun d => d = .bool (l.contains x)) := rv_inLN
theorem ei_rangeN {n : Nat} (h : Ea K t Γ [.int (n : Int)]) (hn : n ≤ 1000000) : EvI K (iRng1 t) Γ (fun x => x = dI (List.range n)) := by
  have := ei_range1D h (Int.natCast_nonneg n) (by omega)
  rw [Int.toNat_natCast, rangeD_zero] at this
  exact this
theorem ei_range2N {m n : Nat} (h : Ea K t Γ [.int (m : Int), .int (n : Int)]) (hm : m ≤ n) (hn : n ≤ 1000000) : EvI K (iRng2 t) Γ (fun x => x = dI (List.range' m (n - m))) := by
  have := ei_range2D h (Int.natCast_nonneg m) (by omega) (by omega)
  have e : ((n : Int) - (m : Int)).toNat = n - m := by omega
  rw [e, rangeD_nat] at this
  exact this
theorem ev_tupRgN {n : Nat} (h : Ev K te Γ (.int (n : Int))) (hn : n ≤ 1000000) : Ev K (tTupRg (tRg1 te)) Γ (.tuple (dI (List.range n))) := by
  have := ev_tupRg h (Int.natCast_nonneg n) (by omega)
  rw [Int.toNat_natCast, rangeD_zero] at this
  exact this
/-- the lines of l that pass p -/
theorem ev_lcN {wi : TI} {j : Nat} (l : List Nat) (p : Nat → Bool) (hi : EvI K wi Γ (fun x => x = dI l)) (hlen : l.length ≤ 1000000)
    (ht : ∀ a ∈ l, EvT K tt (Γ.set j (.val (.int (a : Int)))) (p a)) (hj : j < Γ.length := by exact Nat.le_of_ble_eq_true rfl) : Ev K (tLc wi (gName j) tt (tVar j) [j]) Γ (.list (dI (l.filter p))) :=
  ev_lc (l := l) (enc := fun n : Nat => .int (n : Int)) p (fun n : Nat => .int (n : Int)) hi hlen ht fun a _ _ => ev_var (by rw [List.getElem?_set_self hj])
/-- a bool of each line that passes p -/
theorem ev_lcB {wi : TI} {j : Nat} (l : List Nat) (p : Nat → Bool) (f : Nat → Bool) (hi : EvI K wi Γ (fun x => x = dI l)) (hlen : l.length ≤ 1000000)
    (ht : ∀ a ∈ l, EvT K tt (Γ.set j (.val (.int (a : Int)))) (p a)) (he : ∀ a ∈ l, p a = true → Ev K te (Γ.set j (.val (.int (a : Int)))) (.bool (f a))) : Ev K (tLc wi (gName j) tt te [j]) Γ (.list (((l.filter p).map f).map .bool)) := by
  rw [List.map_map]
  exact ev_lc (l := l) (enc := fun n : Nat => .int (n : Int)) p (fun n => .bool (f n)) hi hlen ht he
/-- a value of each line -/
theorem ev_lcmN {wi : TI} {j : Nat} (l : List Nat) (f : Nat → PyData) (hi : EvI K wi Γ (fun x => x = dI l)) (hlen : l.length ≤ 1000000)
    (he : ∀ a ∈ l, Ev K te (Γ.set j (.val (.int (a : Int)))) (f a)) : Ev K (tLc wi (gName j) tYes te [j]) Γ (.list (l.map f)) :=
  ev_lcm (l := l) (enc := fun n : Nat => .int (n : Int)) f hi hlen he
/-- pairs of two lists of ints -/
theorem ev_lcpI {xs ys : List Int} {wi : TI} {i j : Nat} (p : Int → Int → Bool) (hij : i ≠ j) (hi : EvI K wi Γ (fun x => x = pairsD (xs.map .int) (ys.map .int))) (hlen : xs.length ≤ 1000000)
    (he : ∀ a b, (a, b) ∈ xs.zip ys → Ev K te ((Γ.set i (.val (.int a))).set j (.val (.int b))) (.bool (p a b))) : Ev K (tLc wi (gTup K 2 (gCons (gName i) (gCons (gName j) gNil))) tYes te [i, j]) Γ (.list (((xs.zip ys).map fun q => p q.1 q.2).map .bool)) := by
  have h := ev_lcp (K := K) (te := te) (Γ := Γ) (wi := wi) (xs := xs.map .int) (ys := ys.map .int) (fun x y => match x, y with | .int a, .int b => .bool (p a b) | _, _ => .none) hij hi (by rw [List.length_map]; exact hlen) fun x y hxy => by
    rw [List.zip_map] at hxy
    obtain ⟨q, hq, e⟩ := List.mem_map.mp hxy
    cases e
    exact he q.1 q.2 hq
  rw [List.zip_map, List.map_map] at h
  rw [List.map_map]
  exact h
theorem sorted_nI {l : List Nat} {ms : List Int} (p : ms.Perm (nI l)) (s : ms.Pairwise (· ≤ ·)) : ms = nI (srt l) := by
  refine List.Perm.eq_of_pairwise (le := (· ≤ ·)) (fun a b _ _ h1 h2 => Int.le_antisymm h1 h2) s ?_ (p.trans ?_)
  · unfold nI
    rw [List.pairwise_map]
    exact (srt_le l).imp fun {a b} h => Int.ofNat_le.mpr h
  · unfold nI
    exact ((srt_perm l).map _).symm
theorem ev_sortedN {l : List Nat} (h : Ev K te Γ (.list (dI l))) : Ev K (tCB (rSortedI K) (tCons te tNil)) Γ (.list (dI (srt l))) := by
  rw [dI_ints] at h ⊢
  exact ev_sortedI h fun ms p s => sorted_nI p s
theorem ev_tupStar {l : List Nat} {x : Nat} (h : Ev K ta Γ (.tuple (dI l))) (hx : Ev K tb Γ (.int (x : Int))) (hl : l.length ≤ 100000) : Ev K (tTup (StX.tStar K ta (tCons tb tNil))) Γ (.tuple (dI (l ++ [x]))) := by
  rw [dI_app]
  exact ev_tup (ea_starT h (ea_c hx ea_nil)) (by rw [List.length_append, dI_len]; show l.length + 1 ≤ 1000000; omega)
theorem enumD_at {xs : List PyData} {k : Nat} {x : PyData} (h : (enumD xs)[k]? = some x) : ∃ d, xs[k]? = some d ∧ x = .tuple [.int (k : Int), d] := by
  have hi : k < xs.length := by have := (List.getElem?_eq_some_iff.mp h).1; rwa [enumD_len] at this
  refine ⟨xs[k], List.getElem?_eq_getElem hi, ?_⟩
  unfold enumD at h
  rw [List.getElem?_map, List.getElem?_range hi] at h
  have := Option.some.inj h
  rw [← this]
  show PyData.tuple [.int (k : Nat), xs.getD k .none] = _
  rw [List.getD_eq_getElem?_getD, List.getElem?_eq_getElem hi]; rfl
end
theorem len_rest (l : List Nat) (p : Nat → Bool) : l.length - (l.filter p).length = (l.filter fun x => !p x).length := by
  have : l.length = (l.filter p).length + (l.filter fun x => !p x).length := by
    induction l with
    | nil => rfl
    | cons a l ih => cases e : p a <;> simp [e] <;> omega
  omega
end K23

set_option Elab.async false
set_option linter.all false
set_option maxRecDepth 100000
set_option maxHeartbeats 0
namespace K23
open PySem PySem.Spec PyProof.Rows L2
/-! ### the text by places -/
def top (i : Nat) : Stmt := PySem.Challenge.pw_struckboards_k23_whole_several_boards.main.body.getD i (.Pass ⟨0, 0, 0, 0⟩)
abbrev sis_int : Stmt := top 10
abbrev sis_from : Stmt := top 11
abbrev sis_place : Stmt := top 12
abbrev sneed_board : Stmt := top 13
abbrev ssides : Stmt := top 14
abbrev slines_of : Stmt := top 15
abbrev sis_lot : Stmt := top 16
abbrev sneed_lot : Stmt := top 17
abbrev sneed_line : Stmt := top 18
abbrev sleft_of : Stmt := top 19
abbrev snumbers : Stmt := top 20
abbrev ssame_side : Stmt := top 21
abbrev sis_greater : Stmt := top 22
abbrev scan_fall : Stmt := top 24
abbrev swith_line : Stmt := top 25
abbrev sclosure : Stmt := top 27
abbrev slast_of : Stmt := top 28
abbrev slots_of : Stmt := top 30
abbrev sneed_boards : Stmt := top 33
abbrev sfalls_in_all : Stmt := top 34
abbrev sall_ready_of : Stmt := top 35
abbrev sall_ready : Stmt := top 36
abbrev sall_last : Stmt := top 37
abbrev sall_rounds : Stmt := top 38
abbrev sall_comes : Stmt := top 39
abbrev sneed_held : Stmt := top 40
abbrev slast_with : Stmt := top 41
abbrev sfewest_held : Stmt := top 42
abbrev skeeps : Stmt := top 43
abbrev s_law_taken : Stmt := top 45
abbrev s_law_pick : Stmt := top 46
abbrev s_law_alike : Stmt := top 47
abbrev s_law_is : Stmt := top 48
abbrev s_law_board : Stmt := top 49
abbrev s_law_rows : Stmt := top 50
abbrev s_law_columns : Stmt := top 51
abbrev s_law_numbers : Stmt := top 52
abbrev s_law_over : Stmt := top 53
abbrev s_law_ready : Stmt := top 54
abbrev s_law_with : Stmt := top 55
abbrev s_law_drawn : Stmt := top 56
abbrev s_law_lot : Stmt := top 57
abbrev s_law_end : Stmt := top 58
abbrev s_law_lots : Stmt := top 59
abbrev s_law_common : Stmt := top 60
abbrev s_law_held : Stmt := top 61
abbrev s_law_parts : Stmt := top 62
abbrev slaw : Stmt := top 63
abbrev FnP (K : PySem.W.Frag) (x : Str) (st : Stmt) (f : Addr) (fd : FuncData) : Prop := FunD K x x (defArgs st) (defBody st) (defScope st) [] [] f fd
/-! ### the head: the facts by names -/
def dd (x : Str) (st : Stmt) : He.DefD := ⟨(x, none), x, x, defArgs st, defBody st, defScope st, [], []⟩
def fn : List He.DefD := [dd "is_int" sis_int, dd "is_from" sis_from, dd "is_place" sis_place, dd "need_board" sneed_board, dd "sides" ssides, dd "lines_of" slines_of, dd "is_lot" sis_lot, dd "need_lot" sneed_lot, dd "need_line" sneed_line, dd "left_of" sleft_of, dd "numbers" snumbers, dd "same_side" ssame_side, dd "is_greater" sis_greater, dd "can_fall" scan_fall, dd "with_line" swith_line, dd "closure" sclosure, dd "last_of" slast_of, dd "lots_of" slots_of, dd "need_boards" sneed_boards, dd "falls_in_all" sfalls_in_all, dd "all_ready_of" sall_ready_of, dd "all_ready" sall_ready, dd "all_last" sall_last, dd "all_rounds" sall_rounds, dd "all_comes" sall_comes, dd "need_held" sneed_held, dd "last_with" slast_with, dd "fewest_held" sfewest_held, dd "keeps" skeeps, dd "_law_taken" s_law_taken, dd "_law_pick" s_law_pick, dd "_law_alike" s_law_alike, dd "_law_is" s_law_is, dd "_law_board" s_law_board, dd "_law_rows" s_law_rows, dd "_law_columns" s_law_columns, dd "_law_numbers" s_law_numbers, dd "_law_over" s_law_over, dd "_law_ready" s_law_ready, dd "_law_with" s_law_with, dd "_law_drawn" s_law_drawn, dd "_law_lot" s_law_lot, dd "_law_end" s_law_end, dd "_law_lots" s_law_lots, dd "_law_common" s_law_common, dd "_law_held" s_law_held, dd "_law_parts" s_law_parts, dd "law" slaw]
def fa : List He.Fa := [.glo "is_int", .glo "is_from", .glo "is_place", .glo "need_board", .glo "sides", .glo "lines_of", .glo "is_lot", .glo "need_lot", .glo "need_line", .glo "left_of", .glo "numbers", .glo "same_side", .glo "is_greater", .glo "can_fall", .glo "with_line", .glo "closure", .glo "last_of", .glo "lots_of", .glo "need_boards", .glo "falls_in_all", .glo "all_ready_of", .glo "all_ready", .glo "all_last", .glo "all_rounds", .glo "all_comes", .glo "need_held", .glo "last_with", .glo "fewest_held", .glo "keeps", .glo "_law_taken", .glo "_law_pick", .glo "_law_alike", .glo "_law_is", .glo "_law_board", .glo "_law_rows", .glo "_law_columns", .glo "_law_numbers", .glo "_law_over", .glo "_law_ready", .glo "_law_with", .glo "_law_drawn", .glo "_law_lot", .glo "_law_end", .glo "_law_lots", .glo "_law_common", .glo "_law_held", .glo "_law_parts", .glo "law", .free "all", .free "any", .free "bool", .free "enumerate", .free "int", .free "isinstance", .free "len", .free "list", .free "max", .free "range", .free "sorted", .free "str", .free "sum", .free "tuple", .free "zip", .int "MOST_SIDE" 6, .int "MOST_VALUE" 1000, .int "MOST_BOARDS" 4, .glo "NeverFalls", .exc "NeverFalls", .exm "NeverFalls" "NeverFalls" true]
def tf : List He.Defn := [("lots_of", none)]
abbrev R : PySem.W.OpenRow := PySem.W.OpenLaw.row PySem.Challenge.rw_struckboards_k23_whole_several_boards
abbrev hk : PySem.W.Hook := He.hookX 4 fa fn [] tf fun _ => true
def ob (s : PySem.W.SharedT) : He.AlX := He.obsX 4 fa fn [] tf (fun _ => true) (HandSHeadRun.getT s)
theorem ob_eq (s : PySem.W.SharedT) : ob s = hk.obs s.abs := He.obsX_eq (HandSHeadRun.getT_eq s)
def loose : List Str := (["BoardError", "BadBoard", "BadLot", "BadLine", "NeverFalls", "BadBoards", "MOST_SIDE", "MOST_VALUE", "is_int", "is_from", "is_place", "need_board", "sides", "lines_of", "is_lot", "need_lot", "need_line", "left_of", "numbers", "same_side", "is_greater", "can_fall", "with_line", "closure", "last_of", "lots_of", "MOST_BOARDS", "need_boards", "falls_in_all", "all_ready_of"] : List Str) ++ (["all_ready", "all_last", "all_rounds", "all_comes", "need_held", "last_with", "fewest_held", "keeps", "_law_taken", "_law_pick", "_law_alike", "_law_is", "_law_board", "_law_rows", "_law_columns", "_law_numbers", "_law_over", "_law_ready", "_law_with", "_law_drawn", "_law_lot", "_law_end", "_law_lots", "_law_common", "_law_held", "_law_parts"] : List Str)
theorem run (w : World) : HandSHeadRun.RunEq R (PySem.W.view R.prog [63]) hk ob 6000 loose w := by
  intro os
  kernel_rfl
end K23

set_option Elab.async false
set_option linter.all false
set_option maxRecDepth 100000
set_option maxHeartbeats 4000000
namespace K23
open PySem PySem.Spec PyProof.Rows L2
/-! ### is_int: slots 0 value -/
abbrev N_is_int : List Str := ["value"]
theorem sc_is_int : FnScope N_is_int ["value"] (defScope sis_int) := ⟨rfl, rfl, rfl, by decide +kernel, rfl, by decide +kernel, by decide +kernel⟩
abbrev E_is_int : (Int) → List PyData := fun i => [.int i]
abbrev R_is_int : (Int) → Prop := fun _ => True
abbrev V_is_int : (Int) → PyData := fun _ => .bool true
abbrev SP_is_int : Sp := spF E_is_int R_is_int V_is_int
theorem ok_is_int {P : Program} {w : World} {K : PySem.W.Frag} {mg : Str → Option Value} {base : Heap} (T : Txt mg) (F : FnAt K mg "is_int" sis_int ["value"]) : Def P w K mg base 1 "is_int" ["value"] SP_is_int := by
  refine F.ok sc_is_int (fun vs H Q E h => spF_len (n := 1) (fun _ => rfl) h) (fun f cdv A outer s H vs Q E hr h => ⟨_, (pss_one (ps_ret (pe_and (pe_callB (isiK (K := K) rfl) (by rfl) T.isinstance (by decide +kernel) (pa_cons (pv 0) (pa_cons (pe_bltn (v := .ty "int") (by rfl) T.int boot_int rfl) pa_nil))) (pe_one (pe_not (pe_callB (isiK (K := K) rfl) (by rfl) T.isinstance (by decide +kernel) (pa_cons (pv 0) (pa_cons (pe_bltn (v := .ty "bool") (by rfl) T.bool boot_bool rfl) pa_nil)))))))), body_ok (K := K) 0 (fun _ => rfl) (fun a hp => ?_) h⟩)
  exact wp_retD (ev_andV (ev_is "int" true ev_var (by decide +kernel)) (fun _ => ev_notV (ev_is "int" false ev_var (by decide +kernel))) (fun e => by cases e)) rfl

/-! ### is_from: slots 0 value, 1 least, 2 most -/
abbrev N_is_from : List Str := ["value", "least", "most"]
theorem sc_is_from : FnScope N_is_from ["value", "least", "most"] (defScope sis_from) := ⟨rfl, rfl, rfl, by decide +kernel, rfl, by decide +kernel, by decide +kernel⟩
abbrev E_is_from : (Int × Int × Int) → List PyData := fun a => [.int a.1, .int a.2.1, .int a.2.2]
abbrev R_is_from : (Int × Int × Int) → Prop := fun _ => True
abbrev V_is_from : (Int × Int × Int) → PyData := fun a => .bool (decide (a.2.1 ≤ a.1) && decide (a.1 ≤ a.2.2))
abbrev SP_is_from : Sp := spF E_is_from R_is_from V_is_from
theorem ok_is_from {P : Program} {w : World} {K : PySem.W.Frag} {mg : Str → Option Value} {base : Heap} (T : Txt mg) (F : FnAt K mg "is_from" sis_from ["value", "least", "most"]) (D_is_int : Def P w K mg base 1 "is_int" ["value"] SP_is_int) : Def P w K mg base 2 "is_from" ["value", "least", "most"] SP_is_from := by
  refine F.ok sc_is_from (fun vs H Q E h => spF_len (n := 3) (fun _ => rfl) h) (fun f cdv A outer s H vs Q E hr h => ⟨_, (pss_one (ps_ret (pe_and (pe_def D_is_int (hr.mono (by decide)) (by rfl) (pa_cons (pv 0) pa_nil)) (pe_one (pe_chain op_le op_le (pv 1) (pv 0) (pv 2)))))), body_ok (K := K) 0 (fun _ => rfl) (fun a hp => ?_) h⟩)
  obtain ⟨v, lo, hi⟩ := a
  exact wp_retD (ev_andV (ev_call (enc := E_is_int) v (ea_c ev_var ea_nil) trivial) (fun _ => ev_chain ev_var ev_var rv_B (fun _ => ev_var) rv_B) (fun e => by cases e)) rfl

/-! ### is_place: slots 0 value, 1 one -/
abbrev N_is_place : List Str := ["value", "one"]
theorem sc_is_place : FnScope N_is_place ["value"] (defScope sis_place) := ⟨rfl, rfl, rfl, by decide +kernel, rfl, by decide +kernel, by decide +kernel⟩
abbrev E_is_place : (Int × Int) → List PyData := fun p => [dP p]
abbrev R_is_place : (Int × Int) → Prop := fun p => (-1000 ≤ p.1 ∧ p.1 ≤ 1000) ∧ -1000 ≤ p.2 ∧ p.2 ≤ 1000
abbrev V_is_place : (Int × Int) → PyData := fun _ => .bool true
abbrev SP_is_place : Sp := spF E_is_place R_is_place V_is_place
theorem ok_is_place {P : Program} {w : World} {K : PySem.W.Frag} {mg : Str → Option Value} {base : Heap} (T : Txt mg) (F : FnAt K mg "is_place" sis_place ["value"]) (D_is_from : Def P w K mg base 2 "is_from" ["value", "least", "most"] SP_is_from) : Def P w K mg base 3 "is_place" ["value"] SP_is_place := by
  refine F.ok sc_is_place (fun vs H Q E h => spF_len (n := 1) (fun _ => rfl) h) (fun f cdv A outer s H vs Q E hr h => ⟨_, (pss_cons (ps_if (PW.pt (pw_or (pt_not (pt_val (pe_callB (isiK (K := K) rfl) (by rfl) T.isinstance (by decide +kernel) (pa_cons (pv 0) (pa_cons (pe_bltn (v := .ty "tuple") (by rfl) T.tuple boot_tuple rfl) pa_nil))))) (pw_or1 (pt_cmpR op_ne (pe_callB (lenK (K := K) rfl) (by rfl) T.len PySem.boot_len (pa_cons (pv 0) pa_nil)) pe_int (nomark _))))) (pss_one (ps_ret pe_bl)) pss_nil)
      (pss_one (ps_ret (pe_callB (allK (K := K) rfl rfl) (by rfl) T.all (by decide +kernel) (pa_cons (pe_lc (own := [("one", 1)]) (tt := tYes) (g := gName 1) rfl sc_is_place.nd (tupI (K := K) rfl (pv 0)) (blkOk_by (own := [("one", 1)]) (N := N_is_place) (sc := defScope sis_place) (by decide +kernel)) (fun _ _ _ _ _ => pg_name (i := 1) sc_is_place.nd rfl (Or.inl rfl)) (fun _ _ _ _ _ => pts_nil) (fun _ _ _ _ _ => (pe_def D_is_from (hr.mono (by decide)) (by rfl) (pa_cons (pv 1) (pa_cons (pe_un un_neg (pe_globI (by rfl) T.MOST_VALUE)) (pa_cons (pe_globI (by rfl) T.MOST_VALUE) pa_nil)))))) pa_nil))))), body_ok (K := K) 1 (fun _ => rfl) (fun a hp => ?_) h⟩)
  obtain ⟨x, y⟩ := a
  refine wp_seq (N1 := fun Γ => Γ = start0 (E_is_place (x, y)) 1) (wp_no ?_ (wp_next rfl)) fun Γ e => ?_
  · exact et_or (a := false) (b := false) (et_not (a := true) (et_B (ev_is "tuple" true ev_var (by decide +kernel)))) (fun _ => et_test (Ev.to (ev_op (ev_lenT ev_var) ev_int rv_neI) rfl)) (fun e => e)
  · subst e
    refine wp_retD (ev_all (bs := [true, true]) (Ev.to (ev_lcm (l := [x, y]) (enc := .int) (fun i => .bool (decide (-1000 ≤ i) && decide (i ≤ 1000))) (ei_tupD ev_var) (by simp) fun i hi => ?_) ?_)) rfl
    · exact ev_call (enc := E_is_from) (f := V_is_from) (i, -1000, 1000) (ea_c ev_var (ea_c (ev_neg ev_int) (ea_c ev_int ea_nil))) trivial
    · obtain ⟨⟨h1, h2⟩, h3, h4⟩ := hp
      simp [h1, h2, h3, h4]

/-! ### need_board: slots 0 value, 1 index, 2 row, 3 place -/
abbrev N_need_board : List Str := ["value", "index", "row", "place"]
theorem sc_need_board : FnScope N_need_board ["value"] (defScope sneed_board) := ⟨rfl, rfl, rfl, by decide +kernel, rfl, by decide +kernel, by decide +kernel⟩
abbrev E_need_board : (BD) → List PyData := fun B => [dB B.b]
abbrev R_need_board : (BD) → Prop := Good
abbrev V_need_board : (BD) → PyData := fun _ => .none
abbrev SP_need_board : Sp := spF E_need_board R_need_board V_need_board
theorem ok_need_board {P : Program} {w : World} {K : PySem.W.Frag} {mg : Str → Option Value} {base : Heap} (T : Txt mg) (F : FnAt K mg "need_board" sneed_board ["value"]) (D_is_place : Def P w K mg base 3 "is_place" ["value"] SP_is_place) : Def P w K mg base 4 "need_board" ["value"] SP_need_board := by
  refine F.ok sc_need_board (fun vs H Q E h => spF_len (n := 1) (fun _ => rfl) h) (fun f cdv A outer s H vs Q E hr h => ⟨_, (pss_cons (ps_if (PW.pt (pw_or (pt_not (pt_val (pe_callB (isiK (K := K) rfl) (by rfl) T.isinstance (by decide +kernel) (pa_cons (pv 0) (pa_cons (pe_bltn (v := .ty "tuple") (by rfl) T.tuple boot_tuple rfl) pa_nil))))) (pw_or1 (pt_not (pt_chain op_le op_le pe_int (pe_callB (lenK (K := K) rfl) (by rfl) T.len PySem.boot_len (pa_cons (pv 0) pa_nil)) (pe_globI (by rfl) T.MOST_SIDE)))))) (pss_one ps_never) pss_nil)
      (pss_one (ps_for PassesOwn.never rfl (pi_enumT (by rfl) T.enumerate (pa_cons (pv 0) pa_nil)) (tupG (K := K) rfl rfl (pgs_cons (pg_name (i := 1) sc_need_board.nd rfl (Or.inl rfl)) (pgs_cons (pg_name (i := 2) sc_need_board.nd rfl (Or.inl rfl)) pgs_nil))) (pss_cons (ps_if (PW.pt (pw_or (pt_not (pt_val (pe_callB (isiK (K := K) rfl) (by rfl) T.isinstance (by decide +kernel) (pa_cons (pv 2) (pa_cons (pe_bltn (v := .ty "tuple") (by rfl) T.tuple boot_tuple rfl) pa_nil))))) (pw_or (pt_not (pt_chain op_le op_le pe_int (pe_callB (lenK (K := K) rfl) (by rfl) T.len PySem.boot_len (pa_cons (pv 2) pa_nil)) (pe_globI (by rfl) T.MOST_SIDE))) (pw_or1 (pt_cmpR op_ne (pe_callB (lenK (K := K) rfl) (by rfl) T.len PySem.boot_len (pa_cons (pv 2) pa_nil)) (pe_callB (lenK (K := K) rfl) (by rfl) T.len PySem.boot_len (pa_cons (pe_ix (ixTK (K := K) rfl) (pv 0) pe_int (fun _ _ => rfl)) pa_nil)) (nomark _)))))) (pss_one ps_never) pss_nil)
      (pss_one (ps_if (pt_not (pt_val (pe_callB (allK (K := K) rfl rfl) (by rfl) T.all (by decide +kernel) (pa_cons (pe_lc (own := [("place", 3)]) (tt := tYes) (g := gName 3) rfl sc_need_board.nd (tupI (K := K) rfl (pv 2)) (blkOk_by (own := [("place", 3)]) (N := N_need_board) (sc := defScope sneed_board) (by decide +kernel)) (fun _ _ _ _ _ => pg_name (i := 3) sc_need_board.nd rfl (Or.inl rfl)) (fun _ _ _ _ _ => pts_nil) (fun _ _ _ _ _ => (pe_def D_is_place (hr.mono (by decide)) (by rfl) (pa_cons (pv 3) pa_nil)))) pa_nil)))) (pss_one ps_never) pss_nil)))))), body_ok (K := K) 3 (fun _ => rfl) (fun a hp => ?_) h⟩)
  refine wp_seq (N1 := fun Γ => Γ = start0 (E_need_board a) 3) (wp_no ?_ (wp_next rfl)) fun Γ e => ?_
  · refine et_or (a := false) (b := false) (et_not (a := true) (et_B (ev_is "tuple" true ev_var (by decide +kernel)))) (fun _ => EvT.to (et_not (et_test (ev_chain ev_int (ev_lenT ev_var) rv_B (fun _ => ev_int) rv_B))) ?_) (fun e => e)
    have h1 := hp.h1; have h6 := hp.h6
    rw [List.length_map, hp.len, decide_eq_true (by omega), decide_eq_true (by omega)]; rfl
  subst e
  refine wp_for (ei_enumT ev_var) fun items e => ⟨fun k Γ => ∃ s1 s2, Γ = [.val (dB a.b), s1, s2, .no], ⟨.no, .no, rfl⟩, ?_, fun _ _ => rfl⟩
  subst e
  rintro k x Γ hx ⟨s1, s2, rfl⟩
  obtain ⟨d, hd, rfl⟩ := enumD_at hx
  rw [List.getElem?_map] at hd
  obtain ⟨r, hr', rfl⟩ := Option.map_eq_some_iff.mp hd
  have hm : r ∈ a.b := List.mem_of_getElem? hr'
  have hw := hp.row r hm
  have h0 : (a.b.map dRow)[0]? = some (dRow (a.b.getD 0 [])) := hp.at hp.h1
  refine ⟨_, tgs_pair, ?_⟩
  refine wp_seq (N1 := fun Γ => Γ = [.val (dB a.b), .val (.int (k : Int)), .val (dRow r), .no]) (wp_no ?_ (wp_next rfl)) fun Γ e => ?_
  · have h1 := hp.w1; have h6 := hp.w6
    refine et_or (a := false) (b := false) (et_not (a := true) (et_B (ev_is "tuple" true ev_var (by decide +kernel)))) (fun _ => et_or (a := false) (b := false) (EvT.to (et_not (et_test (ev_chain ev_int (ev_lenT ev_var) rv_B (fun _ => ev_int) rv_B))) ?_) (fun _ => et_test (Ev.to (ev_op (ev_lenT ev_var) (ev_lenT (Ev.to (ev_op ev_var ev_int (rv_ixT (atI_of rfl h0))) rfl)) rv_neI) ?_)) (fun e => e)) (fun e => e)
    · rw [List.length_map, hw, decide_eq_true (by omega), decide_eq_true (by omega)]; rfl
    · rw [List.length_map, List.length_map, hw, hp.rlen hp.h1, decide_eq_true rfl]; rfl
  subst e
  have w6 := hp.w6
  refine wp_no (et_not (a := true) (et_B (Ev.to (ev_all (bs := r.map fun _ => true) (Ev.to (ev_lcm (l := r) (enc := dP) (fun _ => .bool true) (ei_tupD ev_var) (by omega) fun p hp' => ev_call (enc := E_is_place) (f := V_is_place) p (ea_c ev_var ea_nil) (hp.vals r hm p hp')) ?_)) ?_))) (wp_next ⟨_, _, rfl⟩)
  · rw [List.map_map]; rfl
  · have : (r.map fun _ => true).all id = true := by rw [List.all_map]; exact List.all_eq_true.mpr fun _ _ => rfl
    rw [this]

/-! ### sides: slots 0 board -/
abbrev N_sides : List Str := ["board"]
theorem sc_sides : FnScope N_sides ["board"] (defScope ssides) := ⟨rfl, rfl, rfl, by decide +kernel, rfl, by decide +kernel, by decide +kernel⟩
abbrev E_sides : (BD) → List PyData := fun B => [dB B.b]
abbrev R_sides : (BD) → Prop := Good
abbrev V_sides : (BD) → PyData := fun B => .tuple [.int (B.h : Int), .int (B.w : Int)]
abbrev SP_sides : Sp := spF E_sides R_sides V_sides
theorem ok_sides {P : Program} {w : World} {K : PySem.W.Frag} {mg : Str → Option Value} {base : Heap} (T : Txt mg) (F : FnAt K mg "sides" ssides ["board"]) : Def P w K mg base 1 "sides" ["board"] SP_sides := by
  refine F.ok sc_sides (fun vs H Q E h => spF_len (n := 1) (fun _ => rfl) h) (fun f cdv A outer s H vs Q E hr h => ⟨_, (pss_one (ps_ret (pe_tup (pa_cons (pe_callB (lenK (K := K) rfl) (by rfl) T.len PySem.boot_len (pa_cons (pv 0) pa_nil)) (pa_cons (pe_callB (lenK (K := K) rfl) (by rfl) T.len PySem.boot_len (pa_cons (pe_ix (ixTK (K := K) rfl) (pv 0) pe_int (fun _ _ => rfl)) pa_nil)) pa_nil))))), body_ok (K := K) 0 (fun _ => rfl) (fun a hp => ?_) h⟩)
  refine wp_retD (Ev.to (ev_tup (ea_c (ev_lenT ev_var) (ea_c (ev_lenT (Ev.to (ev_op ev_var ev_int (rv_ixT (atI_of rfl (hp.at hp.h1)))) rfl)) ea_nil)) (by simp)) ?_) rfl
  rw [List.length_map, List.length_map, hp.len, hp.rlen hp.h1]

/-! ### lines_of: slots 0 board -/
abbrev N_lines_of : List Str := ["board"]
theorem sc_lines_of : FnScope N_lines_of ["board"] (defScope slines_of) := ⟨rfl, rfl, rfl, by decide +kernel, rfl, by decide +kernel, by decide +kernel⟩
abbrev E_lines_of : (BD) → List PyData := fun B => [dB B.b]
abbrev R_lines_of : (BD) → Prop := Good
abbrev V_lines_of : (BD) → PyData := fun B => .tuple (dI (List.range (B.h + B.w)))
abbrev SP_lines_of : Sp := spF E_lines_of R_lines_of V_lines_of
theorem ok_lines_of {P : Program} {w : World} {K : PySem.W.Frag} {mg : Str → Option Value} {base : Heap} (T : Txt mg) (F : FnAt K mg "lines_of" slines_of ["board"]) (D_sides : Def P w K mg base 1 "sides" ["board"] SP_sides) : Def P w K mg base 2 "lines_of" ["board"] SP_lines_of := by
  refine F.ok sc_lines_of (fun vs H Q E h => spF_len (n := 1) (fun _ => rfl) h) (fun f cdv A outer s H vs Q E hr h => ⟨_, (pss_one (ps_ret (pe_tupRg rfl (by rfl) T.tuple (prg_1 (by rfl) T.range (pe_callB (sumK (K := K) rfl rfl) (by rfl) T.sum (by decide +kernel) (pa_cons (pe_def D_sides (hr.mono (by decide)) (by rfl) (pa_cons (pv 0) pa_nil)) pa_nil)))))), body_ok (K := K) 0 (fun _ => rfl) (fun a hp => ?_) h⟩)
  have h6 := hp.h6; have w6 := hp.w6
  refine wp_retD (ev_tupRgN (n := a.h + a.w) (Ev.to (ev_sumT (ns := [(a.h : Int), (a.w : Int)]) (ev_call (enc := E_sides) (f := V_sides) a (ea_c ev_var ea_nil) hp)) ?_) (by omega)) rfl
  simp
end K23

set_option Elab.async false
set_option linter.all false
set_option maxRecDepth 100000
set_option maxHeartbeats 4000000
namespace K23
open PySem PySem.Spec PyProof.Rows L2
/-! ### is_lot: slots 0 board, 1 value, 2 rows, 3 a, 4 b, 5 one -/
abbrev N_is_lot : List Str := ["board", "value", "rows", "a", "b", "one"]
theorem sc_is_lot : FnScope N_is_lot ["board", "value"] (defScope sis_lot) := ⟨rfl, rfl, rfl, by decide +kernel, rfl, by decide +kernel, by decide +kernel⟩
abbrev E_is_lot : (BD × List Nat) → List PyData := fun a => [dB a.1.b, .tuple (dI a.2)]
abbrev R_is_lot : (BD × List Nat) → Prop := fun a => Good a.1 ∧ Lot a.1.h a.1.w a.2
abbrev V_is_lot : (BD × List Nat) → PyData := fun _ => .bool true
abbrev SP_is_lot : Sp := spF E_is_lot R_is_lot V_is_lot
theorem ok_is_lot {P : Program} {w : World} {K : PySem.W.Frag} {mg : Str → Option Value} {base : Heap} (T : Txt mg) (F : FnAt K mg "is_lot" sis_lot ["board", "value"]) (D_is_from : Def P w K mg base 2 "is_from" ["value", "least", "most"] SP_is_from) (D_sides : Def P w K mg base 1 "sides" ["board"] SP_sides) : Def P w K mg base 3 "is_lot" ["board", "value"] SP_is_lot := by
  refine F.ok sc_is_lot (fun vs H Q E h => spF_len (n := 2) (fun _ => rfl) h) (fun f cdv A outer s H vs Q E hr h => ⟨_, (pss_cons (ps_if (PW.pt (pw_or (pt_not (pt_val (pe_callB (isiK (K := K) rfl) (by rfl) T.isinstance (by decide +kernel) (pa_cons (pv 1) (pa_cons (pe_bltn (v := .ty "tuple") (by rfl) T.tuple boot_tuple rfl) pa_nil))))) (pw_or1 (pt_not (pt_val (pe_callB (allK (K := K) rfl rfl) (by rfl) T.all (by decide +kernel) (pa_cons (pe_lc (own := [("one", 5)]) (tt := tYes) (g := gName 5) rfl sc_is_lot.nd (tupI (K := K) rfl (pv 1)) (blkOk_by (own := [("one", 5)]) (N := N_is_lot) (sc := defScope sis_lot) (by decide +kernel)) (fun _ _ _ _ _ => pg_name (i := 5) sc_is_lot.nd rfl (Or.inl rfl)) (fun _ _ _ _ _ => pts_nil) (fun _ _ _ _ _ => (pe_def D_is_from (hr.mono (by decide)) (by rfl) (pa_cons (pv 5) (pa_cons pe_int (pa_cons (pe_op op_sub (pe_callB (sumK (K := K) rfl rfl) (by rfl) T.sum (by decide +kernel) (pa_cons (pe_def D_sides (hr.mono (by decide)) (by rfl) (pa_cons (pv 0) pa_nil)) pa_nil)) pe_int) pa_nil)))))) pa_nil))))))) (pss_one (ps_ret pe_bl)) pss_nil)
      (pss_cons (ps_if (pt_val (pe_callB (anyK (K := K) rfl rfl) (by rfl) T.any (by decide +kernel) (pa_cons (pe_lc (own := [("a", 3), ("b", 4)]) (tt := tYes) (g := gTup K 2 (gCons (gName 3) (gCons (gName 4) gNil))) rfl sc_is_lot.nd (zipI (K := K) rfl (by rfl) T.zip (pa_cons (pv 1) (pa_cons (pe_slice (slTK (K := K) rfl) (pv 1) (po_some pe_int) po_none) pa_nil))) (blkOk_by (own := [("a", 3), ("b", 4)]) (N := N_is_lot) (sc := defScope sis_lot) (by decide +kernel)) (fun _ _ _ _ _ => tupG (K := K) rfl rfl (pgs_cons (pg_name (i := 3) sc_is_lot.nd rfl (Or.inl rfl)) (pgs_cons (pg_name (i := 4) sc_is_lot.nd rfl (Or.inl rfl)) pgs_nil))) (fun _ _ _ _ _ => pts_nil) (fun _ _ _ _ _ => (pe_cmpR op_ge (pv 3) (pv 4) (nomark _)))) pa_nil))) (pss_one (ps_ret pe_bl)) pss_nil)
      (pss_cons (ps_set (i := 2) sc_is_lot.nd rfl (Or.inl rfl) (pe_callB (lenK (K := K) rfl) (by rfl) T.len PySem.boot_len (pa_cons (pe_lc (own := [("one", 5)]) (g := gName 5) rfl sc_is_lot.nd (tupI (K := K) rfl (pv 1)) (blkOk_by (own := [("one", 5)]) (N := N_is_lot) (sc := defScope sis_lot) (by decide +kernel)) (fun _ _ _ _ _ => pg_name (i := 5) sc_is_lot.nd rfl (Or.inl rfl)) (fun _ _ _ _ _ => pts_one (pt_cmpR op_lt (pv 5) (pe_callB (lenK (K := K) rfl) (by rfl) T.len PySem.boot_len (pa_cons (pv 0) pa_nil)) (nomark _))) (fun _ _ _ _ _ => (pv 5))) pa_nil)))
      (pss_one (ps_ret (pe_and (pe_cmpR op_lt (pv 2) (pe_callB (lenK (K := K) rfl) (by rfl) T.len PySem.boot_len (pa_cons (pv 0) pa_nil)) (nomark _)) (pe_one (pe_cmpR op_lt (pe_op op_sub (pe_callB (lenK (K := K) rfl) (by rfl) T.len PySem.boot_len (pa_cons (pv 1) pa_nil)) (pv 2)) (pe_callB (lenK (K := K) rfl) (by rfl) T.len PySem.boot_len (pa_cons (pe_ix (ixTK (K := K) rfl) (pv 0) pe_int (fun _ _ => rfl)) pa_nil)) (nomark _))))))))), body_ok (K := K) 4 (fun _ => rfl) (fun a hp => ?_) h⟩)
  obtain ⟨B, lot⟩ := a
  obtain ⟨g, L⟩ : Good B ∧ Lot B.h B.w lot := hp
  have h1 := g.h1; have h6 := g.h6; have w1 := g.w1; have w6 := g.w6
  have hl : lot.length ≤ B.h + B.w := rising_len L.rise L.lt
  have G0 : start0 (E_is_lot (B, lot)) 4 = [.val (dB B.b), .val (.tuple (dI lot)), .no, .no, .no, .no] := rfl
  rw [G0]
  have sd : ∀ {Γ : Env}, Γ[0]? = some (.val (dB B.b)) → Ev K (tCB (rSumT K) (tCons (tCall SP_sides [] E0 (tCons (tVar 0) tNil)) tNil)) Γ (.int ((B.h + B.w : Nat) : Int)) := fun h0 => Ev.to (ev_sumT (ns := [(B.h : Int), (B.w : Int)]) (ev_call (enc := E_sides) (f := V_sides) B (ea_c (ev_var h0) ea_nil) g)) (by simp)
  refine wp_seq (N1 := fun Γ => Γ = [.val (dB B.b), .val (.tuple (dI lot)), .no, .no, .no, .no]) (wp_no ?_ (wp_next rfl)) fun Γ e => ?_
  · refine et_or (a := false) (b := false) (et_not (a := true) (et_B (ev_is "tuple" true ev_var (by decide +kernel)))) (fun _ => et_not (a := true) (et_B (Ev.to (ev_all (bs := (lot.filter fun _ => true).map fun _ => true) (ev_lcB lot (fun _ => true) (fun _ => true) (ei_tupD ev_var) (by omega) (fun _ _ => et_yes) fun x hx _ => Ev.to (ev_call (enc := E_is_from) (f := V_is_from) ((x : Int), 0, ((B.h + B.w : Nat) : Int) - 1) (ea_c ev_var (ea_c ev_int (ea_c (ev_op (sd rfl) ev_int rv_I) ea_nil))) trivial) ?_)) ?_))) (fun e => e)
    · have := L.lt x hx
      show PyData.bool (decide ((0 : Int) ≤ (x : Int)) && decide ((x : Int) ≤ ((B.h + B.w : Nat) : Int) - 1)) = .bool true
      rw [decide_eq_true (by omega), decide_eq_true (by omega)]; rfl
    · rw [List.all_map]; congr 1; exact List.all_eq_true.mpr fun _ _ => rfl
  subst e
  refine wp_seq (N1 := fun Γ => Γ = [.val (dB B.b), .val (.tuple (dI lot)), .no, .no, .no, .no]) (wp_no (et_B (Ev.to (ev_any (bs := ((nI lot).zip (nI (lot.drop 1))).map fun q => decide (q.2 ≤ q.1)) (ev_lcpI (fun a b => decide (b ≤ a)) (by decide) ?_ (by unfold nI; rw [List.length_map]; omega) fun a b hab => ev_op ev_var ev_var rv_B)) ?_)) (wp_next rfl)) fun Γ e => ?_
  · exact ei_zipT (K := K) (Γ := [.val (dB B.b), .val (.tuple (dI lot)), .no, .no, .no, .no]) (t := tCons (tVar 1) (tCons (tSl (rSlA K) (tVar 1) (tPart (tC (.int 1))) tNoPart) tNil)) (ds := (nI lot).map .int) (es := (nI (lot.drop 1)).map .int) (ea_c (Ev.to (d := .tuple (dI lot)) ev_var (by rw [dI_ints])) (ea_c (Ev.to (ev_slT (n := 1) (ds := dI lot) ev_var ev_int) (by rw [← dI_ints]; unfold dI; rw [List.map_drop])) ea_nil))
  · congr 1
    rw [List.any_map]
    refine List.any_eq_false.mpr fun q hq => ?_
    unfold nI at hq
    rw [List.zip_map] at hq
    obtain ⟨p, hp, e⟩ := List.mem_map.mp hq
    have : p.1 < p.2 := by
      obtain ⟨i, hi, e⟩ := List.mem_iff_getElem.mp hp
      rw [List.getElem_zip, List.getElem_drop] at e
      rw [← e]
      exact List.pairwise_iff_getElem.mp L.rise _ _ _ _ (by omega)
    rw [← e]
    simp only [Function.comp, Prod.map, id]
    intro z
    have := of_decide_eq_true z
    omega
  subst e
  have er : lot.length - (lot.filter fun x => decide (x < B.h)).length = (lot.filter fun x => !decide (x < B.h)).length := len_rest lot _
  have lr : (lot.filter fun x => decide (x < B.h)).length < B.h := by
    obtain ⟨⟨r, r1, r2⟩, _⟩ := L.left
    have nd : (r :: lot.filter fun x => decide (x < B.h)).Nodup := List.nodup_cons.mpr ⟨fun z => r2 ((List.mem_filter.mp z).1), L.rise.nodup.filter _⟩
    have := List.Nodup.length_le_of_subset nd (l₂ := List.range B.h) fun y hy => by
      rw [List.mem_range]
      rcases List.mem_cons.mp hy with rfl | hy
      · exact r1
      · exact of_decide_eq_true (List.mem_filter.mp hy).2
    rw [List.length_range, List.length_cons] at this
    omega
  have lc : (lot.filter fun x => !decide (x < B.h)).length < B.w := by
    obtain ⟨_, c, c1, c2, c3⟩ := L.left
    have nd : (c :: lot.filter fun x => !decide (x < B.h)).Nodup := List.nodup_cons.mpr ⟨fun z => c3 ((List.mem_filter.mp z).1), L.rise.nodup.filter _⟩
    have := List.Nodup.length_le_of_subset nd (l₂ := List.range' B.h B.w) fun y hy => by
      rw [List.mem_range'_1]
      rcases List.mem_cons.mp hy with rfl | hy
      · exact ⟨c1, c2⟩
      · have h1 := (List.mem_filter.mp hy).2
        have h2 := L.lt y ((List.mem_filter.mp hy).1)
        simp at h1
        exact ⟨h1, h2⟩
    rw [List.length_range', List.length_cons] at this
    omega
  refine wp_seq (N1 := fun Γ => Γ = [.val (dB B.b), .val (.tuple (dI lot)), .val (.int ((lot.filter fun x => decide (x < B.h)).length : Int)), .no, .no, .no]) (wp_setD (Ev.to (ev_lenL (ev_lcN lot (fun x => decide (x < B.h)) (ei_tupD ev_var) (by omega) fun x hx => et_test (Ev.to (ev_op ev_var (ev_lenT ev_var) rv_ltN) ?_))) ?_) rfl) fun Γ e => ?_
  · rw [List.length_map, g.len]
  · rw [dI_len]
  subst e
  refine wp_retD (ev_andV (a := true) (b := true) (Ev.to (ev_op ev_var (ev_lenT ev_var) rv_ltN) ?_) (fun _ => Ev.to (ev_op (ev_op (ev_lenT ev_var) ev_var rv_I) (ev_lenT (Ev.to (ev_op ev_var ev_int (rv_ixT (atI_of rfl (g.at g.h1)))) rfl)) rv_B) ?_) (fun e => e)) rfl
  · rw [List.length_map, g.len, decide_eq_true lr]
  · rw [dI_len, List.length_map, g.rlen g.h1, decide_eq_true (by
      have := List.length_filter_le (fun x => decide (x < B.h)) lot
      omega)]

/-! ### need_lot: slots 0 board, 1 value -/
abbrev N_need_lot : List Str := ["board", "value"]
theorem sc_need_lot : FnScope N_need_lot ["board", "value"] (defScope sneed_lot) := ⟨rfl, rfl, rfl, by decide +kernel, rfl, by decide +kernel, by decide +kernel⟩
abbrev E_need_lot : (BD × List Nat) → List PyData := fun a => [dB a.1.b, .tuple (dI a.2)]
abbrev R_need_lot : (BD × List Nat) → Prop := fun a => Good a.1 ∧ Lot a.1.h a.1.w a.2
abbrev V_need_lot : (BD × List Nat) → PyData := fun _ => .none
abbrev SP_need_lot : Sp := spF E_need_lot R_need_lot V_need_lot
theorem ok_need_lot {P : Program} {w : World} {K : PySem.W.Frag} {mg : Str → Option Value} {base : Heap} (T : Txt mg) (F : FnAt K mg "need_lot" sneed_lot ["board", "value"]) (D_is_lot : Def P w K mg base 3 "is_lot" ["board", "value"] SP_is_lot) : Def P w K mg base 4 "need_lot" ["board", "value"] SP_need_lot := by
  refine F.ok sc_need_lot (fun vs H Q E h => spF_len (n := 2) (fun _ => rfl) h) (fun f cdv A outer s H vs Q E hr h => ⟨_, (pss_one (ps_if (pt_not (pt_val (pe_def D_is_lot (hr.mono (by decide)) (by rfl) (pa_cons (pv 0) (pa_cons (pv 1) pa_nil))))) (pss_one ps_never) pss_nil)), body_ok (K := K) 0 (fun _ => rfl) (fun a hp => ?_) h⟩)
  exact wp_no (et_not (a := true) (et_B (ev_call (enc := E_is_lot) (f := V_is_lot) a (ea_c ev_var (ea_c ev_var ea_nil)) hp))) (wp_next rfl)

/-! ### need_line: slots 0 board, 1 value -/
abbrev N_need_line : List Str := ["board", "value"]
theorem sc_need_line : FnScope N_need_line ["board", "value"] (defScope sneed_line) := ⟨rfl, rfl, rfl, by decide +kernel, rfl, by decide +kernel, by decide +kernel⟩
abbrev E_need_line : (BD × Nat) → List PyData := fun a => [dB a.1.b, .int (a.2 : Int)]
abbrev R_need_line : (BD × Nat) → Prop := fun a => Good a.1 ∧ a.2 < a.1.h + a.1.w
abbrev V_need_line : (BD × Nat) → PyData := fun _ => .none
abbrev SP_need_line : Sp := spF E_need_line R_need_line V_need_line
theorem ok_need_line {P : Program} {w : World} {K : PySem.W.Frag} {mg : Str → Option Value} {base : Heap} (T : Txt mg) (F : FnAt K mg "need_line" sneed_line ["board", "value"]) (D_is_from : Def P w K mg base 2 "is_from" ["value", "least", "most"] SP_is_from) (D_sides : Def P w K mg base 1 "sides" ["board"] SP_sides) : Def P w K mg base 3 "need_line" ["board", "value"] SP_need_line := by
  refine F.ok sc_need_line (fun vs H Q E h => spF_len (n := 2) (fun _ => rfl) h) (fun f cdv A outer s H vs Q E hr h => ⟨_, (pss_one (ps_if (pt_not (pt_val (pe_def D_is_from (hr.mono (by decide)) (by rfl) (pa_cons (pv 1) (pa_cons pe_int (pa_cons (pe_op op_sub (pe_callB (sumK (K := K) rfl rfl) (by rfl) T.sum (by decide +kernel) (pa_cons (pe_def D_sides (hr.mono (by decide)) (by rfl) (pa_cons (pv 0) pa_nil)) pa_nil)) pe_int) pa_nil)))))) (pss_one ps_never) pss_nil)), body_ok (K := K) 0 (fun _ => rfl) (fun a hp => ?_) h⟩)
  obtain ⟨B, x⟩ := a
  obtain ⟨g, hx⟩ : Good B ∧ x < B.h + B.w := hp
  refine wp_no (et_not (a := true) (et_B (Ev.to (ev_call (enc := E_is_from) (f := V_is_from) ((x : Int), 0, ((B.h + B.w : Nat) : Int) - 1) (ea_c ev_var (ea_c ev_int (ea_c (ev_op (Ev.to (ev_sumT (ns := [(B.h : Int), (B.w : Int)]) (ev_call (enc := E_sides) (f := V_sides) B (ea_c ev_var ea_nil) g)) (by simp)) ev_int rv_I) ea_nil))) trivial) ?_))) (wp_next rfl)
  have hx : x < B.h + B.w := hx
  show PyData.bool (decide ((0 : Int) ≤ (x : Int)) && decide ((x : Int) ≤ ((B.h + B.w : Nat) : Int) - 1)) = .bool true
  rw [decide_eq_true (by omega), decide_eq_true (by omega)]; rfl

/-! ### left_of: slots 0 board, 1 lot, 2 rows, 3 one -/
abbrev N_left_of : List Str := ["board", "lot", "rows", "one"]
theorem sc_left_of : FnScope N_left_of ["board", "lot"] (defScope sleft_of) := ⟨rfl, rfl, rfl, by decide +kernel, rfl, by decide +kernel, by decide +kernel⟩
abbrev E_left_of : (BD × List Nat) → List PyData := fun a => [dB a.1.b, .tuple (dI a.2)]
abbrev R_left_of : (BD × List Nat) → Prop := fun a => Good a.1
abbrev V_left_of : (BD × List Nat) → PyData := fun a => .tuple [.tuple (dI (rowsL a.1.h a.2)), .tuple (dI (colsL a.1.h a.1.w a.2))]
abbrev SP_left_of : Sp := spF E_left_of R_left_of V_left_of
theorem ok_left_of {P : Program} {w : World} {K : PySem.W.Frag} {mg : Str → Option Value} {base : Heap} (T : Txt mg) (F : FnAt K mg "left_of" sleft_of ["board", "lot"]) (D_lines_of : Def P w K mg base 2 "lines_of" ["board"] SP_lines_of) : Def P w K mg base 3 "left_of" ["board", "lot"] SP_left_of := by
  refine F.ok sc_left_of (fun vs H Q E h => spF_len (n := 2) (fun _ => rfl) h) (fun f cdv A outer s H vs Q E hr h => ⟨_, (pss_cons (ps_set (i := 2) sc_left_of.nd rfl (Or.inl rfl) (tupleK (K := K) rfl (by rfl) T.tuple (pe_lc (own := [("one", 3)]) (g := gName 3) rfl sc_left_of.nd (pi_range1 (by rfl) T.range (pa_cons (pe_callB (lenK (K := K) rfl) (by rfl) T.len PySem.boot_len (pa_cons (pv 0) pa_nil)) pa_nil)) (blkOk_by (own := [("one", 3)]) (N := N_left_of) (sc := defScope sleft_of) (by decide +kernel)) (fun _ _ _ _ _ => pg_name (i := 3) sc_left_of.nd rfl (Or.inl rfl)) (fun _ _ _ _ _ => pts_one (pt_cmpR (ninK (K := K) rfl) (pv 3) (pv 1) (by rfl))) (fun _ _ _ _ _ => (pv 3)))))
      (pss_one (ps_ret (pe_tup (pa_cons (pv 2) (pa_cons (tupleK (K := K) rfl (by rfl) T.tuple (pe_lc (own := [("one", 3)]) (g := gName 3) rfl sc_left_of.nd (tupI (K := K) rfl (pe_slice (slTK (K := K) rfl) (pe_def D_lines_of (hr.mono (by decide)) (by rfl) (pa_cons (pv 0) pa_nil)) (po_some (pe_callB (lenK (K := K) rfl) (by rfl) T.len PySem.boot_len (pa_cons (pv 0) pa_nil))) po_none)) (blkOk_by (own := [("one", 3)]) (N := N_left_of) (sc := defScope sleft_of) (by decide +kernel)) (fun _ _ _ _ _ => pg_name (i := 3) sc_left_of.nd rfl (Or.inl rfl)) (fun _ _ _ _ _ => pts_one (pt_cmpR (ninK (K := K) rfl) (pv 3) (pv 1) (by rfl))) (fun _ _ _ _ _ => (pv 3)))) pa_nil)))))), body_ok (K := K) 2 (fun _ => rfl) (fun a hp => ?_) h⟩)
  obtain ⟨B, lot⟩ := a
  have g : Good B := hp
  have h6 := g.h6; have w6 := g.w6
  have G0 : start0 (E_left_of (B, lot)) 2 = [.val (dB B.b), .val (.tuple (dI lot)), .no, .no] := rfl
  rw [G0]
  refine wp_seq (N1 := fun Γ => Γ = [.val (dB B.b), .val (.tuple (dI lot)), .val (.tuple (dI (rowsL B.h lot))), .no]) (wp_setD (ev_tupleL (ev_lcN (List.range B.h) _ (ei_rangeN (ea_c (Ev.to (ev_lenT ev_var) ?_) ea_nil) (by omega)) (by rw [List.length_range]; omega) fun x hx => et_test (ev_op ev_var ev_var rv_niTN))) rfl) fun Γ e => ?_
  · rw [List.length_map, g.len]
  subst e
  refine wp_retD (ev_tup (ea_c ev_var (ea_c (ev_tupleL (ev_lcN (List.range' B.h B.w) _ (ei_tupD (Ev.to (ev_slT (n := B.h) (ev_call (enc := E_lines_of) (f := V_lines_of) B (ea_c ev_var ea_nil) g) (Ev.to (ev_lenT ev_var) ?_)) ?_)) (by rw [List.length_range']; omega) fun x hx => et_test (ev_op ev_var ev_var rv_niTN))) ea_nil)) (by simp)) rfl
  · rw [List.length_map, g.len]
  · congr 1
    unfold dI
    rw [← List.map_drop, List.range_eq_range', List.drop_range']
    congr 1
    rw [Nat.add_sub_cancel_left]; simp

/-! ### same_side: slots 0 board, 1 one, 2 other -/
abbrev N_same_side : List Str := ["board", "one", "other"]
theorem sc_same_side : FnScope N_same_side ["board", "one", "other"] (defScope ssame_side) := ⟨rfl, rfl, rfl, by decide +kernel, rfl, by decide +kernel, by decide +kernel⟩
abbrev E_same_side : (BD × Nat × Nat) → List PyData := fun a => [dB a.1.b, .int (a.2.1 : Int), .int (a.2.2 : Int)]
abbrev R_same_side : (BD × Nat × Nat) → Prop := fun a => Good a.1
abbrev V_same_side : (BD × Nat × Nat) → PyData := fun a => .bool (same a.1.h a.2.1 a.2.2)
abbrev SP_same_side : Sp := spF E_same_side R_same_side V_same_side
theorem ok_same_side {P : Program} {w : World} {K : PySem.W.Frag} {mg : Str → Option Value} {base : Heap} (T : Txt mg) (F : FnAt K mg "same_side" ssame_side ["board", "one", "other"]) : Def P w K mg base 1 "same_side" ["board", "one", "other"] SP_same_side := by
  refine F.ok sc_same_side (fun vs H Q E h => spF_len (n := 3) (fun _ => rfl) h) (fun f cdv A outer s H vs Q E hr h => ⟨_, (pss_one (ps_ret (pe_cmpR op_eq (pe_cmpR op_lt (pv 1) (pe_callB (lenK (K := K) rfl) (by rfl) T.len PySem.boot_len (pa_cons (pv 0) pa_nil)) (nomark _)) (pe_cmpR op_lt (pv 2) (pe_callB (lenK (K := K) rfl) (by rfl) T.len PySem.boot_len (pa_cons (pv 0) pa_nil)) (nomark _)) (nomark _)))), body_ok (K := K) 0 (fun _ => rfl) (fun a hp => ?_) h⟩)
  obtain ⟨B, x, y⟩ := a
  have g : Good B := hp
  refine wp_retD (ev_op (Ev.to (ev_op ev_var (ev_lenT ev_var) rv_ltN) ?_) (Ev.to (ev_op ev_var (ev_lenT ev_var) rv_ltN) ?_) rv_eqB) rfl
  · rw [List.length_map, g.len]
  · rw [List.length_map, g.len]
end K23

set_option linter.all false
set_option Elab.async false
/-! Strikes one behind the other, as a program makes them. -/
namespace K23
/-- lines of n, rising -/
def Ln (n : Nat) (l : List Nat) : Prop := Rising l ∧ ∀ x ∈ l, x < n
section
variable {n : Nat} {l : List Nat} {x : Nat}
theorem Ln.nil : Ln n [] := ⟨.nil, fun x hx => by cases hx⟩
theorem Ln.with (h : Ln n l) (hx : x < n) (hn : x ∉ l) : Ln n (srt (l ++ [x])) :=
  ⟨srt_rising (nodup_snoc h.1.nodup hn), fun y hy => (mem_with.mp hy).elim (h.2 y) fun e => e ▸ hx⟩
theorem Ln.more (h : Ln n l) {S : List Nat} (nd : S.Nodup) (hS : ∀ x ∈ S, x < n ∧ x ∉ l) : Ln n (srt (l ++ S)) := by
  refine ⟨srt_rising ?_, fun y hy => ?_⟩
  · rw [List.nodup_append]
    exact ⟨h.1.nodup, nd, fun a ha b hb e => (hS b hb).2 (e ▸ ha)⟩
  · rw [mem_srt, List.mem_append] at hy
    exact hy.elim (h.2 y) fun z => (hS y z).1
theorem Ln.len (h : Ln n l) : l.length ≤ n := by
  have := List.Nodup.length_le_of_subset h.1.nodup (l₂ := List.range n) fun x hx => List.mem_range.mpr (h.2 x hx)
  rwa [List.length_range] at this
theorem Ln.len_lt (h : Ln n l) (hx : x < n) (hn : x ∉ l) : l.length < n := by
  have := (h.with hx hn).len
  rw [srt_len, List.length_append, List.length_singleton] at this
  exact this
theorem len_with : (srt (l ++ [x])).length = l.length + 1 := by rw [srt_len, List.length_append, List.length_singleton]
theorem Comes.ln {R : List Nat → Nat → Prop} {W : Nat → Prop} (h : Comes n R W l) : Ln n l := ⟨h.rising, h.lt⟩
end
/-- the lot behind at most k strikes; pk tells the next line -/
def runs (pk : List Nat → Option Nat) : Nat → List Nat → List Nat
  | 0, lot => lot
  | k + 1, lot => match pk lot with | none => lot | some x => runs pk k (srt (lot ++ [x]))
def ords (pk : List Nat → Option Nat) : Nat → List Nat → List Nat → List Nat
  | 0, _, o => o
  | k + 1, lot, o => match pk lot with | none => o | some x => ords pk k (srt (lot ++ [x])) (o ++ [x])
theorem runs_none {pk : List Nat → Option Nat} {lot : List Nat} (h : pk lot = none) : ∀ k, runs pk k lot = lot
  | 0 => rfl
  | k + 1 => by unfold runs; rw [h]
theorem runs_some {pk : List Nat → Option Nat} {lot : List Nat} {x k : Nat} (h : pk lot = some x) : runs pk (k + 1) lot = runs pk k (srt (lot ++ [x])) := by
  rw [runs, h]
theorem ords_none {pk : List Nat → Option Nat} {lot o : List Nat} (h : pk lot = none) : ∀ k, ords pk k lot o = o
  | 0 => rfl
  | k + 1 => by unfold ords; rw [h]
theorem ords_some {pk : List Nat → Option Nat} {lot o : List Nat} {x k : Nat} (h : pk lot = some x) : ords pk (k + 1) lot o = ords pk k (srt (lot ++ [x])) (o ++ [x]) := by
  rw [ords, h]
theorem srt_congr {l m : List Nat} (p : l.Perm m) : srt l = srt m := srt_of ((srt_perm l).trans p) (srt_le l)
theorem srt_ords {pk : List Nat → Option Nat} : ∀ (k : Nat) (lot o : List Nat), srt o = lot → srt (ords pk k lot o) = runs pk k lot
  | 0, lot, o, h => h
  | k + 1, lot, o, h => by
    unfold ords runs
    cases e : pk lot with
    | none => exact h
    | some x =>
      refine srt_ords k _ _ ?_
      rw [← h]
      exact srt_congr ((srt_perm o).symm.append_right [x])
theorem mem_ords {pk : List Nat → Option Nat} {k : Nat} {x : Nat} : x ∈ ords pk k [] [] ↔ x ∈ runs pk k [] := by
  rw [← srt_ords (pk := pk) k [] [] (srt_of (List.Perm.refl []) .nil).symm, mem_srt]
/-- strikes go on until nothing is left -/
theorem runs_done {n : Nat} {R : List Nat → Nat → Prop} {W : Nat → Prop} {pk : List Nat → Option Nat}
    (hs : ∀ lot x, Comes n R W lot → pk lot = some x → x < n ∧ x ∉ lot ∧ W x ∧ R lot x) (hn : ∀ lot, Comes n R W lot → pk lot = none → ∀ x, x < n → x ∉ lot → W x → ¬ R lot x) :
    ∀ (k : Nat) (lot : List Nat), Comes n R W lot → n ≤ lot.length + k → Done n R W (runs pk k lot)
  | 0, lot, c, h => ⟨c, fun x hx hm _ _ => by have := c.ln.len_lt hx hm; omega⟩
  | k + 1, lot, c, h => by
    cases e : pk lot with
    | none => rw [runs_none e]; exact ⟨c, hn lot c e⟩
    | some x =>
      rw [runs_some e]
      obtain ⟨h1, h2, h3, h4⟩ := hs lot x c e
      exact runs_done hs hn k _ (.step c h1 h2 h3 h4) (by rw [len_with]; omega)
/-! ### what the program asks -/
def fallsIn (h w : Nat) (bs : List Board) (lot : List Nat) (x : Nat) : Bool := (List.range (h + w)).any fun y => !(lot ++ [x]).contains y && bs.all fun b => isGreater h w b lot x y
def canFall (h w : Nat) (b : Board) (lot : List Nat) (x : Nat) : Bool := (((List.range (h + w)).filter fun y => !(lot ++ [x]).contains y).map fun y => isGreater h w b lot x y).any id
def readyIn (h w : Nat) (bs : List Board) (lot : List Nat) : List Nat := (List.range (h + w)).filter fun x => !lot.contains x && fallsIn h w bs lot x
def someIn (h w : Nat) (b : Board) (W lot : List Nat) : List Nat := W.filter fun x => !lot.contains x && canFall h w b lot x
section
variable {h w : Nat} {b : Board} {bs : List Board} {lot W : List Nat} {x : Nat}
theorem fallsIn_iff : fallsIn h w bs lot x = true ↔ Falls h w bs lot x := by
  unfold fallsIn Falls
  rw [List.any_eq_true]
  constructor
  · rintro ⟨y, hy, e⟩
    rw [Bool.and_eq_true, List.all_eq_true] at e
    have e1 := e.1
    simp at e1
    exact ⟨y, List.mem_range.mp hy, e1.1, e1.2, fun b hb => isGreater_iff.mp (e.2 b hb)⟩
  · rintro ⟨y, h1, h2, h3, h4⟩
    refine ⟨y, List.mem_range.mpr h1, ?_⟩
    rw [Bool.and_eq_true, List.all_eq_true]
    exact ⟨by simp [h2, h3], fun b hb => isGreater_iff.mpr (h4 b hb)⟩
theorem canFall_iff : canFall h w b lot x = true ↔ Falls h w [b] lot x := by
  rw [← fallsIn_iff]
  unfold canFall fallsIn
  rw [List.any_map, List.any_filter]
  simp
theorem mem_readyIn : x ∈ readyIn h w bs lot ↔ x < h + w ∧ x ∉ lot ∧ Falls h w bs lot x := by
  unfold readyIn
  rw [List.mem_filter, List.mem_range, Bool.and_eq_true, fallsIn_iff]
  simp
theorem mem_someIn : x ∈ someIn h w b W lot ↔ x ∈ W ∧ x ∉ lot ∧ Falls h w [b] lot x := by
  unfold someIn
  rw [List.mem_filter, Bool.and_eq_true, canFall_iff]
  simp
theorem readyIn_nodup : (readyIn h w bs lot).Nodup := (rising_range _).nodup.filter _
/-- the next line of S -/
theorem head_done {n : Nat} {R : List Nat → Nat → Prop} {W : Nat → Prop} {S : List Nat → List Nat} (hS : ∀ lot x, Comes n R W lot → (x ∈ S lot ↔ x < n ∧ x ∉ lot ∧ W x ∧ R lot x)) {k : Nat} (hk : n ≤ k) : Done n R W (runs (fun lot => (S lot).head?) k []) :=
  runs_done (fun lot x c e => (hS lot x c).mp (List.mem_of_head? e)) (fun lot c e x hx hm hw hr => by
    have : x ∈ S lot := (hS lot x c).mpr ⟨hx, hm, hw, hr⟩
    rw [List.head?_eq_none_iff.mp e] at this
    cases this) k [] .nil (by simp; exact hk)
theorem last_done {n : Nat} {R : List Nat → Nat → Prop} {W : Nat → Prop} {S : List Nat → List Nat} (hS : ∀ lot x, Comes n R W lot → (x ∈ S lot ↔ x < n ∧ x ∉ lot ∧ W x ∧ R lot x)) {k : Nat} (hk : n ≤ k) : Done n R W (runs (fun lot => (S lot).getLast?) k []) :=
  runs_done (fun lot x c e => (hS lot x c).mp (List.mem_of_getLast? e)) (fun lot c e x hx hm hw hr => by
    have : x ∈ S lot := (hS lot x c).mpr ⟨hx, hm, hw, hr⟩
    rw [List.getLast?_eq_none_iff.mp e] at this
    cases this) k [] .nil (by simp; exact hk)
end
theorem runs_ln {n : Nat} {pk : List Nat → Option Nat} (h : ∀ lot x, Ln n lot → pk lot = some x → x < n ∧ x ∉ lot) : ∀ (k : Nat) (lot : List Nat), Ln n lot → Ln n (runs pk k lot)
  | 0, lot, L => L
  | k + 1, lot, L => by
    cases e : pk lot with
    | none => rw [runs_none e]; exact L
    | some x => rw [runs_some e]; exact runs_ln h k _ (L.with (h lot x L e).1 (h lot x L e).2)
def lastOf (h w : Nat) (b : Board) : List Nat := runs (fun lot => (someIn h w b (List.range (h + w)) lot).head?) (h + w) []
def lastWith (h w : Nat) (b : Board) (held : List Nat) : List Nat := runs (fun lot => (someIn h w b ((List.range (h + w)).filter fun x => !held.contains x) lot).head?) (h + w) []
theorem lastOf_ln {h w : Nat} {b : Board} : Ln (h + w) (lastOf h w b) := runs_ln (fun lot x L e => by
  have := mem_someIn.mp (List.mem_of_head? e)
  exact ⟨List.mem_range.mp this.1, this.2.1⟩) _ _ .nil
theorem lastWith_ln {h w : Nat} {b : Board} {held : List Nat} : Ln (h + w) (lastWith h w b held) := runs_ln (fun lot x L e => by
  have := mem_someIn.mp (List.mem_of_head? e)
  exact ⟨List.mem_range.mp (List.mem_filter.mp this.1).1, this.2.1⟩) _ _ .nil
theorem filter_range_succ (p : Nat → Bool) (k : Nat) : (List.range (k + 1)).filter p = (List.range k).filter p ++ if p k then [k] else [] := by
  rw [List.range_succ, List.filter_append]
  cases e : p k <;> simp [e]
/-! ### the parts of a list of lines -/
def partsL (l : List Nat) : List (List Nat) := l.foldl (fun found x => found ++ found.map fun lot => lot ++ [x]) [[]]
theorem partsL_snoc (l : List Nat) (x : Nat) : partsL (l ++ [x]) = partsL l ++ (partsL l).map fun lot => lot ++ [x] := by
  unfold partsL; rw [List.foldl_append]; rfl
theorem partsL_take {l : List Nat} {k x : Nat} (h : l[k]? = some x) : partsL (l.take (k + 1)) = partsL (l.take k) ++ (partsL (l.take k)).map fun lot => lot ++ [x] := by
  obtain ⟨hk, e⟩ := List.getElem?_eq_some_iff.mp h
  rw [List.take_succ_eq_append_getElem hk, e, partsL_snoc]
theorem snoc_ind {p : List Nat → Prop} (h0 : p []) (h1 : ∀ l x, p l → p (l ++ [x])) (l : List Nat) : p l := by
  have : ∀ m : List Nat, p m.reverse := fun m => by
    induction m with
    | nil => exact h0
    | cons x m ih => rw [List.reverse_cons]; exact h1 _ _ ih
  have := this l.reverse
  rwa [List.reverse_reverse] at this
theorem partsL_len (l : List Nat) : (partsL l).length = 2 ^ l.length := by
  refine snoc_ind (p := fun l => (partsL l).length = 2 ^ l.length) rfl (fun l x ih => ?_) l
  rw [partsL_snoc, List.length_append, List.length_map, ih, List.length_append, List.length_singleton, Nat.pow_succ]; omega
theorem mem_partsL {l m : List Nat} : m ∈ partsL l ↔ m.Sublist l := by
  refine snoc_ind (p := fun l => ∀ m, m ∈ partsL l ↔ m.Sublist l) (fun m => ?_) (fun l x ih m => ?_) l m
  · show m ∈ [[]] ↔ _
    rw [List.mem_singleton, List.sublist_nil]
  · rw [partsL_snoc, List.mem_append, List.mem_map, ih, List.sublist_append_iff]
    constructor
    · rintro (h | ⟨a, ha, rfl⟩)
      · exact ⟨m, [], by simp, h, List.nil_sublist _⟩
      · exact ⟨a, [x], rfl, (ih a).mp ha, List.Sublist.refl _⟩
    · rintro ⟨a, b, rfl, ha, hb⟩
      rcases List.sublist_cons_iff.mp hb with h | ⟨r, rfl, h⟩
      · rw [List.sublist_nil] at h; subst h; rw [List.append_nil]; exact .inl ha
      · rw [List.sublist_nil] at h; subst h; exact .inr ⟨a, (ih a).mpr ha, rfl⟩
theorem find_first {α : Type} {p : α → Bool} : ∀ {l : List α} {k : Nat} {x : α}, l[k]? = some x → (∀ j y, j < k → l[j]? = some y → p y = false) → p x = true → l.find? p = some x
  | [], k, x, h, _, _ => by simp at h
  | a :: l, 0, x, h, _, hx => by
    have : a = x := by simpa using h
    subst this
    rw [List.find?_cons_of_pos hx]
  | a :: l, k + 1, x, h, hp, hx => by
    rw [List.find?_cons_of_neg (by rw [hp 0 a (by omega) rfl]; simp)]
    exact find_first (k := k) (by simpa using h) (fun j y hj e => hp (j + 1) y (by omega) (by simpa using e)) hx
theorem find_none {α : Type} {p : α → Bool} {l : List α} (h : ∀ j y, j < l.length → l[j]? = some y → p y = false) : l.find? p = none := by
  rw [List.find?_eq_none]
  intro x hx
  obtain ⟨j, hj, e⟩ := List.mem_iff_getElem.mp hx
  rw [h j x hj (by rw [List.getElem?_eq_getElem hj, e])]; simp
/-! ### what the law computes -/
def belowL (own told : List Int) : List Nat := (List.range own.length).filter fun i => decide (told.getD i 0 ≤ own.getD i 0)
def sideL (h w : Nat) (lot : List Nat) (x : Nat) : List Nat := if x < h then rowsL h lot else colsL h w lot
def overL (h w : Nat) (b : Board) (lot : List Nat) (x : Nat) : List Nat := (sideL h w lot x).filter fun y => decide (belowL (numbers h w b lot x) (numbers h w b lot y) = [])
def linesL (h w : Nat) (lot : List Nat) : List Nat := rowsL h lot ++ colsL h w lot
def readyL (h w : Nat) (b : Board) (lot : List Nat) : List Nat := (linesL h w lot).filter fun x => !decide (overL h w b lot x = [])
def foldL (h w : Nat) (lot : List Nat) (x : Nat) (bs : List Board) (s : List Nat) : List Nat := bs.foldl (fun s b => s.filter fun y => (overL h w b lot x).contains y) s
def commonL (h w : Nat) (bs : List Board) (lot : List Nat) : List Nat := (linesL h w lot).filter fun x => !decide (foldL h w lot x (bs.drop 1) (overL h w (bs.headD []) lot x) = [])
def endL (h w : Nat) (b : Board) : List Nat := runs (fun lot => (readyL h w b lot).getLast?) 12 []
def heldL (h w : Nat) (b : Board) (held : List Nat) : List Nat := runs (fun lot => ((readyL h w b lot).filter fun x => !held.contains x).getLast?) 12 []
theorem mem_linesL {h w : Nat} {lot : List Nat} {x : Nat} : x ∈ linesL h w lot ↔ x < h + w ∧ x ∉ lot := by
  unfold linesL
  rw [List.mem_append, mem_rowsL, mem_colsL]
  constructor
  · rintro (⟨a, b⟩ | ⟨a, b, c⟩)
    · exact ⟨by omega, b⟩
    · exact ⟨b, c⟩
  · rintro ⟨a, b⟩
    by_cases h1 : x < h
    · exact .inl ⟨h1, b⟩
    · exact .inr ⟨by omega, a, b⟩
theorem cross_len {h w : Nat} {lot : List Nat} {x : Nat} : (cross h w lot x).length ≤ h + w := by
  unfold cross
  split
  · have := List.length_filter_le (fun c => !lot.contains c) (List.range' h w)
    rw [List.length_range'] at this
    unfold colsL; omega
  · have := List.length_filter_le (fun c => !lot.contains c) (List.range h)
    rw [List.length_range] at this
    unfold rowsL; omega
theorem numbers_len {h w : Nat} {b : Board} {lot : List Nat} {x : Nat} : (numbers h w b lot x).length = (cross h w lot x).length := by unfold numbers; rw [List.length_map]
theorem sideL_len {h w : Nat} {lot : List Nat} {x : Nat} : (sideL h w lot x).length ≤ h + w := by
  unfold sideL
  split
  · have := List.length_filter_le (fun c => !lot.contains c) (List.range h)
    rw [List.length_range] at this
    unfold rowsL; omega
  · have := List.length_filter_le (fun c => !lot.contains c) (List.range' h w)
    rw [List.length_range'] at this
    unfold colsL; omega
theorem linesL_len {h w : Nat} {lot : List Nat} : (linesL h w lot).length ≤ h + w := by
  unfold linesL
  have h1 := List.length_filter_le (fun c => !lot.contains c) (List.range h)
  have h2 := List.length_filter_le (fun c => !lot.contains c) (List.range' h w)
  rw [List.length_range] at h1
  rw [List.length_range'] at h2
  rw [List.length_append]
  unfold rowsL colsL; omega
theorem mem_sideL {h w : Nat} {lot : List Nat} {x y : Nat} : y ∈ sideL h w lot x ↔ y < h + w ∧ y ∉ lot ∧ (x < h ↔ y < h) := by
  unfold sideL
  split
  · rename_i hx
    rw [mem_rowsL]
    exact ⟨fun ⟨a, b⟩ => ⟨by omega, b, iff_of_true hx a⟩, fun ⟨a, b, c⟩ => ⟨c.mp hx, b⟩⟩
  · rename_i hx
    rw [mem_colsL]
    exact ⟨fun ⟨a, b, c⟩ => ⟨b, c, iff_of_false hx (by omega)⟩, fun ⟨a, b, c⟩ => ⟨by have : ¬ y < h := fun z => hx (c.mpr z); omega, a, b⟩⟩
theorem runs_next {pk : List Nat → Option Nat} {lot : List Nat} {k : Nat} : runs pk (k + 1) lot = runs pk k (match pk lot with | none => lot | some x => srt (lot ++ [x])) := by
  rw [runs]
  cases e : pk lot with
  | none => exact (runs_none e k).symm
  | some x => rfl
/-! ### rounds -/
def rnds (S : List Nat → List Nat) : Nat → List Nat → List (List Nat)
  | 0, _ => []
  | k + 1, lot => if S lot = [] then [] else S lot :: rnds S k (srt (lot ++ S lot))
def rend (S : List Nat → List Nat) : Nat → List Nat → List Nat
  | 0, lot => lot
  | k + 1, lot => if S lot = [] then lot else rend S k (srt (lot ++ S lot))
theorem rnds_none {S : List Nat → List Nat} {lot : List Nat} (e : S lot = []) : ∀ k, rnds S k lot = []
  | 0 => rfl
  | k + 1 => by unfold rnds; rw [if_pos e]
theorem rend_none {S : List Nat → List Nat} {lot : List Nat} (e : S lot = []) : ∀ k, rend S k lot = lot
  | 0 => rfl
  | k + 1 => by unfold rend; rw [if_pos e]
end K23

set_option Elab.async false
set_option linter.all false
set_option maxRecDepth 100000
set_option maxHeartbeats 4000000
/-! Several boards; equality of lots. -/
namespace K23
open PySem PySem.Spec PyProof.Rows L2
structure BDs where
  h : Nat
  w : Nat
  bs : List Board
def dBs (S : BDs) : PyData := .tuple (S.bs.map dB)
structure GoodS (S : BDs) : Prop where
  all : ∀ b ∈ S.bs, Good ⟨S.h, S.w, b⟩
  ne : S.bs ≠ []
  most : S.bs.length ≤ 4
def BDs.one (S : BDs) : BD := ⟨S.h, S.w, S.bs.headD []⟩
theorem GoodS.one {S : BDs} (g : GoodS S) : Good S.one := g.all _ (by
  have := g.ne
  cases e : S.bs with
  | nil => exact absurd e this
  | cons b bs => exact List.mem_cons_self)
theorem GoodS.at {S : BDs} (g : GoodS S) : (S.bs.map dB)[0]? = some (dB S.one.b) := by
  have := g.ne
  unfold BDs.one
  cases e : S.bs with
  | nil => exact absurd e this
  | cons b bs => rfl
theorem canLay_dI : ∀ l : List Nat, PyData.canLayAll0 (dI l) = true
  | [] => by simp only [dI, List.map_nil, PyData.canLayAll0]
  | x :: l => by
    have := canLay_dI l
    simp only [dI, List.map_cons, PyData.canLayAll0, PyData.canLay0, Bool.true_and] at this ⊢
    exact this
theorem depth_dI : ∀ l : List Nat, PyData.depthAll (dI l) = 0
  | [] => by simp only [dI, List.map_nil, PyData.depthAll]
  | x :: l => by
    have := depth_dI l
    simp only [dI, List.map_cons, PyData.depthAll, PyData.depth] at this ⊢
    omega
theorem shaped_tI (l : List Nat) : SeqAt.shaped (.tuple (dI l)) = true := by
  unfold SeqAt.shaped
  simp only [PyData.canLay0, PyData.depth, canLay_dI, depth_dI]; decide
theorem shaped_lI (l : List Nat) : SeqAt.shaped (.list (dI l)) = true := by
  unfold SeqAt.shaped
  simp only [PyData.canLay0, PyData.depth, canLay_dI, depth_dI]; decide
theorem eqvAll_dI : ∀ l m : List Nat, PyData.eqvAll (dI l) (dI m) = decide (l = m)
  | [], [] => by simp [dI, PyData.eqvAll]
  | [], x :: m => by simp [dI, PyData.eqvAll]
  | x :: l, [] => by simp [dI, PyData.eqvAll]
  | x :: l, y :: m => by
    have := eqvAll_dI l m
    unfold dI at this ⊢
    rw [List.map_cons, List.map_cons, PyData.eqvAll, this, PyData.eqv]
    by_cases h : x = y
    · subst h; by_cases k : l = m <;> simp [k]
    · have : ((x : Int) == (y : Int)) = false := by simp; omega
      rw [this]; simp [h]
section
variable {K : PySem.W.Frag} {l m : List Nat}
theorem rv_eqTI : RV (rEqD K) (.tuple (dI l)) (.tuple (dI m)) (fun x => x = .bool (decide (l = m))) := by
  have := rv_eqD (K := K) (shaped_tI l) (shaped_tI m)
  rwa [PyData.eqv, eqvAll_dI] at this
theorem rv_neTI : RV (rNeD K) (.tuple (dI l)) (.tuple (dI m)) (fun x => x = .bool (!decide (l = m))) := by
  have := rv_neD (K := K) (shaped_tI l) (shaped_tI m)
  rwa [PyData.eqv, eqvAll_dI] at this
theorem rv_eqLI : RV (rEqD K) (.list (dI l)) (.list (dI m)) (fun x => x = .bool (decide (l = m))) := by
  have := rv_eqD (K := K) (shaped_lI l) (shaped_lI m)
  rwa [PyData.eqv, eqvAll_dI] at this
theorem rv_neLI : RV (rNeD K) (.list (dI l)) (.list (dI m)) (fun x => x = .bool (!decide (l = m))) := by
  have := rv_neD (K := K) (shaped_lI l) (shaped_lI m)
  rwa [PyData.eqv, eqvAll_dI] at this
/-- a literal without items -/
theorem ev_T0 {Γ : Env} : Ev K (tTup tNil) Γ (.tuple (dI [])) := ev_tup ea_nil (by decide)
theorem ev_L0 {Γ : Env} : Ev K (tLst tNil) Γ (.list (dI [])) := ev_lst ea_nil (by decide)
theorem at0 {x : Nat} {l : List Nat} : atI (dI (x :: l)) 0 = some (.int (x : Int)) := atI_of rfl rfl
end
theorem dIr_at {n k : Nat} {d : PyData} (h : (dI (List.range n))[k]? = some d) : d = .int (k : Int) ∧ k < n := by
  have hi : k < (dI (List.range n)).length := (List.getElem?_eq_some_iff.mp h).1
  rw [dI_len, List.length_range] at hi
  unfold dI at h
  rw [List.getElem?_map, List.getElem?_range hi] at h
  exact ⟨(Option.some.inj h).symm, hi⟩
theorem dI_at {l : List Nat} {k : Nat} {d : PyData} (h : (dI l)[k]? = some d) : ∃ x, l[k]? = some x ∧ d = .int (x : Int) := by
  unfold dI at h
  rw [List.getElem?_map] at h
  obtain ⟨x, h1, h2⟩ := Option.map_eq_some_iff.mp h
  exact ⟨x, h1, h2.symm⟩
end K23

set_option Elab.async false
set_option linter.all false
set_option maxRecDepth 100000
set_option maxHeartbeats 4000000
namespace K23
open PySem PySem.Spec PyProof.Rows L2
/-! ### numbers: slots 0 board, 1 lot, 2 line, 3 rows, 4 columns, 5 row, 6 column -/
abbrev N_numbers : List Str := ["board", "lot", "line", "rows", "columns", "row", "column"]
theorem sc_numbers : FnScope N_numbers ["board", "lot", "line"] (defScope snumbers) := ⟨rfl, rfl, rfl, by decide +kernel, rfl, by decide +kernel, by decide +kernel⟩
abbrev E_numbers : (BD × List Nat × Nat) → List PyData := fun a => [dB a.1.b, .tuple (dI a.2.1), .int (a.2.2 : Int)]
abbrev R_numbers : (BD × List Nat × Nat) → Prop := fun a => Good a.1 ∧ Ln (a.1.h + a.1.w) a.2.1 ∧ a.2.2 < a.1.h + a.1.w
abbrev V_numbers : (BD × List Nat × Nat) → PyData := fun a => .list ((numbers a.1.h a.1.w a.1.b a.2.1 a.2.2).map .int)
abbrev SP_numbers : Sp := spF E_numbers R_numbers V_numbers
theorem ok_numbers {P : Program} {w : World} {K : PySem.W.Frag} {mg : Str → Option Value} {base : Heap} (T : Txt mg) (F : FnAt K mg "numbers" snumbers ["board", "lot", "line"]) (D_left_of : Def P w K mg base 3 "left_of" ["board", "lot"] SP_left_of) : Def P w K mg base 4 "numbers" ["board", "lot", "line"] SP_numbers := by
  refine F.ok sc_numbers (fun vs H Q E h => spF_len (n := 3) (fun _ => rfl) h) (fun f cdv A outer s H vs Q E hr h => ⟨_, (pss_cons (ps_asg (pe_def D_left_of (hr.mono (by decide)) (by rfl) (pa_cons (pv 0) (pa_cons (pv 1) pa_nil))) (tupG (K := K) rfl rfl (pgs_cons (pg_name (i := 3) sc_numbers.nd rfl (Or.inl rfl)) (pgs_cons (pg_name (i := 4) sc_numbers.nd rfl (Or.inl rfl)) pgs_nil))))
      (pss_cons (ps_if (pt_cmpR op_lt (pv 2) (pe_callB (lenK (K := K) rfl) (by rfl) T.len PySem.boot_len (pa_cons (pv 0) pa_nil)) (nomark _)) (pss_one (ps_ret (pe_lc (own := [("column", 6)]) (tt := tYes) (g := gName 6) rfl sc_numbers.nd (tupI (K := K) rfl (pv 4)) (blkOk_by (own := [("column", 6)]) (N := N_numbers) (sc := defScope snumbers) (by decide +kernel)) (fun _ _ _ _ _ => pg_name (i := 6) sc_numbers.nd rfl (Or.inl rfl)) (fun _ _ _ _ _ => pts_nil) (fun _ _ _ _ _ => (pe_ix (ixTK (K := K) rfl) (pe_ix (ixTK (K := K) rfl) (pe_ix (ixTK (K := K) rfl) (pv 0) (pv 2) (fun _ _ => rfl)) (pe_op op_sub (pv 6) (pe_callB (lenK (K := K) rfl) (by rfl) T.len PySem.boot_len (pa_cons (pv 0) pa_nil))) (fun _ _ => rfl)) pe_int (fun _ _ => rfl)))))) pss_nil)
      (pss_one (ps_ret (pe_lc (own := [("row", 5)]) (tt := tYes) (g := gName 5) rfl sc_numbers.nd (tupI (K := K) rfl (pv 3)) (blkOk_by (own := [("row", 5)]) (N := N_numbers) (sc := defScope snumbers) (by decide +kernel)) (fun _ _ _ _ _ => pg_name (i := 5) sc_numbers.nd rfl (Or.inl rfl)) (fun _ _ _ _ _ => pts_nil) (fun _ _ _ _ _ => (pe_ix (ixTK (K := K) rfl) (pe_ix (ixTK (K := K) rfl) (pe_ix (ixTK (K := K) rfl) (pv 0) (pv 5) (fun _ _ => rfl)) (pe_op op_sub (pv 2) (pe_callB (lenK (K := K) rfl) (by rfl) T.len PySem.boot_len (pa_cons (pv 0) pa_nil))) (fun _ _ => rfl)) pe_int (fun _ _ => rfl)))))))), body_ok (K := K) 4 (fun _ => rfl) (fun a hp => ?_) h⟩)
  obtain ⟨B, lot, x⟩ := a
  obtain ⟨g, L, hx⟩ : Good B ∧ Ln (B.h + B.w) lot ∧ x < B.h + B.w := hp
  have h6 := g.h6; have w6 := g.w6
  refine wp_seq (N1 := fun Γ => Γ = [.val (dB B.b), .val (.tuple (dI lot)), .val (.int (x : Int)), .val (.tuple (dI (rowsL B.h lot))), .val (.tuple (dI (colsL B.h B.w lot))), .no, .no]) (wp_asg2D (by decide) (ev_call (enc := E_left_of) (f := V_left_of) (B, lot) (ea_c ev_var (ea_c ev_var ea_nil)) g) rfl) fun Γ e => ?_
  subst e
  have lenB : (B.b.map dRow).length = B.h := by rw [List.length_map, g.len]
  have lc : (colsL B.h B.w lot).length ≤ 1000000 := by
    have := List.length_filter_le (fun c => !lot.contains c) (List.range' B.h B.w)
    rw [List.length_range'] at this
    unfold colsL; omega
  have lr : (rowsL B.h lot).length ≤ 1000000 := by
    have := List.length_filter_le (fun c => !lot.contains c) (List.range B.h)
    rw [List.length_range] at this
    unfold rowsL; omega
  refine wp_seq (N1 := fun Γ => ¬ x < B.h ∧ Γ = [.val (dB B.b), .val (.tuple (dI lot)), .val (.int (x : Int)), .val (.tuple (dI (rowsL B.h lot))), .val (.tuple (dI (colsL B.h B.w lot))), .no, .no]) (wp_if (et_test (Ev.to (ev_op ev_var (ev_lenT ev_var) rv_ltN) (by rw [lenB]))) (fun e => ?_) fun e => wp_next ⟨of_decide_eq_false e, rfl⟩) fun Γ e => ?_
  · have hxh := of_decide_eq_true e
    refine wp_retD (Ev.to (ev_lcmN (colsL B.h B.w lot) (fun c => .int (cell B.b x (c - B.h)).1) (ei_tupD ev_var) lc fun c hc => ?_) ?_) rfl
    · obtain ⟨c1, c2, c3⟩ := mem_colsL.mp hc
      exact ev_op (ev_op (ev_op ev_var ev_var (rv_ixT (atI_of rfl (g.at hxh)))) (ev_op ev_var (ev_lenT ev_var) rv_I) (rv_ixT (atI_of (by show (c : Int) - _ = ((c - B.h : Nat) : Int); rw [lenB]; omega) (g.place hxh (by omega))))) ev_int (rv_ixT (atI_of rfl rfl))
    · show PyData.list _ = .list ((numbers B.h B.w B.b lot x).map .int)
      unfold numbers cross val
      rw [if_pos hxh, List.map_map]
      congr 1
      refine List.map_congr_left fun c hc => ?_
      show _ = PyData.int (if x < B.h then _ else _)
      rw [if_pos hxh]
  · obtain ⟨hxh, rfl⟩ := e
    refine wp_retD (Ev.to (ev_lcmN (rowsL B.h lot) (fun c => .int (cell B.b c (x - B.h)).2) (ei_tupD ev_var) lr fun c hc => ?_) ?_) rfl
    · obtain ⟨c1, c2⟩ := mem_rowsL.mp hc
      exact ev_op (ev_op (ev_op ev_var ev_var (rv_ixT (atI_of rfl (g.at c1)))) (ev_op ev_var (ev_lenT ev_var) rv_I) (rv_ixT (atI_of (by show (x : Int) - _ = ((x - B.h : Nat) : Int); rw [lenB]; omega) (g.place c1 (by omega))))) ev_int (rv_ixT (atI_of rfl rfl))
    · show PyData.list _ = .list ((numbers B.h B.w B.b lot x).map .int)
      unfold numbers cross val
      rw [if_neg hxh, List.map_map]
      congr 1
      refine List.map_congr_left fun c hc => ?_
      show _ = PyData.int (if x < B.h then _ else _)
      rw [if_neg hxh]

/-! ### is_greater: slots 0 board, 1 lot, 2 line, 3 other, 4 a, 5 b -/
abbrev N_is_greater : List Str := ["board", "lot", "line", "other", "a", "b"]
theorem sc_is_greater : FnScope N_is_greater ["board", "lot", "line", "other"] (defScope sis_greater) := ⟨rfl, rfl, rfl, by decide +kernel, rfl, by decide +kernel, by decide +kernel⟩
abbrev E_is_greater : (BD × List Nat × Nat × Nat) → List PyData := fun a => [dB a.1.b, .tuple (dI a.2.1), .int (a.2.2.1 : Int), .int (a.2.2.2 : Int)]
abbrev R_is_greater : (BD × List Nat × Nat × Nat) → Prop := fun a => Good a.1 ∧ Ln (a.1.h + a.1.w) a.2.1 ∧ a.2.2.1 < a.1.h + a.1.w ∧ a.2.2.2 < a.1.h + a.1.w
abbrev V_is_greater : (BD × List Nat × Nat × Nat) → PyData := fun a => .bool (isGreater a.1.h a.1.w a.1.b a.2.1 a.2.2.1 a.2.2.2)
abbrev SP_is_greater : Sp := spF E_is_greater R_is_greater V_is_greater
theorem ok_is_greater {P : Program} {w : World} {K : PySem.W.Frag} {mg : Str → Option Value} {base : Heap} (T : Txt mg) (F : FnAt K mg "is_greater" sis_greater ["board", "lot", "line", "other"]) (D_numbers : Def P w K mg base 4 "numbers" ["board", "lot", "line"] SP_numbers) (D_same_side : Def P w K mg base 1 "same_side" ["board", "one", "other"] SP_same_side) : Def P w K mg base 5 "is_greater" ["board", "lot", "line", "other"] SP_is_greater := by
  refine F.ok sc_is_greater (fun vs H Q E h => spF_len (n := 4) (fun _ => rfl) h) (fun f cdv A outer s H vs Q E hr h => ⟨_, (pss_cons (ps_if (pt_not (pt_val (pe_def D_same_side (hr.mono (by decide)) (by rfl) (pa_cons (pv 0) (pa_cons (pv 2) (pa_cons (pv 3) pa_nil)))))) (pss_one (ps_ret pe_bl)) pss_nil)
      (pss_one (ps_ret (pe_callB (allK (K := K) rfl rfl) (by rfl) T.all (by decide +kernel) (pa_cons (pe_lc (own := [("a", 4), ("b", 5)]) (tt := tYes) (g := gTup K 2 (gCons (gName 4) (gCons (gName 5) gNil))) rfl sc_is_greater.nd (zipI (K := K) rfl (by rfl) T.zip (pa_cons (pe_def D_numbers (hr.mono (by decide)) (by rfl) (pa_cons (pv 0) (pa_cons (pv 1) (pa_cons (pv 2) pa_nil)))) (pa_cons (pe_def D_numbers (hr.mono (by decide)) (by rfl) (pa_cons (pv 0) (pa_cons (pv 1) (pa_cons (pv 3) pa_nil)))) pa_nil))) (blkOk_by (own := [("a", 4), ("b", 5)]) (N := N_is_greater) (sc := defScope sis_greater) (by decide +kernel)) (fun _ _ _ _ _ => tupG (K := K) rfl rfl (pgs_cons (pg_name (i := 4) sc_is_greater.nd rfl (Or.inl rfl)) (pgs_cons (pg_name (i := 5) sc_is_greater.nd rfl (Or.inl rfl)) pgs_nil))) (fun _ _ _ _ _ => pts_nil) (fun _ _ _ _ _ => (pe_cmpR op_gt (pv 5) (pv 4) (nomark _)))) pa_nil))))), body_ok (K := K) 2 (fun _ => rfl) (fun a hp => ?_) h⟩)
  obtain ⟨B, lot, x, y⟩ := a
  obtain ⟨g, L, hx, hy⟩ : Good B ∧ Ln (B.h + B.w) lot ∧ x < B.h + B.w ∧ y < B.h + B.w := hp
  have h6 := g.h6; have w6 := g.w6
  refine wp_seq (N1 := fun Γ => same B.h x y = true ∧ Γ = start0 (E_is_greater (B, lot, x, y)) 2) (wp_if (et_not (et_B (ev_call (enc := E_same_side) (f := V_same_side) (B, x, y) (ea_c ev_var (ea_c ev_var (ea_c ev_var ea_nil))) g))) (fun e => wp_retD ev_bl ?_) fun e => wp_next ⟨by simpa using e, rfl⟩) fun Γ e => ?_
  · have e : same B.h x y = false := by simpa using e
    show PyData.bool false = .bool (isGreater B.h B.w B.b lot x y)
    unfold isGreater; rw [e]; rfl
  obtain ⟨e0, rfl⟩ := e
  refine wp_retD (Ev.to (ev_all (bs := ((numbers B.h B.w B.b lot x).zip (numbers B.h B.w B.b lot y)).map fun q => decide (q.1 < q.2)) (ev_lcpI (fun a b => decide (a < b)) (by decide) (ei_zipL (ea_c (ev_call (enc := E_numbers) (f := V_numbers) (B, lot, x) (ea_c ev_var (ea_c ev_var (ea_c ev_var ea_nil))) ⟨g, L, hx⟩) (ea_c (ev_call (enc := E_numbers) (f := V_numbers) (B, lot, y) (ea_c ev_var (ea_c ev_var (ea_c ev_var ea_nil))) ⟨g, L, hy⟩) ea_nil))) ?_ fun a b hab => ev_op ev_var ev_var rv_B)) ?_) rfl
  · show (numbers B.h B.w B.b lot x).length ≤ 1000000
    unfold numbers cross
    rw [List.length_map]
    split
    · have := List.length_filter_le (fun c => !lot.contains c) (List.range' B.h B.w)
      rw [List.length_range'] at this
      unfold colsL; omega
    · have := List.length_filter_le (fun c => !lot.contains c) (List.range B.h)
      rw [List.length_range] at this
      unfold rowsL; omega
  · show PyData.bool _ = .bool (isGreater B.h B.w B.b lot x y)
    unfold isGreater
    rw [e0, List.all_map]; rfl

/-! ### can_fall: slots 0 board, 1 lot, 2 line, 3 other -/
abbrev N_can_fall : List Str := ["board", "lot", "line", "other"]
theorem sc_can_fall : FnScope N_can_fall ["board", "lot", "line"] (defScope scan_fall) := ⟨rfl, rfl, rfl, by decide +kernel, rfl, by decide +kernel, by decide +kernel⟩
abbrev E_can_fall : (BD × List Nat × Nat) → List PyData := fun a => [dB a.1.b, .tuple (dI a.2.1), .int (a.2.2 : Int)]
abbrev R_can_fall : (BD × List Nat × Nat) → Prop := fun a => Good a.1 ∧ Ln (a.1.h + a.1.w) a.2.1 ∧ a.2.2 < a.1.h + a.1.w
abbrev V_can_fall : (BD × List Nat × Nat) → PyData := fun a => .bool (canFall a.1.h a.1.w a.1.b a.2.1 a.2.2)
abbrev SP_can_fall : Sp := spF E_can_fall R_can_fall V_can_fall
theorem ok_can_fall {P : Program} {w : World} {K : PySem.W.Frag} {mg : Str → Option Value} {base : Heap} (T : Txt mg) (F : FnAt K mg "can_fall" scan_fall ["board", "lot", "line"]) (D_is_greater : Def P w K mg base 5 "is_greater" ["board", "lot", "line", "other"] SP_is_greater) (D_lines_of : Def P w K mg base 2 "lines_of" ["board"] SP_lines_of) : Def P w K mg base 6 "can_fall" ["board", "lot", "line"] SP_can_fall := by
  refine F.ok sc_can_fall (fun vs H Q E h => spF_len (n := 3) (fun _ => rfl) h) (fun f cdv A outer s H vs Q E hr h => ⟨_, (pss_one (ps_ret (pe_callB (anyK (K := K) rfl rfl) (by rfl) T.any (by decide +kernel) (pa_cons (pe_lc (own := [("other", 3)]) (g := gName 3) rfl sc_can_fall.nd (tupI (K := K) rfl (pe_def D_lines_of (hr.mono (by decide)) (by rfl) (pa_cons (pv 0) pa_nil))) (blkOk_by (own := [("other", 3)]) (N := N_can_fall) (sc := defScope scan_fall) (by decide +kernel)) (fun _ _ _ _ _ => pg_name (i := 3) sc_can_fall.nd rfl (Or.inl rfl)) (fun _ _ _ _ _ => pts_one (pt_cmpR (ninK (K := K) rfl) (pv 3) (pe_tup (starK (K := K) rfl (pv 1) (pa_cons (pv 2) pa_nil))) (by rfl))) (fun _ _ _ _ _ => (pe_def D_is_greater (hr.mono (by decide)) (by rfl) (pa_cons (pv 0) (pa_cons (pv 1) (pa_cons (pv 2) (pa_cons (pv 3) pa_nil))))))) pa_nil)))), body_ok (K := K) 1 (fun _ => rfl) (fun a hp => ?_) h⟩)
  obtain ⟨B, lot, x⟩ := a
  obtain ⟨g, L, hx⟩ : Good B ∧ Ln (B.h + B.w) lot ∧ x < B.h + B.w := hp
  have h6 := g.h6; have w6 := g.w6; have hl := L.len
  exact wp_retD (ev_any (ev_lcB (List.range (B.h + B.w)) _ _ (ei_tupD (ev_call (enc := E_lines_of) (f := V_lines_of) B (ea_c ev_var ea_nil) g)) (by rw [List.length_range]; omega) (fun y hy => et_test (ev_op ev_var (ev_tupStar ev_var ev_var (by show lot.length ≤ 100000; omega)) rv_niTN))
    fun y hy _ => ev_call (enc := E_is_greater) (f := V_is_greater) (B, lot, x, y) (ea_c ev_var (ea_c ev_var (ea_c ev_var (ea_c ev_var ea_nil)))) ⟨g, L, hx, List.mem_range.mp hy⟩)) rfl

/-! ### with_line: slots 0 lot, 1 line -/
abbrev N_with_line : List Str := ["lot", "line"]
theorem sc_with_line : FnScope N_with_line ["lot", "line"] (defScope swith_line) := ⟨rfl, rfl, rfl, by decide +kernel, rfl, by decide +kernel, by decide +kernel⟩
abbrev E_with_line : (List Nat × Nat) → List PyData := fun a => [.tuple (dI a.1), .int (a.2 : Int)]
abbrev R_with_line : (List Nat × Nat) → Prop := fun a => a.1.length ≤ 1000
abbrev V_with_line : (List Nat × Nat) → PyData := fun a => .tuple (dI (srt (a.1 ++ [a.2])))
abbrev SP_with_line : Sp := spF E_with_line R_with_line V_with_line
theorem ok_with_line {P : Program} {w : World} {K : PySem.W.Frag} {mg : Str → Option Value} {base : Heap} (T : Txt mg) (F : FnAt K mg "with_line" swith_line ["lot", "line"]) : Def P w K mg base 1 "with_line" ["lot", "line"] SP_with_line := by
  refine F.ok sc_with_line (fun vs H Q E h => spF_len (n := 2) (fun _ => rfl) h) (fun f cdv A outer s H vs Q E hr h => ⟨_, (pss_one (ps_ret (tupleK (K := K) rfl (by rfl) T.tuple (pe_callB (sortedK (K := K) rfl) (by rfl) T.sorted (by decide +kernel) (pa_cons (pe_lst (starK (K := K) rfl (pv 0) (pa_cons (pv 1) pa_nil))) pa_nil))))), body_ok (K := K) 0 (fun _ => rfl) (fun a hp => ?_) h⟩)
  obtain ⟨lot, x⟩ := a
  have hl : lot.length ≤ 1000 := hp
  exact wp_retD (ev_tupleL (ev_sortedN (Ev.to (ev_lst (ea_starT (ds := dI lot) ev_var (ea_c (d := .int (x : Int)) ev_var ea_nil)) (by rw [List.length_append, dI_len]; show lot.length + 1 ≤ _; omega)) (by rw [dI_app]; rfl)))) rfl

/-! ### closure: slots 0 board, 1 within, 2 lot, 3 order, 4 some, 5 line -/
abbrev N_closure : List Str := ["board", "within", "lot", "order", "some", "line"]
theorem sc_closure : FnScope N_closure ["board", "within"] (defScope sclosure) := ⟨rfl, rfl, rfl, by decide +kernel, rfl, by decide +kernel, by decide +kernel⟩
abbrev E_closure : (BD × Bool × List Nat) → List PyData := fun a => [dB a.1.b, if a.2.1 then .list (dI a.2.2) else .tuple (dI a.2.2)]
abbrev R_closure : (BD × Bool × List Nat) → Prop := fun a => Good a.1 ∧ Ln (a.1.h + a.1.w) a.2.2
abbrev V_closure : (BD × Bool × List Nat) → PyData := fun a => .list (dI (ords (fun lot => (someIn a.1.h a.1.w a.1.b a.2.2 lot).head?) (a.1.h + a.1.w) [] []))
abbrev SP_closure : Sp := spF E_closure R_closure V_closure
theorem ok_closure {P : Program} {w : World} {K : PySem.W.Frag} {mg : Str → Option Value} {base : Heap} (T : Txt mg) (F : FnAt K mg "closure" sclosure ["board", "within"]) (D_can_fall : Def P w K mg base 6 "can_fall" ["board", "lot", "line"] SP_can_fall) (D_with_line : Def P w K mg base 1 "with_line" ["lot", "line"] SP_with_line) : Def P w K mg base 7 "closure" ["board", "within"] SP_closure := by
  refine F.ok sc_closure (fun vs H Q E h => spF_len (n := 2) (fun _ => rfl) h) (fun f cdv A outer s H vs Q E hr h => ⟨_, (pss_cons (ps_asg (pe_tup (pa_cons (pe_tup pa_nil) (pa_cons (pe_lst pa_nil) pa_nil))) (tupG (K := K) rfl rfl (pgs_cons (pg_name (i := 2) sc_closure.nd rfl (Or.inr rfl)) (pgs_cons (pg_name (i := 3) sc_closure.nd rfl (Or.inl rfl)) pgs_nil))))
      (pss_cons (ps_setLc (i := 4) (own := [("line", 5)]) (g := gName 5) rfl sc_closure.nd rfl rfl (sw_true rfl rfl rfl (by decide +kernel)) (seqI (K := K) rfl (pv 1)) (blkOk_by (own := [("line", 5)]) (N := N_closure) (sc := defScope sclosure) (by decide +kernel)) (fun _ _ _ _ _ => pg_name (i := 5) sc_closure.nd rfl (Or.inl rfl)) (fun _ _ _ _ _ => pts_one (pt_val (pe_def D_can_fall (hr.mono (by decide)) (by rfl) (pa_cons (pv 0) (pa_cons (pv 2) (pa_cons (pv 5) pa_nil)))))) (fun _ _ _ _ _ => (pv 5)))
      (pss_cons (ps_while PassesOwn.never (pt_cmpR (neDK (K := K) rfl hr.units) (pv 4) (pe_lst pa_nil) (nomark _)) (pss_cons (ps_asg (pe_tup (pa_cons (pe_def D_with_line (hr.mono (by decide)) (by rfl) (pa_cons (pv 2) (pa_cons (pe_ix (ixLK (K := K) rfl) (pv 4) pe_int (fun _ _ => rfl)) pa_nil))) (pa_cons (pe_lst (starK (K := K) rfl (pv 3) (pa_cons (pe_ix (ixLK (K := K) rfl) (pv 4) pe_int (fun _ _ => rfl)) pa_nil))) pa_nil))) (tupG (K := K) rfl rfl (pgs_cons (pg_name (i := 2) sc_closure.nd rfl (Or.inr rfl)) (pgs_cons (pg_name (i := 3) sc_closure.nd rfl (Or.inl rfl)) pgs_nil))))
      (pss_one (ps_setLc (i := 4) (own := [("line", 5)]) (g := gName 5) rfl sc_closure.nd rfl rfl (sw_true rfl rfl rfl (by decide +kernel)) (seqI (K := K) rfl (pv 1)) (blkOk_by (own := [("line", 5)]) (N := N_closure) (sc := defScope sclosure) (by decide +kernel)) (fun _ _ _ _ _ => pg_name (i := 5) sc_closure.nd rfl (Or.inl rfl)) (fun _ _ _ _ _ => pts_one (PW.pt (pw_and (pt_cmpR (ninK (K := K) rfl) (pv 5) (pv 2) (by rfl)) (pw_and1 (pt_val (pe_def D_can_fall (hr.mono (by decide)) (by rfl) (pa_cons (pv 0) (pa_cons (pv 2) (pa_cons (pv 5) pa_nil))))))))) (fun _ _ _ _ _ => (pv 5))))))
      (pss_one (ps_ret (pv 3)))))), body_ok (K := K) 4 (fun _ => rfl) (fun a hp => ?_) h⟩)
  obtain ⟨B, il, W⟩ := a
  obtain ⟨g, LW⟩ : Good B ∧ Ln (B.h + B.w) W := hp
  have h6 := g.h6; have w6 := g.w6; have hW := LW.len
  generalize hpk : (fun lot => (someIn B.h B.w B.b W lot).head?) = pk
  have seq : ∀ {Γ : Env}, Γ[1]? = some (.val (if il then .list (dI W) else .tuple (dI W))) → EvI K (iSeq K (tVar 1)) Γ (fun x => x = dI W) := fun {Γ} h => by
    cases il with
    | true => exact ei_seqL (ev_var h)
    | false => exact ei_seqT (ev_var h)
  have fall : ∀ {lot : List Nat} {x : Nat}, Ln (B.h + B.w) lot → x ∈ W → ∀ {Γ : Env}, Γ[0]? = some (.val (dB B.b)) → Γ[2]? = some (.val (.tuple (dI lot))) → Γ[5]? = some (.val (.int (x : Int))) → Ev K (tCall SP_can_fall [] E0 (tCons (tVar 0) (tCons (tVar 2) (tCons (tVar 5) tNil)))) Γ (.bool (canFall B.h B.w B.b lot x)) := fun L hx _ e0 e1 e2 =>
    ev_call (enc := E_can_fall) (f := V_can_fall) (B, _, _) (ea_c (ev_var e0) (ea_c (ev_var e1) (ea_c (ev_var e2) ea_nil))) ⟨g, L, LW.2 _ hx⟩
  refine wp_seq (N1 := fun Γ => Γ = [.val (dB B.b), .val (if il then .list (dI W) else .tuple (dI W)), .val (.tuple (dI [])), .val (.list (dI [])), .no, .no]) (wp_asg2D (by decide) (ev_tup (ea_c ev_T0 (ea_c ev_L0 ea_nil)) (by simp)) rfl) fun Γ e => ?_
  subst e
  refine wp_seq (N1 := fun Γ => Γ = [.val (dB B.b), .val (if il then .list (dI W) else .tuple (dI W)), .val (.tuple (dI [])), .val (.list (dI [])), .val (.list (dI (someIn B.h B.w B.b W []))), .no]) (wp_setD (Ev.to (ev_lcN W (fun x => canFall B.h B.w B.b [] x) (seq rfl) (by omega) fun x hx => et_B (fall Ln.nil hx rfl rfl rfl)) ?_) rfl) fun Γ e => ?_
  · congr 2
  subst e
  refine wp_seq (N1 := fun Γ => ∃ s t, Γ = [.val (dB B.b), .val (if il then .list (dI W) else .tuple (dI W)), s, .val (.list (dI (ords pk (B.h + B.w) [] []))), t, .no]) (wp_while (fun m Γ => ∃ lot o, Ln (B.h + B.w) lot ∧ lot.length + m = B.h + B.w ∧ o.length = lot.length ∧ ords pk m lot o = ords pk (B.h + B.w) [] [] ∧ Γ = [.val (dB B.b), .val (if il then .list (dI W) else .tuple (dI W)), .val (.tuple (dI lot)), .val (.list (dI o)), .val (.list (dI (someIn B.h B.w B.b W lot))), .no]) (B.h + B.w) ⟨[], [], Ln.nil, by simp, rfl, rfl, rfl⟩ ?_) fun Γ e => ?_
  · rintro m Γ ⟨lot, o, L, hl, ho, hr, rfl⟩
    refine ⟨_, et_test (ev_op ev_var ev_L0 rv_neLI), fun hb => ?_, fun hb => ?_⟩
    · have hll := L.len
      have e0 : someIn B.h B.w B.b W lot ≠ [] := by simpa using hb
      cases ec : someIn B.h B.w B.b W lot with
      | nil => exact absurd ec e0
      | cons x xs =>
        have hx := mem_someIn.mp (show x ∈ someIn B.h B.w B.b W lot by rw [ec]; exact List.mem_cons_self)
        have hxn := LW.2 x hx.1
        have hlt := L.len_lt hxn hx.2.1
        have hpl : pk lot = some x := by rw [← hpk]; show (someIn B.h B.w B.b W lot).head? = some x; rw [ec]; rfl
        obtain ⟨m, rfl⟩ : ∃ k, m = k + 1 := ⟨m - 1, by omega⟩
        refine wp_seq (N1 := fun Γ => Γ = [.val (dB B.b), .val (if il then .list (dI W) else .tuple (dI W)), .val (.tuple (dI (srt (lot ++ [x])))), .val (.list (dI (o ++ [x]))), .val (.list (dI (x :: xs))), .no]) (wp_asg2D (by decide) (ev_tup (ea_c (ev_call (enc := E_with_line) (f := V_with_line) (lot, x) (ea_c ev_var (ea_c (ev_op ev_var ev_int (rv_ixL at0)) ea_nil)) (by show lot.length ≤ 1000; omega)) (ea_c (Ev.to (ev_lst (ea_starL ev_var (ea_c (ev_op ev_var ev_int (rv_ixL at0)) ea_nil)) (by rw [List.length_append, dI_len]; show o.length + 1 ≤ _; omega)) (by rw [dI_app]; rfl)) ea_nil)) (by simp)) rfl) fun Γ e => ?_
        subst e
        have L' := L.with hxn hx.2.1
        exact wp_setD (ev_lcN W (fun y => !(srt (lot ++ [x])).contains y && canFall B.h B.w B.b (srt (lot ++ [x])) y) (seq rfl) (by omega) fun y hy => et_and (et_test (ev_op ev_var ev_var rv_niTN)) (fun e => EvT.to (et_B (fall L' hy rfl rfl rfl)) (by rw [e]; rfl)) (fun e => by rw [e]; rfl)) ⟨m, by omega, _, _, L', by rw [len_with]; omega, by rw [len_with, List.length_append, ho]; rfl, by rw [← ords_some hpl]; exact hr, rfl⟩
    · have ec : someIn B.h B.w B.b W lot = [] := by simpa using hb
      have hpl : pk lot = none := by rw [← hpk]; show (someIn B.h B.w B.b W lot).head? = none; rw [ec]; rfl
      rw [ords_none hpl] at hr
      exact ⟨_, _, by rw [hr]⟩
  · obtain ⟨s, t, rfl⟩ := e
    exact wp_retD ev_var (by subst hpk; rfl)

/-! ### last_of: slots 0 board -/
abbrev N_last_of : List Str := ["board"]
theorem sc_last_of : FnScope N_last_of ["board"] (defScope slast_of) := ⟨rfl, rfl, rfl, by decide +kernel, rfl, by decide +kernel, by decide +kernel⟩
abbrev E_last_of : (BD) → List PyData := fun B => [dB B.b]
abbrev R_last_of : (BD) → Prop := Good
abbrev V_last_of : (BD) → PyData := fun B => .tuple (dI (lastOf B.h B.w B.b))
abbrev SP_last_of : Sp := spF E_last_of R_last_of V_last_of
theorem ok_last_of {P : Program} {w : World} {K : PySem.W.Frag} {mg : Str → Option Value} {base : Heap} (T : Txt mg) (F : FnAt K mg "last_of" slast_of ["board"]) (D_closure : Def P w K mg base 7 "closure" ["board", "within"] SP_closure) (D_lines_of : Def P w K mg base 2 "lines_of" ["board"] SP_lines_of) : Def P w K mg base 8 "last_of" ["board"] SP_last_of := by
  refine F.ok sc_last_of (fun vs H Q E h => spF_len (n := 1) (fun _ => rfl) h) (fun f cdv A outer s H vs Q E hr h => ⟨_, (pss_one (ps_ret (tupleK (K := K) rfl (by rfl) T.tuple (pe_callB (sortedK (K := K) rfl) (by rfl) T.sorted (by decide +kernel) (pa_cons (pe_def D_closure (hr.mono (by decide)) (by rfl) (pa_cons (pv 0) (pa_cons (pe_def D_lines_of (hr.mono (by decide)) (by rfl) (pa_cons (pv 0) pa_nil)) pa_nil))) pa_nil))))), body_ok (K := K) 0 (fun _ => rfl) (fun a hp => ?_) h⟩)
  refine wp_retD (Ev.to (ev_tupleL (ev_sortedN (ev_call (enc := E_closure) (f := V_closure) (a, false, List.range (a.h + a.w)) (ea_c ev_var (ea_c (ev_call (enc := E_lines_of) (f := V_lines_of) a (ea_c ev_var ea_nil) hp) ea_nil)) ⟨hp, rising_range _, fun x hx => List.mem_range.mp hx⟩))) ?_) rfl
  show PyData.tuple (dI (srt (ords _ _ [] []))) = _
  rw [srt_ords _ _ _ (srt_of (List.Perm.refl []) .nil).symm]; rfl
end K23

set_option Elab.async false
set_option linter.all false
set_option maxRecDepth 100000
set_option maxHeartbeats 4000000
namespace K23
open PySem PySem.Spec PyProof.Rows L2
/-! ### need_boards: slots 0 value, 1 board -/
abbrev N_need_boards : List Str := ["value", "board"]
theorem sc_need_boards : FnScope N_need_boards ["value"] (defScope sneed_boards) := ⟨rfl, rfl, rfl, by decide +kernel, rfl, by decide +kernel, by decide +kernel⟩
abbrev E_need_boards : (BDs) → List PyData := fun S => [dBs S]
abbrev R_need_boards : (BDs) → Prop := GoodS
abbrev V_need_boards : (BDs) → PyData := fun _ => .none
abbrev SP_need_boards : Sp := spF E_need_boards R_need_boards V_need_boards
theorem ok_need_boards {P : Program} {w : World} {K : PySem.W.Frag} {mg : Str → Option Value} {base : Heap} (T : Txt mg) (F : FnAt K mg "need_boards" sneed_boards ["value"]) (D_sides : Def P w K mg base 1 "sides" ["board"] SP_sides) (D_need_board : Def P w K mg base 4 "need_board" ["value"] SP_need_board) : Def P w K mg base 5 "need_boards" ["value"] SP_need_boards := by
  refine F.ok sc_need_boards (fun vs H Q E h => spF_len (n := 1) (fun _ => rfl) h) (fun f cdv A outer s H vs Q E hr h => ⟨_, (pss_cons (ps_if (PW.pt (pw_or (pt_not (pt_val (pe_callB (isiK (K := K) rfl) (by rfl) T.isinstance (by decide +kernel) (pa_cons (pv 0) (pa_cons (pe_bltn (v := .ty "tuple") (by rfl) T.tuple boot_tuple rfl) pa_nil))))) (pw_or1 (pt_not (pt_chain op_le op_le pe_int (pe_callB (lenK (K := K) rfl) (by rfl) T.len PySem.boot_len (pa_cons (pv 0) pa_nil)) (pe_globI (by rfl) T.MOST_BOARDS)))))) (pss_one ps_never) pss_nil)
      (pss_cons (ps_for PassesOwn.never rfl (tupI (K := K) rfl (pv 0)) (pg_name (i := 1) sc_need_boards.nd rfl (Or.inl rfl)) (pss_one (ps_expr (pe_def D_need_board (hr.mono (by decide)) (by rfl) (pa_cons (pv 1) pa_nil)))))
      (pss_one (ps_if (pt_val (pe_callB (anyK (K := K) rfl rfl) (by rfl) T.any (by decide +kernel) (pa_cons (pe_lc (own := [("board", 1)]) (tt := tYes) (g := gName 1) rfl sc_need_boards.nd (tupI (K := K) rfl (pv 0)) (blkOk_by (own := [("board", 1)]) (N := N_need_boards) (sc := defScope sneed_boards) (by decide +kernel)) (fun _ _ _ _ _ => pg_name (i := 1) sc_need_boards.nd rfl (Or.inl rfl)) (fun _ _ _ _ _ => pts_nil) (fun _ _ _ _ _ => (pe_cmpR (neDK (K := K) rfl hr.units) (pe_def D_sides (hr.mono (by decide)) (by rfl) (pa_cons (pv 1) pa_nil)) (pe_def D_sides (hr.mono (by decide)) (by rfl) (pa_cons (pe_ix (ixTK (K := K) rfl) (pv 0) pe_int (fun _ _ => rfl)) pa_nil)) (nomark _)))) pa_nil))) (pss_one ps_never) pss_nil)))), body_ok (K := K) 1 (fun _ => rfl) (fun a hp => ?_) h⟩)
  have g := hp; have g1 := g.one
  have hl := g.most
  have h1 : 1 ≤ a.bs.length := List.length_pos_iff.mpr g.ne
  have G0 : start0 (E_need_boards a) 1 = [.val (dBs a), .no] := rfl
  rw [G0]
  refine wp_seq (N1 := fun Γ => Γ = [.val (dBs a), .no]) (wp_no ?_ (wp_next rfl)) fun Γ e => ?_
  · refine et_or (a := false) (b := false) (et_not (a := true) (et_B (ev_is "tuple" true ev_var (by decide +kernel)))) (fun _ => EvT.to (et_not (et_test (ev_chain ev_int (ev_lenT ev_var) rv_B (fun _ => ev_int) rv_B))) ?_) (fun e => e)
    rw [List.length_map, decide_eq_true (by omega), decide_eq_true (by omega)]; rfl
  subst e
  refine wp_seq (N1 := fun Γ => ∃ s, Γ = [.val (dBs a), s]) (wp_for (ei_tupD ev_var) fun items e => ⟨fun k Γ => ∃ s, Γ = [.val (dBs a), s], ⟨.no, rfl⟩, ?_, fun _ h => h⟩) fun Γ e => ?_
  · subst e
    rintro k x Γ hx ⟨s, rfl⟩
    rw [List.getElem?_map] at hx
    obtain ⟨b, hb, rfl⟩ := Option.map_eq_some_iff.mp hx
    have gb := g.all b (List.mem_of_getElem? hb)
    exact ⟨_, tgs_name, wp_drop (ev_call (enc := E_need_board) (f := V_need_board) ⟨a.h, a.w, b⟩ (ea_c ev_var ea_nil) gb) ⟨_, rfl⟩⟩
  obtain ⟨s, rfl⟩ := e
  refine wp_no (et_B (Ev.to (ev_any (bs := a.bs.map fun _ => false) (Ev.to (ev_lcm (l := a.bs) (enc := dB) (fun _ => .bool false) (ei_tupD ev_var) (by omega) fun b hb => ?_) ?_)) ?_)) (wp_next rfl)
  · refine Ev.to (ev_op (ev_call (enc := E_sides) (f := V_sides) ⟨a.h, a.w, b⟩ (ea_c ev_var ea_nil) (g.all b hb)) (ev_call (enc := E_sides) (f := V_sides) a.one (ea_c (ev_op ev_var ev_int (rv_ixT (atI_of rfl g.at))) ea_nil) g1) (rv_neTI (l := [a.h, a.w]) (m := [a.h, a.w]))) ?_
    rw [decide_eq_true rfl]; rfl
  · rw [List.map_map]; rfl
  · rw [List.any_map]; congr 1; exact List.any_eq_false.mpr fun _ _ => by simp

/-! ### falls_in_all: slots 0 boards, 1 lot, 2 line, 3 other, 4 board -/
abbrev N_falls_in_all : List Str := ["boards", "lot", "line", "other", "board"]
theorem sc_falls_in_all : FnScope N_falls_in_all ["boards", "lot", "line"] (defScope sfalls_in_all) := ⟨rfl, rfl, rfl, by decide +kernel, rfl, by decide +kernel, by decide +kernel⟩
abbrev E_falls_in_all : (BDs × List Nat × Nat) → List PyData := fun a => [dBs a.1, .tuple (dI a.2.1), .int (a.2.2 : Int)]
abbrev R_falls_in_all : (BDs × List Nat × Nat) → Prop := fun a => GoodS a.1 ∧ Ln (a.1.h + a.1.w) a.2.1 ∧ a.2.2 < a.1.h + a.1.w
abbrev V_falls_in_all : (BDs × List Nat × Nat) → PyData := fun a => .bool (fallsIn a.1.h a.1.w a.1.bs a.2.1 a.2.2)
abbrev SP_falls_in_all : Sp := spF E_falls_in_all R_falls_in_all V_falls_in_all
theorem ok_falls_in_all {P : Program} {w : World} {K : PySem.W.Frag} {mg : Str → Option Value} {base : Heap} (T : Txt mg) (F : FnAt K mg "falls_in_all" sfalls_in_all ["boards", "lot", "line"]) (D_lines_of : Def P w K mg base 2 "lines_of" ["board"] SP_lines_of) (D_is_greater : Def P w K mg base 5 "is_greater" ["board", "lot", "line", "other"] SP_is_greater) : Def P w K mg base 6 "falls_in_all" ["boards", "lot", "line"] SP_falls_in_all := by
  refine F.ok sc_falls_in_all (fun vs H Q E h => spF_len (n := 3) (fun _ => rfl) h) (fun f cdv A outer s H vs Q E hr h => ⟨_, (pss_cons (ps_for PassesOwn.never rfl (tupI (K := K) rfl (pe_def D_lines_of (hr.mono (by decide)) (by rfl) (pa_cons (pe_ix (ixTK (K := K) rfl) (pv 0) pe_int (fun _ _ => rfl)) pa_nil))) (pg_name (i := 3) sc_falls_in_all.nd rfl (Or.inr rfl)) (pss_one (ps_if (PW.pt (pw_and (pt_cmpR (ninK (K := K) rfl) (pv 3) (pe_tup (starK (K := K) rfl (pv 1) (pa_cons (pv 2) pa_nil))) (by rfl)) (pw_and1 (pt_val (pe_callB (allK (K := K) rfl rfl) (by rfl) T.all (by decide +kernel) (pa_cons (pe_lc (own := [("board", 4)]) (tt := tYes) (g := gName 4) rfl sc_falls_in_all.nd (tupI (K := K) rfl (pv 0)) (blkOk_by (own := [("board", 4)]) (N := N_falls_in_all) (sc := defScope sfalls_in_all) (by decide +kernel)) (fun _ _ _ _ _ => pg_name (i := 4) sc_falls_in_all.nd rfl (Or.inl rfl)) (fun _ _ _ _ _ => pts_nil) (fun _ _ _ _ _ => (pe_def D_is_greater (hr.mono (by decide)) (by rfl) (pa_cons (pv 4) (pa_cons (pv 1) (pa_cons (pv 2) (pa_cons (pv 3) pa_nil))))))) pa_nil)))))) (pss_one (ps_ret pe_bl)) pss_nil)))
      (pss_one (ps_ret pe_bl))), body_ok (K := K) 2 (fun _ => rfl) (fun a hp => ?_) h⟩)
  obtain ⟨S, lot, x⟩ := a
  obtain ⟨g, L, hx⟩ : GoodS S ∧ Ln (S.h + S.w) lot ∧ x < S.h + S.w := hp
  have g1 := g.one; have h6 : S.h ≤ 6 := g1.h6; have w6 : S.w ≤ 6 := g1.w6; have hl := L.len; have hm := g.most
  obtain ⟨c, hc⟩ : ∃ c : Nat → Bool, ∀ y, c y = (!(lot ++ [x]).contains y && S.bs.all fun b => isGreater S.h S.w b lot x y) := ⟨_, fun _ => rfl⟩
  have fe : fallsIn S.h S.w S.bs lot x = (List.range (S.h + S.w)).any c := by
    unfold fallsIn; congr 1; funext y; exact (hc y).symm
  have G0 : start0 (E_falls_in_all (S, lot, x)) 2 = [.val (dBs S), .val (.tuple (dI lot)), .val (.int (x : Int)), .no, .no] := rfl
  rw [G0]
  refine wp_seq (N1 := fun Γ => fallsIn S.h S.w S.bs lot x = false) (wp_for (ei_tupD (ev_call (enc := E_lines_of) (f := V_lines_of) S.one (ea_c (ev_op ev_var ev_int (rv_ixT (atI_of rfl g.at))) ea_nil) g1)) fun items e => ⟨fun k Γ => (∀ y, y < k → c y = false) ∧ ∃ s, Γ = [.val (dBs S), .val (.tuple (dI lot)), .val (.int (x : Int)), s, .no], ⟨fun y hy => by omega, .no, rfl⟩, ?_, ?_⟩) fun Γ e => ?_
  · subst e
    rintro k y Γ hy ⟨hk, s, rfl⟩
    obtain ⟨rfl, hn⟩ := dIr_at hy
    have hn : k < S.h + S.w := hn
    refine ⟨_, tgs_name, wp_if (b := c k) (et_and (a := !(lot ++ [x]).contains k) (et_test (ev_op ev_var (ev_tupStar ev_var ev_var (by omega)) rv_niTN)) (fun e => EvT.to (et_B (ev_all (bs := S.bs.map fun b => isGreater S.h S.w b lot x k) (Ev.to (ev_lcm (l := S.bs) (enc := dB) (fun b => .bool (isGreater S.h S.w b lot x k)) (ei_tupD ev_var) (by omega) fun b hb =>
      ev_call (enc := E_is_greater) (f := V_is_greater) (⟨S.h, S.w, b⟩, lot, x, k) (ea_c ev_var (ea_c ev_var (ea_c ev_var (ea_c ev_var ea_nil)))) ⟨g.all b hb, L, hx, hn⟩) (by rw [List.map_map]; rfl)))) (by rw [hc, e, List.all_map]; rfl)) (fun e => by rw [hc, e]; rfl)) (fun e => wp_retD ev_bl ?_) (fun e => wp_next ⟨fun y hy => ?_, _, rfl⟩)⟩
    · show PyData.bool true = .bool (fallsIn S.h S.w S.bs lot x)
      rw [fe, List.any_eq_true.mpr ⟨k, List.mem_range.mpr hn, e⟩]
    · rcases Nat.lt_succ_iff_lt_or_eq.mp hy with z | z
      · exact hk y z
      · rw [z]; exact e
  · subst e
    rintro Γ ⟨hk, _⟩
    rw [fe]
    exact List.any_eq_false.mpr fun y hy => by rw [hk y (by rw [dI_len]; exact List.mem_range.mp hy |> fun z => by rw [List.length_range]; exact z)]; simp
  · exact wp_retD ev_bl (by show PyData.bool false = .bool (fallsIn S.h S.w S.bs lot x); rw [e])

/-! ### all_ready_of: slots 0 boards, 1 lot, 2 found, 3 line -/
abbrev N_all_ready_of : List Str := ["boards", "lot", "found", "line"]
theorem sc_all_ready_of : FnScope N_all_ready_of ["boards", "lot"] (defScope sall_ready_of) := ⟨rfl, rfl, rfl, by decide +kernel, rfl, by decide +kernel, by decide +kernel⟩
abbrev E_all_ready_of : (BDs × List Nat) → List PyData := fun a => [dBs a.1, .tuple (dI a.2)]
abbrev R_all_ready_of : (BDs × List Nat) → Prop := fun a => GoodS a.1 ∧ Ln (a.1.h + a.1.w) a.2
abbrev V_all_ready_of : (BDs × List Nat) → PyData := fun a => .tuple (dI (readyIn a.1.h a.1.w a.1.bs a.2))
abbrev SP_all_ready_of : Sp := spF E_all_ready_of R_all_ready_of V_all_ready_of
theorem ok_all_ready_of {P : Program} {w : World} {K : PySem.W.Frag} {mg : Str → Option Value} {base : Heap} (T : Txt mg) (F : FnAt K mg "all_ready_of" sall_ready_of ["boards", "lot"]) (D_lines_of : Def P w K mg base 2 "lines_of" ["board"] SP_lines_of) (D_falls_in_all : Def P w K mg base 6 "falls_in_all" ["boards", "lot", "line"] SP_falls_in_all) : Def P w K mg base 7 "all_ready_of" ["boards", "lot"] SP_all_ready_of := by
  refine F.ok sc_all_ready_of (fun vs H Q E h => spF_len (n := 2) (fun _ => rfl) h) (fun f cdv A outer s H vs Q E hr h => ⟨_, (pss_cons (ps_set (i := 2) sc_all_ready_of.nd rfl (Or.inl rfl) (pe_lst pa_nil))
      (pss_cons (ps_for PassesOwn.never rfl (tupI (K := K) rfl (pe_def D_lines_of (hr.mono (by decide)) (by rfl) (pa_cons (pe_ix (ixTK (K := K) rfl) (pv 0) pe_int (fun _ _ => rfl)) pa_nil))) (pg_name (i := 3) sc_all_ready_of.nd rfl (Or.inl rfl)) (pss_one (ps_if (PW.pt (pw_and (pt_cmpR (ninK (K := K) rfl) (pv 3) (pv 1) (by rfl)) (pw_and1 (pt_val (pe_def D_falls_in_all (hr.mono (by decide)) (by rfl) (pa_cons (pv 0) (pa_cons (pv 1) (pa_cons (pv 3) pa_nil)))))))) (pss_one (ps_expr (pe_bm PySem.F.plainAttrs_list PySem.F.slot_list_append PySem.F.type_list_append mt_append (pv 2) (pa_cons (pv 3) pa_nil)))) pss_nil)))
      (pss_one (ps_ret (tupleK (K := K) rfl (by rfl) T.tuple (pv 2)))))), body_ok (K := K) 2 (fun _ => rfl) (fun a hp => ?_) h⟩)
  obtain ⟨S, lot⟩ := a
  obtain ⟨g, L⟩ : GoodS S ∧ Ln (S.h + S.w) lot := hp
  have g1 := g.one; have h6 : S.h ≤ 6 := g1.h6; have w6 : S.w ≤ 6 := g1.w6; have hl := L.len
  obtain ⟨p, hpp⟩ : ∃ p : Nat → Bool, p = fun x => !lot.contains x && fallsIn S.h S.w S.bs lot x := ⟨_, rfl⟩
  refine wp_seq (N1 := fun Γ => Γ = [.val (dBs S), .val (.tuple (dI lot)), .own [], .no]) (wp_setOwn ea_nil (fun ds e => by rw [e]; decide) (fun ds e => by rw [e]; rfl)) fun Γ e => ?_
  subst e
  refine wp_seq (N1 := fun Γ => ∃ s, Γ = [.val (dBs S), .val (.tuple (dI lot)), .own (dI (readyIn S.h S.w S.bs lot)), s]) (wp_for (ei_tupD (ev_call (enc := E_lines_of) (f := V_lines_of) S.one (ea_c (ev_op ev_var ev_int (rv_ixT (atI_of rfl g.at))) ea_nil) g1)) fun items e => ⟨fun k Γ => ∃ s, Γ = [.val (dBs S), .val (.tuple (dI lot)), .own (dI ((List.range k).filter p)), s], ⟨.no, rfl⟩, ?_, ?_⟩) fun Γ e => ?_
  · subst e
    rintro k y Γ hy ⟨s, rfl⟩
    obtain ⟨rfl, hn⟩ := dIr_at hy
    have hn : k < S.h + S.w := hn
    have hlen := List.length_filter_le p (List.range k)
    rw [List.length_range] at hlen
    refine ⟨_, tgs_name, wp_if (b := p k) (et_and (a := !lot.contains k) (et_test (ev_op ev_var ev_var rv_niTN)) (fun e => EvT.to (et_B (ev_call (enc := E_falls_in_all) (f := V_falls_in_all) (S, lot, k) (ea_c ev_var (ea_c ev_var (ea_c ev_var ea_nil))) ⟨g, L, hn⟩)) (by rw [hpp]; show _ = (!lot.contains k && _); rw [e]; rfl)) (fun e => by rw [hpp]; show (!lot.contains k && _) = _; rw [e]; rfl)) (fun e => wp_app rfl ev_var (by rw [dI_len]; omega) fun d ed => ⟨.val (.int (k : Int)), ?_⟩) (fun e => wp_next ⟨.val (.int (k : Int)), ?_⟩)⟩
    · subst ed
      rw [filter_range_succ, if_pos e, dI_app]; rfl
    · rw [filter_range_succ, if_neg (by rw [e]; simp), List.append_nil]; rfl
  · subst e
    rintro Γ ⟨s, rfl⟩
    refine ⟨s, ?_⟩
    rw [dI_len, List.length_range]
    unfold readyIn
    rw [← hpp]; rfl
  · obtain ⟨s, rfl⟩ := e
    exact wp_pub (i := 2) rfl (wp_retD (ev_tupleL ev_var) rfl)

/-! ### all_ready: slots 0 boards, 1 lot -/
abbrev N_all_ready : List Str := ["boards", "lot"]
theorem sc_all_ready : FnScope N_all_ready ["boards", "lot"] (defScope sall_ready) := ⟨rfl, rfl, rfl, by decide +kernel, rfl, by decide +kernel, by decide +kernel⟩
abbrev E_all_ready : (BDs × List Nat) → List PyData := fun a => [dBs a.1, .tuple (dI a.2)]
abbrev R_all_ready : (BDs × List Nat) → Prop := fun a => GoodS a.1 ∧ Lot a.1.h a.1.w a.2
abbrev V_all_ready : (BDs × List Nat) → PyData := fun a => .tuple (dI (readyIn a.1.h a.1.w a.1.bs a.2))
abbrev SP_all_ready : Sp := spF E_all_ready R_all_ready V_all_ready
theorem ok_all_ready {P : Program} {w : World} {K : PySem.W.Frag} {mg : Str → Option Value} {base : Heap} (T : Txt mg) (F : FnAt K mg "all_ready" sall_ready ["boards", "lot"]) (D_all_ready_of : Def P w K mg base 7 "all_ready_of" ["boards", "lot"] SP_all_ready_of) (D_need_lot : Def P w K mg base 4 "need_lot" ["board", "value"] SP_need_lot) (D_need_boards : Def P w K mg base 5 "need_boards" ["value"] SP_need_boards) : Def P w K mg base 8 "all_ready" ["boards", "lot"] SP_all_ready := by
  refine F.ok sc_all_ready (fun vs H Q E h => spF_len (n := 2) (fun _ => rfl) h) (fun f cdv A outer s H vs Q E hr h => ⟨_, (pss_cons (ps_expr (pe_def D_need_boards (hr.mono (by decide)) (by rfl) (pa_cons (pv 0) pa_nil)))
      (pss_cons (ps_expr (pe_def D_need_lot (hr.mono (by decide)) (by rfl) (pa_cons (pe_ix (ixTK (K := K) rfl) (pv 0) pe_int (fun _ _ => rfl)) (pa_cons (pv 1) pa_nil))))
      (pss_one (ps_ret (pe_def D_all_ready_of (hr.mono (by decide)) (by rfl) (pa_cons (pv 0) (pa_cons (pv 1) pa_nil))))))), body_ok (K := K) 0 (fun _ => rfl) (fun a hp => ?_) h⟩)
  obtain ⟨S, lot⟩ := a
  obtain ⟨g, L⟩ : GoodS S ∧ Lot S.h S.w lot := hp
  have g1 := g.one
  refine wp_seq (N1 := fun Γ => Γ = start0 (E_all_ready (S, lot)) 0) (wp_drop (ev_call (enc := E_need_boards) (f := V_need_boards) S (ea_c ev_var ea_nil) g) rfl) fun Γ e => ?_
  subst e
  refine wp_seq (N1 := fun Γ => Γ = start0 (E_all_ready (S, lot)) 0) (wp_drop (ev_call (enc := E_need_lot) (f := V_need_lot) (S.one, lot) (ea_c (ev_op ev_var ev_int (rv_ixT (atI_of rfl g.at))) (ea_c ev_var ea_nil)) ⟨g1, L⟩) rfl) fun Γ e => ?_
  subst e
  exact wp_retD (ev_call (enc := E_all_ready_of) (f := V_all_ready_of) (S, lot) (ea_c ev_var (ea_c ev_var ea_nil)) ⟨g, L.rise, L.lt⟩) rfl

/-! ### all_last: slots 0 boards, 1 lot, 2 some -/
abbrev N_all_last : List Str := ["boards", "lot", "some"]
theorem sc_all_last : FnScope N_all_last ["boards"] (defScope sall_last) := ⟨rfl, rfl, rfl, by decide +kernel, rfl, by decide +kernel, by decide +kernel⟩
abbrev E_all_last : (BDs) → List PyData := fun S => [dBs S]
abbrev R_all_last : (BDs) → Prop := GoodS
abbrev V_all_last : (BDs) → PyData := fun S => .tuple (dI (runs (fun lot => (readyIn S.h S.w S.bs lot).head?) (S.h + S.w) []))
abbrev SP_all_last : Sp := spF E_all_last R_all_last V_all_last
theorem ok_all_last {P : Program} {w : World} {K : PySem.W.Frag} {mg : Str → Option Value} {base : Heap} (T : Txt mg) (F : FnAt K mg "all_last" sall_last ["boards"]) (D_all_ready_of : Def P w K mg base 7 "all_ready_of" ["boards", "lot"] SP_all_ready_of) (D_with_line : Def P w K mg base 1 "with_line" ["lot", "line"] SP_with_line) (D_need_boards : Def P w K mg base 5 "need_boards" ["value"] SP_need_boards) : Def P w K mg base 8 "all_last" ["boards"] SP_all_last := by
  refine F.ok sc_all_last (fun vs H Q E h => spF_len (n := 1) (fun _ => rfl) h) (fun f cdv A outer s H vs Q E hr h => ⟨_, (pss_cons (ps_expr (pe_def D_need_boards (hr.mono (by decide)) (by rfl) (pa_cons (pv 0) pa_nil)))
      (pss_cons (ps_set (i := 1) sc_all_last.nd rfl (Or.inl rfl) (pe_tup pa_nil))
      (pss_cons (ps_set (i := 2) sc_all_last.nd rfl (Or.inl rfl) (pe_def D_all_ready_of (hr.mono (by decide)) (by rfl) (pa_cons (pv 0) (pa_cons (pv 1) pa_nil))))
      (pss_cons (ps_while PassesOwn.never (pt_cmpR (neDK (K := K) rfl hr.units) (pv 2) (pe_tup pa_nil) (nomark _)) (pss_cons (ps_set (i := 1) sc_all_last.nd rfl (Or.inl rfl) (pe_def D_with_line (hr.mono (by decide)) (by rfl) (pa_cons (pv 1) (pa_cons (pe_ix (ixTK (K := K) rfl) (pv 2) pe_int (fun _ _ => rfl)) pa_nil))))
      (pss_one (ps_set (i := 2) sc_all_last.nd rfl (Or.inl rfl) (pe_def D_all_ready_of (hr.mono (by decide)) (by rfl) (pa_cons (pv 0) (pa_cons (pv 1) pa_nil)))))))
      (pss_one (ps_ret (pv 1))))))), body_ok (K := K) 2 (fun _ => rfl) (fun a hp => ?_) h⟩)
  rename BDs => S
  have g := hp; have g1 := g.one; have h6 : S.h ≤ 6 := g1.h6; have w6 : S.w ≤ 6 := g1.w6
  generalize hpk : (fun lot => (readyIn S.h S.w S.bs lot).head?) = pk
  refine wp_seq (N1 := fun Γ => Γ = [.val (dBs S), .no, .no]) (wp_drop (ev_call (enc := E_need_boards) (f := V_need_boards) S (ea_c ev_var ea_nil) g) rfl) fun Γ e => ?_
  subst e
  refine wp_seq (N1 := fun Γ => Γ = [.val (dBs S), .val (.tuple (dI [])), .no]) (wp_setD ev_T0 rfl) fun Γ e => ?_
  subst e
  refine wp_seq (N1 := fun Γ => Γ = [.val (dBs S), .val (.tuple (dI [])), .val (.tuple (dI (readyIn S.h S.w S.bs [])))]) (wp_setD (ev_call (enc := E_all_ready_of) (f := V_all_ready_of) (S, []) (ea_c ev_var (ea_c ev_var ea_nil)) ⟨g, Ln.nil⟩) rfl) fun Γ e => ?_
  subst e
  refine wp_seq (N1 := fun Γ => ∃ s, Γ = [.val (dBs S), .val (.tuple (dI (runs pk (S.h + S.w) []))), s]) (wp_while (fun m Γ => ∃ lot, Ln (S.h + S.w) lot ∧ lot.length + m = S.h + S.w ∧ runs pk m lot = runs pk (S.h + S.w) [] ∧ Γ = [.val (dBs S), .val (.tuple (dI lot)), .val (.tuple (dI (readyIn S.h S.w S.bs lot)))]) (S.h + S.w) ⟨[], Ln.nil, by simp, rfl, rfl⟩ ?_) fun Γ e => ?_
  · rintro m Γ ⟨lot, L, hl, hr, rfl⟩
    refine ⟨_, et_test (ev_op ev_var ev_T0 rv_neTI), fun hb => ?_, fun hb => ?_⟩
    · have hll := L.len
      have e0 : readyIn S.h S.w S.bs lot ≠ [] := by simpa using hb
      cases ec : readyIn S.h S.w S.bs lot with
      | nil => exact absurd ec e0
      | cons x xs =>
        have hx := mem_readyIn.mp (show x ∈ readyIn S.h S.w S.bs lot by rw [ec]; exact List.mem_cons_self)
        have hlt := L.len_lt hx.1 hx.2.1
        have hpl : pk lot = some x := by rw [← hpk]; show (readyIn S.h S.w S.bs lot).head? = some x; rw [ec]; rfl
        obtain ⟨m, rfl⟩ : ∃ k, m = k + 1 := ⟨m - 1, by omega⟩
        refine wp_seq (N1 := fun Γ => Γ = [.val (dBs S), .val (.tuple (dI (srt (lot ++ [x])))), .val (.tuple (dI (x :: xs)))]) (wp_setD (ev_call (enc := E_with_line) (f := V_with_line) (lot, x) (ea_c ev_var (ea_c (ev_op ev_var ev_int (rv_ixT at0)) ea_nil)) (by show lot.length ≤ 1000; omega)) rfl) fun Γ e => ?_
        subst e
        have L' := L.with hx.1 hx.2.1
        exact wp_setD (ev_call (enc := E_all_ready_of) (f := V_all_ready_of) (S, _) (ea_c ev_var (ea_c ev_var ea_nil)) ⟨g, L'⟩) ⟨m, by omega, _, L', by rw [len_with]; omega, by rw [← runs_some hpl]; exact hr, rfl⟩
    · have ec : readyIn S.h S.w S.bs lot = [] := by simpa using hb
      have hpl : pk lot = none := by rw [← hpk]; show (readyIn S.h S.w S.bs lot).head? = none; rw [ec]; rfl
      rw [runs_none hpl] at hr
      exact ⟨_, by rw [hr]⟩
  · obtain ⟨s, rfl⟩ := e
    exact wp_retD ev_var (by subst hpk; rfl)

/-! ### all_rounds: slots 0 boards, 1 lot, 2 found, 3 some -/
abbrev N_all_rounds : List Str := ["boards", "lot", "found", "some"]
theorem sc_all_rounds : FnScope N_all_rounds ["boards"] (defScope sall_rounds) := ⟨rfl, rfl, rfl, by decide +kernel, rfl, by decide +kernel, by decide +kernel⟩
abbrev E_all_rounds : (BDs) → List PyData := fun S => [dBs S]
abbrev R_all_rounds : (BDs) → Prop := GoodS
abbrev V_all_rounds : (BDs) → PyData := fun S => .tuple ((rnds (readyIn S.h S.w S.bs) (S.h + S.w) []).map fun l => .tuple (dI l))
abbrev SP_all_rounds : Sp := spF E_all_rounds R_all_rounds V_all_rounds
theorem ok_all_rounds {P : Program} {w : World} {K : PySem.W.Frag} {mg : Str → Option Value} {base : Heap} (T : Txt mg) (F : FnAt K mg "all_rounds" sall_rounds ["boards"]) (D_all_ready_of : Def P w K mg base 7 "all_ready_of" ["boards", "lot"] SP_all_ready_of) (D_need_boards : Def P w K mg base 5 "need_boards" ["value"] SP_need_boards) : Def P w K mg base 8 "all_rounds" ["boards"] SP_all_rounds := by
  refine F.ok sc_all_rounds (fun vs H Q E h => spF_len (n := 1) (fun _ => rfl) h) (fun f cdv A outer s H vs Q E hr h => ⟨_, (pss_cons (ps_expr (pe_def D_need_boards (hr.mono (by decide)) (by rfl) (pa_cons (pv 0) pa_nil)))
      (pss_cons (ps_par (i := 1) (j := 2) rfl sc_all_rounds.nd rfl rfl (by decide) rfl rfl (pa_cons (pe_tup pa_nil) (pa_cons (pe_lst pa_nil) pa_nil)) (by rfl))
      (pss_cons (ps_set (i := 3) sc_all_rounds.nd rfl (Or.inl rfl) (pe_def D_all_ready_of (hr.mono (by decide)) (by rfl) (pa_cons (pv 0) (pa_cons (pv 1) pa_nil))))
      (pss_cons (ps_while PassesOwn.never (pt_cmpR (neDK (K := K) rfl hr.units) (pv 3) (pe_tup pa_nil) (nomark _)) (pss_cons (ps_expr (pe_bm PySem.F.plainAttrs_list PySem.F.slot_list_append PySem.F.type_list_append mt_append (pv 2) (pa_cons (pv 3) pa_nil)))
      (pss_cons (ps_set (i := 1) sc_all_rounds.nd rfl (Or.inl rfl) (tupleK (K := K) rfl (by rfl) T.tuple (pe_callB (sortedK (K := K) rfl) (by rfl) T.sorted (by decide +kernel) (pa_cons (pe_lst (starK (K := K) rfl (pv 1) (starK (K := K) rfl (pv 3) pa_nil))) pa_nil))))
      (pss_one (ps_set (i := 3) sc_all_rounds.nd rfl (Or.inl rfl) (pe_def D_all_ready_of (hr.mono (by decide)) (by rfl) (pa_cons (pv 0) (pa_cons (pv 1) pa_nil))))))))
      (pss_one (ps_ret (tupleK (K := K) rfl (by rfl) T.tuple (pv 2)))))))), body_ok (K := K) 3 (fun _ => rfl) (fun a hp => ?_) h⟩)
  rename BDs => S
  have g := hp; have g1 := g.one; have h6 : S.h ≤ 6 := g1.h6; have w6 : S.w ≤ 6 := g1.w6
  generalize hpk : readyIn S.h S.w S.bs = pk
  refine wp_seq (N1 := fun Γ => Γ = [.val (dBs S), .no, .no, .no]) (wp_drop (ev_call (enc := E_need_boards) (f := V_need_boards) S (ea_c ev_var ea_nil) g) rfl) fun Γ e => ?_
  subst e
  refine wp_seq (N1 := fun Γ => Γ = [.val (dBs S), .val (.tuple (dI [])), .own [], .no]) (wp_parO (by decide) ev_T0 (fun d e => by rw [e]; rfl)) fun Γ e => ?_
  subst e
  refine wp_seq (N1 := fun Γ => Γ = [.val (dBs S), .val (.tuple (dI [])), .own [], .val (.tuple (dI (pk [])))]) (wp_setD (ev_call (enc := E_all_ready_of) (f := V_all_ready_of) (S, []) (ea_c ev_var (ea_c ev_var ea_nil)) ⟨g, Ln.nil⟩) (by rw [← hpk]; rfl)) fun Γ e => ?_
  subst e
  refine wp_seq (N1 := fun Γ => ∃ s t, Γ = [.val (dBs S), s, .own ((rnds pk (S.h + S.w) []).map fun l => .tuple (dI l)), t]) (wp_while (fun m Γ => ∃ lot acc, Ln (S.h + S.w) lot ∧ S.h + S.w ≤ lot.length + m ∧ acc.length ≤ lot.length ∧ acc ++ rnds pk m lot = rnds pk (S.h + S.w) [] ∧ Γ = [.val (dBs S), .val (.tuple (dI lot)), .own (acc.map fun l => .tuple (dI l)), .val (.tuple (dI (pk lot)))]) (S.h + S.w) ⟨[], [], Ln.nil, by simp, by simp, rfl, rfl⟩ ?_) fun Γ e => ?_
  · rintro m Γ ⟨lot, acc, L, hl, ha, hr, rfl⟩
    refine ⟨_, et_test (ev_op ev_var ev_T0 rv_neTI), fun hb => ?_, fun hb => ?_⟩
    · have hll := L.len
      have e0 : pk lot ≠ [] := by simpa using hb
      obtain ⟨x, hx0⟩ := List.exists_mem_of_ne_nil _ e0
      have hm : ∀ y ∈ pk lot, y < S.h + S.w ∧ y ∉ lot := fun y hy => by
        rw [← hpk] at hy
        have := mem_readyIn.mp hy
        exact ⟨this.1, this.2.1⟩
      have nd : (pk lot).Nodup := by rw [← hpk]; exact readyIn_nodup
      have hlt := L.len_lt (hm x hx0).1 (hm x hx0).2
      have hpos : 0 < (pk lot).length := List.length_pos_iff.mpr e0
      obtain ⟨m, rfl⟩ : ∃ k, m = k + 1 := ⟨m - 1, by omega⟩
      have L' := L.more nd hm
      have hl' := L'.len
      rw [srt_len, List.length_append] at hl'
      refine wp_seq (N1 := fun Γ => Γ = [.val (dBs S), .val (.tuple (dI lot)), .own ((acc ++ [pk lot]).map fun l => .tuple (dI l)), .val (.tuple (dI (pk lot)))]) (wp_app rfl ev_var (by rw [List.length_map]; omega) fun d ed => by rw [ed, List.map_append]; rfl) fun Γ e => ?_
      subst e
      refine wp_seq (N1 := fun Γ => Γ = [.val (dBs S), .val (.tuple (dI (srt (lot ++ pk lot)))), .own ((acc ++ [pk lot]).map fun l => .tuple (dI l)), .val (.tuple (dI (pk lot)))]) (wp_setD (ev_tupleL (ev_sortedN (Ev.to (ev_lst (ea_starT (ds := dI lot) ev_var (ea_starT (ds := dI (pk lot)) ev_var ea_nil)) (by rw [List.append_nil, List.length_append, dI_len, dI_len]; omega)) (by rw [List.append_nil, dI_app])))) rfl) fun Γ e => ?_
      subst e
      refine wp_setD (ev_call (enc := E_all_ready_of) (f := V_all_ready_of) (S, _) (ea_c ev_var (ea_c ev_var ea_nil)) ⟨g, L'⟩) ⟨m, by omega, _, acc ++ [pk lot], L', by rw [srt_len, List.length_append]; omega, by rw [srt_len, List.length_append, List.length_append]; show acc.length + 1 ≤ _; omega, ?_, by rw [← hpk]; rfl⟩
      rw [← hr, rnds, if_neg e0, List.append_assoc]; rfl
    · have ec : pk lot = [] := by simpa using hb
      rw [rnds_none ec, List.append_nil] at hr
      exact ⟨_, _, by rw [hr]⟩
  · obtain ⟨s, t, rfl⟩ := e
    exact wp_pub (i := 2) rfl (wp_retD (ev_tupleL ev_var) (by subst hpk; rfl))

/-! ### all_comes: slots 0 boards, 1 lot, 2 now, 3 some, 4 line -/
abbrev N_all_comes : List Str := ["boards", "lot", "now", "some", "line"]
theorem sc_all_comes : FnScope N_all_comes ["boards", "lot"] (defScope sall_comes) := ⟨rfl, rfl, rfl, by decide +kernel, rfl, by decide +kernel, by decide +kernel⟩
abbrev E_all_comes : (BDs × List Nat) → List PyData := fun a => [dBs a.1, .tuple (dI a.2)]
abbrev R_all_comes : (BDs × List Nat) → Prop := fun a => GoodS a.1 ∧ Lot a.1.h a.1.w a.2
abbrev V_all_comes : (BDs × List Nat) → PyData := fun a => .bool (decide (runs (fun l => ((readyIn a.1.h a.1.w a.1.bs l).filter fun x => a.2.contains x).head?) (a.1.h + a.1.w) [] = a.2))
abbrev SP_all_comes : Sp := spF E_all_comes R_all_comes V_all_comes
theorem ok_all_comes {P : Program} {w : World} {K : PySem.W.Frag} {mg : Str → Option Value} {base : Heap} (T : Txt mg) (F : FnAt K mg "all_comes" sall_comes ["boards", "lot"]) (D_all_ready_of : Def P w K mg base 7 "all_ready_of" ["boards", "lot"] SP_all_ready_of) (D_with_line : Def P w K mg base 1 "with_line" ["lot", "line"] SP_with_line) (D_need_lot : Def P w K mg base 4 "need_lot" ["board", "value"] SP_need_lot) (D_need_boards : Def P w K mg base 5 "need_boards" ["value"] SP_need_boards) : Def P w K mg base 8 "all_comes" ["boards", "lot"] SP_all_comes := by
  refine F.ok sc_all_comes (fun vs H Q E h => spF_len (n := 2) (fun _ => rfl) h) (fun f cdv A outer s H vs Q E hr h => ⟨_, (pss_cons (ps_expr (pe_def D_need_boards (hr.mono (by decide)) (by rfl) (pa_cons (pv 0) pa_nil)))
      (pss_cons (ps_expr (pe_def D_need_lot (hr.mono (by decide)) (by rfl) (pa_cons (pe_ix (ixTK (K := K) rfl) (pv 0) pe_int (fun _ _ => rfl)) (pa_cons (pv 1) pa_nil))))
      (pss_cons (ps_set (i := 2) sc_all_comes.nd rfl (Or.inl rfl) (pe_tup pa_nil))
      (pss_cons (ps_setLc (i := 3) (own := [("line", 4)]) (g := gName 4) rfl sc_all_comes.nd rfl rfl (sw_true rfl rfl rfl (by decide +kernel)) (tupI (K := K) rfl (pe_def D_all_ready_of (hr.mono (by decide)) (by rfl) (pa_cons (pv 0) (pa_cons (pv 2) pa_nil)))) (blkOk_by (own := [("line", 4)]) (N := N_all_comes) (sc := defScope sall_comes) (by decide +kernel)) (fun _ _ _ _ _ => pg_name (i := 4) sc_all_comes.nd rfl (Or.inl rfl)) (fun _ _ _ _ _ => pts_one (pt_cmpR (inK (K := K) rfl) (pv 4) (pv 1) (by rfl))) (fun _ _ _ _ _ => (pv 4)))
      (pss_cons (ps_while PassesOwn.never (pt_cmpR (neDK (K := K) rfl hr.units) (pv 3) (pe_lst pa_nil) (nomark _)) (pss_cons (ps_set (i := 2) sc_all_comes.nd rfl (Or.inl rfl) (pe_def D_with_line (hr.mono (by decide)) (by rfl) (pa_cons (pv 2) (pa_cons (pe_ix (ixLK (K := K) rfl) (pv 3) pe_int (fun _ _ => rfl)) pa_nil))))
      (pss_one (ps_setLc (i := 3) (own := [("line", 4)]) (g := gName 4) rfl sc_all_comes.nd rfl rfl (sw_true rfl rfl rfl (by decide +kernel)) (tupI (K := K) rfl (pe_def D_all_ready_of (hr.mono (by decide)) (by rfl) (pa_cons (pv 0) (pa_cons (pv 2) pa_nil)))) (blkOk_by (own := [("line", 4)]) (N := N_all_comes) (sc := defScope sall_comes) (by decide +kernel)) (fun _ _ _ _ _ => pg_name (i := 4) sc_all_comes.nd rfl (Or.inl rfl)) (fun _ _ _ _ _ => pts_one (pt_cmpR (inK (K := K) rfl) (pv 4) (pv 1) (by rfl))) (fun _ _ _ _ _ => (pv 4))))))
      (pss_one (ps_ret (pe_cmpR (eqDK (K := K) rfl hr.units) (pv 2) (pv 1) (nomark _))))))))), body_ok (K := K) 3 (fun _ => rfl) (fun a hp => ?_) h⟩)
  obtain ⟨S, lot⟩ := a
  obtain ⟨g, LL⟩ : GoodS S ∧ Lot S.h S.w lot := hp
  have g1 := g.one; have h6 : S.h ≤ 6 := g1.h6; have w6 : S.w ≤ 6 := g1.w6
  have lenR : ∀ l, (readyIn S.h S.w S.bs l).length ≤ 1000000 := fun l => by
    unfold readyIn
    have := List.length_filter_le (fun x => !l.contains x && fallsIn S.h S.w S.bs l x) (List.range (S.h + S.w))
    rw [List.length_range] at this
    omega
  generalize hpk : (fun l => ((readyIn S.h S.w S.bs l).filter fun x => lot.contains x).head?) = pk
  refine wp_seq (N1 := fun Γ => Γ = [.val (dBs S), .val (.tuple (dI lot)), .no, .no, .no]) (wp_drop (ev_call (enc := E_need_boards) (f := V_need_boards) S (ea_c ev_var ea_nil) g) rfl) fun Γ e => ?_
  subst e
  refine wp_seq (N1 := fun Γ => Γ = [.val (dBs S), .val (.tuple (dI lot)), .no, .no, .no]) (wp_drop (ev_call (enc := E_need_lot) (f := V_need_lot) (S.one, lot) (ea_c (ev_op ev_var ev_int (rv_ixT (atI_of rfl g.at))) (ea_c ev_var ea_nil)) ⟨g1, LL⟩) rfl) fun Γ e => ?_
  subst e
  refine wp_seq (N1 := fun Γ => Γ = [.val (dBs S), .val (.tuple (dI lot)), .val (.tuple (dI [])), .no, .no]) (wp_setD ev_T0 rfl) fun Γ e => ?_
  subst e
  refine wp_seq (N1 := fun Γ => Γ = [.val (dBs S), .val (.tuple (dI lot)), .val (.tuple (dI [])), .val (.list (dI ((readyIn S.h S.w S.bs []).filter fun x => lot.contains x))), .no]) (wp_setD (ev_lcN (readyIn S.h S.w S.bs []) (fun x => lot.contains x) (ei_tupD (ev_call (enc := E_all_ready_of) (f := V_all_ready_of) (S, []) (ea_c ev_var (ea_c ev_var ea_nil)) ⟨g, Ln.nil⟩)) (lenR _) fun x hx => et_test (ev_op ev_var ev_var rv_isTN)) rfl) fun Γ e => ?_
  subst e
  refine wp_seq (N1 := fun Γ => ∃ s, Γ = [.val (dBs S), .val (.tuple (dI lot)), .val (.tuple (dI (runs pk (S.h + S.w) []))), s, .no]) (wp_while (fun m Γ => ∃ now, Ln (S.h + S.w) now ∧ now.length + m = S.h + S.w ∧ runs pk m now = runs pk (S.h + S.w) [] ∧ Γ = [.val (dBs S), .val (.tuple (dI lot)), .val (.tuple (dI now)), .val (.list (dI ((readyIn S.h S.w S.bs now).filter fun x => lot.contains x))), .no]) (S.h + S.w) ⟨[], Ln.nil, by simp, rfl, rfl⟩ ?_) fun Γ e => ?_
  · rintro m Γ ⟨now, L, hl, hr, rfl⟩
    refine ⟨_, et_test (ev_op ev_var ev_L0 rv_neLI), fun hb => ?_, fun hb => ?_⟩
    · have hll := L.len
      have e0 : ((readyIn S.h S.w S.bs now).filter fun x => lot.contains x) ≠ [] := by simpa using hb
      cases ec : (readyIn S.h S.w S.bs now).filter fun x => lot.contains x with
      | nil => exact absurd ec e0
      | cons x xs =>
        have hx := mem_readyIn.mp (List.mem_filter.mp (show x ∈ (readyIn S.h S.w S.bs now).filter fun x => lot.contains x by rw [ec]; exact List.mem_cons_self)).1
        have hlt := L.len_lt hx.1 hx.2.1
        have hpl : pk now = some x := by rw [← hpk]; show ((readyIn S.h S.w S.bs now).filter fun x => lot.contains x).head? = some x; rw [ec]; rfl
        obtain ⟨m, rfl⟩ : ∃ k, m = k + 1 := ⟨m - 1, by omega⟩
        refine wp_seq (N1 := fun Γ => Γ = [.val (dBs S), .val (.tuple (dI lot)), .val (.tuple (dI (srt (now ++ [x])))), .val (.list (dI (x :: xs))), .no]) (wp_setD (ev_call (enc := E_with_line) (f := V_with_line) (now, x) (ea_c ev_var (ea_c (ev_op ev_var ev_int (rv_ixL at0)) ea_nil)) (by show now.length ≤ 1000; omega)) rfl) fun Γ e => ?_
        subst e
        have L' := L.with hx.1 hx.2.1
        exact wp_setD (ev_lcN (readyIn S.h S.w S.bs _) (fun x => lot.contains x) (ei_tupD (ev_call (enc := E_all_ready_of) (f := V_all_ready_of) (S, _) (ea_c ev_var (ea_c ev_var ea_nil)) ⟨g, L'⟩)) (lenR _) fun x hx => et_test (ev_op ev_var ev_var rv_isTN)) ⟨m, by omega, _, L', by rw [len_with]; omega, by rw [← runs_some hpl]; exact hr, rfl⟩
    · have ec : ((readyIn S.h S.w S.bs now).filter fun x => lot.contains x) = [] := by simpa using hb
      have hpl : pk now = none := by rw [← hpk]; show ((readyIn S.h S.w S.bs now).filter fun x => lot.contains x).head? = none; rw [ec]; rfl
      rw [runs_none hpl] at hr
      exact ⟨_, by rw [hr]⟩
  · obtain ⟨s, rfl⟩ := e
    exact wp_retD (ev_op ev_var ev_var rv_eqTI) (by subst hpk; rfl)

/-! ### need_held: slots 0 board, 1 value, 2 a, 3 b, 4 one -/
abbrev N_need_held : List Str := ["board", "value", "a", "b", "one"]
theorem sc_need_held : FnScope N_need_held ["board", "value"] (defScope sneed_held) := ⟨rfl, rfl, rfl, by decide +kernel, rfl, by decide +kernel, by decide +kernel⟩
abbrev E_need_held : (BD × List Nat) → List PyData := fun a => [dB a.1.b, .tuple (dI a.2)]
abbrev R_need_held : (BD × List Nat) → Prop := fun a => Good a.1 ∧ Ln (a.1.h + a.1.w) a.2
abbrev V_need_held : (BD × List Nat) → PyData := fun _ => .none
abbrev SP_need_held : Sp := spF E_need_held R_need_held V_need_held
theorem ok_need_held {P : Program} {w : World} {K : PySem.W.Frag} {mg : Str → Option Value} {base : Heap} (T : Txt mg) (F : FnAt K mg "need_held" sneed_held ["board", "value"]) (D_is_from : Def P w K mg base 2 "is_from" ["value", "least", "most"] SP_is_from) (D_sides : Def P w K mg base 1 "sides" ["board"] SP_sides) : Def P w K mg base 3 "need_held" ["board", "value"] SP_need_held := by
  refine F.ok sc_need_held (fun vs H Q E h => spF_len (n := 2) (fun _ => rfl) h) (fun f cdv A outer s H vs Q E hr h => ⟨_, (pss_cons (ps_if (PW.pt (pw_or (pt_not (pt_val (pe_callB (isiK (K := K) rfl) (by rfl) T.isinstance (by decide +kernel) (pa_cons (pv 1) (pa_cons (pe_bltn (v := .ty "tuple") (by rfl) T.tuple boot_tuple rfl) pa_nil))))) (pw_or1 (pt_not (pt_val (pe_callB (allK (K := K) rfl rfl) (by rfl) T.all (by decide +kernel) (pa_cons (pe_lc (own := [("one", 4)]) (tt := tYes) (g := gName 4) rfl sc_need_held.nd (tupI (K := K) rfl (pv 1)) (blkOk_by (own := [("one", 4)]) (N := N_need_held) (sc := defScope sneed_held) (by decide +kernel)) (fun _ _ _ _ _ => pg_name (i := 4) sc_need_held.nd rfl (Or.inl rfl)) (fun _ _ _ _ _ => pts_nil) (fun _ _ _ _ _ => (pe_def D_is_from (hr.mono (by decide)) (by rfl) (pa_cons (pv 4) (pa_cons pe_int (pa_cons (pe_op op_sub (pe_callB (sumK (K := K) rfl rfl) (by rfl) T.sum (by decide +kernel) (pa_cons (pe_def D_sides (hr.mono (by decide)) (by rfl) (pa_cons (pv 0) pa_nil)) pa_nil)) pe_int) pa_nil)))))) pa_nil))))))) (pss_one ps_never) pss_nil)
      (pss_one (ps_if (pt_val (pe_callB (anyK (K := K) rfl rfl) (by rfl) T.any (by decide +kernel) (pa_cons (pe_lc (own := [("a", 2), ("b", 3)]) (tt := tYes) (g := gTup K 2 (gCons (gName 2) (gCons (gName 3) gNil))) rfl sc_need_held.nd (zipI (K := K) rfl (by rfl) T.zip (pa_cons (pv 1) (pa_cons (pe_slice (slTK (K := K) rfl) (pv 1) (po_some pe_int) po_none) pa_nil))) (blkOk_by (own := [("a", 2), ("b", 3)]) (N := N_need_held) (sc := defScope sneed_held) (by decide +kernel)) (fun _ _ _ _ _ => tupG (K := K) rfl rfl (pgs_cons (pg_name (i := 2) sc_need_held.nd rfl (Or.inl rfl)) (pgs_cons (pg_name (i := 3) sc_need_held.nd rfl (Or.inl rfl)) pgs_nil))) (fun _ _ _ _ _ => pts_nil) (fun _ _ _ _ _ => (pe_cmpR op_ge (pv 2) (pv 3) (nomark _)))) pa_nil))) (pss_one ps_never) pss_nil))), body_ok (K := K) 3 (fun _ => rfl) (fun a hp => ?_) h⟩)
  obtain ⟨B, lot⟩ := a
  obtain ⟨g, L⟩ : Good B ∧ Ln (B.h + B.w) lot := hp
  have h1 := g.h1; have h6 := g.h6; have w1 := g.w1; have w6 := g.w6
  have hl := L.len
  have G0 : start0 (E_need_held (B, lot)) 3 = [.val (dB B.b), .val (.tuple (dI lot)), .no, .no, .no] := rfl
  rw [G0]
  have sd : ∀ {Γ : Env}, Γ[0]? = some (.val (dB B.b)) → Ev K (tCB (rSumT K) (tCons (tCall SP_sides [] E0 (tCons (tVar 0) tNil)) tNil)) Γ (.int ((B.h + B.w : Nat) : Int)) := fun h0 => Ev.to (ev_sumT (ns := [(B.h : Int), (B.w : Int)]) (ev_call (enc := E_sides) (f := V_sides) B (ea_c (ev_var h0) ea_nil) g)) (by simp)
  refine wp_seq (N1 := fun Γ => Γ = [.val (dB B.b), .val (.tuple (dI lot)), .no, .no, .no]) (wp_no ?_ (wp_next rfl)) fun Γ e => ?_
  · refine et_or (a := false) (b := false) (et_not (a := true) (et_B (ev_is "tuple" true ev_var (by decide +kernel)))) (fun _ => et_not (a := true) (et_B (Ev.to (ev_all (bs := (lot.filter fun _ => true).map fun _ => true) (ev_lcB lot (fun _ => true) (fun _ => true) (ei_tupD ev_var) (by omega) (fun _ _ => et_yes) fun x hx _ => Ev.to (ev_call (enc := E_is_from) (f := V_is_from) ((x : Int), 0, ((B.h + B.w : Nat) : Int) - 1) (ea_c ev_var (ea_c ev_int (ea_c (ev_op (sd rfl) ev_int rv_I) ea_nil))) trivial) ?_)) ?_))) (fun e => e)
    · have := L.2 x hx
      show PyData.bool (decide ((0 : Int) ≤ (x : Int)) && decide ((x : Int) ≤ ((B.h + B.w : Nat) : Int) - 1)) = .bool true
      rw [decide_eq_true (by omega), decide_eq_true (by omega)]; rfl
    · rw [List.all_map]; congr 1; exact List.all_eq_true.mpr fun _ _ => rfl
  subst e
  refine wp_no (et_B (Ev.to (ev_any (bs := ((nI lot).zip (nI (lot.drop 1))).map fun q => decide (q.2 ≤ q.1)) (ev_lcpI (fun a b => decide (b ≤ a)) (by decide) ?_ (by unfold nI; rw [List.length_map]; omega) fun a b hab => ev_op ev_var ev_var rv_B)) ?_)) (wp_next rfl)
  · exact ei_zipT (K := K) (Γ := [.val (dB B.b), .val (.tuple (dI lot)), .no, .no, .no]) (t := tCons (tVar 1) (tCons (tSl (rSlA K) (tVar 1) (tPart (tC (.int 1))) tNoPart) tNil)) (ds := (nI lot).map .int) (es := (nI (lot.drop 1)).map .int) (ea_c (Ev.to (d := .tuple (dI lot)) ev_var (by rw [dI_ints])) (ea_c (Ev.to (ev_slT (n := 1) (ds := dI lot) ev_var ev_int) (by rw [← dI_ints]; unfold dI; rw [List.map_drop])) ea_nil))
  · congr 1
    rw [List.any_map]
    refine List.any_eq_false.mpr fun q hq => ?_
    unfold nI at hq
    rw [List.zip_map] at hq
    obtain ⟨p, hp, e⟩ := List.mem_map.mp hq
    have : p.1 < p.2 := by
      obtain ⟨i, hi, e⟩ := List.mem_iff_getElem.mp hp
      rw [List.getElem_zip, List.getElem_drop] at e
      rw [← e]
      exact List.pairwise_iff_getElem.mp L.1 _ _ _ _ (by omega)
    rw [← e]
    simp only [Function.comp, Prod.map, id]
    intro z
    have := of_decide_eq_true z
    omega

/-! ### last_with: slots 0 board, 1 held, 2 line -/
abbrev N_last_with : List Str := ["board", "held", "line"]
theorem sc_last_with : FnScope N_last_with ["board", "held"] (defScope slast_with) := ⟨rfl, rfl, rfl, by decide +kernel, rfl, by decide +kernel, by decide +kernel⟩
abbrev E_last_with : (BD × List Nat) → List PyData := fun a => [dB a.1.b, .tuple (dI a.2)]
abbrev R_last_with : (BD × List Nat) → Prop := fun a => Good a.1 ∧ Ln (a.1.h + a.1.w) a.2
abbrev V_last_with : (BD × List Nat) → PyData := fun a => .tuple (dI (lastWith a.1.h a.1.w a.1.b a.2))
abbrev SP_last_with : Sp := spF E_last_with R_last_with V_last_with
theorem ok_last_with {P : Program} {w : World} {K : PySem.W.Frag} {mg : Str → Option Value} {base : Heap} (T : Txt mg) (F : FnAt K mg "last_with" slast_with ["board", "held"]) (D_closure : Def P w K mg base 7 "closure" ["board", "within"] SP_closure) (D_lines_of : Def P w K mg base 2 "lines_of" ["board"] SP_lines_of) (D_need_held : Def P w K mg base 3 "need_held" ["board", "value"] SP_need_held) (D_need_board : Def P w K mg base 4 "need_board" ["value"] SP_need_board) : Def P w K mg base 8 "last_with" ["board", "held"] SP_last_with := by
  refine F.ok sc_last_with (fun vs H Q E h => spF_len (n := 2) (fun _ => rfl) h) (fun f cdv A outer s H vs Q E hr h => ⟨_, (pss_cons (ps_expr (pe_def D_need_board (hr.mono (by decide)) (by rfl) (pa_cons (pv 0) pa_nil)))
      (pss_cons (ps_expr (pe_def D_need_held (hr.mono (by decide)) (by rfl) (pa_cons (pv 0) (pa_cons (pv 1) pa_nil))))
      (pss_one (ps_ret (tupleK (K := K) rfl (by rfl) T.tuple (pe_callB (sortedK (K := K) rfl) (by rfl) T.sorted (by decide +kernel) (pa_cons (pe_def D_closure (hr.mono (by decide)) (by rfl) (pa_cons (pv 0) (pa_cons (pe_lc (own := [("line", 2)]) (g := gName 2) rfl sc_last_with.nd (tupI (K := K) rfl (pe_def D_lines_of (hr.mono (by decide)) (by rfl) (pa_cons (pv 0) pa_nil))) (blkOk_by (own := [("line", 2)]) (N := N_last_with) (sc := defScope slast_with) (by decide +kernel)) (fun _ _ _ _ _ => pg_name (i := 2) sc_last_with.nd rfl (Or.inl rfl)) (fun _ _ _ _ _ => pts_one (pt_cmpR (ninK (K := K) rfl) (pv 2) (pv 1) (by rfl))) (fun _ _ _ _ _ => (pv 2))) pa_nil))) pa_nil))))))), body_ok (K := K) 1 (fun _ => rfl) (fun a hp => ?_) h⟩)
  obtain ⟨B, held⟩ := a
  obtain ⟨g, L⟩ : Good B ∧ Ln (B.h + B.w) held := hp
  have h6 := g.h6; have w6 := g.w6
  refine wp_seq (N1 := fun Γ => Γ = start0 (E_last_with (B, held)) 1) (wp_drop (ev_call (enc := E_need_board) (f := V_need_board) B (ea_c ev_var ea_nil) g) rfl) fun Γ e => ?_
  subst e
  refine wp_seq (N1 := fun Γ => Γ = start0 (E_last_with (B, held)) 1) (wp_drop (ev_call (enc := E_need_held) (f := V_need_held) (B, held) (ea_c ev_var (ea_c ev_var ea_nil)) ⟨g, L⟩) rfl) fun Γ e => ?_
  subst e
  refine wp_retD (Ev.to (ev_tupleL (ev_sortedN (ev_call (enc := E_closure) (f := V_closure) (B, true, (List.range (B.h + B.w)).filter fun x => !held.contains x) (ea_c ev_var (ea_c (ev_lcN (List.range (B.h + B.w)) (fun x => !held.contains x) (ei_tupD (ev_call (enc := E_lines_of) (f := V_lines_of) B (ea_c ev_var ea_nil) g)) (by rw [List.length_range]; omega) fun x hx => et_test (ev_op ev_var ev_var rv_niTN)) ea_nil)) ⟨g, rising_filter _ (rising_range _), fun x hx => List.mem_range.mp (List.mem_filter.mp hx).1⟩))) ?_) rfl
  show PyData.tuple (dI (srt (ords _ _ [] []))) = _
  rw [srt_ords _ _ _ (srt_of (List.Perm.refl []) .nil).symm]; rfl

/-! ### keeps: slots 0 board, 1 held, 2 told, 3 line -/
abbrev N_keeps : List Str := ["board", "held", "told", "line"]
theorem sc_keeps : FnScope N_keeps ["board", "held"] (defScope skeeps) := ⟨rfl, rfl, rfl, by decide +kernel, rfl, by decide +kernel, by decide +kernel⟩
abbrev E_keeps : (BD × List Nat) → List PyData := fun a => [dB a.1.b, .tuple (dI a.2)]
abbrev R_keeps : (BD × List Nat) → Prop := fun a => Good a.1 ∧ Ln (a.1.h + a.1.w) a.2
abbrev V_keeps : (BD × List Nat) → PyData := fun a => .tuple (dI ((lastOf a.1.h a.1.w a.1.b).filter fun x => !(lastWith a.1.h a.1.w a.1.b a.2).contains x && !a.2.contains x))
abbrev SP_keeps : Sp := spF E_keeps R_keeps V_keeps
theorem ok_keeps {P : Program} {w : World} {K : PySem.W.Frag} {mg : Str → Option Value} {base : Heap} (T : Txt mg) (F : FnAt K mg "keeps" skeeps ["board", "held"]) (D_last_of : Def P w K mg base 8 "last_of" ["board"] SP_last_of) (D_last_with : Def P w K mg base 8 "last_with" ["board", "held"] SP_last_with) (D_need_held : Def P w K mg base 3 "need_held" ["board", "value"] SP_need_held) (D_need_board : Def P w K mg base 4 "need_board" ["value"] SP_need_board) : Def P w K mg base 9 "keeps" ["board", "held"] SP_keeps := by
  refine F.ok sc_keeps (fun vs H Q E h => spF_len (n := 2) (fun _ => rfl) h) (fun f cdv A outer s H vs Q E hr h => ⟨_, (pss_cons (ps_expr (pe_def D_need_board (hr.mono (by decide)) (by rfl) (pa_cons (pv 0) pa_nil)))
      (pss_cons (ps_expr (pe_def D_need_held (hr.mono (by decide)) (by rfl) (pa_cons (pv 0) (pa_cons (pv 1) pa_nil))))
      (pss_cons (ps_set (i := 2) sc_keeps.nd rfl (Or.inr rfl) (pe_def D_last_with (hr.mono (by decide)) (by rfl) (pa_cons (pv 0) (pa_cons (pv 1) pa_nil))))
      (pss_one (ps_ret (tupleK (K := K) rfl (by rfl) T.tuple (pe_lc (own := [("line", 3)]) (g := gName 3) rfl sc_keeps.nd (tupI (K := K) rfl (pe_def D_last_of (hr.mono (by decide)) (by rfl) (pa_cons (pv 0) pa_nil))) (blkOk_by (own := [("line", 3)]) (N := N_keeps) (sc := defScope skeeps) (by decide +kernel)) (fun _ _ _ _ _ => pg_name (i := 3) sc_keeps.nd rfl (Or.inl rfl)) (fun _ _ _ _ _ => pts_one (PW.pt (pw_and (pt_cmpR (ninK (K := K) rfl) (pv 3) (pv 2) (by rfl)) (pw_and1 (pt_cmpR (ninK (K := K) rfl) (pv 3) (pv 1) (by rfl)))))) (fun _ _ _ _ _ => (pv 3))))))))), body_ok (K := K) 2 (fun _ => rfl) (fun a hp => ?_) h⟩)
  obtain ⟨B, held⟩ := a
  obtain ⟨g, L⟩ : Good B ∧ Ln (B.h + B.w) held := hp
  have h6 := g.h6; have w6 := g.w6
  have hlast := (lastOf_ln (h := B.h) (w := B.w) (b := B.b)).len
  refine wp_seq (N1 := fun Γ => Γ = start0 (E_keeps (B, held)) 2) (wp_drop (ev_call (enc := E_need_board) (f := V_need_board) B (ea_c ev_var ea_nil) g) rfl) fun Γ e => ?_
  subst e
  refine wp_seq (N1 := fun Γ => Γ = start0 (E_keeps (B, held)) 2) (wp_drop (ev_call (enc := E_need_held) (f := V_need_held) (B, held) (ea_c ev_var (ea_c ev_var ea_nil)) ⟨g, L⟩) rfl) fun Γ e => ?_
  subst e
  refine wp_seq (N1 := fun Γ => Γ = [.val (dB B.b), .val (.tuple (dI held)), .val (.tuple (dI (lastWith B.h B.w B.b held))), .no]) (wp_setD (ev_call (enc := E_last_with) (f := V_last_with) (B, held) (ea_c ev_var (ea_c ev_var ea_nil)) ⟨g, L⟩) rfl) fun Γ e => ?_
  subst e
  exact wp_retD (ev_tupleL (ev_lcN (lastOf B.h B.w B.b) (fun x => !(lastWith B.h B.w B.b held).contains x && !held.contains x) (ei_tupD (ev_call (enc := E_last_of) (f := V_last_of) B (ea_c ev_var ea_nil) g)) (by omega) fun x hx => et_and (et_test (ev_op ev_var ev_var rv_niTN)) (fun e => EvT.to (et_test (ev_op ev_var ev_var rv_niTN)) (by rw [e]; rfl)) (fun e => by rw [e]; rfl))) rfl
end K23

set_option Elab.async false
set_option linter.all false
set_option maxRecDepth 100000
set_option maxHeartbeats 4000000
/-! sorted(xs, key=lambda lot: (len(lot), lot)), xs tuples of ints. -/
namespace K23
open PySem PySem.Spec PyProof.Rows L2 LamX
def vI (n : Nat) : V := .int (n : Int)
def kyD (l : List Nat) : PyData := .tuple [.int (l.length : Int), .tuple (dI l)]
theorem reads_ints {h : Heap} : ∀ (l : List Nat) (its : List Value), Vals (l.map vI) its → ReadsAll h its (dI l) []
  | [], _, r => by cases r; exact .nil
  | x :: l, _, r => by
    cases r with
    | cons r rr =>
      obtain ⟨t, rfl⟩ := r
      exact .cons (.int _ _) (reads_ints l _ rr)
structure LamK (q : Str) (params : Arguments) (body : Expr) (scope : Scope) : Prop where
  kind : scope.kind = .function
  co : scope.isCoroutine = false
  gen : scope.isGenerator = false
  cell : ∀ x ∈ scope.names, x.2 ≠ .cell
  free : ∀ x ∈ scope.names, x.2 ≠ .free
  lot : scope.names.lookup (Str.ofString "lot") = some NameKind.local
  len : scope.names.lookup (Str.ofString "len") = some NameKind.globalImplicit
  bind : ∀ (cl : List (Str × Addr)) (pm cv ctv v : Value), bindArgs (PySem.W.kla_fn "<lambda>" q params body scope cl pm cv ctv) ⟨[v], []⟩ = pure [(Str.ofString "lot", v)]
  body : ∃ p1 p2 p3 p4 k p5, body = .Tuple [.Call (.Name "len" p1) [.Name "lot" p2] [] p3, .Name "lot" p4] k p5
theorem lam_turn {X : Cx} {pins : List (Addr × Obj)} {σ : L2.St} {H : Hp} {s : Shared} (I : Inv X pins σ H s) (hm : X.mg "len" = none) {q : Str} {params : Arguments} {body : Expr} {scope : Scope} (L : LamK q params body scope) {f c' : Addr} {cl : List (Str × Addr)} {pm ctv : Value}
    (hf : s.heap.get? f = some (PySem.W.kla_obj "<lambda>" q params body scope cl pm c' ctv)) (hco : s.heap.CodeRec (.ref c') q) {A : Around} (hroom : A.depth < recursionLimit) {t : Addr} {its : List Value} {l : List Nat} (ht : IsTup s.heap t its.toArray) (rv : Vals (l.map vI) its) (hl : l.length ≤ 1000) :
    wpAny (model X.prog X.w) A (call (.ref f) [.ref t]) (PySem.W.KeyPure (kyD l) s) (fun _ _ => False) s := by
  have hlen : its.length = l.length := by have := rv.length; rw [List.length_map] at this; exact this.symm
  obtain ⟨p1, p2, p3, p4, k, p5, eb⟩ := L.body
  subst eb
  refine wpAny_call (codeAny_mono (PySem.W.kla_callFunE (R := fun r s' => match r with | .ok (.ret v) => PySem.W.KeyPure (kyD l) s v s' | _ => False) hroom hf rfl L.co L.gen rfl hco ?_) fun r s' h => ?_)
  · rw [L.bind]
    refine wpAny_pure (wpAny_newFunctionEnv L.cell (fun x hx => ?_) (fun h₁ hns hsb => ⟨I.nolimit.fresh _ hsb, ?_⟩) L.kind)
    · have : x = (Str.ofString "lot", .ref t) := by simpa using hx
      rw [this]; exact L.lot
    have kp : ∀ b o, s.heap.get? b = some o → h₁.get? b = some o := fun b o e => hsb.extBut b o (Nat.ne_of_lt (Heap.lt_size e)) (Heap.get?_push_of_some _ e)
    refine PySem.W.kla_codeExpr (wpAny_Tuple_spliced ?_)
    obtain ⟨mb, b1, b2⟩ := I.mod.blt
    have hlot : ∀ {E : Value → Shared → Prop} {Q : Value → Shared → Prop} {A' : Around} {s' : Shared} {p : Pos}, s'.heap = h₁ → Q (.ref t) s' → wpAny (model X.prog X.w) A' (eval (.Name "lot" p) (newEnv scope s.heap.objs.size mainGlobals cl (q ++ ".<locals>.") (some f) (.ref c') none builtinsNs)) Q E s' := fun {E Q A' s' p} e hq =>
      wpAny_Name (wpAny_loadName_local (m := fun x => [(("lot" : Str), Value.ref t)].reverse.lookup x) (v := .ref t) L.kind L.lot (by rw [e]; exact hns) rfl hq)
    show wpAny _ _ (spliced ((false, eval (.Call (.Name "len" p1) [.Name "lot" p2] [] p3) _) :: [(false, eval (.Name "lot" p4) _)])) _ _ _
    refine Calls.spliced_cons (wpAny_Call_Name_kw (Calls.Name_function_global L.kind L.len (Calls.loadGlobal_builtin (mg := X.mg) (mb := mb) ((I.mod.glob.keeps I.bk).keeps kp) hm ((b1.keeps I.bk).keeps kp) (by rw [b2 "len" (by decide)]; exact PySem.boot_len) ?_)))
    refine PyProof.Rows.callWith_builtin1 ?_ rfl rfl
    show wpAny _ _ (spliced [(false, eval (.Name "lot" p2) _)]) _ _ _
    refine Calls.spliced_cons (hlot rfl (Calls.spliced_nil ?_))
    refine len_tuple (ht.keeps kp) (by rw [List.size_toArray, hlen]; omega) ?_
    refine Calls.spliced_cons (hlot rfl (Calls.spliced_nil ⟨by show 2 ≤ sizeLine; decide, ?_⟩))
    refine ⟨_, _, rfl, fun b o e => Heap.get?_push_of_some _ (kp b o e), ?_⟩
    refine .tuple (as := []) (Heap.get?_push_size _ rfl) rfl rfl ?_
    rw [List.size_toArray, hlen]
    obtain ⟨o, ho, hc, n, hd⟩ := ht
    refine .cons (as := []) (bs := []) (.int _ _) (.cons (as := []) (bs := []) (.tuple (Heap.get?_push_of_some _ (kp _ _ ho)) hc hd ?_) .nil)
    simpa using reads_ints l its rv
  · cases r with
    | error e => exact h.elim
    | ok fl => cases fl <;> first | exact h | exact h.elim
def kle : V × List Nat → V × List Nat → Bool := PySem.W.dataLe false fun z : V × List Nat => kyD z.2
def tSortLam (K : PySem.W.Frag) (T : List (Addr × Str)) (te : TE) : TE := fun σ H Q => te σ H fun v H1 => Tabs T H1 ∧ ∃ (a : Addr) (zs : List (V × List Nat)), v = .ref a ∧ SqL K H1 a (zs.map (·.1)) ∧ zs.length ≤ 100000 ∧
  (∀ z ∈ zs, z.2.length ≤ 1000 ∧ ∃ t, z.1 = .ref t ∧ SqT K H1 t (z.2.map vI)) ∧ ∀ H2 p, ExtN H1 H2 → Tabs T H2 → H2 p = none → Q (.ref p) (upd H2 p (.lst ((zs.mergeSort kle).map (·.1))))
theorem each_vals {R : Value → V × List Nat → Prop} (hR : ∀ v z, R v z → RelV z.1 v) : ∀ {out : List Value} {zs : List (V × List Nat)}, PySem.W.EachIs R out zs → Vals (zs.map (·.1)) out
  | _, _, .nil => .nil
  | _, _, .cons h t => .cons (hR _ _ h) (each_vals hR t)
theorem each_of {R : Value → V × List Nat → Prop} : ∀ {vs : List Value} {zs : List (V × List Nat)}, Vals (zs.map (·.1)) vs → (∀ z ∈ zs, ∀ v, RelV z.1 v → R v z) → PySem.W.EachIs R vs zs
  | _, [], r, h => by cases r; exact .nil
  | _, z :: zs, r, h => by
    cases r with
    | cons r rr => exact .cons (h z List.mem_cons_self _ r) (each_of rr fun y hy => h y (List.mem_cons_of_mem _ hy))
theorem pe_sortLam {X : Cx} {T : List (Addr × Str)} {c P : Addr} {k : Nat} {e : Expr} {te : TE} {params : Arguments} {body : Expr} {scope : Scope} {p lpos kpos pos : Pos} (hg : Gl X "sorted") (hm : X.mg "sorted" = none) (hml : X.mg "len" = none) (he : PE X e te)
    (TB : TabB X.base X.mg c P) (hcode : X.env.code = .ref c) (hmT : (P, X.env.qual ++ "<lambda>") ∈ T) (hu : ∀ p ∈ T, p.1 = P → p.2 = X.env.qual ++ "<lambda>") (hr : Room (k + 4) X.A) (L : LamK (X.env.qual ++ "<lambda>") params body scope) (hdef : defaultsOf params X.env = ([], []))
    (hs1 : starEach [e] X.env = (false, eval e X.env) :: starEach [] X.env := by rfl) :
    PE X (.Call (.Name "sorted" p) [e] [⟨some "key", .Lambda params body scope lpos, kpos⟩] pos) (tSortLam X.K T te) := by
  refine ⟨fun pins s σ H Q I h => ?_⟩
  refine wpAny_Call_Name_kw (ld_blt I hg hm (u := .builtin "sorted") (by decide +kernel) ?_)
  refine PyProof.Rows.callWith_kw (?_ : wpAny _ _ (spliced (backTo pos (starEach [e] X.env))) _ _ s) (by rw [hs1]; rfl) (by rw [hs1]; rfl) rfl rfl
  rw [hs1]
  show wpAny _ _ (spliced ((false, eval e X.env) :: backTo pos (starEach [] X.env))) _ _ s
  refine Calls.spliced_cons (thn (he.run pins s σ H _ I h) fun u s1 ⟨v, H1, I1, r1, q1⟩ => Calls.spliced_nil ?_)
  obtain ⟨hT, a, zs, rfl, hq, hz, hzs, q⟩ := q1
  cases r1
  show wpAny _ _ (evalAll [do let v ← eval (.Lambda params body scope lpos) X.env; standAt pos; pure v]) _ _ s1
  refine wpAny_evalAll_cons (wpAny_bind (lam_make2 I1 TB hcode hmT hu hT hdef (fun y hy z => absurd z (L.free y hy)) fun f c' pm ctv H2 s2 I2 eN T2 hf hfn hfr hco => wpAny_bind (wpAny_standAt (wpAny_pure (wpAny_evalAll_nil ?_)))))
  show wpAny _ _ (call (.builtin "sorted") [.ref a] [(Str.ofString "key", .ref f)]) _ _ s2
  have hq2 : SqL X.K H2 a (zs.map (·.1)) := by
    rcases hq with (z | ⟨o, z⟩) | z
    · exact .inl (.inl (eN _ _ z (fun ps e => by cases e)))
    · exact .inl (.inr ⟨o, eN _ _ z (fun ps e => by cases e)⟩)
    · exact .inr z
  obtain ⟨its, rv, hl, hsz⟩ := I2.list hq2
  have crec : s2.heap.CodeRec (.ref c') (X.env.qual ++ "<lambda>") := by
    obtain ⟨⟨oc, vs, t, e1, e2, e3⟩, _, _⟩ := I2.hok c' _ hco
    exact ⟨c', oc, vs, t, rfl, e1, e2, e3⟩
  have eR : PySem.W.EachIs (fun (v : Value) (z : V × List Nat) => RelV z.1 v ∧ ∃ t its, v = .ref t ∧ IsTup s2.heap t (List.toArray its) ∧ Vals (z.2.map vI) its) its zs := each_of rv fun z hz' v r => by
    obtain ⟨h1, t, e, ht⟩ := hzs z hz'
    have ht2 : SqT X.K H2 t (z.2.map vI) := by
      rcases ht with (w | ⟨o, w⟩) | w
      · exact .inl (.inl (eN _ _ w (fun ps e => by cases e)))
      · exact .inl (.inr ⟨o, eN _ _ w (fun ps e => by cases e)⟩)
      · exact .inr w
    obtain ⟨its', rv', p', _⟩ := I2.tuple ht2
    rw [e] at r ⊢
    cases r
    exact ⟨rfl, t, its', rfl, p', rv'⟩
  refine PySem.W.sorted_key_data (b := false) (fun z : V × List Nat => kyD z.2) hl.isList eR (PySem.W.AllAlike.of fun z z' => ?_) (PySem.W.Sortable.tuples fun z => ⟨_, _, rfl⟩) (Nat.le_trans hz (by decide)) (fun z hz' => ?_) (ksk_s1 _ _) (fun _ => ksk_l1 _ _) (fun _ => ksk_t1 _ _)
    (fun v z ⟨_, t, its', ev, ht, rv'⟩ hz' h tk keep => ?_) fun out c2 h' tk keep _ hD hlen eo => ?_
  · unfold kyD
    have : PySem.W.alikeAll (dI z.2) (dI z'.2) = true := by rw [dI_ints, dI_ints]; exact PySem.W.alike_ints _ _
    simp [PySem.W.alike, PySem.W.alikeAll, this]
  · have hd : (kyD z.2).depth ≤ 2 := by
      unfold kyD
      have hz0 : ∀ l : List Nat, PyData.depthAll (dI l) = 0 := fun l => by
        induction l with
        | nil => simp only [dI, List.map_nil, PyData.depthAll]
        | cons x l ih => simp only [dI, List.map_cons, PyData.depthAll, PyData.depth] at ih ⊢; omega
      simp only [PyData.depth, PyData.depthAll, hz0]; decide
    have := hr.units
    omega
  · subst ev
    have I3 : Inv X pins σ H2 { s2 with heap := h, toks := tk } := I2.kept (t' := tk) keep
    exact lam_turn I3 hml L (keep _ _ hf) (by obtain ⟨c0, oc, vs, t', e0, e1, e2, e3⟩ := crec; exact ⟨c0, oc, vs, t', e0, keep _ _ e1, e2, e3⟩) hr.in1.in1.depth (ht.keeps keep) rv' (hzs z hz').1
  · have hv : Vals ((zs.mergeSort kle).map (·.1)) out := each_vals (fun _ _ h => h.1) eo
    exact ⟨.ref _, upd H2 (s2.heap.objs.size + 1) (.lst ((zs.mergeSort kle).map (·.1))), I2.laid (t' := tk) keep (Nat.le_succ _) ⟨by rw [List.length_map, List.length_mergeSort]; exact Nat.le_trans hz (by decide), _, _, hv, hD⟩, rfl, q _ _ eN T2 (I2.hok.fresh (Nat.le_succ _))⟩
end K23

set_option Elab.async false
set_option linter.all false
set_option maxRecDepth 100000
set_option maxHeartbeats 4000000
/-! Where a table of code objects grows; where an exception may go out. -/
namespace K23
open PySem PySem.Spec PyProof.Rows L2 LamX
/-- the known part without tables -/
def strip (G : Hp) : Hp := fun a => match G a with | some (.tbl _) => none | o => o
theorem strip_of {G : Hp} {a : Addr} {o : HO} (h : G a = some o) (n : ∀ ps, o ≠ .tbl ps) : strip G a = some o := by
  unfold strip; rw [h]
  cases o <;> first | rfl | exact absurd rfl (n _)
theorem of_strip {G : Hp} {a : Addr} {o : HO} (h : strip G a = some o) : G a = some o ∧ ∀ ps, o ≠ .tbl ps := by
  unfold strip at h
  cases e : G a with
  | none => rw [e] at h; cases h
  | some u =>
    rw [e] at h
    cases u <;> first | (cases h; exact ⟨rfl, fun ps z => by cases z⟩) | (cases h)
mutual
theorem Rp.strip {G : Hp} : ∀ (d : PyData) (v : V), Rp G v d → Rp (strip G) v d
  | _, _, .non => .non
  | _, _, .bl b => .bl b
  | _, _, .int i => .int i
  | _, _, .str x => .str x
  | _, _, .lst g rs => .lst (strip_of g fun ps z => by cases z) (Rps.strip _ _ rs)
  | _, _, .tup g rs => .tup (strip_of g fun ps z => by cases z) (Rps.strip _ _ rs)
theorem Rps.strip {G : Hp} : ∀ (ds : List PyData) (vs : List V), Rps G vs ds → Rps (strip G) vs ds
  | _, _, .nil => .nil
  | _, _, .cons h hr => .cons (Rp.strip _ _ h) (Rps.strip _ _ hr)
end
/-- how the known part grows where a table may grow too -/
structure Exq (G H G' H' : Hp) : Prop where
  all : ∀ a o, (∀ ps, o ≠ .tbl ps) → H a = some o → H' a = some o
  kn : Same (strip G) G'
  sub : Same G' H'
  new : ∀ a o, G' a = some o → G a = some o ∨ H a = none ∨ ∃ ps, H a = some (.tbl ps)
theorem Exq.refl {G H : Hp} (s : Same G H) : Exq G H G H := ⟨fun _ _ _ h => h, fun _ _ h => (of_strip h).1, s, fun _ _ h => .inl h⟩
theorem Exq.of {G H G' H' : Hp} (x : Ext none NoO G H G' H') : Exq G H G' H' :=
  ⟨fun a o _ e => x.same a o e, fun a o e => x.kn a o (of_strip e).1, x.sub, fun a o e => (x.new a o e).elim .inl fun z => z.elim (fun z => .inr (.inl z)) fun z => z.elim⟩
theorem Exq.trans {G H G1 H1 G2 H2 : Hp} (x : Exq G H G1 H1) (y : Exq G1 H1 G2 H2) : Exq G H G2 H2 where
  all := fun a o n e => y.all a o n (x.all a o n e)
  kn := fun a o e => y.kn a o (strip_of (x.kn a o e) (of_strip e).2)
  sub := y.sub
  new := fun a o e => by
    have key : ∀ u, H a = some u → (H1 a = none ∨ ∃ ps, H1 a = some (.tbl ps)) → ∃ ps, H a = some (.tbl ps) := fun u q z => by
      by_cases t : ∃ ps, u = .tbl ps
      · obtain ⟨ps, rfl⟩ := t; exact ⟨ps, q⟩
      · have n : ∀ ps, u ≠ .tbl ps := fun ps e => t ⟨ps, e⟩
        have := x.all a u n q
        rcases z with z | ⟨ps, z⟩
        · rw [z] at this; cases this
        · rw [z] at this; exact absurd (Option.some.inj this).symm (n ps)
    rcases y.new a o e with h | h | h
    · exact x.new a o h
    · cases q : H a with
      | none => exact .inr (.inl rfl)
      | some u => exact .inr (.inr (by rw [← q]; exact key u q (.inl h)))
    · cases q : H a with
      | none => exact .inr (.inl rfl)
      | some u => exact .inr (.inr (by rw [← q]; exact key u q (.inr h)))
section
variable {K : PySem.W.Frag} {r : Option Addr} {G H G' H' : Hp} {σ : L2.St} {Γ : Env}
theorem Exq.fresh (x : Exq G H G' H') {D : Addr} {o : HO} (n : ∀ ps, o ≠ .tbl ps) (g : G D = none) (h : H D = some o) : G' D = none := by
  cases q : G' D with
  | none => rfl
  | some u =>
    rcases x.new D u q with z | z | ⟨ps, z⟩
    · rw [g] at z; cases z
    · rw [h] at z; cases z
    · rw [h] at z; exact absurd (Option.some.inj z) (n ps)
theorem RowOk.exq (w : RowOk K r G H) (x : Exq G H G' H') : RowOk K r G' H' := fun a e => by
  obtain ⟨g, sa, ns, k, s, rest, e1, e3, e4⟩ := w a e
  refine ⟨x.fresh (fun ps z => by cases z) g e1, sa, ns, k, s, rest, x.all _ _ (fun ps z => by cases z) e1, ?_, e4⟩
  rcases e3 with h | ⟨o, h⟩ | h
  · exact .inl (x.kn _ _ (strip_of h fun ps z => by cases z))
  · exact .inr (.inl ⟨o, x.all _ _ (fun ps z => by cases z) h⟩)
  · exact .inr (.inr h)
theorem StOk.exq (S : StOk K r G H σ Γ) (x : Exq G H G' H') : StOk K r G' H' σ Γ := by
  refine ⟨x.sub, S.row.exq x, S.len, fun i s e => ?_, S.sep⟩
  have q := S.ok i s e
  cases s with
  | no => trivial
  | val d =>
    obtain ⟨v, e1, e2⟩ := q
    exact ⟨v, e1, (Rp.strip _ _ e2).up x.kn⟩
  | own ds =>
    obtain ⟨D, vs, e1, e2, e3, e4, e5⟩ := q
    exact ⟨D, vs, e1, x.fresh (fun ps z => by cases z) e2 e4, e3, x.all _ _ (fun ps z => by cases z) e4, (Rps.strip _ _ e5).up x.kn⟩
  | row => exact q
  | raw v => exact q
  | dk ls =>
    obtain ⟨F, e1, e2, cs, e3, e4⟩ := q
    exact ⟨F, e1, e2, cs, x.all _ _ (fun ps z => by cases z) e3, e4⟩
theorem codeO_nl {c : Addr} {q : Str} {vs : List V} : CodeO c q ≠ .lst vs := fun z => by unfold CodeO at z; cases z
/-- the tables stand -/
theorem tabs_ext {T : List (Addr × Str)} {O : Addr → Prop} (t : Tabs T H) (x : Ext r O G H G' H') (w : RowOk K r G H) (hO : ∀ a, O a → ∃ vs, H a = some (.lst vs)) : Tabs T H' := fun p hp => by
  have keep : ∀ a o, (∀ vs, o ≠ .lst vs) → H a = some o → H' a = some o := fun a o n e => x.all a o (fun z => by
    obtain ⟨_, sa, ns, k, s, rest, e1, _⟩ := w a z.symm
    rw [e] at e1; exact absurd (Option.some.inj e1) (n _)) (fun z => by
    obtain ⟨vs, q⟩ := hO a z
    rw [e] at q; exact absurd (Option.some.inj q) (n vs)) e
  obtain ⟨ps, h1, h2, h3⟩ := t p hp
  refine ⟨ps, keep _ _ (fun vs z => by cases z) h1, h2, fun pos cv hc => ?_⟩
  obtain ⟨c, e1, e2⟩ := h3 pos cv hc
  exact ⟨c, e1, keep _ _ (fun vs => codeO_nl) e2⟩
end
/-! ### judgements: nothing but the slots is one's own -/
def EvW (K : PySem.W.Frag) (T : List (Addr × Str)) (te : TE) (Γ : Env) (P : PyData → Prop) : Prop :=
  ∀ (G H : Hp) (σ : L2.St), StOk K none G H σ Γ → Tabs T H → ∀ Q : VK, (∀ v d G' H', P d → Exq G H G' H' → Tabs T H' → Rp G' v d → Q v H') → te σ H Q
def Wq (K : PySem.W.Frag) (T : List (Addr × Str)) (C : Addr) (E : XK) (ts : TS) (Γ : Env) (N : Env → Prop) (R : PyData → Prop) (RX : Prop) : Prop :=
  ∀ (G0 H0 G H : Hp) (σ : L2.St), Exq G0 H0 G H → StOk K none G H σ Γ → Tabs T H → ∀ D : Ends,
    (∀ Γ' σ' G' H', N Γ' → Exq G0 H0 G' H' → StOk K none G' H' σ' Γ' → Tabs T H' → D.nx σ' H') →
    (∀ v d G' H', R d → Exq G0 H0 G' H' → Tabs T H' → Rp G' v d → D.rt v H') →
    (∀ G' H', RX → Exq G0 H0 G' H' → Tabs T H' → E (.ref C) none H') → ts D σ H
section
variable {K : PySem.W.Frag} {T : List (Addr × Str)} {C : Addr} {E : XK} {Γ : Env} {t u : TS} {te tl : TE} {tc : TT} {N N1 : Env → Prop} {R P : PyData → Prop} {RX : Prop}
theorem wq_seq (h : Wq K T C E t Γ N1 R RX) (k : ∀ Γ', N1 Γ' → Wq K T C E u Γ' N R RX) : Wq K T C E (tSeq t u) Γ N R RX := fun G0 H0 G H σ x S tt D n q qx =>
  h G0 H0 G H σ x S tt { D with nx := u D } (fun Γ1 σ1 G1 H1 n1 x1 S1 t1 => k Γ1 n1 G0 H0 G1 H1 σ1 x1 S1 t1 D n q qx) q qx
def noOwn (Γ : Env) : Bool := Γ.all fun s => match s with | .own _ => false | _ => true
theorem noOwn_ok (h : noOwn Γ = true) {σ : L2.St} {a : Addr} : ¬ Own σ Γ a := by
  rintro ⟨i, ds, e, _⟩
  have := List.all_eq_true.mp h _ (List.mem_of_getElem? e)
  simp at this
theorem wq_lift (h : Wp K t Γ N R) (ho : noOwn Γ = true := by rfl) : Wq K T C E t Γ N R RX := fun G0 H0 G H σ x S tt D n q qx => by
  have cl : ∀ {G' H'}, Ext none (Own σ Γ) G H G' H' → Ext none NoO G H G' H' := fun {G' H'} x =>
    ⟨fun b o n _ e => x.all b o n (noOwn_ok ho) e, x.kn, x.sub, fun b o e => (x.new b o e).imp_right fun z => z.imp_right fun z => (noOwn_ok ho z).elim⟩
  have tb : ∀ {G' H'}, Ext none (Own σ Γ) G H G' H' → Tabs T H' := fun {G' H'} x => tabs_ext tt x S.row fun a z => (noOwn_ok ho z).elim
  exact h none G H σ S D (fun Γ' σ' G' H' a x1 S' _ => n Γ' σ' G' H' a (x.trans (.of (cl x1))) S' (tb x1)) fun v d G' H' a x1 w r => q v d G' H' a (x.trans (.of (cl x1))) (tb x1) r
theorem wq_if {b : Bool} (h : EvT K tc Γ b) (h1 : b = true → Wq K T C E t Γ N R RX) (h2 : b = false → Wq K T C E u Γ N R RX) : Wq K T C E (tIfS tc t u) Γ N R RX := fun G0 H0 G H σ x S tt D n q qx => h none G H σ S _ fun c G1 H1 p1 x1 w1 => by
  subst p1
  have X := x.trans (.of x1)
  have t1 : Tabs T H1 := tabs_ext tt x1 S.row fun a z => z.elim
  cases c with
  | true => exact iteT (h1 rfl G0 H0 G1 H1 σ X (S.ext x1 w1) t1 D n q qx)
  | false => exact iteF (h2 rfl G0 H0 G1 H1 σ X (S.ext x1 w1) t1 D n q qx)
theorem wq_raise (h : RX) : Wq K T C E (fun _ σ H => E (.ref C) none H) Γ N R RX := fun G0 H0 G H σ x S tt D n q qx => qx G H h x tt
theorem wq_ret (h : EvW K T te Γ P) (k : ∀ d, P d → R d) : Wq K T C E (tRet te) Γ N R RX := fun G0 H0 G H σ x S tt D n q qx => h G H σ S tt _ fun v d G1 H1 p1 x1 t1 r1 => q v d G1 H1 (k d p1) (x.trans x1) t1 r1
theorem ew_lift (h : EvN K te Γ P) : EvW K T te Γ P := fun G H σ S tt Q q => h none G H σ S Q fun v d G' H' p x w r => q v d G' H' p (.of x) (tabs_ext tt x S.row fun a z => z.elim) r
/-- for x in l, l's making may let a table grow -/
theorem wq_for {g : TG} {A : List PyData → Prop} (hl : EvW K T tl Γ P) (hP : ∀ d, P d → ∃ ds, d = .list ds ∧ A ds) (ho : noOwn Γ = true)
    (h : ∀ items, A items → ∃ I : Nat → Env → Prop, I 0 Γ ∧ (∀ k x Γ', items[k]? = some x → I k Γ' → ∃ Γ'', TgtS K g Γ' x Γ'' ∧ Wp K t Γ'' (I (k + 1)) R) ∧ ∀ Γ', I items.length Γ' → N Γ') : Wq K T C E (tFor (iList K tl) g t) Γ N R RX := fun G0 H0 G H σ x S tt D n q qx =>
  hl G H σ S tt _ fun v d G1 H1 hd xq t1 r1 => by
    obtain ⟨items, rfl, hA⟩ := hP d hd
    obtain ⟨I, i0, hs, he⟩ := h items hA
    have S1 := S.exq xq
    have nO : ∀ a, ¬ Own σ Γ a := fun a => noOwn_ok ho
    cases r1 with
    | @lst a vs _ g1 rs =>
    have ww : Walks (Itl K a) G1 items := walks_list g1 rs
    refine ⟨a, rfl, ⟨_, SqL.of (xq.sub _ _ g1)⟩, fun i m σ' H' => m = items.length - i ∧ i ≤ items.length ∧ ∃ Γ' G', I i Γ' ∧ Ext none NoO G1 H1 G' H' ∧ StOk K none G' H' σ' Γ' ∧ ∀ a, Own σ' Γ' a → H1 a = none,
      ⟨items.length, by simp, Nat.zero_le _, Γ, G1, i0, .refl S1.same, S1, fun a z => (nO a z).elim⟩, ?_⟩
    have fin : ∀ {G' H'}, Ext none NoO G1 H1 G' H' → Exq G0 H0 G' H' ∧ Tabs T H' := fun {G' H'} y => ⟨(x.trans xq).trans (.of y), tabs_ext t1 y S1.row fun a z => z.elim⟩
    rintro i m σ' H' ⟨rfl, hi, Γ', G', hI, x2, S2, o2⟩
    by_cases hlt : i < items.length
    · have hit : items[i]? = some items[i] := by rw [List.getElem?_eq_getElem hlt]
      obtain ⟨go, yl⟩ := ww.go i items[i] G' H' hit x2.kn x2.sub
      refine .inr ⟨go, fun σ'' H'' => (i + 1 ≤ items.length ∧ ∃ Γ' G', I (i + 1) Γ' ∧ Ext none NoO G1 H1 G' H'' ∧ StOk K none G' H'' σ'' Γ' ∧ ∀ a, Own σ'' Γ' a → H1 a = none), fun σ'' H'' hN => ⟨items.length - (i + 1), by omega, rfl, hN⟩, fun x H3 y => ?_⟩
      obtain ⟨G3, x3, r3⟩ := yl x H3 y
      have S3 := S2.ext0 x3
      obtain ⟨Γ'', tg, hw⟩ := hs i items[i] Γ' hit hI
      refine tg none G3 H3 σ' x S3 r3 _ fun σ3 S4 o4 => ?_
      have X3 : Ext none NoO G1 H1 G3 H3 := x2.trans0 x3.any S2.row
      have OO : ∀ a, Own σ3 Γ'' a → NoO a ∨ H1 a = none := fun a z => .inr (o2 a (o4 a z))
      refine hw none G3 H3 σ3 S4 _ (fun Γ5 σ5 G5 H5 n5 x5 S5 o5 => ⟨hlt, Γ5, G5, n5, X3.trans x5 S4.row OO, S5, fun a z => ?_⟩) fun v d G5 H5 rd x5 w5 r5 => ?_
      · rcases o5 a z with z | z
        · exact (OO a z).elim (fun z => z.elim) fun z => z
        · exact back_none X3 S4.row (fun z => z) z
      · obtain ⟨f1, f2⟩ := fin (X3.trans x5 S4.row OO)
        exact q v d G5 H5 rd f1 f2 r5
    · have e : i = items.length := by omega
      subst e
      refine .inl ⟨ww.stop H' (fun a o e => x2.sub _ _ (x2.kn _ _ e)), ?_⟩
      obtain ⟨f1, f2⟩ := fin x2
      exact n Γ' σ' G' H' (he Γ' hI) f1 S2 f2
end
/-! ### promises -/
/-- a def behind which a table may have grown, that may raise C() -/
def spQ (T : List (Addr × Str)) (C : Addr) {α : Type} (enc : α → List PyData) (pre : α → Prop) (f : α → Option PyData) : Sp := fun vs H Q E => ∃ (a : α) (G : Hp), Same G H ∧ Rps G vs (enc a) ∧ pre a ∧ Tabs T H ∧
  (∀ v d G' H', f a = some d → Exq G H G' H' → Tabs T H' → Rp G' v d → Q v H') ∧ ∀ G' H', f a = none → Exq G H G' H' → Tabs T H' → E (.ref C) none H'
theorem bodyQ_ok {K : PySem.W.Frag} {T : List (Addr × Str)} {C : Addr} {α : Type} {enc : α → List PyData} {pre : α → Prop} {f : α → Option PyData} {N : List Str} {t : TS} (m : Nat) (hm : ∀ a, N.length = (enc a).length + m) {vs : List V} {H : Hp} {Q : VK} {E : XK}
    (h : ∀ a, pre a → Wq K T C E t (start0 (enc a) m) (fun _ => f a = some .none) (fun d => f a = some d) (f a = none)) (hs : spQ T C enc pre f vs H Q E) : t { nx := fun _ H' => Q .non H', rt := Q } (L2.start N vs) H := by
  obtain ⟨a, G, s, rs, hp, tt, q, qx⟩ := hs
  exact h a hp G H G H _ (.refl s) (st_start s rs (hm a)) tt _ (fun Γ' σ' G' H' e x S' t' => q .non _ G' H' e x t' .non) (fun v d G' H' e x t' r => q v d G' H' e x t' r) fun G' H' e x t' => qx G' H' e x t'
theorem spQ_len {T : List (Addr × Str)} {C : Addr} {α : Type} {enc : α → List PyData} {pre : α → Prop} {f : α → Option PyData} {n : Nat} (hn : ∀ a, (enc a).length = n) {vs : List V} {H : Hp} {Q : VK} {E : XK} (h : spQ T C enc pre f vs H Q E) : vs.length = n := by
  obtain ⟨a, G, _, rs, _⟩ := h
  rw [rs.length, hn]
/-- such a def called: it raises nothing there -/
theorem ew_callQ {K : PySem.W.Frag} {T : List (Addr × Str)} {C : Addr} {α : Type} {enc : α → List PyData} {pre : α → Prop} {f : α → Option PyData} {t : TA} {Γ : Env} (a : α) (h : Ea K t Γ (enc a)) (hp : pre a) {d : PyData} (hd : f a = some d) : EvW K T (tCall (spQ T C enc pre f) [] E0 t) Γ (fun x => x = d) := fun G H σ S tt Q q =>
  h none G H σ S _ fun vs ds G1 H1 p1 x1 w1 r1 => by
    subst p1
    rw [List.append_nil]
    refine ⟨a, G1, x1.sub, r1, hp, tabs_ext tt x1 S.row fun a z => z.elim, fun v d' G' H' e x2 t2 r2 => q v d' G' H' ?_ ((Exq.of x1).trans x2) t2 r2, fun G' H' e => ?_⟩
    · rw [hd] at e; exact (Option.some.inj e).symm
    · rw [hd] at e; cases e
/-! ### the sorted lots -/
def kleL : List Nat → List Nat → Bool := PySem.W.dataLe false kyD
theorem zip_map_fst {α β : Type} : ∀ (xs : List α) (ys : List β), xs.length = ys.length → (xs.zip ys).map (·.1) = xs
  | [], [], _ => rfl
  | x :: xs, y :: ys, h => by rw [List.zip_cons_cons, List.map_cons, zip_map_fst xs ys (by simpa using h)]
theorem zip_map_snd {α β : Type} : ∀ (xs : List α) (ys : List β), xs.length = ys.length → (xs.zip ys).map (·.2) = ys
  | [], [], _ => rfl
  | x :: xs, y :: ys, h => by rw [List.zip_cons_cons, List.map_cons, zip_map_snd xs ys (by simpa using h)]
theorem rps_zip {G : Hp} : ∀ {vs : List V} {lots : List (List Nat)}, Rps G vs (lots.map fun l => .tuple (dI l)) → ∀ z ∈ vs.zip lots, Rp G z.1 (.tuple (dI z.2))
  | _, [], rs, z, hz => by cases rs; simp at hz
  | _, l :: lots, rs, z, hz => by
    cases rs with
    | cons h hr =>
      rw [List.zip_cons_cons] at hz
      rcases List.mem_cons.mp hz with rfl | hz
      · exact h
      · exact rps_zip hr z hz
theorem rps_of {G : Hp} : ∀ (zs : List (V × List Nat)), (∀ z ∈ zs, Rp G z.1 (.tuple (dI z.2))) → Rps G (zs.map (·.1)) ((zs.map (·.2)).map fun l => .tuple (dI l))
  | [], _ => .nil
  | z :: zs, h => .cons (h z List.mem_cons_self) (rps_of zs fun y hy => h y (List.mem_cons_of_mem _ hy))
theorem ew_sortLam {K : PySem.W.Frag} {T : List (Addr × Str)} {Γ : Env} {i : Nat} {lots : List (List Nat)} (h : Γ[i]? = some (.val (.list (lots.map fun l => .tuple (dI l))))) (hl : lots.length ≤ 100000) (hs : ∀ l ∈ lots, l.length ≤ 1000) :
    EvW K T (tSortLam K T (tVar i)) Γ (fun x => x = .list ((lots.mergeSort kleL).map fun l => .tuple (dI l))) := fun G H σ S tt Q q => by
  obtain ⟨v, e1, r⟩ := S.ok i _ h
  cases r with
  | @lst a vs _ g rs =>
    have hlen : vs.length = lots.length := by have := rs.length; rwa [List.length_map] at this
    have hz := rps_zip rs
    refine ⟨.ref a, e1, tt, a, vs.zip lots, rfl, by rw [zip_map_fst vs lots hlen]; exact SqL.of (S.same _ _ g), by rw [List.length_zip]; omega, fun z hm => ⟨hs _ (List.of_mem_zip hm).2, ?_⟩, fun H2 p eN t2 hp => ?_⟩
    · obtain ⟨z1, z2⟩ := z
      have rz : Rp G z1 (.tuple (dI z2)) := hz _ hm
      cases rz with
      | @tup t us _ g2 rs2 =>
        refine ⟨t, rfl, ?_⟩
        rw [dI_ints] at rs2
        have := rs2.ints
        subst this
        have e2 : (nI z2).map V.int = z2.map vI := by unfold nI vI; rw [List.map_map]; rfl
        rw [← e2]
        exact SqT.of (S.same _ _ g2)
    · have nG : strip G p = none := by
        cases e : strip G p with
        | none => rfl
        | some o =>
          have := eN p o (S.same _ _ (of_strip e).1) (of_strip e).2
          rw [hp] at this; cases this
      have hmem : ∀ z ∈ (vs.zip lots).mergeSort kle, Rp G z.1 (.tuple (dI z.2)) := fun z hz' => hz z ((List.mergeSort_perm _ _).mem_iff.mp hz')
      have up : Same (strip G) (upd (strip G) p (.lst (((vs.zip lots).mergeSort kle).map (·.1)))) := fun b o e => by rw [upd_ne (ne_of_none e nG)]; exact e
      have emap : (((vs.zip lots).mergeSort kle).map (·.2)) = lots.mergeSort kleL := by
        have := List.map_mergeSort (r := kle) (s := kleL) (f := Prod.snd) (l := vs.zip lots) (fun a _ b _ => rfl)
        rw [this]
        exact congrArg (fun l => l.mergeSort kleL) (zip_map_snd vs lots hlen)
      refine q _ _ (upd (strip G) p (.lst (((vs.zip lots).mergeSort kle).map (·.1)))) _ rfl ⟨fun b o n e => ?_, up, fun b o e => ?_, fun b o e => ?_⟩ (fun x hx => ?_) ?_
      · have := eN b o e n
        rw [upd_ne (ne_of_none this hp)]; exact this
      · by_cases hb : b = p
        · subst hb; rw [upd_same] at e ⊢; exact e
        · rw [upd_ne hb] at e ⊢
          exact eN b o (S.same _ _ (of_strip e).1) (of_strip e).2
      · by_cases hb : b = p
        · subst hb
          cases q : H b with
          | none => exact .inr (.inl rfl)
          | some u =>
            by_cases t : ∃ ps, u = .tbl ps
            · obtain ⟨ps, rfl⟩ := t; exact .inr (.inr ⟨ps, rfl⟩)
            · have := eN b u q fun ps e => t ⟨ps, e⟩
              rw [hp] at this; cases this
        · rw [upd_ne hb] at e
          exact .inl (of_strip e).1
      · exact (t2 x hx).ext fun b o e => by rw [upd_ne (ne_of_none e hp)]; exact e
      · refine .lst (upd_same ..) ?_
        rw [← emap]
        exact (rps_of _ fun z hz' => (Rp.strip _ _ (hmem z hz'))).up up
/-! ### an own exception without arguments -/
theorem pmk_own0 {X : Cx} {C : Addr} {bmB : List Value} {B newId initId : String} {x : Str} {p pos : Pos} (F : ExcBaseFacts B newId initId bmB) (q : PySem.W.excIn X.K C bmB newId = true) (gC : X.mg x = some (.ref C)) (kC : PySem.W.keepIn X.K (.ref C) = true) (r : Raises X (.ref C)) (hg : Gl X x)
    (hdb : (x == ("__debug__" : Str)) = false := by decide) : PMk X (.Call (.Name x p) [] [] pos) (fun _ H Q => Q (.ref C) none H) := by
  intro pins s σ H Q I h
  refine wpAny_Call_Name_kw (ld_glob I hg gC ?_ hdb)
  refine PySem.W.callWith_K0 (first := []) I.kIn kC ?_
  show wpAny _ _ (call (.ref C) []) _ _ _
  obtain ⟨bm, N, nm, qn, bs, hdct, sn, sub, ab, col, dd, k0, k1, k2, k3, k5, mN, hC, hN, hni, T⟩ := exc_obj I.kIn q
  refine wpAny_call_exc_subT F T hC hN hni (fun h' e hm => ?_) (by show 0 ≤ sizeLine; omega)
  exact mk_of I hm r h (I.hok.gone hm.new)
end K23

set_option Elab.async false
set_option linter.all false
set_option maxRecDepth 100000
set_option maxHeartbeats 4000000
namespace K23
open PySem PySem.Spec PyProof.Rows L2 LamX
/-- where the def stands, and its code object -/
structure FnAtC (K : PySem.W.Frag) (mg : Str → Option Value) (x : Str) (st : Stmt) (ps : List Str) (c : Addr) : Prop where
  ex : ∃ f fd, mg x = some (.ref f) ∧ FnD K x st f fd ∧ Binds K fd ps [] ∧ fd.code = .ref c
theorem FnAtC.ok {P : Program} {w : World} {K : PySem.W.Frag} {mg : Str → Option Value} {base : Heap} {x : Str} {st : Stmt} {ps N : List Str} {c : Addr} {k : Nat} {sp : Sp} (F : FnAtC K mg x st ps c) (S : FnScope N ps (defScope st)) (len : ∀ vs H Q E, sp vs H Q E → vs.length = ps.length)
    (hbody : ∀ (f : Addr) (A : Around) (outer : List PySem.Env) (s : Shared) (H : Hp) (vs : List V) (Q : VK) (E : XK), Room k (A.deeper (envOfC x (defScope st) s.heap.objs.size f (.ref c))) → sp vs H Q E →
      ∃ t, PSs (cxOf CX0 P w K mg base N x (defScope st) f (.ref c) A outer s H E).nox (defBody st) t ∧ t { nx := fun _ H' => Q .non H', rt := Q } (L2.start N vs) H) : Def P w K mg base (k + 1) x ps sp := by
  obtain ⟨f, fd, h1, h2, h3, h4⟩ := F.ex
  refine ⟨f, fd, h1, h2.kp, h3, ?_⟩
  obtain ⟨oc, od, dV, kV, doc, pm, an, cdv, ct, osl, rfl, lk, hcd, _, _⟩ := h2.ex
  have h4 : cdv = .ref c := h4
  subst h4
  refine fn_of lk hcd S len fun A outer s H vs Q E hr hs => ?_
  obtain ⟨t, a, b⟩ := hbody f A outer s H vs Q E hr hs
  exact ⟨t, a.nox, b⟩
/-- a def that may raise -/
structure DefX (P : Program) (w : World) (K : PySem.W.Frag) (mg : Str → Option Value) (base : Heap) (k : Nat) (x : Str) (ps : List Str) (sp : Sp) : Prop where
  ex : ∃ f fd, mg x = some (.ref f) ∧ PySem.W.keepIn K (.ref f) = true ∧ Binds K fd ps [] ∧ FnOk P w K mg base (L2.CX P w) k f fd ps sp
theorem FnAt.okX {P : Program} {w : World} {K : PySem.W.Frag} {mg : Str → Option Value} {base : Heap} {x : Str} {st : Stmt} {ps N : List Str} {k : Nat} {sp : Sp} (F : FnAt K mg x st ps) (S : FnScope N ps (defScope st)) (len : ∀ vs H Q E, sp vs H Q E → vs.length = ps.length)
    (hbody : ∀ (f : Addr) (cdv : Value) (A : Around) (outer : List PySem.Env) (s : Shared) (H : Hp) (vs : List V) (Q : VK) (E : XK), Room k (A.deeper (envOfC x (defScope st) s.heap.objs.size f cdv)) → sp vs H Q E →
      ∃ t, PSs (cxOf (L2.CX P w) P w K mg base N x (defScope st) f cdv A outer s H E) (defBody st) t ∧ t { nx := fun _ H' => Q .non H', rt := Q } (L2.start N vs) H) : DefX P w K mg base (k + 1) x ps sp := by
  obtain ⟨f, fd, h1, h2, h3⟩ := F.ex
  exact ⟨f, fd, h1, h2.kp, h3, FunD.ok h2 S len fun cdv A outer s H vs Q E hr hs => hbody f cdv A outer s H vs Q E hr hs⟩
/-- the class NeverFalls -/
structure NFs (K : PySem.W.Frag) (mg : Str → Option Value) (C : Addr) : Prop where
  g : mg "NeverFalls" = some (.ref C)
  q : PySem.W.excIn K C He.veBase "ValueError.__new__" = true
  kp : PySem.W.keepIn K (.ref C) = true
  sub : PySem.W.subIn K (.ref C) (.type "BaseException") = some true
  ty : PySem.W.typeIn K (.ref C) = some (.type "type")
  m : PySem.W.exmOne K (.ref C) (.ref C) = some true
def QL : Str := (("lots_of" : Str) ++ (".<locals>." : Str)) ++ ("<lambda>" : Str)

/-! ### lots_of: slots [(0, 'some'), (1, 'found'), (2, 'line'), (3, 'lot')] -/
abbrev N_lots_of : List Str := ["some", "found", "line", "lot"]
theorem sc_lots_of : FnScope N_lots_of ["some"] (defScope slots_of) := ⟨rfl, rfl, rfl, by decide +kernel, rfl, by decide +kernel, by decide +kernel⟩
abbrev E_lots_of : List Nat → List PyData := fun l => [.list (dI l)]
abbrev R_lots_of : List Nat → Prop := fun l => l.length ≤ 12
def lotsS (l : List Nat) : List (List Nat) := (partsL l).mergeSort kleL
abbrev V_lots_of : List Nat → Option PyData := fun l => some (.list ((lotsS l).map fun m => .tuple (dI m)))
abbrev SP_lots_of (Pt C : Addr) : Sp := spQ [(Pt, QL)] C E_lots_of R_lots_of V_lots_of
theorem pow12 {n : Nat} (h : n ≤ 12) : 2 ^ n ≤ 4096 := Nat.le_trans (Nat.pow_le_pow_right (by decide) h) (by decide)
theorem ok_lots_of {P : Program} {w : World} {K : PySem.W.Frag} {mg : Str → Option Value} {base : Heap} {c Pt C : Addr} (T : Txt mg) (F : FnAtC K mg "lots_of" slots_of ["some"] c) (TB : TabB base mg c Pt) : Def P w K mg base 6 "lots_of" ["some"] (SP_lots_of Pt C) := by
  refine F.ok sc_lots_of (fun vs H Q E h => spQ_len (n := 1) (fun _ => rfl) h) (fun f A outer s H vs Q E hr h => ⟨_, (pss_cons (ps_set (i := 1) sc_lots_of.nd rfl (Or.inl rfl) (pe_lst (pa_cons (pe_tup pa_nil) pa_nil)))
      (pss_cons (ps_for PassesOwn.never rfl (listI (K := K) rfl (pv 0)) (pg_name (i := 2) sc_lots_of.nd rfl (Or.inr rfl)) (pss_one (ps_set (i := 1) sc_lots_of.nd rfl (Or.inl rfl) (pe_op op_cat (pv 1) (pe_lc (own := [("lot", 3)]) (tt := tYes) (g := gName 3) rfl sc_lots_of.nd (listI (K := K) rfl (pv 1)) (blkOk_by (own := [("lot", 3)]) (N := N_lots_of) (sc := defScope slots_of) (by decide +kernel)) (fun _ _ _ _ _ => pg_name (i := 3) sc_lots_of.nd rfl (Or.inl rfl)) (fun _ _ _ _ _ => pts_nil) (fun _ _ _ _ _ => (pe_tup (starK (K := K) rfl (pv 3) (pa_cons (pv 2) pa_nil)))))))))
      (pss_one (ps_ret (pe_sortLam (k := 0) (T := [(Pt, QL)]) (by rfl) T.sorted T.len (pv 1) TB rfl (List.mem_singleton.mpr rfl) (fun p hp _ => by rw [List.mem_singleton.mp hp]; rfl) (hr.mono (by decide)) ⟨rfl, rfl, rfl, by decide +kernel, by decide +kernel, by decide +kernel, by decide +kernel, fun _ _ _ _ _ => rfl, _, _, _, _, _, _, rfl⟩ rfl))))), bodyQ_ok (K := K) 3 (fun _ => rfl) (fun a hp => ?_) h⟩)
  have hl : a.length ≤ 12 := hp
  have G0 : start0 (E_lots_of a) 3 = [.val (.list (dI a)), .no, .no, .no] := rfl
  rw [G0]
  refine wq_seq (N1 := fun Γ => Γ = [.val (.list (dI a)), .val (.list ((partsL (a.take 0)).map fun m => .tuple (dI m))), .no, .no]) (wq_lift (wp_setD (ev_lst (ea_c ev_T0 ea_nil) (by simp)) rfl)) fun Γ e => ?_
  subst e
  refine wq_seq (N1 := fun Γ => ∃ s t, Γ = [.val (.list (dI a)), .val (.list ((partsL a).map fun m => .tuple (dI m))), s, t]) (wq_lift (wp_for (ei_listD ev_var) fun items e => ⟨fun k Γ => k ≤ a.length ∧ ∃ s t, Γ = [.val (.list (dI a)), .val (.list ((partsL (a.take k)).map fun m => .tuple (dI m))), s, t], ⟨Nat.zero_le _, .no, .no, rfl⟩, ?_, ?_⟩)) fun Γ e => ?_
  · subst e
    rintro k y Γ hy ⟨hk, s, t, rfl⟩
    obtain ⟨x, hx, rfl⟩ := dI_at hy
    have hk1 : k < a.length := (List.getElem?_eq_some_iff.mp hx).1
    have htl : (a.take k).length = k := by rw [List.length_take]; omega
    have p12 : 2 ^ k ≤ 4096 := pow12 (by omega)
    refine ⟨_, tgs_name, wp_setD (Ev.to (ev_op ev_var (ev_lcm (l := partsL (a.take k)) (enc := fun m => .tuple (dI m)) (fun m => .tuple (dI (m ++ [x]))) (ei_listD ev_var) (by rw [partsL_len, htl]; omega) fun m hm => ev_tupStar ev_var ev_var ?_) (rv_cat ?_)) ?_) ⟨hk1, _, _, rfl⟩⟩
    · have := (mem_partsL.mp hm).length_le
      omega
    · rw [List.length_map, List.length_map, partsL_len, htl]; omega
    · rw [partsL_take hx, List.map_append, List.map_map]; rfl
  · subst e
    rintro Γ ⟨_, s, t, rfl⟩
    rw [dI_len, List.take_length]
    exact ⟨s, t, rfl⟩
  · obtain ⟨s, t, rfl⟩ := e
    have p12 : 2 ^ a.length ≤ 4096 := pow12 hl
    exact wq_ret (ew_sortLam (lots := partsL a) rfl (by rw [partsL_len]; omega) fun l hm => by have := (mem_partsL.mp hm).length_le; omega) fun d e => by rw [e]; rfl
/-! ### fewest_held: slots [(0, 'board'), (1, 'line'), (2, 'some'), (3, 'lot'), (4, 'left'), (5, 'one')] -/
abbrev N_fewest_held : List Str := ["board", "line", "some", "lot", "left", "one"]
theorem sc_fewest_held : FnScope N_fewest_held ["board", "line"] (defScope sfewest_held) := ⟨rfl, rfl, rfl, by decide +kernel, rfl, by decide +kernel, by decide +kernel⟩
abbrev E_fewest_held : BD × Nat → List PyData := fun a => [dB a.1.b, .int (a.2 : Int)]
abbrev R_fewest_held : BD × Nat → Prop := fun a => Good a.1 ∧ a.2 < a.1.h + a.1.w
/-- closure's order behind the lot held -/
def ordW (h w : Nat) (b : Board) (lot : List Nat) : List Nat := ords (fun l => (someIn h w b ((List.range (h + w)).filter fun y => !lot.contains y) l).head?) (h + w) [] []
def fewOf (h w : Nat) (b : Board) (x : Nat) : Option (List Nat) := (lotsS ((lastOf h w b).filter fun y : Nat => !decide ((y : Int) = (x : Int)))).find? fun lot => !(ordW h w b lot).contains x
abbrev V_fewest_held : BD × Nat → Option PyData := fun a => if (lastOf a.1.h a.1.w a.1.b).contains a.2 then some (match fewOf a.1.h a.1.w a.1.b a.2 with | some lot => .tuple (dI lot) | none => .none) else none
abbrev SP_fewest_held (Pt C : Addr) : Sp := spQ [(Pt, QL)] C E_fewest_held R_fewest_held V_fewest_held
theorem ok_fewest_held {P : Program} {w : World} {K : PySem.W.Frag} {mg : Str → Option Value} {base : Heap} {Pt C : Addr} (T : Txt mg) (NF : NFs K mg C) (F : FnAt K mg "fewest_held" sfewest_held ["board", "line"]) (D_lots_of : Def P w K mg base 6 "lots_of" ["some"] (SP_lots_of Pt C)) (D_closure : Def P w K mg base 7 "closure" ["board", "within"] SP_closure) (D_lines_of : Def P w K mg base 2 "lines_of" ["board"] SP_lines_of) (D_last_of : Def P w K mg base 8 "last_of" ["board"] SP_last_of) (D_need_line : Def P w K mg base 3 "need_line" ["board", "value"] SP_need_line) (D_need_board : Def P w K mg base 4 "need_board" ["value"] SP_need_board) : DefX P w K mg base 9 "fewest_held" ["board", "line"] (SP_fewest_held Pt C) := by
  refine F.okX sc_fewest_held (fun vs H Q E h => spQ_len (n := 2) (fun _ => rfl) h) (fun f cdv A outer s H vs Q E hr h => ⟨_, (pss_cons (ps_expr (pe_def D_need_board (hr.mono (by decide)) (by rfl) (pa_cons (pv 0) pa_nil)))
      (pss_cons (ps_expr (pe_def D_need_line (hr.mono (by decide)) (by rfl) (pa_cons (pv 0) (pa_cons (pv 1) pa_nil))))
      (pss_cons (ps_if (pt_cmpR (ninK (K := K) rfl) (pv 1) (pe_def D_last_of (hr.mono (by decide)) (by rfl) (pa_cons (pv 0) pa_nil)) (by rfl)) (pss_one (ps_raise rfl (takes_of rfl rfl rfl rfl) (pmk_own0 PySem.F.excBase_ValueError NF.q NF.g NF.kp (raises_own NF.sub NF.ty) (by rfl)))) pss_nil)
      (pss_cons (ps_setLc (i := 2) (own := [("one", 5)]) (g := gName 5) rfl sc_fewest_held.nd rfl rfl (sw_true rfl rfl rfl (by decide +kernel)) (tupI (K := K) rfl (pe_def D_last_of (hr.mono (by decide)) (by rfl) (pa_cons (pv 0) pa_nil))) (blkOk_by (own := [("one", 5)]) (N := N_fewest_held) (sc := defScope sfewest_held) (by decide +kernel)) (fun _ _ _ _ _ => pg_name (i := 5) sc_fewest_held.nd rfl (Or.inl rfl)) (fun _ _ _ _ _ => pts_one (pt_cmpR op_ne (pv 5) (pv 1) (nomark _))) (fun _ _ _ _ _ => (pv 5)))
      (pss_cons (ps_for (passes_of rfl) rfl (listI (K := K) rfl (pe_def D_lots_of (hr.mono (by decide)) (by rfl) (pa_cons (pv 2) pa_nil))) (pg_name (i := 3) sc_fewest_held.nd rfl (Or.inr rfl)) (pss_cons (ps_setLc (i := 4) (own := [("one", 5)]) (g := gName 5) rfl sc_fewest_held.nd rfl rfl (sw_true rfl rfl rfl (by decide +kernel)) (tupI (K := K) rfl (pe_def D_lines_of (hr.mono (by decide)) (by rfl) (pa_cons (pv 0) pa_nil))) (blkOk_by (own := [("one", 5)]) (N := N_fewest_held) (sc := defScope sfewest_held) (by decide +kernel)) (fun _ _ _ _ _ => pg_name (i := 5) sc_fewest_held.nd rfl (Or.inl rfl)) (fun _ _ _ _ _ => pts_one (pt_cmpR (ninK (K := K) rfl) (pv 5) (pv 3) (by rfl))) (fun _ _ _ _ _ => (pv 5)))
      (pss_one (ps_if (pt_cmpR (ninK (K := K) rfl) (pv 1) (pe_def D_closure (hr.mono (by decide)) (by rfl) (pa_cons (pv 0) (pa_cons (pv 4) pa_nil))) (by rfl)) (pss_one (ps_ret (pv 3))) pss_nil))))
      (pss_one (ps_ret pe_non))))))), bodyQ_ok (K := K) 4 (fun _ => rfl) (fun a hp => ?_) h⟩)
  obtain ⟨B, x⟩ := a
  obtain ⟨g, hx⟩ : Good B ∧ x < B.h + B.w := hp
  have h6 := g.h6; have w6 := g.w6
  have hlast := (lastOf_ln (h := B.h) (w := B.w) (b := B.b)).len
  have G0 : start0 (E_fewest_held (B, x)) 4 = [.val (dB B.b), .val (.int (x : Int)), .no, .no, .no, .no] := rfl
  rw [G0]
  refine wq_seq (N1 := fun Γ => Γ = [.val (dB B.b), .val (.int (x : Int)), .no, .no, .no, .no]) (wq_lift (wp_drop (ev_call (enc := E_need_board) (f := V_need_board) B (ea_c ev_var ea_nil) g) rfl)) fun Γ e => ?_
  subst e
  refine wq_seq (N1 := fun Γ => Γ = [.val (dB B.b), .val (.int (x : Int)), .no, .no, .no, .no]) (wq_lift (wp_drop (ev_call (enc := E_need_line) (f := V_need_line) (B, x) (ea_c ev_var (ea_c ev_var ea_nil)) ⟨g, hx⟩) rfl)) fun Γ e => ?_
  subst e
  refine wq_seq (N1 := fun Γ => (lastOf B.h B.w B.b).contains x = true ∧ Γ = [.val (dB B.b), .val (.int (x : Int)), .no, .no, .no, .no]) (wq_if (et_test (ev_op ev_var (ev_call (enc := E_last_of) (f := V_last_of) B (ea_c ev_var ea_nil) g) rv_niTN)) (fun e => wq_raise ?_) fun e => wq_lift (wp_next ⟨by simpa using e, rfl⟩)) fun Γ e => ?_
  · show (if (lastOf B.h B.w B.b).contains x then _ else none) = none
    rw [if_neg (by simpa using e)]
  obtain ⟨hin, rfl⟩ := e
  have fv : ∀ o, fewOf B.h B.w B.b x = o → V_fewest_held (B, x) = some (match o with | some lot => .tuple (dI lot) | none => .none) := fun o e => by
    show (if (lastOf B.h B.w B.b).contains x then _ else none) = _
    rw [if_pos hin, e]
  refine wq_seq (N1 := fun Γ => Γ = [.val (dB B.b), .val (.int (x : Int)), .val (.list (dI ((lastOf B.h B.w B.b).filter fun y : Nat => !decide ((y : Int) = (x : Int))))), .no, .no, .no]) (wq_lift (wp_setD (ev_lcN (lastOf B.h B.w B.b) (fun y : Nat => !decide ((y : Int) = (x : Int))) (ei_tupD (ev_call (enc := E_last_of) (f := V_last_of) B (ea_c ev_var ea_nil) g)) (by omega) fun y hy => et_test (ev_op ev_var ev_var rv_neI)) rfl)) fun Γ e => ?_
  subst e
  obtain ⟨some, hsome⟩ : ∃ l, l = (lastOf B.h B.w B.b).filter fun y : Nat => !decide ((y : Int) = (x : Int)) := ⟨_, rfl⟩
  rw [← hsome]
  have hsl : some.length ≤ 12 := by
    have := List.length_filter_le (fun y : Nat => !decide ((y : Int) = (x : Int))) (lastOf B.h B.w B.b)
    rw [hsome]; omega
  have fe : fewOf B.h B.w B.b x = (lotsS some).find? fun lot => !(ordW B.h B.w B.b lot).contains x := by unfold fewOf; rw [← hsome]
  refine wq_seq (N1 := fun Γ => fewOf B.h B.w B.b x = Option.none ∧ ∃ s t, (s = Sl.no ∨ ∃ d, s = .val d) ∧ (t = Sl.no ∨ ∃ d, t = .val d) ∧ Γ = [.val (dB B.b), .val (.int (x : Int)), .val (.list (dI some)), s, t, .no]) (wq_for (ew_callQ (f := V_lots_of) some (ea_c ev_var ea_nil) hsl rfl) (fun d e => ⟨_, e, rfl⟩) rfl (A := fun ds => ds = (lotsS some).map fun m => .tuple (dI m)) fun items e => ⟨fun k Γ => (∀ j m, j < k → (lotsS some)[j]? = Option.some m → (!(ordW B.h B.w B.b m).contains x) = false) ∧ ∃ s t, (s = Sl.no ∨ ∃ d, s = .val d) ∧ (t = Sl.no ∨ ∃ d, t = .val d) ∧ Γ = [.val (dB B.b), .val (.int (x : Int)), .val (.list (dI some)), s, t, .no], ⟨fun j m hj => by omega, .no, .no, .inl rfl, .inl rfl, rfl⟩, ?_, ?_⟩) fun Γ e => ?_
  · subst e
    rintro k y Γ hy ⟨hk, s, t, _, _, rfl⟩
    rw [List.getElem?_map] at hy
    obtain ⟨lot, hlot, rfl⟩ := Option.map_eq_some_iff.mp hy
    refine ⟨_, tgs_name, ?_⟩
    have LW : Ln (B.h + B.w) ((List.range (B.h + B.w)).filter fun y => !lot.contains y) := ⟨rising_filter _ (rising_range _), fun z hz => List.mem_range.mp (List.mem_filter.mp hz).1⟩
    refine wp_seq (N1 := fun Γ => Γ = [.val (dB B.b), .val (.int (x : Int)), .val (.list (dI some)), .val (.tuple (dI lot)), .val (.list (dI ((List.range (B.h + B.w)).filter fun y => !lot.contains y))), .no]) (wp_setD (ev_lcN (List.range (B.h + B.w)) (fun y => !lot.contains y) (ei_tupD (ev_call (enc := E_lines_of) (f := V_lines_of) B (ea_c ev_var ea_nil) g)) (by rw [List.length_range]; omega) fun y hy => et_test (ev_op ev_var ev_var rv_niTN)) rfl) fun Γ e => ?_
    subst e
    refine wp_if (et_test (ev_op ev_var (ev_call (enc := E_closure) (f := V_closure) (B, true, (List.range (B.h + B.w)).filter fun y => !lot.contains y) (ea_c ev_var (ea_c ev_var ea_nil)) ⟨g, LW⟩) rv_niLN)) (fun e => wp_retD ev_var ?_) (fun e => wp_next ⟨fun j m hj hm => ?_, _, _, .inr ⟨_, rfl⟩, .inr ⟨_, rfl⟩, rfl⟩)
    · exact fv (Option.some lot) (by rw [fe]; exact find_first hlot (fun j m hj hm => hk j m hj hm) e)
    · rcases Nat.lt_succ_iff_lt_or_eq.mp hj with z | z
      · exact hk j m z hm
      · rw [z, hlot] at hm
        cases hm
        exact e
  · subst e
    rintro Γ ⟨hk, hh⟩
    rw [List.length_map] at hk
    rw [fe]
    exact ⟨find_none hk, hh⟩
  · obtain ⟨e, s, t, hs, ht, rfl⟩ := e
    refine wq_lift (wp_retD ev_non (fv Option.none e)) ?_
    rcases hs with rfl | ⟨d, rfl⟩ <;> rcases ht with rfl | ⟨d', rfl⟩ <;> rfl

end K23

set_option Elab.async false
set_option linter.all false
set_option maxRecDepth 100000
set_option maxHeartbeats 4000000
/-! The row of draws. -/
namespace K23
open PySem PySem.Spec PyProof.Rows L2
theorem spR_len {K : PySem.W.Frag} {α : Type} {enc : α → List PyData} {pre : α → Prop} {rel : α → PyData → Prop} {n : Nat} (hn : ∀ a, (enc a).length = n) {vs : List V} {H : Hp} {Q : VK} {E : XK} (h : spR K enc pre rel vs H Q E) : vs.length = n + 1 := by
  obtain ⟨a, r, G, ws, rfl, _, _, rs, _⟩ := h
  rw [List.length_cons, rs.length, hn]
/-- a def whose first slot is the row -/
theorem bodyR_ok {K : PySem.W.Frag} {α : Type} {enc : α → List PyData} {pre : α → Prop} {rel : α → PyData → Prop} {N : List Str} {t : TS} (m : Nat) (hm : ∀ a, N.length = (enc a).length + 1 + m) {vs : List V} {H : Hp} {Q : VK} {E : XK}
    (h : ∀ a, pre a → Wp K t (.row :: start0 (enc a) m) (fun _ => rel a .none) (rel a)) (hs : spR K enc pre rel vs H Q E) : t { nx := fun _ H' => Q .non H', rt := Q } (L2.start N vs) H := by
  obtain ⟨a, r, G, ws, rfl, s, ro, rs, hp, q⟩ := hs
  have hl : ws.length = (enc a).length := rs.length
  obtain ⟨n0, N', rfl⟩ : ∃ n0 N', N = n0 :: N' := by
    cases N with
    | nil => have := hm a; simp at this; omega
    | cons n0 N' => exact ⟨_, _, rfl⟩
  have hm' : N'.length = (enc a).length + m := by have := hm a; simp at this; omega
  have est : L2.start (n0 :: N') (.ref r :: ws) = some (.ref r) :: L2.start N' ws := by
    unfold L2.start
    simp
  have S0 := st_start (K := K) s rs hm'
  have S : StOk K (some r) G H (some (.ref r) :: L2.start N' ws) (.row :: start0 (enc a) m) := by
    refine ⟨s, ro, by simp [S0.len], fun i sl e => ?_, fun i j es fs b e1 e2 f1 f2 => ?_⟩
    · cases i with
      | zero =>
        have : Sl.row = sl := by simpa using e
        rw [← this]
        exact ⟨r, rfl, rfl⟩
      | succ i =>
        have e' : (start0 (enc a) m)[i]? = some sl := by simpa using e
        have := S0.ok i sl e'
        have e2 : (some (V.ref r) :: L2.start N' ws)[i + 1]? = (L2.start N' ws)[i]? := by simp
        rw [e2]
        cases sl with
        | no => trivial
        | val d => exact this
        | own ds => exact (no_own (σ := List.replicate (i + 1) (some (.ref 0))) (a := 0) ⟨i, ds, e', by simp⟩).elim
        | row => obtain ⟨_, z, _⟩ := this; cases z
        | raw v => exact this
        | dk ls => obtain ⟨F, e1, _, e3⟩ := this; exact ⟨F, e1, (fun z => by obtain ⟨cs, e4, _⟩ := e3; obtain ⟨_, sa, ns, k, s', rest, e5, _⟩ := ro r rfl; cases z; rw [e5] at e4; cases e4), e3⟩
    · cases i with
      | zero => have : Sl.row = .own es := by simpa using e1
                cases this
      | succ i =>
        have e' : (start0 (enc a) m)[i]? = some (.own es) := by simpa using e1
        exact (no_own (σ := List.replicate (i + 1) (some (.ref 0))) (a := 0) ⟨i, es, e', by simp⟩).elim
  have nO : ∀ b, ¬ Own (some (.ref r) :: L2.start N' ws) (.row :: start0 (enc a) m) b := fun b ⟨i, ds, e1, e2⟩ => by
    cases i with
    | zero => have : Sl.row = .own ds := by simpa using e1
              cases this
    | succ i => exact no_own ⟨i, ds, by simpa using e1, by simpa using e2⟩
  have cl : ∀ {G' H'}, Ext (some r) (Own (some (.ref r) :: L2.start N' ws) (.row :: start0 (enc a) m)) G H G' H' → Ext (some r) NoO G H G' H' := fun {G' H'} x =>
    ⟨fun b o n _ e => x.all b o n (nO b) e, x.kn, x.sub, fun b o e => (x.new b o e).imp_right fun z => z.imp_right fun z => (nO b z).elim⟩
  rw [est]
  exact h a hp (some r) G H _ S _ (fun Γ' σ' G' H' e x S' _ => q .non _ G' H' e (cl x) S'.row .non) fun v d G' H' e x w rd => q v d G' H' e (cl x) w rd
theorem iteTd {b : Bool} {A B : Prop} (e : b = true) (h : A) : if b = true then A else B := by rw [if_pos e]; exact h
theorem iteFd {b : Bool} {A B : Prop} (e : b = false) (h : B) : if b = true then A else B := by rw [if_neg (by rw [e]; simp)]; exact h
/-! ### _law_taken -/
abbrev N__law_taken : List Str := ["_law_row", "_law_many", "_law_found", "_law_cell"]
theorem sc__law_taken : FnScope N__law_taken ["_law_row", "_law_many"] (defScope s_law_taken) := ⟨rfl, rfl, rfl, by decide +kernel, rfl, by decide +kernel, by decide +kernel⟩
abbrev E__law_taken : Nat → List PyData := fun n => [.int (n : Int)]
abbrev R__law_taken : Nat → Prop := fun n => 1 ≤ n ∧ n ≤ 1000
abbrev V__law_taken : Nat → PyData → Prop := fun n d => ∃ i : Nat, i < n ∧ d = .int (i : Int)
abbrev SP__law_taken (K : PySem.W.Frag) : Sp := spR K E__law_taken R__law_taken V__law_taken
theorem ok__law_taken {P : Program} {w : World} {K : PySem.W.Frag} {mg : Str → Option Value} {base : Heap} (T : Txt mg) (F : FnAt K mg "_law_taken" s_law_taken ["_law_row", "_law_many"]) : Def P w K mg base 1 "_law_taken" ["_law_row", "_law_many"] (SP__law_taken K) := by
  refine F.ok sc__law_taken (fun vs H Q E h => spR_len (n := 1) (fun _ => rfl) h) (fun f cdv A outer s H vs Q E hr h => ⟨_, (pss_cons (ps_if (pt_cmpR op_gt (pe_ix (ixLK (K := K) rfl) (pv 0) pe_int (fun _ _ => rfl)) pe_int (nomark _)) (pss_cons (ps_set (i := 2) sc__law_taken.nd rfl (Or.inl rfl) (pe_op op_mod (pe_callTy call_intK (by rfl) T.int boot_int (pa_cons (pe_ix (ixLK (K := K) rfl) (pv 0) pe_int (fun _ _ => rfl)) pa_nil)) (pv 1)))
      (pss_cons (ps_asg (pe_op op_fdiv (pe_ix (ixLK (K := K) rfl) (pv 0) pe_int (fun _ _ => rfl)) (pv 1)) (pg_sub (pv 0) pe_int set_list))
      (pss_one (ps_ret (pv 2))))) pss_nil)
      (pss_cons (ps_asg (pe_op op_add (pe_ix (ixLK (K := K) rfl) (pv 0) pe_int (fun _ _ => rfl)) pe_int) (pg_sub (pv 0) pe_int set_list))
      (pss_cons (ps_if (pt_cmpR op_gt (pe_ix (ixLK (K := K) rfl) (pv 0) pe_int (fun _ _ => rfl)) (pe_callB (lenK (K := K) rfl) (by rfl) T.len PySem.boot_len (pa_cons (pe_ix (ixLK (K := K) rfl) (pv 0) pe_int (fun _ _ => rfl)) pa_nil)) (nomark _)) (pss_cons (ps_asg (pe_op op_mod (pe_callTy call_intK (by rfl) T.int boot_int (pa_cons (pe_op op_add (pe_op op_mul (pe_ix (ixLK (K := K) rfl) (pv 0) pe_int (fun _ _ => rfl)) pe_int) pe_int) pa_nil)) pe_int) (pg_sub (pv 0) pe_int set_list))
      (pss_one (ps_ret (pe_op op_mod (pe_callTy call_intK (by rfl) T.int boot_int (pa_cons (pe_op op_fdiv (pe_ix (ixLK (K := K) rfl) (pv 0) pe_int (fun _ _ => rfl)) pe_int) pa_nil)) (pv 1))))) pss_nil)
      (pss_cons (ps_set (i := 3) sc__law_taken.nd rfl (Or.inl rfl) (pe_ix (ixLK (K := K) rfl) (pe_ix (ixLK (K := K) rfl) (pv 0) pe_int (fun _ _ => rfl)) (pe_op op_sub (pe_ix (ixLK (K := K) rfl) (pv 0) pe_int (fun _ _ => rfl)) pe_int) (fun _ _ => rfl)))
      (pss_cons (ps_asg (pe_op op_mod (pe_callTy call_intK (by rfl) T.int boot_int (pa_cons (pe_op op_add (pe_op op_add (pe_op op_mul (pe_ix (ixLK (K := K) rfl) (pv 0) pe_int (fun _ _ => rfl)) pe_int) (pv 3)) pe_int) pa_nil)) pe_int) (pg_sub (pv 0) pe_int set_list))
      (pss_cons (ps_if (pt_cmpR op_ge (pv 3) (pe_op op_pow pe_int pe_int) (nomark _)) (pss_one (ps_asg (pe_op op_fdiv (pv 3) (pv 1)) (pg_sub (pv 0) pe_int set_list))) pss_nil)
      (pss_one (ps_ret (pe_op op_mod (pe_callTy call_intK (by rfl) T.int boot_int (pa_cons (pv 3) pa_nil)) (pv 1)))))))))), ?_⟩)
  obtain ⟨many, r, G, ws, rfl, s, ro, rs, ⟨h1, h2⟩, q⟩ := h
  obtain ⟨gr, sa, ns, k, sd, rest, e1, sc, k0, s0, s1, r0⟩ := ro r rfl
  obtain rfl : ws = [V.int (many : Int)] := by
    cases rs with
    | cons h hr =>
      cases hr
      rw [h.int_of]
  have sne : ∀ o u, H sa = some (.frz o u) → sa ≠ r := fun o u z e => by rw [e, e1] at z; cases z
  have sc' : ∀ L, ScrAt K G (upd H r (.lst L)) sa (ns.map V.int) := fun L => sc.up (fun _ _ h => h) fun o u z => by rw [upd_ne (sne o u z)]; exact z
  have sm : ∀ L, Same G (upd H r (.lst L)) := fun L a o e => by
    have : a ≠ r := fun z => by rw [z, gr] at e; cases e
    rw [upd_ne this]; exact s a o e
  have fin : ∀ (z k' s' rest' : Int), 0 ≤ z → z < many → 0 ≤ k' → 0 ≤ s' → s' < 2147483647 → 0 ≤ rest' → Q (.int z) (upd H r (.lst [.ref sa, .int k', .int s', .int rest'])) := fun z k' s' rest' a1 a2 a3 a4 a5 a6 => by
    refine q (.int z) (.int z) G _ ⟨z.toNat, by omega, by rw [Int.toNat_of_nonneg a1]⟩ ⟨fun a o n _ e => ?_, fun _ _ e => e, sm _, fun _ _ e => .inl e⟩ (fun a e => ?_) (.int z)
    · rw [upd_ne (fun z => n (by rw [z]))]; exact e
    · cases e
      exact ⟨gr, sa, ns, k', s', rest', upd_same, sc' _, a3, a4, a5, a6⟩
  have hq : ∀ L, SqL K (upd H r (.lst L)) sa (ns.map V.int) := fun L => (sc' L).seq (sm L)
  have hm : (0 : Int) < (many : Int) := by omega
  have hmod : ∀ z : Int, 0 ≤ z % (many : Int) ∧ z % (many : Int) < many := fun z => ⟨Int.emod_nonneg _ (by omega), Int.emod_lt_of_pos _ hm⟩
  have hdiv : ∀ z : Int, 0 ≤ z → 0 ≤ z / (many : Int) := fun z hz => Int.ediv_nonneg hz (by omega)
  have hbig : ∀ z : Int, 0 ≤ z % 2147483647 ∧ z % 2147483647 < 2147483647 := fun z => ⟨Int.emod_nonneg _ (by omega), Int.emod_lt_of_pos _ (by omega)⟩
  have cd : CDiv rest many := ⟨hm, by omega⟩
  have et : L2.start N__law_taken [.ref r, .int (many : Int)] = [some (.ref r), some (.int (many : Int)), none, none] := rfl
  rw [et]
  refine ⟨.ref r, rfl, r, _, 3, .int rest, rfl, rfl, SqL.of e1, rfl, rest, 0, rfl, rfl, _, rfl, ?_⟩
  by_cases hrest : (0 : Int) < rest
  · refine iteTd (decide_eq_true hrest) ?_
    refine ⟨.ref r, rfl, r, _, 3, .int rest, rfl, rfl, SqL.of e1, rfl, .inl ⟨rest, rfl, .int (many : Int), rfl, rest, many, rfl, rfl, hm, ?_⟩⟩
    refine ⟨.ref r, rfl, r, _, 3, .int rest, rfl, rfl, SqL.of e1, rfl, .int (many : Int), rfl, rest, many, rfl, rfl, cd, .ref r, rfl, r, _, 3, 3, rfl, rfl, e1, rfl, ?_⟩
    exact ⟨.int (rest % many), rfl, fin _ k sd (rest / many) (hmod _).1 (hmod _).2 k0 s0 s1 (hdiv _ r0)⟩
  · refine iteFd (decide_eq_false hrest) ?_
    refine ⟨.ref r, rfl, r, _, 1, .int k, rfl, rfl, SqL.of e1, rfl, k, 1, rfl, rfl, .ref r, rfl, r, _, 1, 1, rfl, rfl, e1, rfl, ?_⟩
    have e2 : upd H r (.lst [.ref sa, .int (k + 1), .int sd, .int rest]) r = some (.lst [.ref sa, .int (k + 1), .int sd, .int rest]) := upd_same
    refine ⟨.ref r, rfl, r, _, 1, .int (k + 1), rfl, rfl, SqL.of e2, rfl, .ref r, rfl, r, _, 0, .ref sa, rfl, rfl, SqL.of e2, rfl, sa, ns.map V.int, rfl, .inl (hq _), k + 1, ((ns.map V.int).length : Int), rfl, rfl, _, rfl, ?_⟩
    rw [List.length_map]
    have up2 : ∀ L M, upd (upd H r (.lst L)) r (.lst M) = upd H r (.lst M) := fun L M => upd_upd
    have e3 : ∀ (a b c : Int), upd H r (.lst [.ref sa, .int a, .int b, .int c]) r = some (.lst [.ref sa, .int a, .int b, .int c]) := fun a b c => upd_same
    by_cases hk : (ns.length : Int) < k + 1
    · refine iteTd (decide_eq_true hk) ?_
      refine ⟨.ref r, rfl, r, _, 2, .int sd, rfl, rfl, SqL.of e2, rfl, sd, 48271, rfl, rfl, .inr ⟨by decide, by decide⟩, sd * 48271, 11, rfl, rfl, .inl ⟨_, rfl, sd * 48271 + 11, 2147483647, rfl, rfl, (by show (0 : Int) < 2147483647; decide), .ref r, rfl, r, _, 2, 2, rfl, rfl, e2, rfl, ?_⟩⟩
      obtain ⟨b1, b2⟩ := hbig (sd * 48271 + 11)
      have e4 := e3 (k + 1) ((sd * 48271 + 11) % 2147483647) rest
      rw [up2]
      refine ⟨.ref r, rfl, r, _, 2, .int ((sd * 48271 + 11) % 2147483647), rfl, rfl, SqL.of e4, rfl, (sd * 48271 + 11) % 2147483647, 7, rfl, rfl, ⟨by decide, by decide⟩, .inl ⟨_, rfl, .int (many : Int), rfl, (sd * 48271 + 11) % 2147483647 / 7, many, rfl, rfl, hm, ?_⟩⟩
      exact fin _ (k + 1) _ rest (hmod _).1 (hmod _).2 (by omega) b1 b2 r0
    · refine iteFd (decide_eq_false hk) ?_
      obtain ⟨cell, hc⟩ : ∃ c : Int, ns[k.toNat]? = some c := ⟨_, List.getElem?_eq_getElem (by omega)⟩
      have hat : atI (ns.map V.int) (k + 1 - 1) = some (.int cell) := atI_of (j := k.toNat) (by omega) (by rw [List.getElem?_map, hc]; rfl)
      refine ⟨.ref r, rfl, r, _, 0, .ref sa, rfl, rfl, SqL.of e2, rfl, .ref r, rfl, r, _, 1, .int (k + 1), rfl, rfl, SqL.of e2, rfl, k + 1, 1, rfl, rfl, sa, ns.map V.int, k + 1 - 1, .int cell, rfl, rfl, hq _, hat, ?_⟩
      refine ⟨.ref r, rfl, r, _, 2, .int sd, rfl, rfl, SqL.of e2, rfl, sd, 48271, rfl, rfl, .inr ⟨by decide, by decide⟩, .int cell, rfl, sd * 48271, cell, rfl, rfl, sd * 48271 + cell, 11, rfl, rfl, .inl ⟨_, rfl, sd * 48271 + cell + 11, 2147483647, rfl, rfl, (by show (0 : Int) < 2147483647; decide), .ref r, rfl, r, _, 2, 2, rfl, rfl, e2, rfl, ?_⟩⟩
      obtain ⟨b1, b2⟩ := hbig (sd * 48271 + cell + 11)
      have e4 := e3 (k + 1) ((sd * 48271 + cell + 11) % 2147483647) rest
      rw [up2]
      refine ⟨.int cell, rfl, 10, 18, rfl, rfl, ⟨by decide, by decide, by decide⟩, cell, 10 ^ 18, rfl, rfl, _, rfl, ?_⟩
      by_cases hb : (10 : Int) ^ 18 ≤ cell
      · refine iteTd (decide_eq_true hb) ?_
        have hc0 : (0 : Int) ≤ cell := Int.le_trans (by decide) hb
        refine ⟨.int cell, rfl, .int (many : Int), rfl, cell, many, rfl, rfl, ⟨hm, by omega⟩, .ref r, rfl, r, _, 3, 3, rfl, rfl, e4, rfl, ?_⟩
        rw [up2]
        exact ⟨.int cell, rfl, .inl ⟨cell, rfl, .int (many : Int), rfl, cell, many, rfl, rfl, hm, fin (cell % many) (k + 1) _ (cell / many) (hmod _).1 (hmod _).2 (by omega) b1 b2 (hdiv _ hc0)⟩⟩
      · refine iteFd (decide_eq_false hb) ?_
        exact ⟨.int cell, rfl, .inl ⟨cell, rfl, .int (many : Int), rfl, cell, many, rfl, rfl, hm, fin (cell % many) (k + 1) _ rest (hmod _).1 (hmod _).2 (by omega) b1 b2 r0⟩⟩
end K23

set_option Elab.async false
set_option linter.all false
set_option maxRecDepth 100000
set_option maxHeartbeats 4000000
/-! sorted of a tuple of ints; of a list of tuples of ints that begins with the empty one. -/
namespace K23
open PySem PySem.Spec PyProof.Rows L2
section
variable {prog : Program} {w : World} {A : Around} {E : Value → Shared → Prop} {s : Shared}
theorem collect_tup {l : Addr} {vs : List Value} {Q : List Value → Shared → Prop} {h1 : Heap} (hl : IsTup s.heap l vs.toArray) (e1 : h1 = (s.heap.push (seqObj "list" #[] 0)).update s.heap.objs.size (Obj.mapSeq (· ++ vs.toArray)))
    (h : Q vs { s with heap := h1 }) (hsz : vs.length ≤ sizeLine) :
    wpAny (model prog w) A (collect (.ref l)) Q E s := by
  subst e1
  obtain ⟨o, ho, hc, n, hd⟩ := id hl
  unfold collect
  refine wpAny_bind (wpAny_runValue (codeAny_builtin entry_proto_collect' ?_))
  show wpAny _ _ (do again (.builtin "list.__iadd__" ⟨[← newList [], .ref l], []⟩)) _ _ s
  refine wpAny_bind (wpAny_newList (wpAny_pure ⟨Code.quiet_builtin _ (by decide +kernel), codeAny_builtin entry_list_iadd' ?_⟩))
  show wpAny _ _ (Builtin.List.listExtendWith (.ref s.heap.objs.size) (.ref l) (.ref s.heap.objs.size)) _ _ { s with heap := s.heap.push (seqObj "list" #[] 0) }
  unfold Builtin.List.listExtendWith
  have ho' : (s.heap.push (seqObj "list" #[] 0)).get? l = some o := Heap.get?_push_of_some _ ho
  refine wpAny_bind (wpAny_typeOf (T := "tuple") ⟨o, ho', hc⟩ ?_)
  have ht : (Value.type "tuple" == Value.type "tuple") = true := by rfl
  rw [if_pos (by rw [ht]; simp)]
  refine wpAny_bind (listItems_at ho' hd ?_)
  refine wpAny_bind (listItems_at (xs := #[]) (n := 0) (Heap.get?_push_size _ rfl) rfl ?_)
  rw [if_neg (by simp)]
  refine wpAny_bind (listUpdate_at (xs := #[]) (n := 0) (Heap.get?_push_size _ rfl) rfl ?_ (Nat.zero_le _) (by show (#[] ++ vs.toArray).size ≤ sizeLine + 1; simp only [Array.size_append, List.size_toArray, List.length_nil]; omega))
  refine wpAny_pure ?_
  show wpAny (model prog w) A (do
      let o ← load s.heap.objs.size
      match o.data with
      | .seq xs _ => pure xs.toList
      | _ => unsupported "internal:collect") Q E { s with heap := (s.heap.push (seqObj "list" #[] 0)).update s.heap.objs.size (Obj.mapSeq (· ++ vs.toArray)) }
  refine wpAny_bind (wpAny_load (get?_update_seq (Heap.get?_push_size _ rfl) _) ?_)
  show wpAny _ _ (pure ((#[] : Array Value) ++ vs.toArray).toList) Q E _
  rw [show ((#[] : Array Value) ++ vs.toArray).toList = vs by simp]
  exact wpAny_pure h
theorem sorted_ordT {l : Addr} {vs : List Value} {ltv : Value → Value → Bool} {Q : Value → Shared → Prop} (O : SrtO.Swo ltv) (hl : IsTup s.heap l vs.toArray) (hz : vs.length ≤ sizeLine)
    (hS : 2 ≤ vs.length → ∀ (h₁ : Heap) (a : Addr), SrtO.SortableO prog w A.in1.in1 { s with heap := h₁ } a vs ltv)
    (h : ∀ (out : List Value) (h' : Heap) (a : Addr) (ep : Nat), SrtO.Srtd ltv out → SrtO.Stb ltv out vs → (∀ b o, s.heap.get? b = some o → h'.get? b = some o) → s.heap.objs.size ≤ a → h'.get? a = some (seqObj "list" out.toArray ep) → Q (.ref a) { s with heap := h' }) :
    wpAny (model prog w) A (call (.builtin "sorted") [.ref l]) Q E s := by
  refine Calls.call_function_entry kind_sorted plain_sorted entry_sorted (args_sorted1 _) ?_
  unfold Builtin.«sorted»
  refine wpAny_bind (m := checkCount "sorted" 1 1 _) (wpAny_pure ?_)
  refine wpAny_bind (collect_tup hl (h1 := (s.heap.push (seqObj "list" #[] 0)).update s.heap.objs.size (Obj.mapSeq (· ++ vs.toArray))) rfl ?_ hz)
  obtain ⟨h1, eh1⟩ : ∃ h1, h1 = (s.heap.push (seqObj "list" #[] 0)).update s.heap.objs.size (Obj.mapSeq (· ++ vs.toArray)) := ⟨_, rfl⟩
  have k1 : ∀ b o, s.heap.get? b = some o → h1.get? b = some o := fun b o q => by
    rw [eh1, Heap.get?_update_ne _ _ _ _ (Nat.ne_of_lt (Heap.lt_size q))]
    exact Heap.get?_push_of_some _ q
  rw [← eh1]
  refine wpAny_bind (wpAny_newList ?_ hz)
  have hle : s.heap.objs.size ≤ h1.objs.size := by rw [eh1, Heap.size_update, Heap.size_push]; omega
  have hoL : (h1.push (seqObj "list" vs.toArray 0)).get? h1.objs.size = some (seqObj "list" vs.toArray 0) := Heap.get?_push_size _ rfl
  show wpAny _ _ _ _ _ { s with heap := h1.push (seqObj "list" vs.toArray 0) }
  refine wpAny_bind (wpAny_holding (wpAny_call_entry slot_list_sort ⟨_, hoL, rfl⟩ entry_list_sort (SrtO.list_sort_ord O hoL hz (fun h2 => hS h2 _ _) fun out hs hb => ⟨_, rfl, ?_⟩) (args_list_sort _)))
  obtain ⟨ep, he⟩ := sortedHeap_at (vs := vs) (out := out.toArray) hoL
  refine wpAny_pure ⟨_, rfl, h out _ _ ep hs hb (fun b o' e => ?_) hle he⟩
  have hb' := k1 _ _ e
  have hlt := Heap.lt_size hb'
  rw [sortedHeap_old (Nat.ne_of_lt hlt) (by rw [Heap.size_push]; exact Nat.lt_succ_of_lt hlt)]
  exact Heap.get?_push_of_some _ hb'
end
def rSortedTI (K : PySem.W.Frag) : List V → Hp → VK → Prop := fun vs H Q => ∃ (a : Addr) (ns : List Int), vs = [V.ref a] ∧ SqT K H a (ns.map V.int) ∧
  ∀ (ns' : List Int) (p : Addr), ns'.Perm ns → ns'.Pairwise (· ≤ ·) → H p = none → Q (.ref p) (upd H p (.lst (ns'.map V.int)))
theorem cr_sortedTI {X : Cx} : CallR X (.builtin "sorted") (rSortedTI X.K) := by
  intro pins s σ H vs us Q I r h
  obtain ⟨a, ns, rfl, hs, q⟩ := h
  obtain ⟨its, rv, hl, hz⟩ := I.tuple hs
  rw [Vals.ref1 r]
  have hi := rv.ints
  refine sorted_ordT SrtO.swo_int hl (by rw [← rv.length]; exact hz) (fun h2 h₁ a' => SrtO.ints_sortable hi h2) fun out h' a' ep h1 h2 keep hle he' => ?_
  obtain ⟨k1, k2, k3⟩ := SrtO.ints_out hi h1 h2
  have hlen : ((out.map SrtO.iv).map V.int).length ≤ sizeLine := by
    rw [List.length_map, k2.length_eq]
    rw [List.length_map] at hz
    exact hz
  exact ⟨.ref a', upd H a' (.lst ((out.map SrtO.iv).map V.int)), I.laid (t' := s.toks) keep hle ⟨hlen, out, ep, vals_of_ints k1, he'⟩, rfl, q _ _ k2 k3 (I.hok.fresh hle)⟩
theorem sortedTK {X : Cx} {K : PySem.W.Frag} (h : X.K = K) : CallR X (.builtin "sorted") (rSortedTI K) := by subst h; exact cr_sortedTI
theorem ev_sortedTN {K : PySem.W.Frag} {Γ : Env} {te : TE} {l : List Nat} (h : Ev K te Γ (.tuple (dI l))) : Ev K (tCB (rSortedTI K) (tCons te tNil)) Γ (.list (dI (srt l))) := by
  rw [dI_ints] at h ⊢
  refine ev_cb (ea_c h ea_nil) fun G H vs s rs Q q => ?_
  cases rs with
  | cons r1 rn =>
    cases rn
    cases r1 with
    | tup g r1 =>
      have e := r1.ints
      subst e
      refine ⟨_, nI l, rfl, SqT.of (s _ _ g), fun ns' p pm st hp => ?_⟩
      have e := sorted_nI pm st
      subst e
      obtain ⟨x2, r2⟩ := new_lst (ρ := none) s hp (Rps.ints' (G := G) (nI (srt l)))
      exact q _ _ _ _ rfl x2 r2
/-! ### tuples of ints, the empty one ahead -/
section
variable {prog : Program} {w : World} {A : Around} {E : Value → Shared → Prop} {s : Shared}
open PySem.SeqAt PySem.W
theorem call_tuple_lt {Q : Value → Shared → Prop} {l b : Addr} {items items2 : Array Value} {e r : Nat → Bool} (hl : s.heap.IsTuple l items) (hb : s.heap.IsTuple b items2)
    (he : ∀ j (h1 : j < items.size) (h2 : j < items2.size), EqAt A.in1 s items[j] items2[j] (e j)) (hr : ∀ j (h1 : j < items.size) (h2 : j < items2.size), e j = false → RcLt A.in1 s items[j] items2[j] (r j))
    (h : Q (.bool (firstLt e r (decide (items.size < items2.size)) (List.range (min items.size items2.size)))) s) : wpAny (model prog w) A (call (.builtin "tuple.__lt__") [.ref l, .ref b]) Q E s := by
  obtain ⟨⟨cls, dd, data, sl⟩, ho, hc, n, hd⟩ := id hl
  obtain ⟨⟨cls2, dd2, data2, sl2⟩, ho2, hc2, n2, hd2⟩ := id hb
  simp only at hc hd hc2 hd2
  subst hc hd hc2 hd2
  exact call_meets PySem.F.slot_tuple_lt ⟨_, ho, rfl⟩ PySem.F.entry_tuple_lt (PySem.F.args_tuple_lt_2 _ _) (tuple_ltAt l b items items2 n n2 dd dd2 sl sl2 e r) ⟨ho, ho2, he, hr, h⟩
theorem oneLt_tup {xs ys : List PyData} {a b : Value} {as bs : List Addr} {Q : Bool → Shared → Prop} (ra : Reads s.heap a (.tuple xs) as) (rb : Reads s.heap b (.tuple ys) bs) (h : alike (.tuple xs) (.tuple ys) = true)
    (hu : A.units + min (PyData.tuple xs).depth (PyData.tuple ys).depth < cLine) (hq : Q (dataLt (.tuple xs) (.tuple ys)) s) : wpAny (model prog w) A (oneLt' true a b) Q E s := by
  have hal : alikeAll xs ys = true := by simpa [alike] using h
  cases ra with
  | @tuple l o vs n _ as₁ h1 h2 h3 h4 =>
    cases rb with
    | @tuple l' o' vs' n' _ bs₁ k1 k2 k3 k4 =>
      have n1 : vs.size = xs.length := by simpa using ReadsAll.length _ _ _ h4
      have n2 : vs'.size = ys.length := by simpa using ReadsAll.length _ _ _ k4
      rw [dataLt_tuple, ← firstLt_toks xs ys hal, ← n1, ← n2] at hq
      rw [oneLt'_eq]
      simp only [if_true]
      refine wpAny_bind (wpAny_cRoomFor (room_here hu) ?_)
      refine wpAny_bind (wpAny_callSpecialIfBound?_slot (T := "tuple") ⟨_, h1, h2⟩ PySem.F.slot_tuple_lt (call_tuple_lt (e := pairEq xs ys) (r := fun j => dataLt (xs.getD j .none) (ys.getD j .none)) ⟨_, h1, h2, _, h3⟩ ⟨_, k1, k2, _, k3⟩ (fun j j1 j2 => ?_) (fun j j1 j2 hj => ?_) ?_))
      · have := eqAt_alikeAll xs ys A.in1 s vs.toList vs'.toList _ _ h4 k4 hal (room_in hu) j (by simpa using j1) (by simpa using j2)
        simpa using this
      · have := rcLt_alikeAll xs ys A.in1 s vs.toList vs'.toList _ _ h4 k4 hal (room_in hu) j (by simpa using j1) (by simpa using j2) hj
        simpa using this
      · exact wpAny_truthy_bool hq
theorem mapM_any {M : Model} {α β : Type} {f : α → Sem β} {g : α → β} : ∀ (l : List α) {Q : List β → Shared → Prop}, (∀ v ∈ l, ∀ (Q' : β → Shared → Prop), Q' (g v) s → wpAny M A (f v) Q' E s) → Q (l.map g) s → wpAny M A (l.mapM f) Q E s
  | [], _, _, h => by rw [List.mapM_nil]; exact wpAny_pure h
  | x :: l, Q, hf, h => by
    rw [List.mapM_cons]
    exact wpAny_bind (hf x (.head _) _ (wpAny_bind (mapM_any l (Q := fun bs s' => wpAny M A (pure (g x :: bs)) Q E s') (fun v hv => hf v (.tail _ hv)) (wpAny_pure h))))
/-- tuples, the first is empty -/
theorem kind_tups {v₀ : Value} {vs : List Value} {its : Value → Array Value} {Q : SortKind → Shared → Prop} (hT : ∀ v ∈ v₀ :: vs, ∃ a, v = .ref a ∧ IsTup s.heap a (its v)) (h0 : its v₀ = #[]) (h : Q oneType' s) :
    wpAny (model prog w) A (keyKind' (v₀ :: vs).toArray) Q E s := by
  have lk : ∀ v ∈ v₀ :: vs, Looks (model prog w) s.heap (typeOf v) (.type "tuple") := fun v hv => by
    obtain ⟨a, rfl, o, ho, hc, n, hd⟩ := hT v hv
    show Looks (model prog w) s.heap (typeOf (Value.ref a)) (Value.type "tuple")
    exact hc ▸ (Looks.ld ho).andThen .now
  have ett : ((Value.type "tuple") != (Value.type "tuple")) = false := by first | rfl | decide
  have ett2 : ((Value.type "tuple") == (Value.type "tuple")) = true := by first | rfl | decide
  rw [keyKind'_eq, List.mapM_toArray, map_eq_pure_bind]
  refine wpAny_bind (wpAny_bind (mapM_any (g := fun v => (its v)[0]?) _ (fun v hv Q' hq => ?_) (wpAny_pure ?_)))
  · rw [kas_first_eq]
    refine wpAny_bind ((lk v hv).here ?_)
    rw [ett]
    simp only [Bool.false_eq_true, if_false]
    obtain ⟨a, rfl, o, ho, hc, n, hd⟩ := hT v hv
    refine wpAny_bind (listItems_at ho hd ?_)
    exact wpAny_pure hq
  · have e0 : (its v₀)[0]? = none := by rw [h0]; rfl
    rw [if_neg (by simp [e0]), if_neg (by simp [e0])]
    rw [oneTypeOnly'_eq, List.mapM_toArray, map_eq_pure_bind]
    refine wpAny_bind (wpAny_bind (wpAny_bind (kas_mapM (r := Value.type "tuple") _ (fun v hv Q' hq => (lk v hv).here hq) (wpAny_pure ?_))))
    have hall : ((List.map (fun _ => Value.type "tuple") (v₀ :: vs)).toArray.all fun x => x == Value.type "tuple") = true := by
      simp only [List.all_toArray, List.all_map, List.all_eq_true]
      intro _ _
      exact ett2
    have h0' : (List.map (fun _ => Value.type "tuple") (v₀ :: vs)).toArray[0]? = some (Value.type "tuple") := by simp
    rw [h0']
    simp only [hall, if_true]
    exact wpAny_pure (wpAny_pure h)
theorem sorts_tups {vs : List Value} {ls : List (List Nat)} (e : EachIs (fun v d => ∃ as, Reads s.heap v d as) vs (ls.map fun l => PyData.tuple (dI l))) (h0 : ∃ r, ls = [] :: r) (hu : A.units + 2 < cLine) :
    SortsAt prog w A s (dataKind s.heap (ls.map fun l => PyData.tuple (dI l))) vs := by
  have hal : AllAlike (ls.map fun l => PyData.tuple (dI l)) := AllAlike.of fun l l' => by
    have : alikeAll (dI l) (dI l') = true := by rw [dI_ints, dI_ints]; exact alike_ints _ _
    simp [alike, this]
  have dep : ∀ l : List Nat, (PyData.tuple (dI l)).depth ≤ 1 := fun l => by
    have hz0 : ∀ l : List Nat, PyData.depthAll (dI l) = 0 := fun l => by
      induction l with
      | nil => simp only [dI, List.map_nil, PyData.depthAll]
      | cons x l ih => simp only [dI, List.map_cons, PyData.depthAll, PyData.depth] at ih ⊢; omega
    simp only [PyData.depth, hz0]; decide
  refine ⟨fun v hv => ?_, oneType', ?_, fun h2 E Q hq => ?_⟩
  · obtain ⟨d, hd, as, r⟩ := e.left v hv
    exact ⟨_, dataKind_some hal hd r⟩
  · intro E x y a b Q ha hb hq
    obtain ⟨d, as, hd, ra, rfl⟩ := dataKind_inv ha
    obtain ⟨d', as', hd', rb, rfl⟩ := dataKind_inv hb
    have hal' := hal d hd d' hd'
    obtain ⟨l, _, rfl⟩ := List.mem_map.mp hd
    obtain ⟨l', _, rfl⟩ := List.mem_map.mp hd'
    rw [keyLt'_oneType]
    refine oneLt_tup ra rb hal' ?_ hq
    have h1 := dep l
    have h2 : min (PyData.tuple (dI l)).depth (PyData.tuple (dI l')).depth ≤ (PyData.tuple (dI l)).depth := Nat.min_le_left _ _
    omega
  · obtain ⟨r, rfl⟩ := h0
    cases e with
    | @cons v₀ d₀ vs₀ ds₀ hv hr =>
      have tup : ∀ v ∈ v₀ :: vs₀, ∃ (a : Addr) (its : Array Value), v = .ref a ∧ IsTup s.heap a its := fun v hm => by
        rcases List.mem_cons.mp hm with z | hm
        · obtain ⟨as, r⟩ := hv
          rw [z]
          cases r with
          | tuple k1 k2 k3 k4 => exact ⟨_, _, rfl, _, k1, k2, _, k3⟩
        · obtain ⟨d, hd, as, r⟩ := hr.left v hm
          obtain ⟨l, _, rfl⟩ := List.mem_map.mp hd
          cases r with
          | tuple k1 k2 k3 k4 => exact ⟨_, _, rfl, _, k1, k2, _, k3⟩
      have its : ∃ f : Value → Array Value, ∀ v ∈ v₀ :: vs₀, ∃ a, v = .ref a ∧ IsTup s.heap a (f v) := by
        refine ⟨fun v => open Classical in if q : ∃ (i : Array Value), ∃ a, v = .ref a ∧ IsTup s.heap a i then q.choose else #[], fun v hm => ?_⟩
        obtain ⟨a, i, e1, e2⟩ := tup v hm
        have q : ∃ (i : Array Value), ∃ a, v = .ref a ∧ IsTup s.heap a i := ⟨i, a, e1, e2⟩
        show ∃ a, v = .ref a ∧ IsTup s.heap a (open Classical in if q : ∃ (i : Array Value), ∃ a, v = .ref a ∧ IsTup s.heap a i then q.choose else #[])
        rw [dif_pos q]
        exact q.choose_spec
      obtain ⟨f, hf⟩ := its
      refine kind_tups (its := f) hf ?_ hq
      obtain ⟨as, r⟩ := hv
      obtain ⟨a, e1, o, ho, hc, n, hd⟩ := hf v₀ List.mem_cons_self
      subst e1
      cases r with
      | tuple k1 k2 k3 k4 =>
        rw [k1] at ho
        cases ho
        rw [k3] at hd
        cases hd
        cases q : (f (.ref a)).toList with
        | nil => exact Array.toList_eq_nil_iff.mp q
        | cons x xs =>
          rw [q] at k4
          cases k4
end
def ule : V × List Nat → V × List Nat → Bool := PySem.W.dataLe false fun z : V × List Nat => PyData.tuple (dI z.2)
def uleL : List Nat → List Nat → Bool := PySem.W.dataLe false fun l : List Nat => PyData.tuple (dI l)
def rSortedU (K : PySem.W.Frag) : List V → Hp → VK → Prop := fun vs H Q => ∃ (a : Addr) (zs : List (V × List Nat)), vs = [.ref a] ∧ SqL K H a (zs.map (·.1)) ∧ zs.length ≤ 100000 ∧ (∃ r, zs.map (·.2) = [] :: r) ∧
  (∀ z ∈ zs, ∃ t, z.1 = .ref t ∧ SqT K H t (z.2.map vI)) ∧ ∀ p, H p = none → Q (.ref p) (upd H p (.lst ((zs.mergeSort ule).map (·.1))))
theorem cr_sortedU {X : Cx} (hu : X.A.units + 64 < cLine) : CallR X (.builtin "sorted") (rSortedU X.K) := by
  intro pins s σ H vs us Q I r h
  obtain ⟨a, zs, rfl, hs, hz, h0, hzs, q⟩ := h
  obtain ⟨its, rv, hl, hsz⟩ := I.list hs
  rw [Vals.ref1 r]
  have eR : PySem.W.EachIs (fun (v : Value) (z : V × List Nat) => RelV z.1 v ∧ ∃ as, Reads s.heap v (.tuple (dI z.2)) as) its zs := each_of rv fun z hz' v r => by
    obtain ⟨t, e, ht⟩ := hzs z hz'
    obtain ⟨its', rv', p', _⟩ := I.tuple ht
    rw [e] at r ⊢
    cases r
    obtain ⟨o, ho, hc, n, hd⟩ := p'
    exact ⟨rfl, [], .tuple ho hc hd (by simpa using reads_ints z.2 its' rv')⟩
  have eh : ∀ h' : Heap, (∀ b o, s.heap.get? b = some o → h'.get? b = some o) → PySem.W.EachIs (fun v z => ∃ as, Reads h' v (PyData.tuple (dI (z : V × List Nat).2)) as) its zs := fun h' k => eR.mono fun v z ⟨_, as, r⟩ => ⟨as, PyProof.Rows.Reads.keeps k r⟩
  have emap : zs.map (fun z : V × List Nat => PyData.tuple (dI z.2)) = (zs.map (·.2)).map fun l => PyData.tuple (dI l) := by rw [List.map_map]; rfl
  have e2 := eh (PySem.W.sortingHeap (PySem.W.copyHeap s.heap its) (s.heap.objs.size + 1) its) (fun _ _ => PySem.W.sorting_copy_old)
  have e3 := PySem.W.each_map (R := fun v d => ∃ as, Reads (PySem.W.sortingHeap (PySem.W.copyHeap s.heap its) (s.heap.objs.size + 1) its) v d as) (fun z : V × List Nat => PyData.tuple (dI z.2)) e2
  rw [emap] at e3
  have S := sorts_tups (prog := X.prog) (w := X.w) (A := X.A.in1.in1) (s := { s with heap := PySem.W.sortingHeap (PySem.W.copyHeap s.heap its) (s.heap.objs.size + 1) its }) e3 h0 (by show X.A.units + 1 + 1 + 2 < cLine; omega)
  have hal : PySem.W.AllAlike (zs.map fun z : V × List Nat => PyData.tuple (dI z.2)) := PySem.W.AllAlike.of fun z z' => by
    have : PySem.W.alikeAll (dI z.2) (dI z'.2) = true := by rw [dI_ints, dI_ints]; exact PySem.W.alike_ints _ _
    simp [PySem.W.alike, this]
  have hlen : its.length = zs.length := by have := rv.length; rw [List.length_map] at this; exact this.symm
  refine PySem.W.sorted_vals hl.isList S (by rw [hlen]; exact Nat.le_trans hz (by decide)) ?_
  have eo := PySem.W.sortVals_data (h' := PySem.W.sortingHeap (PySem.W.copyHeap s.heap its) (s.heap.objs.size + 1) its) (enc := fun z : V × List Nat => PyData.tuple (dI z.2)) false eR e2 hal
  rw [emap] at eo
  obtain ⟨ep, he'⟩ := sortedAll_at s.heap its (PySem.W.sortVals (PySem.W.dataKind (PySem.W.sortingHeap (PySem.W.copyHeap s.heap its) (s.heap.objs.size + 1) its) ((zs.map (·.2)).map fun l => PyData.tuple (dI l))) false its its).toArray
  have hv : Vals ((zs.mergeSort ule).map (·.1)) _ := each_vals (fun _ _ h => h.1) eo
  exact ⟨.ref _, upd H (s.heap.objs.size + 1) (.lst ((zs.mergeSort ule).map (·.1))), I.laid (t' := s.toks) (fun _ _ => sortedAll_old) (Nat.le_succ _) ⟨by rw [List.length_map, List.length_mergeSort]; exact Nat.le_trans hz (by decide), _, ep, hv, he'⟩, rfl, q _ (I.hok.fresh (Nat.le_succ _))⟩
theorem sortedUK {X : Cx} {K : PySem.W.Frag} (h : X.K = K) (hu : X.A.units + 64 < cLine) : CallR X (.builtin "sorted") (rSortedU K) := by subst h; exact cr_sortedU hu
end K23

set_option Elab.async false
set_option linter.all false
set_option maxRecDepth 100000
set_option maxHeartbeats 4000000
/-! More rules for the law's defs. -/
namespace K23
open PySem PySem.Spec PyProof.Rows L2
section
variable {K : PySem.W.Frag} {Γ : Env} {ta tb te tl : TE} {tc : TT} {t u : TS} {P R : PyData → Prop} {N N1 : Env → Prop}
/-- a, b = (e1, []) -/
theorem wp_asg2O {i j : Nat} (hij : i ≠ j) (h : EvN K te Γ P) (k : ∀ d, P d → N ((Γ.set i (.val d)).set j (.own []))) : Wp K (tAsg (tTup (tCons te (tCons (tLst tNil) tNil))) (gTup K 2 (gCons (gName i) (gCons (gName j) gNil)))) Γ N R := fun r G H σ S D n q =>
  h r G H σ S _ fun v d G1 H1 p1 x1 w1 r1 => ⟨Nat.zero_le _, fun p hp => ⟨by show 2 ≤ sizeLine; decide, fun p2 hp2 => by
    have S1 := (S.ext x1 w1).set (i := i) r1
    have x2 : Ext r NoO G1 H1 G1 (upd H1 p (.lst [])) := ext_new x1.sub hp
    have S2 := S1.setOwn (i := j) (us := []) (ds := []) hp .nil
    have x3 : Ext r NoO G1 (upd H1 p (.lst [])) G1 (upd (upd H1 p (.lst [])) p2 (.tup [v, .ref p])) := ext_new S2.same hp2
    have w3 := S2.row.mut (u := .tup [v, .ref p]) (S2.row.ne hp2) fun o u z => by rw [hp2] at z; cases z
    refine ⟨_, _, rfl, SqT.of upd_same, rfl, _, _, rfl, _, _, rfl, rfl, ?_⟩
    refine n _ _ G1 _ (k d p1) ((x1.trans0 x2 w1).trans0 x3 S2.row).wk (S2.ext x3 w3) fun a z => ?_
    rcases own_set2 z with z | z
    · exact .inl (own_set z)
    · cases z
      exact .inr (back_none x1 w1 (fun z => z) hp)⟩⟩
/-- a, b, c = a tuple -/
theorem wp_asg3D {i j l : Nat} {x y z : PyData} (h : Ev K te Γ (.tuple [x, y, z])) (k : N (((Γ.set i (.val x)).set j (.val y)).set l (.val z))) : Wp K (tAsg te (gTup K 3 (gCons (gName i) (gCons (gName j) (gCons (gName l) gNil))))) Γ N R := fun r G H σ S D n q =>
  h r G H σ S _ fun v d G1 H1 p1 x1 w1 r1 => by
    subst p1
    cases r1 with
    | tup g rs =>
      cases rs with
      | cons ra rs =>
        cases rs with
        | cons rb rs =>
          cases rs with
          | cons rc rs =>
            cases rs
            exact ⟨_, _, rfl, SqT.of (x1.sub _ _ g), rfl, _, _, rfl, _, _, rfl, _, _, rfl, rfl, n _ _ G1 H1 k x1.wk ((((S.ext x1 w1).set ra).set rb).set rc) fun a z => .inl (own_set (own_set (own_set z)))⟩
theorem atLast {l : List Nat} (ne : l ≠ []) : atI (dI l) (-1) = some (.int ((l.getLast ne : Nat) : Int)) := by
  have hp : 0 < l.length := List.length_pos_iff.mpr ne
  unfold atI ixN
  rw [dI_len, if_neg (by omega), if_pos (by omega)]
  show (dI l)[((-1 : Int) + (l.length : Int)).toNat]? = _
  have e : ((-1 : Int) + (l.length : Int)).toNat = l.length - 1 := by omega
  rw [e]
  unfold dI
  rw [List.getElem?_map, List.getLast_eq_getElem, List.getElem?_eq_getElem (by omega)]; rfl
theorem ev_sortedU {lots : List (List Nat)} (h : Ev K te Γ (.list (lots.map fun l => .tuple (dI l)))) (h0 : ∃ r, lots = [] :: r) (hl : lots.length ≤ 100000) :
    Ev K (tCB (rSortedU K) (tCons te tNil)) Γ (.list ((lots.mergeSort uleL).map fun l => .tuple (dI l))) := by
  refine ev_cb (ea_c h ea_nil) fun G H vs s rs Q q => ?_
  cases rs with
  | cons r1 rn =>
    cases rn
    cases r1 with
    | @lst a us _ g rs =>
      have hlen : us.length = lots.length := by have := rs.length; rwa [List.length_map] at this
      have hz := rps_zip rs
      refine ⟨a, us.zip lots, rfl, by rw [zip_map_fst us lots hlen]; exact SqL.of (s _ _ g), by rw [List.length_zip]; omega, by rw [zip_map_snd us lots hlen]; exact h0, fun z hm => ?_, fun p hp => ?_⟩
      · obtain ⟨z1, z2⟩ := z
        have rz : Rp G z1 (.tuple (dI z2)) := hz _ hm
        cases rz with
        | @tup t us _ g2 rs2 =>
          refine ⟨t, rfl, ?_⟩
          rw [dI_ints] at rs2
          have := rs2.ints
          subst this
          have e2 : (nI z2).map V.int = z2.map vI := by unfold nI vI; rw [List.map_map]; rfl
          rw [← e2]
          exact SqT.of (s _ _ g2)
      · have hmem : ∀ z ∈ (us.zip lots).mergeSort ule, Rp G z.1 (.tuple (dI z.2)) := fun z hz' => hz z ((List.mergeSort_perm _ _).mem_iff.mp hz')
        have emap : (((us.zip lots).mergeSort ule).map (·.2)) = lots.mergeSort uleL := by
          have := List.map_mergeSort (r := ule) (s := uleL) (f := Prod.snd) (l := us.zip lots) (fun a _ b _ => rfl)
          rw [this]
          exact congrArg (fun l => l.mergeSort uleL) (zip_map_snd us lots hlen)
        obtain ⟨x2, r2⟩ := new_lst (ρ := none) s hp (rps_of _ hmem)
        rw [emap] at r2
        exact q _ _ _ _ rfl x2 r2
/-! ### values that are not told in full -/
/-- a value each, one of several -/
theorem evn_lcR {α β : Type} {l : List α} {enc : α → PyData} {enc' : β → PyData} {S : β → Prop} {wi : TI} {j : Nat} (hi : EvI K wi Γ (fun x => x = l.map enc)) (hlen : l.length ≤ 1000000)
    (he : ∀ a ∈ l, EvN K te (Γ.set j (.val (enc a))) (fun y => ∃ b, S b ∧ y = enc' b)) : EvN K (tLc wi (gName j) tYes te [j]) Γ (fun d => ∃ bs : List β, bs.length = l.length ∧ (∀ b ∈ bs, S b) ∧ d = .list (bs.map enc')) :=
  evn_lc (B := fun _ => True) hi tgt_name (fun _ _ _ _ => trivial) fun items e => by
    rw [e]
    refine ⟨fun k acc => ∃ bs : List β, bs.length = k ∧ (∀ b ∈ bs, S b) ∧ acc = bs.map enc', ⟨[], rfl, fun b hb => (by cases hb), rfl⟩, by rw [List.length_map]; exact hlen, fun k x acc hx hI _ => ?_, fun acc hI => ?_⟩
    · rw [List.getElem?_map] at hx
      obtain ⟨a, ha, rfl⟩ := Option.map_eq_some_iff.mp hx
      obtain ⟨bs, h1, h2, rfl⟩ := hI
      refine ⟨fun b => b = true, et_yes, fun _ => (he a (List.mem_of_getElem? ha)).imp fun y ⟨b, hb, ey⟩ => ⟨bs ++ [b], by rw [List.length_append, h1]; rfl, fun c hc => ?_, by rw [List.map_append, ey]; rfl⟩, fun z => by cases z⟩
      rcases List.mem_append.mp hc with hc | hc
      · exact h2 c hc
      · rw [List.mem_singleton.mp hc]; exact hb
    · rw [List.length_map] at hI
      obtain ⟨bs, h1, h2, rfl⟩ := hI
      exact ⟨bs, h1, h2, rfl⟩
/-- over pairs of ints -/
theorem evn_lcRp {β : Type} {l : List (Int × Int)} {enc' : β → PyData} {S : β → Prop} {wi : TI} {i j : Nat} (hij : i ≠ j) (hi : EvI K wi Γ (fun x => x = l.map dP)) (hlen : l.length ≤ 1000000)
    (he : ∀ a ∈ l, EvN K te ((Γ.set i (.val (.int a.1))).set j (.val (.int a.2))) (fun y => ∃ b, S b ∧ y = enc' b)) : EvN K (tLc wi (gTup K 2 (gCons (gName i) (gCons (gName j) gNil))) tYes te [i, j]) Γ (fun d => ∃ bs : List β, bs.length = l.length ∧ (∀ b ∈ bs, S b) ∧ d = .list (bs.map enc')) :=
  evn_lc (B := fun d => d ∈ l.map dP) hi (tgt_pair hij fun d hd => by
    obtain ⟨p, _, e⟩ := List.mem_map.mp hd
    exact ⟨_, _, e.symm⟩) (fun items e d hd => e ▸ hd) fun items e => by
    rw [e]
    refine ⟨fun k acc => ∃ bs : List β, bs.length = k ∧ (∀ b ∈ bs, S b) ∧ acc = bs.map enc', ⟨[], rfl, fun b hb => (by cases hb), rfl⟩, by rw [List.length_map]; exact hlen, fun k x acc hx hI _ => ?_, fun acc hI => ?_⟩
    · rw [List.getElem?_map] at hx
      obtain ⟨a, ha, rfl⟩ := Option.map_eq_some_iff.mp hx
      obtain ⟨bs, h1, h2, rfl⟩ := hI
      refine ⟨fun b => b = true, et_yes, fun _ => (he a (List.mem_of_getElem? ha)).imp fun y ⟨b, hb, ey⟩ => ⟨bs ++ [b], by rw [List.length_append, h1]; rfl, fun c hc => ?_, by rw [List.map_append, ey]; rfl⟩, fun z => by cases z⟩
      rcases List.mem_append.mp hc with hc | hc
      · exact h2 c hc
      · rw [List.mem_singleton.mp hc]; exact hb
    · rw [List.length_map] at hI
      obtain ⟨bs, h1, h2, rfl⟩ := hI
      exact ⟨bs, h1, h2, rfl⟩
/-- a, b, c = e1, e2, [] -/
theorem wp_par3O {P2 : PyData → Prop} {i j l : Nat} (h1 : EvN K ta Γ P) (h2 : EvN K tb Γ P2) (k : ∀ d e, P d → P2 e → N (((Γ.set i (.val d)).set j (.val e)).set l (.own []))) : Wp K (tPar3 i j l (tCons ta (tCons tb (tCons (tLst tNil) tNil)))) Γ N R := fun r G H σ S D n q =>
  h1 r G H σ S _ fun v1 d1 G1 H1 p1 x1 w1 r1 => h2 r G1 H1 σ (S.ext x1 w1) _ fun v2 d2 G2 H2 p2 x2 w2 r2 => ⟨Nat.zero_le _, fun p hp => ⟨_, _, _, rfl, by
    have S1 := (((S.ext x1 w1).ext x2 w2).set (i := i) (r1.up x2.kn)).set (i := j) r2
    have x3 : Ext r NoO G2 H2 G2 (upd H2 p (.lst [])) := ext_new x2.sub hp
    refine n _ _ G2 _ (k d1 d2 p1 p2) ((x1.trans0 x2 w1).trans0 x3 w2).wk (S1.setOwn hp .nil) fun a z => ?_
    rcases own_set2 z with z | z
    · exact .inl (own_set (own_set z))
    · cases z
      exact .inr (back_none x1 w1 (fun z => z) (back_none x2 w2 (fun z => z) hp))⟩⟩
/-- [..] * n -/
theorem rv_rep {ds : List PyData} {n : Nat} (hn : ds.length * n ≤ 1000000) (h2 : n ≤ 1000000) : RV rRep (.list ds) (.int (n : Int)) (fun x => x = .list (List.replicate n ds).flatten) := fun G H x y s h1 h2' Q q => by
  cases h1 with
  | @lst a vs _ g rs =>
    refine ⟨a, n, vs, rfl, h2'.int_of, s _ _ g, by omega, by omega, ?_, fun p hp => ?_⟩
    · rw [rs.length]
      exact Nat.le_trans (by simpa using hn) (by decide)
    · have hr : ∀ m : Nat, Rps G (List.replicate m vs).flatten (List.replicate m ds).flatten := fun m => by
        induction m with
        | zero => exact .nil
        | succ m ih => rw [List.replicate_succ, List.replicate_succ, List.flatten_cons, List.flatten_cons]; exact rs.append ih
      obtain ⟨x2, r2⟩ := new_lst (ρ := none) s hp (hr n)
      exact q _ _ _ _ rfl x2 r2
/-- two of one's values into one operator -/
theorem evn_opI {C : PyData → Prop} {r : R2} {P1 P2 : PyData → Prop} (ha : EvN K ta Γ P1) (hb : EvN K tb Γ P2) (hr : ∀ dx dy, P1 dx → P2 dy → ∃ dz, C dz ∧ RV r dx dy (fun x => x = dz)) : EvN K (tOp r ta tb) Γ C := evn_op ha hb fun dx dy h1 h2 => by
  obtain ⟨dz, hz, hv⟩ := hr dx dy h1 h2
  exact fun G H x y s a b Q q => hv G H x y s a b Q fun v d G' H' e => q v d G' H' (by rw [e]; exact hz)
/-! ### is None -/
theorem rv_isN {d : PyData} {b : Bool} (hb : b = match d with | .none => true | _ => false) : RV (fun x y H Q => y = .non ∧ Q (.bl (decide (x = .non))) H) d .none (fun x => x = .bool b) := fun G H x y s h1 h2 Q q => by
  refine ⟨h2.none_of, ?_⟩
  have : decide (x = V.non) = b := by
    subst hb
    cases h1 <;> simp
  rw [this]
  exact q _ _ G H rfl (.refl s) (.bl _)
end
end K23

set_option Elab.async false
set_option linter.all false
set_option maxRecDepth 100000
set_option maxHeartbeats 4000000
namespace K23
open PySem PySem.Spec PyProof.Rows L2
/-! ### _law_rows: slots 0 _law_board_here, 1 _law_lot_here, 2 _law_one -/
abbrev N__law_rows : List Str := ["_law_board_here", "_law_lot_here", "_law_one"]
theorem sc__law_rows : FnScope N__law_rows ["_law_board_here", "_law_lot_here"] (defScope s_law_rows) := ⟨rfl, rfl, rfl, by decide +kernel, rfl, by decide +kernel, by decide +kernel⟩
abbrev E__law_rows : (BD × List Nat) → List PyData := fun a => [dB a.1.b, .tuple (dI a.2)]
abbrev R__law_rows : (BD × List Nat) → Prop := fun a => Good a.1
abbrev V__law_rows : (BD × List Nat) → PyData := fun a => .list (dI (rowsL a.1.h a.2))
abbrev SP__law_rows : Sp := spF E__law_rows R__law_rows V__law_rows
theorem ok__law_rows {P : Program} {w : World} {K : PySem.W.Frag} {mg : Str → Option Value} {base : Heap} (T : Txt mg) (F : FnAt K mg "_law_rows" s_law_rows ["_law_board_here", "_law_lot_here"]) : Def P w K mg base 1 "_law_rows" ["_law_board_here", "_law_lot_here"] SP__law_rows := by
  refine F.ok sc__law_rows (fun vs H Q E h => spF_len (n := 2) (fun _ => rfl) h) (fun f cdv A outer s H vs Q E hr h => ⟨_, (pss_one (ps_ret (pe_lc (own := [("_law_one", 2)]) (g := gName 2) rfl sc__law_rows.nd (pi_range1 (by rfl) T.range (pa_cons (pe_callB (lenK (K := K) rfl) (by rfl) T.len PySem.boot_len (pa_cons (pv 0) pa_nil)) pa_nil)) (blkOk_by (own := [("_law_one", 2)]) (N := N__law_rows) (sc := defScope s_law_rows) (by decide +kernel)) (fun _ _ _ _ _ => pg_name (i := 2) sc__law_rows.nd rfl (Or.inl rfl)) (fun _ _ _ _ _ => pts_one (pt_cmpR (ninK (K := K) rfl) (pv 2) (pv 1) (by rfl))) (fun _ _ _ _ _ => (pv 2))))), body_ok (K := K) 1 (fun _ => rfl) (fun a hp => ?_) h⟩)
  obtain ⟨B, lot⟩ := a
  have g : Good B := hp
  have h6 := g.h6; have w6 := g.w6
  refine wp_retD (ev_lcN (List.range B.h) (fun x => !lot.contains x) (ei_rangeN (ea_c (Ev.to (ev_lenT ev_var) ?_) ea_nil) (by omega)) (by rw [List.length_range]; omega) fun x hx => et_test (ev_op ev_var ev_var rv_niTN)) rfl
  rw [List.length_map, g.len]

/-! ### _law_columns: slots 0 _law_board_here, 1 _law_lot_here, 2 _law_one -/
abbrev N__law_columns : List Str := ["_law_board_here", "_law_lot_here", "_law_one"]
theorem sc__law_columns : FnScope N__law_columns ["_law_board_here", "_law_lot_here"] (defScope s_law_columns) := ⟨rfl, rfl, rfl, by decide +kernel, rfl, by decide +kernel, by decide +kernel⟩
abbrev E__law_columns : (BD × List Nat) → List PyData := fun a => [dB a.1.b, .tuple (dI a.2)]
abbrev R__law_columns : (BD × List Nat) → Prop := fun a => Good a.1
abbrev V__law_columns : (BD × List Nat) → PyData := fun a => .list (dI (colsL a.1.h a.1.w a.2))
abbrev SP__law_columns : Sp := spF E__law_columns R__law_columns V__law_columns
theorem ok__law_columns {P : Program} {w : World} {K : PySem.W.Frag} {mg : Str → Option Value} {base : Heap} (T : Txt mg) (F : FnAt K mg "_law_columns" s_law_columns ["_law_board_here", "_law_lot_here"]) : Def P w K mg base 1 "_law_columns" ["_law_board_here", "_law_lot_here"] SP__law_columns := by
  refine F.ok sc__law_columns (fun vs H Q E h => spF_len (n := 2) (fun _ => rfl) h) (fun f cdv A outer s H vs Q E hr h => ⟨_, (pss_one (ps_ret (pe_lc (own := [("_law_one", 2)]) (g := gName 2) rfl sc__law_columns.nd (pi_range2 (by rfl) T.range (pa_cons (pe_callB (lenK (K := K) rfl) (by rfl) T.len PySem.boot_len (pa_cons (pv 0) pa_nil)) (pa_cons (pe_op op_add (pe_callB (lenK (K := K) rfl) (by rfl) T.len PySem.boot_len (pa_cons (pv 0) pa_nil)) (pe_callB (lenK (K := K) rfl) (by rfl) T.len PySem.boot_len (pa_cons (pe_ix (ixTK (K := K) rfl) (pv 0) pe_int (fun _ _ => rfl)) pa_nil))) pa_nil))) (blkOk_by (own := [("_law_one", 2)]) (N := N__law_columns) (sc := defScope s_law_columns) (by decide +kernel)) (fun _ _ _ _ _ => pg_name (i := 2) sc__law_columns.nd rfl (Or.inl rfl)) (fun _ _ _ _ _ => pts_one (pt_cmpR (ninK (K := K) rfl) (pv 2) (pv 1) (by rfl))) (fun _ _ _ _ _ => (pv 2))))), body_ok (K := K) 1 (fun _ => rfl) (fun a hp => ?_) h⟩)
  obtain ⟨B, lot⟩ := a
  have g : Good B := hp
  have h6 := g.h6; have w6 := g.w6
  refine wp_retD (Ev.to (ev_lcN (List.range' B.h (B.h + B.w - B.h)) (fun x => !lot.contains x) (ei_range2N (ea_c (Ev.to (ev_lenT ev_var) ?_) (ea_c (Ev.to (ev_op (Ev.to (ev_lenT ev_var) (e := .int (B.h : Int)) ?_) (Ev.to (ev_lenT (Ev.to (ev_op ev_var ev_int (rv_ixT (atI_of rfl (g.at g.h1)))) rfl)) (e := .int (B.w : Int)) ?_) rv_I) ?_) ea_nil)) (by omega) (by omega)) (by rw [List.length_range']; omega) fun x hx => et_test (ev_op ev_var ev_var rv_niTN)) ?_) rfl
  · rw [List.length_map, g.len]
  · rw [List.length_map, g.len]
  · rw [List.length_map, g.rlen g.h1]
  · rw [Int.natCast_add]
  · rw [Nat.add_sub_cancel_left]; rfl

/-! ### _law_numbers: slots 0 _law_board_here, 1 _law_lot_here, 2 _law_line, 3 _law_one -/
abbrev N__law_numbers : List Str := ["_law_board_here", "_law_lot_here", "_law_line", "_law_one"]
theorem sc__law_numbers : FnScope N__law_numbers ["_law_board_here", "_law_lot_here", "_law_line"] (defScope s_law_numbers) := ⟨rfl, rfl, rfl, by decide +kernel, rfl, by decide +kernel, by decide +kernel⟩
abbrev E__law_numbers : (BD × List Nat × Nat) → List PyData := fun a => [dB a.1.b, .tuple (dI a.2.1), .int (a.2.2 : Int)]
abbrev R__law_numbers : (BD × List Nat × Nat) → Prop := fun a => Good a.1 ∧ a.2.2 < a.1.h + a.1.w
abbrev V__law_numbers : (BD × List Nat × Nat) → PyData := fun a => .list ((numbers a.1.h a.1.w a.1.b a.2.1 a.2.2).map .int)
abbrev SP__law_numbers : Sp := spF E__law_numbers R__law_numbers V__law_numbers
theorem ok__law_numbers {P : Program} {w : World} {K : PySem.W.Frag} {mg : Str → Option Value} {base : Heap} (T : Txt mg) (F : FnAt K mg "_law_numbers" s_law_numbers ["_law_board_here", "_law_lot_here", "_law_line"]) (D__law_rows : Def P w K mg base 1 "_law_rows" ["_law_board_here", "_law_lot_here"] SP__law_rows) (D__law_columns : Def P w K mg base 1 "_law_columns" ["_law_board_here", "_law_lot_here"] SP__law_columns) : Def P w K mg base 2 "_law_numbers" ["_law_board_here", "_law_lot_here", "_law_line"] SP__law_numbers := by
  refine F.ok sc__law_numbers (fun vs H Q E h => spF_len (n := 3) (fun _ => rfl) h) (fun f cdv A outer s H vs Q E hr h => ⟨_, (pss_cons (ps_if (pt_cmpR op_lt (pv 2) (pe_callB (lenK (K := K) rfl) (by rfl) T.len PySem.boot_len (pa_cons (pv 0) pa_nil)) (nomark _)) (pss_one (ps_ret (pe_lc (own := [("_law_one", 3)]) (tt := tYes) (g := gName 3) rfl sc__law_numbers.nd (listI (K := K) rfl (pe_def D__law_columns (hr.mono (by decide)) (by rfl) (pa_cons (pv 0) (pa_cons (pv 1) pa_nil)))) (blkOk_by (own := [("_law_one", 3)]) (N := N__law_numbers) (sc := defScope s_law_numbers) (by decide +kernel)) (fun _ _ _ _ _ => pg_name (i := 3) sc__law_numbers.nd rfl (Or.inl rfl)) (fun _ _ _ _ _ => pts_nil) (fun _ _ _ _ _ => (pe_ix (ixTK (K := K) rfl) (pe_ix (ixTK (K := K) rfl) (pe_ix (ixTK (K := K) rfl) (pv 0) (pv 2) (fun _ _ => rfl)) (pe_op op_sub (pv 3) (pe_callB (lenK (K := K) rfl) (by rfl) T.len PySem.boot_len (pa_cons (pv 0) pa_nil))) (fun _ _ => rfl)) pe_int (fun _ _ => rfl)))))) pss_nil)
      (pss_one (ps_ret (pe_lc (own := [("_law_one", 3)]) (tt := tYes) (g := gName 3) rfl sc__law_numbers.nd (listI (K := K) rfl (pe_def D__law_rows (hr.mono (by decide)) (by rfl) (pa_cons (pv 0) (pa_cons (pv 1) pa_nil)))) (blkOk_by (own := [("_law_one", 3)]) (N := N__law_numbers) (sc := defScope s_law_numbers) (by decide +kernel)) (fun _ _ _ _ _ => pg_name (i := 3) sc__law_numbers.nd rfl (Or.inl rfl)) (fun _ _ _ _ _ => pts_nil) (fun _ _ _ _ _ => (pe_ix (ixTK (K := K) rfl) (pe_ix (ixTK (K := K) rfl) (pe_ix (ixTK (K := K) rfl) (pv 0) (pv 3) (fun _ _ => rfl)) (pe_op op_sub (pv 2) (pe_callB (lenK (K := K) rfl) (by rfl) T.len PySem.boot_len (pa_cons (pv 0) pa_nil))) (fun _ _ => rfl)) pe_int (fun _ _ => rfl))))))), body_ok (K := K) 1 (fun _ => rfl) (fun a hp => ?_) h⟩)
  obtain ⟨B, lot, x⟩ := a
  obtain ⟨g, hx⟩ : Good B ∧ x < B.h + B.w := hp
  have h6 := g.h6; have w6 := g.w6
  have lenB : (B.b.map dRow).length = B.h := by rw [List.length_map, g.len]
  have lcr := cross_len (h := B.h) (w := B.w) (lot := lot) (x := x)
  have G0 : start0 (E__law_numbers (B, lot, x)) 1 = [.val (dB B.b), .val (.tuple (dI lot)), .val (.int (x : Int)), .no] := rfl
  rw [G0]
  refine wp_seq (N1 := fun Γ => ¬ x < B.h ∧ Γ = [.val (dB B.b), .val (.tuple (dI lot)), .val (.int (x : Int)), .no]) (wp_if (et_test (Ev.to (ev_op ev_var (ev_lenT ev_var) rv_ltN) (by rw [lenB]))) (fun e => ?_) fun e => wp_next ⟨of_decide_eq_false e, rfl⟩) fun Γ e => ?_
  · have hxh := of_decide_eq_true e
    have ec : cross B.h B.w lot x = colsL B.h B.w lot := if_pos hxh
    refine wp_retD (Ev.to (ev_lcmN (colsL B.h B.w lot) (fun c => .int (cell B.b x (c - B.h)).1) (ei_listD (ev_call (enc := E__law_columns) (f := V__law_columns) (B, lot) (ea_c ev_var (ea_c ev_var ea_nil)) g)) (by rw [← ec]; omega) fun c hc => ?_) ?_) rfl
    · obtain ⟨c1, c2, c3⟩ := mem_colsL.mp hc
      exact ev_op (ev_op (ev_op ev_var ev_var (rv_ixT (atI_of rfl (g.at hxh)))) (ev_op ev_var (ev_lenT ev_var) rv_I) (rv_ixT (atI_of (by show (c : Int) - _ = ((c - B.h : Nat) : Int); rw [lenB]; omega) (g.place hxh (by omega))))) ev_int (rv_ixT (atI_of rfl rfl))
    · show PyData.list _ = .list ((numbers B.h B.w B.b lot x).map .int)
      unfold numbers cross val
      rw [if_pos hxh, List.map_map]
      congr 1
      refine List.map_congr_left fun c hc => ?_
      show _ = PyData.int (if x < B.h then _ else _)
      rw [if_pos hxh]
  · obtain ⟨hxh, rfl⟩ := e
    have ec : cross B.h B.w lot x = rowsL B.h lot := if_neg hxh
    refine wp_retD (Ev.to (ev_lcmN (rowsL B.h lot) (fun c => .int (cell B.b c (x - B.h)).2) (ei_listD (ev_call (enc := E__law_rows) (f := V__law_rows) (B, lot) (ea_c ev_var (ea_c ev_var ea_nil)) g)) (by rw [← ec]; omega) fun c hc => ?_) ?_) rfl
    · obtain ⟨c1, c2⟩ := mem_rowsL.mp hc
      exact ev_op (ev_op (ev_op ev_var ev_var (rv_ixT (atI_of rfl (g.at c1)))) (ev_op ev_var (ev_lenT ev_var) rv_I) (rv_ixT (atI_of (by show (x : Int) - _ = ((x - B.h : Nat) : Int); rw [lenB]; omega) (g.place c1 (by omega))))) ev_int (rv_ixT (atI_of rfl rfl))
    · show PyData.list _ = .list ((numbers B.h B.w B.b lot x).map .int)
      unfold numbers cross val
      rw [if_neg hxh, List.map_map]
      congr 1
      refine List.map_congr_left fun c hc => ?_
      show _ = PyData.int (if x < B.h then _ else _)
      rw [if_neg hxh]

/-! ### _law_over: slots 0 _law_board_here, 1 _law_lot_here, 2 _law_line, 3 _law_side, 4 _law_own, 5 _law_found, 6 _law_other, 7 _law_told, 8 _law_at -/
abbrev N__law_over : List Str := ["_law_board_here", "_law_lot_here", "_law_line", "_law_side", "_law_own", "_law_found", "_law_other", "_law_told", "_law_at"]
theorem sc__law_over : FnScope N__law_over ["_law_board_here", "_law_lot_here", "_law_line"] (defScope s_law_over) := ⟨rfl, rfl, rfl, by decide +kernel, rfl, by decide +kernel, by decide +kernel⟩
abbrev E__law_over : (BD × List Nat × Nat) → List PyData := fun a => [dB a.1.b, .tuple (dI a.2.1), .int (a.2.2 : Int)]
abbrev R__law_over : (BD × List Nat × Nat) → Prop := fun a => Good a.1 ∧ a.2.2 < a.1.h + a.1.w
abbrev V__law_over : (BD × List Nat × Nat) → PyData := fun a => .list (dI (overL a.1.h a.1.w a.1.b a.2.1 a.2.2))
abbrev SP__law_over : Sp := spF E__law_over R__law_over V__law_over
theorem ok__law_over {P : Program} {w : World} {K : PySem.W.Frag} {mg : Str → Option Value} {base : Heap} (T : Txt mg) (F : FnAt K mg "_law_over" s_law_over ["_law_board_here", "_law_lot_here", "_law_line"]) (D__law_numbers : Def P w K mg base 2 "_law_numbers" ["_law_board_here", "_law_lot_here", "_law_line"] SP__law_numbers) (D__law_rows : Def P w K mg base 1 "_law_rows" ["_law_board_here", "_law_lot_here"] SP__law_rows) (D__law_columns : Def P w K mg base 1 "_law_columns" ["_law_board_here", "_law_lot_here"] SP__law_columns) : Def P w K mg base 3 "_law_over" ["_law_board_here", "_law_lot_here", "_law_line"] SP__law_over := by
  refine F.ok sc__law_over (fun vs H Q E h => spF_len (n := 3) (fun _ => rfl) h) (fun f cdv A outer s H vs Q E hr h => ⟨_, (pss_cons (ps_set (i := 3) sc__law_over.nd rfl (Or.inl rfl) (pe_ifExp (pt_cmpR op_lt (pv 2) (pe_callB (lenK (K := K) rfl) (by rfl) T.len PySem.boot_len (pa_cons (pv 0) pa_nil)) (nomark _)) (pe_def D__law_rows (hr.mono (by decide)) (by rfl) (pa_cons (pv 0) (pa_cons (pv 1) pa_nil))) (pe_def D__law_columns (hr.mono (by decide)) (by rfl) (pa_cons (pv 0) (pa_cons (pv 1) pa_nil)))))
      (pss_cons (ps_asg (pe_tup (pa_cons (pe_def D__law_numbers (hr.mono (by decide)) (by rfl) (pa_cons (pv 0) (pa_cons (pv 1) (pa_cons (pv 2) pa_nil)))) (pa_cons (pe_lst pa_nil) pa_nil))) (tupG (K := K) rfl rfl (pgs_cons (pg_name (i := 4) sc__law_over.nd rfl (Or.inr rfl)) (pgs_cons (pg_name (i := 5) sc__law_over.nd rfl (Or.inl rfl)) pgs_nil))))
      (pss_cons (ps_for PassesOwn.never rfl (listI (K := K) rfl (pv 3)) (pg_name (i := 6) sc__law_over.nd rfl (Or.inl rfl)) (pss_cons (ps_set (i := 7) sc__law_over.nd rfl (Or.inr rfl) (pe_def D__law_numbers (hr.mono (by decide)) (by rfl) (pa_cons (pv 0) (pa_cons (pv 1) (pa_cons (pv 6) pa_nil)))))
      (pss_one (ps_if (pt_cmpR (eqDK (K := K) rfl hr.units) (pe_lc (own := [("_law_at", 8)]) (g := gName 8) rfl sc__law_over.nd (pi_range1 (by rfl) T.range (pa_cons (pe_callB (lenK (K := K) rfl) (by rfl) T.len PySem.boot_len (pa_cons (pv 4) pa_nil)) pa_nil)) (blkOk_by (own := [("_law_at", 8)]) (N := N__law_over) (sc := defScope s_law_over) (by decide +kernel)) (fun _ _ _ _ _ => pg_name (i := 8) sc__law_over.nd rfl (Or.inl rfl)) (fun _ _ _ _ _ => pts_one (pt_cmpR op_le (pe_ix (ixLK (K := K) rfl) (pv 7) (pv 8) (fun _ _ => rfl)) (pe_ix (ixLK (K := K) rfl) (pv 4) (pv 8) (fun _ _ => rfl)) (nomark _))) (fun _ _ _ _ _ => (pv 8))) (pe_lst pa_nil) (nomark _)) (pss_one (ps_expr (pe_bm PySem.F.plainAttrs_list PySem.F.slot_list_append PySem.F.type_list_append mt_append (pv 5) (pa_cons (pv 6) pa_nil)))) pss_nil))))
      (pss_one (ps_ret (pv 5)))))), body_ok (K := K) 6 (fun _ => rfl) (fun a hp => ?_) h⟩)
  obtain ⟨B, lot, x⟩ := a
  obtain ⟨g, hx⟩ : Good B ∧ x < B.h + B.w := hp
  have h6 := g.h6; have w6 := g.w6
  have lenB : (B.b.map dRow).length = B.h := by rw [List.length_map, g.len]
  have lcr := cross_len (h := B.h) (w := B.w) (lot := lot) (x := x)
  have lsd := sideL_len (h := B.h) (w := B.w) (lot := lot) (x := x)
  have G0 : start0 (E__law_over (B, lot, x)) 6 = [.val (dB B.b), .val (.tuple (dI lot)), .val (.int (x : Int)), .no, .no, .no, .no, .no, .no] := rfl
  rw [G0]
  refine wp_seq (N1 := fun Γ => Γ = [.val (dB B.b), .val (.tuple (dI lot)), .val (.int (x : Int)), .val (.list (dI (sideL B.h B.w lot x))), .no, .no, .no, .no, .no]) (wp_setD (ev_if (b := decide (x < B.h)) (et_test (Ev.to (ev_op ev_var (ev_lenT ev_var) rv_ltN) (by rw [lenB]))) (fun e => Ev.to (ev_call (enc := E__law_rows) (f := V__law_rows) (B, lot) (ea_c ev_var (ea_c ev_var ea_nil)) g) ?_) (fun e => Ev.to (ev_call (enc := E__law_columns) (f := V__law_columns) (B, lot) (ea_c ev_var (ea_c ev_var ea_nil)) g) ?_)) rfl) fun Γ e => ?_
  · unfold sideL; rw [if_pos (of_decide_eq_true e)]
  · unfold sideL; rw [if_neg (of_decide_eq_false e)]
  subst e
  refine wp_seq (N1 := fun Γ => Γ = [.val (dB B.b), .val (.tuple (dI lot)), .val (.int (x : Int)), .val (.list (dI (sideL B.h B.w lot x))), .val (.list ((numbers B.h B.w B.b lot x).map .int)), .own [], .no, .no, .no]) (wp_asg2O (by decide) (ev_call (enc := E__law_numbers) (f := V__law_numbers) (B, lot, x) (ea_c ev_var (ea_c ev_var (ea_c ev_var ea_nil))) ⟨g, hx⟩) fun d e => by rw [e]; rfl) fun Γ e => ?_
  subst e
  obtain ⟨p, hpp⟩ : ∃ p : Nat → Bool, p = fun y => decide (belowL (numbers B.h B.w B.b lot x) (numbers B.h B.w B.b lot y) = []) := ⟨_, rfl⟩
  refine wp_seq (N1 := fun Γ => ∃ s t, Γ = [.val (dB B.b), .val (.tuple (dI lot)), .val (.int (x : Int)), .val (.list (dI (sideL B.h B.w lot x))), .val (.list ((numbers B.h B.w B.b lot x).map .int)), .own (dI (overL B.h B.w B.b lot x)), s, t, .no]) (wp_for (ei_listD ev_var) fun items e => ⟨fun k Γ => k ≤ (sideL B.h B.w lot x).length ∧ ∃ s t, Γ = [.val (dB B.b), .val (.tuple (dI lot)), .val (.int (x : Int)), .val (.list (dI (sideL B.h B.w lot x))), .val (.list ((numbers B.h B.w B.b lot x).map .int)), .own (dI (((sideL B.h B.w lot x).take k).filter p)), s, t, .no], ⟨Nat.zero_le _, .no, .no, rfl⟩, ?_, ?_⟩) fun Γ e => ?_
  · subst e
    rintro k y Γ hy ⟨hk, s, t, rfl⟩
    obtain ⟨y, hy', rfl⟩ := dI_at hy
    obtain ⟨hk1, ey⟩ := List.getElem?_eq_some_iff.mp hy'
    have hym : y ∈ sideL B.h B.w lot x := by rw [← ey]; exact List.getElem_mem hk1
    obtain ⟨y1, y2, y3⟩ := mem_sideL.mp hym
    refine ⟨_, tgs_name, ?_⟩
    refine wp_seq (N1 := fun Γ => Γ = [.val (dB B.b), .val (.tuple (dI lot)), .val (.int (x : Int)), .val (.list (dI (sideL B.h B.w lot x))), .val (.list ((numbers B.h B.w B.b lot x).map .int)), .own (dI (((sideL B.h B.w lot x).take k).filter p)), .val (.int (y : Int)), .val (.list ((numbers B.h B.w B.b lot y).map .int)), .no]) (wp_setD (ev_call (enc := E__law_numbers) (f := V__law_numbers) (B, lot, y) (ea_c ev_var (ea_c ev_var (ea_c ev_var ea_nil))) ⟨g, y1⟩) rfl) fun Γ e => ?_
    subst e
    have el : (numbers B.h B.w B.b lot y).length = (numbers B.h B.w B.b lot x).length := by rw [numbers_len, numbers_len, cross_same y3]
    have ln : (numbers B.h B.w B.b lot x).length ≤ 12 := by rw [numbers_len]; omega
    have at_ : ∀ {l : List Int} {i : Nat}, i < l.length → atI (l.map PyData.int) (i : Int) = some (.int (l.getD i 0)) := fun {l i} hi => atI_of rfl (by rw [List.getElem?_map, List.getElem?_eq_getElem hi, List.getD_eq_getElem?_getD, List.getElem?_eq_getElem hi]; rfl)
    have htl := List.length_filter_le p ((sideL B.h B.w lot x).take k)
    rw [List.length_take] at htl
    refine wp_if (b := p y) (et_test (Ev.to (ev_op (Ev.to (ev_lcN (List.range (numbers B.h B.w B.b lot x).length) (fun i => decide ((numbers B.h B.w B.b lot y).getD i 0 ≤ (numbers B.h B.w B.b lot x).getD i 0)) (ei_rangeN (ea_c (Ev.to (ev_lenL ev_var) (by rw [List.length_map])) ea_nil) (by omega)) (by rw [List.length_range]; omega) fun i hi => et_test (ev_op (ev_op ev_var ev_var (rv_ixL (at_ (by rw [el]; exact List.mem_range.mp hi)))) (ev_op ev_var ev_var (rv_ixL (at_ (List.mem_range.mp hi)))) rv_B)) rfl) ev_L0 rv_eqLI) ?_)) (fun e => wp_app (i := 5) rfl ev_var (by rw [dI_len]; omega) fun d ed => ⟨hk1, .val (.int (y : Int)), .val (.list ((numbers B.h B.w B.b lot y).map .int)), ?_⟩) (fun e => wp_next ⟨hk1, .val (.int (y : Int)), .val (.list ((numbers B.h B.w B.b lot y).map .int)), ?_⟩)
    · rw [hpp]; rfl
    · subst ed
      rw [List.take_succ_eq_append_getElem hk1, ey, List.filter_append, List.filter_cons_of_pos e, dI_app]; rfl
    · rw [List.take_succ_eq_append_getElem hk1, ey, List.filter_append, List.filter_cons_of_neg (by rw [e]; simp), List.filter_nil, List.append_nil]
  · subst e
    rintro Γ ⟨_, s, t, rfl⟩
    refine ⟨s, t, ?_⟩
    rw [dI_len, List.take_length]
    unfold overL
    rw [← hpp]
  · obtain ⟨s, t, rfl⟩ := e
    exact wp_pub (i := 5) rfl (wp_retD ev_var rfl)

/-! ### _law_ready: slots 0 _law_board_here, 1 _law_lot_here, 2 _law_line -/
abbrev N__law_ready : List Str := ["_law_board_here", "_law_lot_here", "_law_line"]
theorem sc__law_ready : FnScope N__law_ready ["_law_board_here", "_law_lot_here"] (defScope s_law_ready) := ⟨rfl, rfl, rfl, by decide +kernel, rfl, by decide +kernel, by decide +kernel⟩
abbrev E__law_ready : (BD × List Nat) → List PyData := fun a => [dB a.1.b, .tuple (dI a.2)]
abbrev R__law_ready : (BD × List Nat) → Prop := fun a => Good a.1
abbrev V__law_ready : (BD × List Nat) → PyData := fun a => .list (dI (readyL a.1.h a.1.w a.1.b a.2))
abbrev SP__law_ready : Sp := spF E__law_ready R__law_ready V__law_ready
theorem ok__law_ready {P : Program} {w : World} {K : PySem.W.Frag} {mg : Str → Option Value} {base : Heap} (T : Txt mg) (F : FnAt K mg "_law_ready" s_law_ready ["_law_board_here", "_law_lot_here"]) (D__law_over : Def P w K mg base 3 "_law_over" ["_law_board_here", "_law_lot_here", "_law_line"] SP__law_over) (D__law_rows : Def P w K mg base 1 "_law_rows" ["_law_board_here", "_law_lot_here"] SP__law_rows) (D__law_columns : Def P w K mg base 1 "_law_columns" ["_law_board_here", "_law_lot_here"] SP__law_columns) : Def P w K mg base 4 "_law_ready" ["_law_board_here", "_law_lot_here"] SP__law_ready := by
  refine F.ok sc__law_ready (fun vs H Q E h => spF_len (n := 2) (fun _ => rfl) h) (fun f cdv A outer s H vs Q E hr h => ⟨_, (pss_one (ps_ret (pe_lc (own := [("_law_line", 2)]) (g := gName 2) rfl sc__law_ready.nd (listI (K := K) rfl (pe_op op_cat (pe_def D__law_rows (hr.mono (by decide)) (by rfl) (pa_cons (pv 0) (pa_cons (pv 1) pa_nil))) (pe_def D__law_columns (hr.mono (by decide)) (by rfl) (pa_cons (pv 0) (pa_cons (pv 1) pa_nil))))) (blkOk_by (own := [("_law_line", 2)]) (N := N__law_ready) (sc := defScope s_law_ready) (by decide +kernel)) (fun _ _ _ _ _ => pg_name (i := 2) sc__law_ready.nd rfl (Or.inl rfl)) (fun _ _ _ _ _ => pts_one (pt_cmpR (neDK (K := K) rfl hr.units) (pe_def D__law_over (hr.mono (by decide)) (by rfl) (pa_cons (pv 0) (pa_cons (pv 1) (pa_cons (pv 2) pa_nil)))) (pe_lst pa_nil) (nomark _))) (fun _ _ _ _ _ => (pv 2))))), body_ok (K := K) 1 (fun _ => rfl) (fun a hp => ?_) h⟩)
  obtain ⟨B, lot⟩ := a
  have g : Good B := hp
  have h6 := g.h6; have w6 := g.w6
  have hll := linesL_len (h := B.h) (w := B.w) (lot := lot)
  exact wp_retD (ev_lcN (linesL B.h B.w lot) (fun x => !decide (overL B.h B.w B.b lot x = [])) (ei_listD (Ev.to (ev_op (ev_call (enc := E__law_rows) (f := V__law_rows) (B, lot) (ea_c ev_var (ea_c ev_var ea_nil)) g) (ev_call (enc := E__law_columns) (f := V__law_columns) (B, lot) (ea_c ev_var (ea_c ev_var ea_nil)) g) (rv_cat (by rw [dI_len, dI_len]; have := linesL_len (h := B.h) (w := B.w) (lot := lot); unfold linesL at this; rw [List.length_append] at this; show (rowsL B.h lot).length + (colsL B.h B.w lot).length ≤ _; omega))) (e := .list (dI (linesL B.h B.w lot))) (by unfold linesL; rw [dI_app]))) (by omega) fun x hx => et_test (ev_op (ev_call (enc := E__law_over) (f := V__law_over) (B, lot, x) (ea_c ev_var (ea_c ev_var (ea_c ev_var ea_nil))) ⟨g, (mem_linesL.mp hx).1⟩) ev_L0 rv_neLI)) rfl

/-! ### _law_with: slots 0 _law_lot_here, 1 _law_line -/
abbrev N__law_with : List Str := ["_law_lot_here", "_law_line"]
theorem sc__law_with : FnScope N__law_with ["_law_lot_here", "_law_line"] (defScope s_law_with) := ⟨rfl, rfl, rfl, by decide +kernel, rfl, by decide +kernel, by decide +kernel⟩
abbrev E__law_with : (List Nat × Nat) → List PyData := fun a => [.tuple (dI a.1), .int (a.2 : Int)]
abbrev R__law_with : (List Nat × Nat) → Prop := fun a => a.1.length ≤ 1000
abbrev V__law_with : (List Nat × Nat) → PyData := fun a => .tuple (dI (srt (a.1 ++ [a.2])))
abbrev SP__law_with : Sp := spF E__law_with R__law_with V__law_with
theorem ok__law_with {P : Program} {w : World} {K : PySem.W.Frag} {mg : Str → Option Value} {base : Heap} (T : Txt mg) (F : FnAt K mg "_law_with" s_law_with ["_law_lot_here", "_law_line"]) : Def P w K mg base 1 "_law_with" ["_law_lot_here", "_law_line"] SP__law_with := by
  refine F.ok sc__law_with (fun vs H Q E h => spF_len (n := 2) (fun _ => rfl) h) (fun f cdv A outer s H vs Q E hr h => ⟨_, (pss_one (ps_ret (tupleK (K := K) rfl (by rfl) T.tuple (pe_callB (sortedTK (K := K) rfl) (by rfl) T.sorted (by decide +kernel) (pa_cons (pe_op (catK (K := K) rfl) (pv 0) (pe_tup (pa_cons (pv 1) pa_nil))) pa_nil))))), body_ok (K := K) 0 (fun _ => rfl) (fun a hp => ?_) h⟩)
  obtain ⟨lot, x⟩ := a
  have hl : lot.length ≤ 1000 := hp
  exact wp_retD (ev_tupleL (ev_sortedTN (Ev.to (ev_op ev_var (Ev.to (ev_tup (ea_c ev_var ea_nil) (by simp)) (e := .tuple (dI [x])) rfl) (rv_catT (by rw [dI_len, dI_len]; show lot.length + 1 ≤ _; omega))) (by rw [← dI_app])))) rfl

/-! ### _law_end: slots 0 _law_board_here, 1 _law_lot_here, 2 _law_turn, 3 _law_some -/
abbrev N__law_end : List Str := ["_law_board_here", "_law_lot_here", "_law_turn", "_law_some"]
theorem sc__law_end : FnScope N__law_end ["_law_board_here"] (defScope s_law_end) := ⟨rfl, rfl, rfl, by decide +kernel, rfl, by decide +kernel, by decide +kernel⟩
abbrev E__law_end : (BD) → List PyData := fun B => [dB B.b]
abbrev R__law_end : (BD) → Prop := Good
abbrev V__law_end : (BD) → PyData := fun B => .tuple (dI (endL B.h B.w B.b))
abbrev SP__law_end : Sp := spF E__law_end R__law_end V__law_end
theorem ok__law_end {P : Program} {w : World} {K : PySem.W.Frag} {mg : Str → Option Value} {base : Heap} (T : Txt mg) (F : FnAt K mg "_law_end" s_law_end ["_law_board_here"]) (D__law_with : Def P w K mg base 1 "_law_with" ["_law_lot_here", "_law_line"] SP__law_with) (D__law_ready : Def P w K mg base 4 "_law_ready" ["_law_board_here", "_law_lot_here"] SP__law_ready) : Def P w K mg base 5 "_law_end" ["_law_board_here"] SP__law_end := by
  refine F.ok sc__law_end (fun vs H Q E h => spF_len (n := 1) (fun _ => rfl) h) (fun f cdv A outer s H vs Q E hr h => ⟨_, (pss_cons (ps_set (i := 1) sc__law_end.nd rfl (Or.inl rfl) (pe_tup pa_nil))
      (pss_cons (ps_for PassesOwn.never rfl (pi_range1 (by rfl) T.range (pa_cons pe_int pa_nil)) (pg_name (i := 2) sc__law_end.nd rfl (Or.inl rfl)) (pss_cons (ps_set (i := 3) sc__law_end.nd rfl (Or.inl rfl) (pe_def D__law_ready (hr.mono (by decide)) (by rfl) (pa_cons (pv 0) (pa_cons (pv 1) pa_nil))))
      (pss_one (ps_set (i := 1) sc__law_end.nd rfl (Or.inl rfl) (pe_ifExp (pt_cmpR (neDK (K := K) rfl hr.units) (pv 3) (pe_lst pa_nil) (nomark _)) (pe_def D__law_with (hr.mono (by decide)) (by rfl) (pa_cons (pv 1) (pa_cons (pe_ix (ixLK (K := K) rfl) (pv 3) (pe_un un_neg pe_int) (fun _ _ => rfl)) pa_nil))) (pv 1))))))
      (pss_one (ps_ret (pv 1))))), body_ok (K := K) 3 (fun _ => rfl) (fun a hp => ?_) h⟩)
  rename BD => B
  have g : Good B := hp
  have h6 := g.h6; have w6 := g.w6
  obtain ⟨pk, hpk⟩ : ∃ pk, pk = fun lot => (readyL B.h B.w B.b lot).getLast? := ⟨_, rfl⟩
  refine wp_seq (N1 := fun Γ => Γ = [.val (dB B.b), .val (.tuple (dI [])), .no, .no]) (wp_setD ev_T0 rfl) fun Γ e => ?_
  subst e
  refine wp_seq (N1 := fun Γ => ∃ s t, Γ = [.val (dB B.b), .val (.tuple (dI (endL B.h B.w B.b))), s, t]) (wp_for (ei_rangeN (n := 12) (ea_c ev_int ea_nil) (by decide)) fun items e => ⟨fun k Γ => k ≤ 12 ∧ ∃ lot s t, lot.length ≤ k ∧ runs pk (12 - k) lot = runs pk 12 [] ∧ Γ = [.val (dB B.b), .val (.tuple (dI lot)), s, t], ⟨Nat.zero_le _, [], .no, .no, Nat.le_refl _, rfl, rfl⟩, ?_, ?_⟩) fun Γ e => ?_
  · subst e
    rintro k y Γ hy ⟨hk, lot, s, t, hl, hr, rfl⟩
    obtain ⟨rfl, hk1⟩ := dIr_at hy
    refine ⟨_, tgs_name, ?_⟩
    refine wp_seq (N1 := fun Γ => Γ = [.val (dB B.b), .val (.tuple (dI lot)), .val (.int (k : Int)), .val (.list (dI (readyL B.h B.w B.b lot)))]) (wp_setD (ev_call (enc := E__law_ready) (f := V__law_ready) (B, lot) (ea_c ev_var (ea_c ev_var ea_nil)) g) rfl) fun Γ e => ?_
    subst e
    have e12 : 12 - k = (12 - (k + 1)) + 1 := by omega
    rw [e12, runs_next] at hr
    have epk : pk lot = (readyL B.h B.w B.b lot).getLast? := by rw [hpk]
    refine wp_setD (ev_if (b := !decide (readyL B.h B.w B.b lot = [])) (et_test (ev_op ev_var ev_L0 rv_neLI)) (fun e => ?_) (fun e => ?_)) ⟨hk1, _, _, _, ?_, hr, rfl⟩
    · have ne : readyL B.h B.w B.b lot ≠ [] := by simpa using e
      rw [epk, List.getLast?_eq_some_getLast ne]
      exact ev_call (enc := E__law_with) (f := V__law_with) (lot, (readyL B.h B.w B.b lot).getLast ne) (ea_c ev_var (ea_c (ev_op ev_var (ev_neg ev_int) (rv_ixL (atLast ne))) ea_nil)) (by show lot.length ≤ 1000; omega)
    · have en : readyL B.h B.w B.b lot = [] := by simpa using e
      rw [epk, en]
      exact ev_var
    · cases pk lot with
      | none => show lot.length ≤ k + 1; omega
      | some x => show (srt (lot ++ [x])).length ≤ k + 1; rw [len_with]; omega
  · subst e
    rintro Γ ⟨_, lot, s, t, _, hr, rfl⟩
    rw [dI_len, List.length_range] at hr
    refine ⟨s, t, ?_⟩
    unfold endL
    rw [← hpk, ← hr]; rfl
  · obtain ⟨s, t, rfl⟩ := e
    exact wp_retD ev_var rfl

/-! ### _law_held: slots 0 _law_board_here, 1 _law_held_here, 2 _law_lot_here, 3 _law_turn, 4 _law_some, 5 _law_line -/
abbrev N__law_held : List Str := ["_law_board_here", "_law_held_here", "_law_lot_here", "_law_turn", "_law_some", "_law_line"]
theorem sc__law_held : FnScope N__law_held ["_law_board_here", "_law_held_here"] (defScope s_law_held) := ⟨rfl, rfl, rfl, by decide +kernel, rfl, by decide +kernel, by decide +kernel⟩
abbrev E__law_held : (BD × List Nat) → List PyData := fun a => [dB a.1.b, .tuple (dI a.2)]
abbrev R__law_held : (BD × List Nat) → Prop := fun a => Good a.1
abbrev V__law_held : (BD × List Nat) → PyData := fun a => .tuple (dI (heldL a.1.h a.1.w a.1.b a.2))
abbrev SP__law_held : Sp := spF E__law_held R__law_held V__law_held
theorem ok__law_held {P : Program} {w : World} {K : PySem.W.Frag} {mg : Str → Option Value} {base : Heap} (T : Txt mg) (F : FnAt K mg "_law_held" s_law_held ["_law_board_here", "_law_held_here"]) (D__law_with : Def P w K mg base 1 "_law_with" ["_law_lot_here", "_law_line"] SP__law_with) (D__law_ready : Def P w K mg base 4 "_law_ready" ["_law_board_here", "_law_lot_here"] SP__law_ready) : Def P w K mg base 5 "_law_held" ["_law_board_here", "_law_held_here"] SP__law_held := by
  refine F.ok sc__law_held (fun vs H Q E h => spF_len (n := 2) (fun _ => rfl) h) (fun f cdv A outer s H vs Q E hr h => ⟨_, (pss_cons (ps_set (i := 2) sc__law_held.nd rfl (Or.inl rfl) (pe_tup pa_nil))
      (pss_cons (ps_for PassesOwn.never rfl (pi_range1 (by rfl) T.range (pa_cons pe_int pa_nil)) (pg_name (i := 3) sc__law_held.nd rfl (Or.inl rfl)) (pss_cons (ps_setLc (i := 4) (own := [("_law_line", 5)]) (g := gName 5) rfl sc__law_held.nd rfl rfl (sw_true rfl rfl rfl (by decide +kernel)) (listI (K := K) rfl (pe_def D__law_ready (hr.mono (by decide)) (by rfl) (pa_cons (pv 0) (pa_cons (pv 2) pa_nil)))) (blkOk_by (own := [("_law_line", 5)]) (N := N__law_held) (sc := defScope s_law_held) (by decide +kernel)) (fun _ _ _ _ _ => pg_name (i := 5) sc__law_held.nd rfl (Or.inl rfl)) (fun _ _ _ _ _ => pts_one (pt_cmpR (ninK (K := K) rfl) (pv 5) (pv 1) (by rfl))) (fun _ _ _ _ _ => (pv 5)))
      (pss_one (ps_set (i := 2) sc__law_held.nd rfl (Or.inl rfl) (pe_ifExp (pt_cmpR (neDK (K := K) rfl hr.units) (pv 4) (pe_lst pa_nil) (nomark _)) (pe_def D__law_with (hr.mono (by decide)) (by rfl) (pa_cons (pv 2) (pa_cons (pe_ix (ixLK (K := K) rfl) (pv 4) (pe_un un_neg pe_int) (fun _ _ => rfl)) pa_nil))) (pv 2))))))
      (pss_one (ps_ret (pv 2))))), body_ok (K := K) 4 (fun _ => rfl) (fun a hp => ?_) h⟩)
  obtain ⟨B, held⟩ := a
  have g : Good B := hp
  have h6 := g.h6; have w6 := g.w6
  obtain ⟨rd, hrd⟩ : ∃ rd, rd = fun lot => (readyL B.h B.w B.b lot).filter fun x => !held.contains x := ⟨_, rfl⟩
  obtain ⟨pk, hpk⟩ : ∃ pk, pk = fun lot => (rd lot).getLast? := ⟨_, rfl⟩
  have lenR : ∀ lot, (readyL B.h B.w B.b lot).length ≤ 1000000 := fun lot => by
    have h1 := List.length_filter_le (fun x => !decide (overL B.h B.w B.b lot x = [])) (linesL B.h B.w lot)
    have h2 := linesL_len (h := B.h) (w := B.w) (lot := lot)
    unfold readyL; omega
  refine wp_seq (N1 := fun Γ => Γ = [.val (dB B.b), .val (.tuple (dI held)), .val (.tuple (dI [])), .no, .no, .no]) (wp_setD ev_T0 rfl) fun Γ e => ?_
  subst e
  refine wp_seq (N1 := fun Γ => ∃ s t u, Γ = [.val (dB B.b), .val (.tuple (dI held)), .val (.tuple (dI (heldL B.h B.w B.b held))), s, t, u]) (wp_for (ei_rangeN (n := 12) (ea_c ev_int ea_nil) (by decide)) fun items e => ⟨fun k Γ => k ≤ 12 ∧ ∃ lot s t, lot.length ≤ k ∧ runs pk (12 - k) lot = runs pk 12 [] ∧ Γ = [.val (dB B.b), .val (.tuple (dI held)), .val (.tuple (dI lot)), s, t, .no], ⟨Nat.zero_le _, [], .no, .no, Nat.le_refl _, rfl, rfl⟩, ?_, ?_⟩) fun Γ e => ?_
  · subst e
    rintro k y Γ hy ⟨hk, lot, s, t, hl, hr, rfl⟩
    obtain ⟨rfl, hk1⟩ := dIr_at hy
    refine ⟨_, tgs_name, ?_⟩
    refine wp_seq (N1 := fun Γ => Γ = [.val (dB B.b), .val (.tuple (dI held)), .val (.tuple (dI lot)), .val (.int (k : Int)), .val (.list (dI (rd lot))), .no]) (wp_setD (Ev.to (ev_lcN (readyL B.h B.w B.b lot) (fun x => !held.contains x) (ei_listD (ev_call (enc := E__law_ready) (f := V__law_ready) (B, lot) (ea_c ev_var (ea_c ev_var ea_nil)) g)) (lenR _) fun x hx => et_test (ev_op ev_var ev_var rv_niTN)) (by rw [hrd])) rfl) fun Γ e => ?_
    subst e
    have e12 : 12 - k = (12 - (k + 1)) + 1 := by omega
    rw [e12, runs_next] at hr
    have epk : pk lot = (rd lot).getLast? := by rw [hpk]
    refine wp_setD (ev_if (b := !decide (rd lot = [])) (et_test (ev_op ev_var ev_L0 rv_neLI)) (fun e => ?_) (fun e => ?_)) ⟨hk1, _, _, _, ?_, hr, rfl⟩
    · have ne : rd lot ≠ [] := by simpa using e
      rw [epk, List.getLast?_eq_some_getLast ne]
      exact ev_call (enc := E__law_with) (f := V__law_with) (lot, (rd lot).getLast ne) (ea_c ev_var (ea_c (ev_op ev_var (ev_neg ev_int) (rv_ixL (atLast ne))) ea_nil)) (by show lot.length ≤ 1000; omega)
    · have en : rd lot = [] := by simpa using e
      rw [epk, en]
      exact ev_var
    · cases pk lot with
      | none => show lot.length ≤ k + 1; omega
      | some x => show (srt (lot ++ [x])).length ≤ k + 1; rw [len_with]; omega
  · subst e
    rintro Γ ⟨_, lot, s, t, _, hr, rfl⟩
    rw [dI_len, List.length_range] at hr
    refine ⟨s, t, .no, ?_⟩
    have : heldL B.h B.w B.b held = runs pk 12 [] := by unfold heldL; rw [hpk, hrd]
    rw [this, ← hr]; rfl
  · obtain ⟨s, t, u, rfl⟩ := e
    exact wp_retD ev_var rfl

/-! ### _law_common: slots 0 _law_boards, 1 _law_lot_here, 2 _law_found, 3 _law_line, 4 _law_some, 5 _law_board_here, 6 _law_told, 7 _law_other -/
abbrev N__law_common : List Str := ["_law_boards", "_law_lot_here", "_law_found", "_law_line", "_law_some", "_law_board_here", "_law_told", "_law_other"]
theorem sc__law_common : FnScope N__law_common ["_law_boards", "_law_lot_here"] (defScope s_law_common) := ⟨rfl, rfl, rfl, by decide +kernel, rfl, by decide +kernel, by decide +kernel⟩
abbrev E__law_common : (BDs × List Nat) → List PyData := fun a => [dBs a.1, .tuple (dI a.2)]
abbrev R__law_common : (BDs × List Nat) → Prop := fun a => GoodS a.1
abbrev V__law_common : (BDs × List Nat) → PyData := fun a => .list (dI (commonL a.1.h a.1.w a.1.bs a.2))
abbrev SP__law_common : Sp := spF E__law_common R__law_common V__law_common
theorem ok__law_common {P : Program} {w : World} {K : PySem.W.Frag} {mg : Str → Option Value} {base : Heap} (T : Txt mg) (F : FnAt K mg "_law_common" s_law_common ["_law_boards", "_law_lot_here"]) (D__law_rows : Def P w K mg base 1 "_law_rows" ["_law_board_here", "_law_lot_here"] SP__law_rows) (D__law_columns : Def P w K mg base 1 "_law_columns" ["_law_board_here", "_law_lot_here"] SP__law_columns) (D__law_over : Def P w K mg base 3 "_law_over" ["_law_board_here", "_law_lot_here", "_law_line"] SP__law_over) : Def P w K mg base 4 "_law_common" ["_law_boards", "_law_lot_here"] SP__law_common := by
  refine F.ok sc__law_common (fun vs H Q E h => spF_len (n := 2) (fun _ => rfl) h) (fun f cdv A outer s H vs Q E hr h => ⟨_, (pss_cons (ps_set (i := 2) sc__law_common.nd rfl (Or.inl rfl) (pe_lst pa_nil))
      (pss_cons (ps_for PassesOwn.never rfl (listI (K := K) rfl (pe_op op_cat (pe_def D__law_rows (hr.mono (by decide)) (by rfl) (pa_cons (pe_ix (ixTK (K := K) rfl) (pv 0) pe_int (fun _ _ => rfl)) (pa_cons (pv 1) pa_nil))) (pe_def D__law_columns (hr.mono (by decide)) (by rfl) (pa_cons (pe_ix (ixTK (K := K) rfl) (pv 0) pe_int (fun _ _ => rfl)) (pa_cons (pv 1) pa_nil))))) (pg_name (i := 3) sc__law_common.nd rfl (Or.inl rfl)) (pss_cons (ps_set (i := 4) sc__law_common.nd rfl (Or.inl rfl) (pe_def D__law_over (hr.mono (by decide)) (by rfl) (pa_cons (pe_ix (ixTK (K := K) rfl) (pv 0) pe_int (fun _ _ => rfl)) (pa_cons (pv 1) (pa_cons (pv 3) pa_nil)))))
      (pss_cons (ps_for PassesOwn.never rfl (tupI (K := K) rfl (pe_slice (slTK (K := K) rfl) (pv 0) (po_some pe_int) po_none)) (pg_name (i := 5) sc__law_common.nd rfl (Or.inl rfl)) (pss_cons (ps_set (i := 6) sc__law_common.nd rfl (Or.inr rfl) (pe_def D__law_over (hr.mono (by decide)) (by rfl) (pa_cons (pv 5) (pa_cons (pv 1) (pa_cons (pv 3) pa_nil)))))
      (pss_one (ps_setLc (i := 4) (own := [("_law_other", 7)]) (g := gName 7) rfl sc__law_common.nd rfl rfl (sw_true rfl rfl rfl (by decide +kernel)) (listI (K := K) rfl (pv 4)) (blkOk_by (own := [("_law_other", 7)]) (N := N__law_common) (sc := defScope s_law_common) (by decide +kernel)) (fun _ _ _ _ _ => pg_name (i := 7) sc__law_common.nd rfl (Or.inl rfl)) (fun _ _ _ _ _ => pts_one (pt_cmpR (inK (K := K) rfl) (pv 7) (pv 6) (by rfl))) (fun _ _ _ _ _ => (pv 7))))))
      (pss_one (ps_set (i := 2) sc__law_common.nd rfl (Or.inl rfl) (pe_op op_cat (pv 2) (pe_ifExp (pt_cmpR (neDK (K := K) rfl hr.units) (pv 4) (pe_lst pa_nil) (nomark _)) (pe_lst (pa_cons (pv 3) pa_nil)) (pe_lst pa_nil))))))))
      (pss_one (ps_ret (pv 2))))), body_ok (K := K) 6 (fun _ => rfl) (fun a hp => ?_) h⟩)
  obtain ⟨S, lot⟩ := a
  have g : GoodS S := hp
  have g1 := g.one; have h6 : S.one.h ≤ 6 := g1.h6; have w6 : S.one.w ≤ 6 := g1.w6
  have hll := linesL_len (h := S.h) (w := S.w) (lot := lot)
  have h6' : S.h ≤ 6 := h6; have w6' : S.w ≤ 6 := w6
  obtain ⟨p, hpp⟩ : ∃ p : Nat → Bool, p = fun x => !decide (foldL S.h S.w lot x (S.bs.drop 1) (overL S.h S.w (S.bs.headD []) lot x) = []) := ⟨_, rfl⟩
  have len0 : ∀ x, (overL S.h S.w S.one.b lot x).length ≤ 12 := fun x => by
    have h1 := List.length_filter_le (fun y => decide (belowL (numbers S.h S.w S.one.b lot x) (numbers S.h S.w S.one.b lot y) = [])) (sideL S.h S.w lot x)
    have h2 := sideL_len (h := S.h) (w := S.w) (lot := lot) (x := x)
    unfold overL; omega
  refine wp_seq (N1 := fun Γ => Γ = [.val (dBs S), .val (.tuple (dI lot)), .val (.list (dI [])), .no, .no, .no, .no, .no]) (wp_setD ev_L0 rfl) fun Γ e => ?_
  subst e
  refine wp_seq (N1 := fun Γ => ∃ s t u v, Γ = [.val (dBs S), .val (.tuple (dI lot)), .val (.list (dI (commonL S.h S.w S.bs lot))), s, t, u, v, .no]) (wp_for (ei_listD (Ev.to (ev_op (ev_call (enc := E__law_rows) (f := V__law_rows) (S.one, lot) (ea_c (ev_op ev_var ev_int (rv_ixT (atI_of rfl g.at))) (ea_c ev_var ea_nil)) g1) (ev_call (enc := E__law_columns) (f := V__law_columns) (S.one, lot) (ea_c (ev_op ev_var ev_int (rv_ixT (atI_of rfl g.at))) (ea_c ev_var ea_nil)) g1) (rv_cat (by rw [dI_len, dI_len]; have := linesL_len (h := S.one.h) (w := S.one.w) (lot := lot); unfold linesL at this; rw [List.length_append] at this; show (rowsL S.one.h lot).length + (colsL S.one.h S.one.w lot).length ≤ _; omega))) (e := .list (dI (linesL S.one.h S.one.w lot))) (by unfold linesL; rw [dI_app]))) fun items e => ⟨fun k Γ => k ≤ (linesL S.h S.w lot).length ∧ ∃ s t u v, Γ = [.val (dBs S), .val (.tuple (dI lot)), .val (.list (dI (((linesL S.h S.w lot).take k).filter p))), s, t, u, v, .no], ⟨Nat.zero_le _, .no, .no, .no, .no, rfl⟩, ?_, ?_⟩) fun Γ e => ?_
  · subst e
    rintro k y Γ hy ⟨hk, s, t, u, v, rfl⟩
    obtain ⟨x, hx', rfl⟩ := dI_at hy
    obtain ⟨hk1, ex⟩ := List.getElem?_eq_some_iff.mp hx'
    have hk1 : k < (linesL S.h S.w lot).length := hk1
    have ex : (linesL S.h S.w lot)[k] = x := ex
    have hxm : x ∈ linesL S.h S.w lot := by rw [← ex]; exact List.getElem_mem hk1
    have hxn := (mem_linesL.mp hxm).1
    have htl := List.length_filter_le p ((linesL S.h S.w lot).take k)
    rw [List.length_take] at htl
    refine ⟨_, tgs_name, ?_⟩
    refine wp_seq (N1 := fun Γ => Γ = [.val (dBs S), .val (.tuple (dI lot)), .val (.list (dI (((linesL S.h S.w lot).take k).filter p))), .val (.int (x : Int)), .val (.list (dI (overL S.h S.w S.one.b lot x))), u, v, .no]) (wp_setD (ev_call (enc := E__law_over) (f := V__law_over) (S.one, lot, x) (ea_c (ev_op ev_var ev_int (rv_ixT (atI_of rfl g.at))) (ea_c ev_var (ea_c ev_var ea_nil))) ⟨g1, hxn⟩) rfl) fun Γ e => ?_
    subst e
    refine wp_seq (N1 := fun Γ => ∃ u v, Γ = [.val (dBs S), .val (.tuple (dI lot)), .val (.list (dI (((linesL S.h S.w lot).take k).filter p))), .val (.int (x : Int)), .val (.list (dI (foldL S.h S.w lot x (S.bs.drop 1) (overL S.h S.w S.one.b lot x)))), u, v, .no]) (wp_for (ei_tupD (Ev.to (ev_slT (n := 1) ev_var ev_int) (e := .tuple ((S.bs.drop 1).map dB)) (by rw [List.map_drop]))) fun items e => ⟨fun j Γ => j ≤ (S.bs.drop 1).length ∧ ∃ u v, (foldL S.h S.w lot x ((S.bs.drop 1).take j) (overL S.h S.w S.one.b lot x)).length ≤ 12 ∧ Γ = [.val (dBs S), .val (.tuple (dI lot)), .val (.list (dI (((linesL S.h S.w lot).take k).filter p))), .val (.int (x : Int)), .val (.list (dI (foldL S.h S.w lot x ((S.bs.drop 1).take j) (overL S.h S.w S.one.b lot x)))), u, v, .no], ⟨Nat.zero_le _, u, v, len0 x, rfl⟩, ?_, ?_⟩) fun Γ e => ?_
    · subst e
      rintro j z Γ hz ⟨hj, u, v, hfl, rfl⟩
      rw [List.getElem?_map] at hz
      obtain ⟨b, hb, rfl⟩ := Option.map_eq_some_iff.mp hz
      obtain ⟨hj1, eb⟩ := List.getElem?_eq_some_iff.mp hb
      have gb := g.all b (List.mem_of_mem_drop (List.mem_of_getElem? hb))
      refine ⟨_, tgs_name, ?_⟩
      refine wp_seq (N1 := fun Γ => Γ = [.val (dBs S), .val (.tuple (dI lot)), .val (.list (dI (((linesL S.h S.w lot).take k).filter p))), .val (.int (x : Int)), .val (.list (dI (foldL S.h S.w lot x ((S.bs.drop 1).take j) (overL S.h S.w S.one.b lot x)))), .val (dB b), .val (.list (dI (overL S.h S.w b lot x))), .no]) (wp_setD (ev_call (enc := E__law_over) (f := V__law_over) (⟨S.h, S.w, b⟩, lot, x) (ea_c ev_var (ea_c ev_var (ea_c ev_var ea_nil))) ⟨gb, hxn⟩) rfl) fun Γ e => ?_
      subst e
      have efold : foldL S.h S.w lot x ((S.bs.drop 1).take (j + 1)) (overL S.h S.w S.one.b lot x) = (foldL S.h S.w lot x ((S.bs.drop 1).take j) (overL S.h S.w S.one.b lot x)).filter fun y => (overL S.h S.w b lot x).contains y := by
        rw [List.take_succ_eq_append_getElem hj1, eb]
        unfold foldL
        rw [List.foldl_append]; rfl
      refine wp_setD (ev_lcN (foldL S.h S.w lot x ((S.bs.drop 1).take j) (overL S.h S.w S.one.b lot x)) (fun y => (overL S.h S.w b lot x).contains y) (ei_listD ev_var) (by omega) fun y hy => et_test (ev_op ev_var ev_var rv_isLN)) ⟨hj1, _, _, ?_, by rw [efold]; rfl⟩
      rw [efold]
      exact Nat.le_trans (List.length_filter_le _ _) hfl
    · subst e
      rintro Γ ⟨_, u, v, _, rfl⟩
      rw [List.length_map, List.take_length]
      exact ⟨u, v, rfl⟩
    obtain ⟨u, v, rfl⟩ := e
    have ep : p x = !decide (foldL S.h S.w lot x (S.bs.drop 1) (overL S.h S.w S.one.b lot x) = []) := by rw [hpp]; rfl
    refine wp_setD (ev_op ev_var (ev_if (P := fun d => d = .list (dI (if p x then [x] else []))) (b := p x) (et_test (Ev.to (ev_op ev_var ev_L0 rv_neLI) (by rw [ep]))) (fun e => Ev.to (ev_lst (ea_c ev_var ea_nil) (by simp)) (by rw [e]; rfl)) (fun e => Ev.to ev_L0 (by rw [e]; rfl))) (rv_cat (by rw [dI_len, dI_len]; split <;> simp <;> omega))) ⟨hk1, .val (.int (x : Int)), .val (.list (dI (foldL S.h S.w lot x (S.bs.drop 1) (overL S.h S.w S.one.b lot x)))), u, v, ?_⟩
    have : ((linesL S.h S.w lot).take (k + 1)).filter p = ((linesL S.h S.w lot).take k).filter p ++ if p x then [x] else [] := by
      rw [List.take_succ_eq_append_getElem hk1, ex, List.filter_append]
      cases e : p x <;> simp [e]
    rw [this, dI_app]; rfl
  · subst e
    rintro Γ ⟨_, s, t, u, v, rfl⟩
    refine ⟨s, t, u, v, ?_⟩
    rw [dI_len]
    show [_, _, Sl.val (.list (dI (((linesL S.h S.w lot).take (linesL S.h S.w lot).length).filter p))), s, t, u, v, Sl.no] = _
    rw [List.take_length]
    unfold commonL
    rw [← hpp]
  · obtain ⟨s, t, u, v, rfl⟩ := e
    exact wp_retD ev_var rfl

/-! ### _law_is: slots 0 _law_found, 1 _law_due -/
abbrev N__law_is : List Str := ["_law_found", "_law_due"]
theorem sc__law_is : FnScope N__law_is ["_law_found", "_law_due"] (defScope s_law_is) := ⟨rfl, rfl, rfl, by decide +kernel, rfl, by decide +kernel, by decide +kernel⟩
abbrev E__law_is : (Bool) → List PyData := fun b => [.bool b, .bool b]
abbrev R__law_is : (Bool) → Prop := fun _ => True
abbrev V__law_is : (Bool) → PyData := fun _ => .bool true
abbrev SP__law_is : Sp := spF E__law_is R__law_is V__law_is
theorem ok__law_is {P : Program} {w : World} {K : PySem.W.Frag} {mg : Str → Option Value} {base : Heap} (T : Txt mg) (F : FnAt K mg "_law_is" s_law_is ["_law_found", "_law_due"]) : Def P w K mg base 1 "_law_is" ["_law_found", "_law_due"] SP__law_is := by
  refine F.ok sc__law_is (fun vs H Q E h => spF_len (n := 2) (fun _ => rfl) h) (fun f cdv A outer s H vs Q E hr h => ⟨_, (pss_one (ps_ret (pe_and (pe_callB (isiK (K := K) rfl) (by rfl) T.isinstance (by decide +kernel) (pa_cons (pv 0) (pa_cons (pe_bltn (v := .ty "bool") (by rfl) T.bool boot_bool rfl) pa_nil))) (pe_one (pe_cmpR op_eq (pv 0) (pv 1) (nomark _)))))), body_ok (K := K) 0 (fun _ => rfl) (fun a hp => ?_) h⟩)
  exact wp_retD (ev_andV (ev_is "bool" true ev_var (by decide +kernel)) (fun _ => Ev.to (ev_op ev_var ev_var rv_eqB) (by simp)) (fun e => by cases e)) rfl
end K23

set_option linter.all false
set_option Elab.async false
/-! What the law computes is what the program computes: plain. -/
namespace K23
section
variable {h w : Nat} {b : Board} {bs : List Board} {lot : List Nat} {x y : Nat}
theorem belowL_nil (e : x < h ↔ y < h) : belowL (numbers h w b lot x) (numbers h w b lot y) = [] ↔ Dom h w b lot x y := by
  unfold belowL
  rw [List.filter_eq_nil_iff]
  have ny : numbers h w b lot y = (cross h w lot x).map (val h b y) := by unfold numbers; rw [cross_same e]
  have nx : numbers h w b lot x = (cross h w lot x).map (val h b x) := rfl
  rw [ny, nx]
  have at_ : ∀ (z i : Nat) (hi : i < (cross h w lot x).length), ((cross h w lot x).map (val h b z)).getD i 0 = val h b z ((cross h w lot x)[i]) := fun z i hi => by
    rw [List.getD_eq_getElem?_getD, List.getElem?_map, List.getElem?_eq_getElem hi]; rfl
  constructor
  · intro hf
    refine ⟨e, fun c hc => ?_⟩
    obtain ⟨i, hi, ec⟩ := List.mem_iff_getElem.mp hc
    have := hf i (List.mem_range.mpr (by rw [List.length_map]; exact hi))
    rw [at_ y i hi, at_ x i hi, ec] at this
    simp at this
    exact this
  · rintro ⟨_, hd⟩ i hi
    have hi : i < (cross h w lot x).length := by have := List.mem_range.mp hi; rwa [List.length_map] at this
    rw [at_ y i hi, at_ x i hi]
    have := hd _ (List.getElem_mem hi)
    simp
    exact this
theorem mem_overL : y ∈ overL h w b lot x ↔ y < h + w ∧ y ∉ lot ∧ Dom h w b lot x y := by
  unfold overL
  rw [List.mem_filter, mem_sideL, decide_eq_true_eq]
  constructor
  · rintro ⟨⟨a, c, e⟩, d⟩
    exact ⟨a, c, (belowL_nil e).mp d⟩
  · rintro ⟨a, c, d⟩
    exact ⟨⟨a, c, d.1⟩, (belowL_nil d.1).mpr d⟩
theorem foldL_mem : ∀ (bs : List Board) (s : List Nat), y ∈ foldL h w lot x bs s ↔ y ∈ s ∧ ∀ b ∈ bs, y ∈ overL h w b lot x
  | [], s => by unfold foldL; simp
  | b :: bs, s => by
    have := foldL_mem bs (s.filter fun y => (overL h w b lot x).contains y)
    unfold foldL at this ⊢
    rw [List.foldl_cons, this, List.mem_filter]
    simp [and_assoc]
theorem mem_commonL (v : Left h w lot) (hb : bs ≠ []) : x ∈ commonL h w bs lot ↔ x < h + w ∧ x ∉ lot ∧ Falls h w bs lot x := by
  obtain ⟨b, bs, rfl⟩ : ∃ b r, bs = b :: r := by cases bs with | nil => exact absurd rfl hb | cons b r => exact ⟨b, r, rfl⟩
  unfold commonL
  rw [List.mem_filter, mem_linesL]
  have key : (!decide (foldL h w lot x ((b :: bs).drop 1) (overL h w ((b :: bs).headD []) lot x) = [])) = true ↔ Falls h w (b :: bs) lot x := by
    rw [Bool.not_eq_true', decide_eq_false_iff_not]
    constructor
    · intro ne
      obtain ⟨y, hy⟩ := List.exists_mem_of_ne_nil _ ne
      have hy : y ∈ foldL h w lot x bs (overL h w b lot x) := hy
      rw [foldL_mem] at hy
      obtain ⟨h1, h2, h3⟩ := mem_overL.mp hy.1
      refine ⟨y, h1, h2, fun e => ?_, fun c hc => ?_⟩
      · rw [e] at h3; exact Dom.irrefl v h3
      · rcases List.mem_cons.mp hc with rfl | hc
        · exact h3
        · exact (mem_overL.mp (hy.2 c hc)).2.2
    · rintro ⟨y, h1, h2, h3, h4⟩ ne
      have : y ∈ foldL h w lot x bs (overL h w b lot x) := by
        rw [foldL_mem]
        exact ⟨mem_overL.mpr ⟨h1, h2, h4 b List.mem_cons_self⟩, fun c hc => mem_overL.mpr ⟨h1, h2, h4 c (List.mem_cons_of_mem _ hc)⟩⟩
      have ne : foldL h w lot x bs (overL h w b lot x) = [] := ne
      rw [ne] at this; cases this
  rw [key, and_assoc]
theorem readyL_common : readyL h w b lot = commonL h w [b] lot := rfl
theorem mem_readyL (v : Left h w lot) : x ∈ readyL h w b lot ↔ x < h + w ∧ x ∉ lot ∧ Falls h w [b] lot x := by
  rw [readyL_common]; exact mem_commonL v (by simp)
theorem linesL_rising : Rising (linesL h w lot) := by
  unfold linesL Rising
  rw [List.pairwise_append]
  refine ⟨rising_filter _ (rising_range _), ?_, fun a ha c hc => ?_⟩
  · unfold colsL
    exact List.Pairwise.filter _ List.pairwise_lt_range'
  · have h1 := (mem_rowsL.mp ha).1
    have h2 := (mem_colsL.mp hc).1
    omega
theorem commonL_rising : Rising (commonL h w bs lot) := rising_filter _ linesL_rising
theorem readyIn_rising : Rising (readyIn h w bs lot) := rising_filter _ (rising_range _)
theorem common_ready (v : Left h w lot) (hb : bs ≠ []) : commonL h w bs lot = readyIn h w bs lot :=
  rising_ext commonL_rising readyIn_rising fun x => by rw [mem_commonL v hb, mem_readyIn]
end
/-! ### what stays the same for all boards -/
section
variable {h w : Nat} {bs : List Board}
theorem ne_ex {α : Type} {l : List α} (hb : l ≠ []) : ∃ b, b ∈ l := List.exists_mem_of_ne_nil l hb
theorem comes_left (h1 : 1 ≤ h) (w1 : 1 ≤ w) (hb : bs ≠ []) {W : Nat → Prop} {L : List Nat} (c : ComesB h w bs W L) : Left h w L := (comes_inv h1 w1 (ne_ex hb) c).1
/-- the next lines, asked by the program or by the law -/
theorem pk_common (h1 : 1 ≤ h) (w1 : 1 ≤ w) (hb : bs ≠ []) {W : Nat → Prop} {lot : List Nat} {x : Nat} (c : ComesB h w bs W lot) : x ∈ commonL h w bs lot ↔ x < h + w ∧ x ∉ lot ∧ Falls h w bs lot x := mem_commonL (comes_left h1 w1 hb c) hb
/-- all_last, _law_end -/
theorem allLast_done : Done (h + w) (Falls h w bs) (fun _ => True) (runs (fun lot => (readyIn h w bs lot).head?) (h + w) []) :=
  head_done (W := fun _ => True) (S := fun lot => readyIn h w bs lot) (fun lot x c => by rw [mem_readyIn]; simp) (Nat.le_refl _)
theorem end_done (h1 : 1 ≤ h) (w1 : 1 ≤ w) (hn : h + w ≤ 12) {b : Board} : Done (h + w) (Falls h w [b]) (fun _ => True) (endL h w b) :=
  last_done (W := fun _ => True) (S := fun lot => readyL h w b lot) (fun lot x c => by rw [mem_readyL (comes_left h1 w1 (by simp) c)]; simp) hn
theorem lastOf_done {b : Board} : Done (h + w) (Falls h w [b]) (fun _ => True) (lastOf h w b) := by
  have := head_done (n := h + w) (R := Falls h w [b]) (W := fun x => x ∈ List.range (h + w)) (S := fun lot => someIn h w b (List.range (h + w)) lot) (fun lot x c => by
    show x ∈ someIn h w b (List.range (h + w)) lot ↔ _
    rw [mem_someIn]
    constructor
    · rintro ⟨a, c, d⟩; exact ⟨List.mem_range.mp a, c, a, d⟩
    · rintro ⟨_, c, a, d⟩; exact ⟨a, c, d⟩) (Nat.le_refl _)
  exact this.congr fun x hx => iff_of_true (List.mem_range.mpr hx) trivial
theorem lastWith_done {b : Board} {held : List Nat} : Done (h + w) (Falls h w [b]) (fun x => x ∉ held) (lastWith h w b held) := by
  have := head_done (n := h + w) (R := Falls h w [b]) (W := fun x => x ∈ (List.range (h + w)).filter fun x => !held.contains x) (S := fun lot => someIn h w b ((List.range (h + w)).filter fun x => !held.contains x) lot) (fun lot x c => by
    show x ∈ someIn h w b ((List.range (h + w)).filter fun x => !held.contains x) lot ↔ _
    rw [mem_someIn]
    constructor
    · rintro ⟨a, c, d⟩; exact ⟨List.mem_range.mp (List.mem_filter.mp a).1, c, a, d⟩
    · rintro ⟨_, c, a, d⟩; exact ⟨a, c, d⟩) (Nat.le_refl _)
  exact this.congr fun x hx => by rw [List.mem_filter, List.mem_range]; simp [hx]
theorem held_done (h1 : 1 ≤ h) (w1 : 1 ≤ w) (hn : h + w ≤ 12) {b : Board} {held : List Nat} : Done (h + w) (Falls h w [b]) (fun x => x ∉ held) (heldL h w b held) :=
  last_done (W := fun x => x ∉ held) (S := fun lot => (readyL h w b lot).filter fun x => !held.contains x) (fun lot x c => by
    rw [List.mem_filter, mem_readyL (comes_left h1 w1 (by simp) c)]
    constructor
    · rintro ⟨⟨a, c, d⟩, e⟩; exact ⟨a, c, by simpa using e, d⟩
    · rintro ⟨a, c, e, d⟩; exact ⟨⟨a, c, d⟩, by simpa using e⟩) hn
theorem allComes_done {lot : List Nat} : Done (h + w) (Falls h w bs) (fun x => x ∈ lot) (runs (fun l => ((readyIn h w bs l).filter fun x => lot.contains x).head?) (h + w) []) :=
  head_done (W := fun x => x ∈ lot) (S := fun l => (readyIn h w bs l).filter fun x => lot.contains x) (fun l x c => by
    rw [List.mem_filter, mem_readyIn]
    constructor
    · rintro ⟨⟨a, c, d⟩, e⟩; exact ⟨a, c, by simpa using e, d⟩
    · rintro ⟨a, c, e, d⟩; exact ⟨⟨a, c, d⟩, by simpa using e⟩) (Nat.le_refl _)
theorem end_last (h1 : 1 ≤ h) (w1 : 1 ≤ w) (hn : h + w ≤ 12) {b : Board} : endL h w b = lastOf h w b := (end_done h1 w1 hn).one (keepsB h1 w1 ⟨b, by simp⟩) lastOf_done
theorem end_allLast (h1 : 1 ≤ h) (w1 : 1 ≤ w) (hn : h + w ≤ 12) {b : Board} : runs (fun lot => (readyIn h w [b] lot).head?) (h + w) [] = endL h w b := allLast_done.one (keepsB h1 w1 ⟨b, by simp⟩) (end_done h1 w1 hn)
theorem held_last (h1 : 1 ≤ h) (w1 : 1 ≤ w) (hn : h + w ≤ 12) {b : Board} {held : List Nat} : lastWith h w b held = heldL h w b held := lastWith_done.one (keepsB h1 w1 ⟨b, by simp⟩) (held_done h1 w1 hn)
theorem comes_one {b : Board} (hb : b ∈ bs) {W : Nat → Prop} {L : List Nat} (c : ComesB h w bs W L) : ComesB h w [b] W L := by
  induction c with
  | nil => exact .nil
  | step _ hx hn hw hr ih =>
    obtain ⟨y, y1, y2, y3, y4⟩ := hr
    exact .step ih hx hn hw ⟨y, y1, y2, y3, fun c hc => by rw [List.mem_singleton.mp hc]; exact y4 b hb⟩
/-- what falls in all boards falls in the first -/
theorem last_sub (h1 : 1 ≤ h) (w1 : 1 ≤ w) (hn : h + w ≤ 12) {b : Board} (hb : b ∈ bs) {M : List Nat} (d : Done (h + w) (Falls h w bs) (fun _ => True) M) : ∀ x ∈ M, x ∈ endL h w b :=
  (end_done h1 w1 hn).most (keepsB h1 w1 ⟨b, by simp⟩) (comes_one hb d.1)
theorem comes_dec (h1 : 1 ≤ h) (w1 : 1 ≤ w) (hb : bs ≠ []) {lot : List Nat} (hL : Rising lot) : runs (fun l => ((readyIn h w bs l).filter fun x => lot.contains x).head?) (h + w) [] = lot ↔ ComesB h w bs (fun _ => True) lot :=
  comes_iff (keepsB h1 w1 (ne_ex hb)) hL allComes_done
/-! ### rounds -/
theorem rnds_same (h1 : 1 ≤ h) (w1 : 1 ≤ w) (hb : bs ≠ []) : ∀ (k m : Nat) (lot : List Nat), ComesB h w bs (fun _ => True) lot → h + w ≤ lot.length + k → h + w ≤ lot.length + m → rnds (commonL h w bs) k lot = rnds (readyIn h w bs) m lot := by
  intro k
  induction k with
  | zero =>
    intro m lot c hk hm
    have e : readyIn h w bs lot = [] := by
      cases q : readyIn h w bs lot with
      | nil => rfl
      | cons x xs =>
        have := mem_readyIn.mp (show x ∈ readyIn h w bs lot by rw [q]; exact List.mem_cons_self)
        have := c.ln.len_lt this.1 this.2.1
        omega
    rw [rnds_none e, rnds]
  | succ k ih =>
    intro m lot c hk hm
    have es := common_ready (comes_left h1 w1 hb c) hb
    by_cases e : readyIn h w bs lot = []
    · rw [rnds_none e, rnds_none (by rw [es]; exact e)]
    · obtain ⟨x, hx⟩ := List.exists_mem_of_ne_nil _ e
      have hx' := mem_readyIn.mp hx
      have hlt := c.ln.len_lt hx'.1 hx'.2.1
      obtain ⟨m, rfl⟩ : ∃ j, m = j + 1 := ⟨m - 1, by omega⟩
      have c' := comes_more (keepsB h1 w1 (ne_ex hb)) c (readyIn h w bs lot) readyIn_nodup fun y hy => mem_readyIn.mp hy
      have hpos : 0 < (readyIn h w bs lot).length := List.length_pos_iff.mpr e
      rw [rnds, rnds, es, if_neg e, if_neg e, ih m _ c' (by rw [srt_len, List.length_append]; omega) (by rw [srt_len, List.length_append]; omega)]
theorem rend_done (h1 : 1 ≤ h) (w1 : 1 ≤ w) (hb : bs ≠ []) : ∀ (k : Nat) (lot : List Nat), ComesB h w bs (fun _ => True) lot → h + w ≤ lot.length + k → Done (h + w) (Falls h w bs) (fun _ => True) (rend (commonL h w bs) k lot) := by
  intro k
  induction k with
  | zero => exact fun lot c hk => ⟨c, fun x hx hm _ _ => by have := c.ln.len_lt hx hm; omega⟩
  | succ k ih =>
    intro lot c hk
    have es := common_ready (comes_left h1 w1 hb c) hb
    by_cases e : readyIn h w bs lot = []
    · rw [rend_none (by rw [es]; exact e)]
      refine ⟨c, fun x hx hm _ hr => ?_⟩
      have : x ∈ readyIn h w bs lot := mem_readyIn.mpr ⟨hx, hm, hr⟩
      rw [e] at this; cases this
    · have c' := comes_more (keepsB h1 w1 (ne_ex hb)) c (readyIn h w bs lot) readyIn_nodup fun y hy => mem_readyIn.mp hy
      have hpos : 0 < (readyIn h w bs lot).length := List.length_pos_iff.mpr e
      rw [rend, es, if_neg e]
      exact ih _ c' (by rw [srt_len, List.length_append]; omega)
end
end K23

set_option Elab.async false
set_option linter.all false
set_option maxRecDepth 100000
set_option maxHeartbeats 4000000
/-! What the law draws. -/
namespace K23
open PySem PySem.Spec PyProof.Rows L2
theorem ev_take {K : PySem.W.Frag} {Γ : Env} {te : TE} {i n : Nat} (h0 : Γ[i]? = some .row) (hn : Ev K te Γ (.int (n : Int))) (h1 : 1 ≤ n) (h2 : n ≤ 1000) : EvN K (tCall (SP__law_taken K) [] E0 (tCons (tVar i) (tCons te tNil))) Γ (fun d => ∃ k : Nat, k < n ∧ d = .int (k : Int)) :=
  evn_row h0 (ea_c hn ea_nil) fun ds e => ⟨n, e, ⟨h1, h2⟩, fun d hd => hd⟩
theorem etn_takeB {K : PySem.W.Frag} {Γ : Env} {ta : TE} {n : Nat} {g : Int → Int → Bool} (h : EvN K ta Γ (fun d => ∃ k : Nat, k < n ∧ d = .int (k : Int))) : EvTN K (tTest (tOp (rI0 fun i j => V.bl (g i j)) ta (tC (.int 0)))) Γ (fun _ => True) :=
  etn_test (P := fun d => ∃ b, d = .bool b) (evn_opI (P2 := fun d => d = .int 0) h ev_int fun dx dy ⟨k, hk, e1⟩ e2 => by
    subst e1 e2
    exact ⟨.bool (g k 0), ⟨_, rfl⟩, rv_B⟩) fun d ⟨b, e⟩ => ⟨b, e, trivial⟩
theorem etn_takeE {K : PySem.W.Frag} {Γ : Env} {ta : TE} {n : Nat} (h : EvN K ta Γ (fun d => ∃ k : Nat, k < n ∧ d = .int (k : Int))) : EvTN K (tTest (tOp rEq ta (tC (.int 0)))) Γ (fun _ => True) :=
  etn_test (P := fun d => ∃ b, d = .bool b) (evn_opI (P2 := fun d => d = .int 0) h ev_int fun dx dy ⟨k, hk, e1⟩ e2 => by
    subst e1 e2
    exact ⟨.bool (decide ((k : Int) = 0)), ⟨_, rfl⟩, rv_eqI⟩) fun d ⟨b, e⟩ => ⟨b, e, trivial⟩
/-- a board as the law draws it -/
structure GoodB (B : BD) : Prop where
  good : Good B
  h4 : B.h ≤ 4
  w4 : B.w ≤ 4
  small : ∀ r ∈ B.b, ∀ p ∈ r, (-20 ≤ p.1 ∧ p.1 ≤ 20) ∧ -20 ≤ p.2 ∧ p.2 ≤ 20
theorem getD_ints {l : List Int} {i : Nat} (hi : i < l.length) : atI (l.map PyData.int) (i : Int) = some (.int (l.getD i 0)) := atI_of rfl (by rw [List.getElem?_map, List.getElem?_eq_getElem hi, List.getD_eq_getElem?_getD, List.getElem?_eq_getElem hi]; rfl)
theorem getD_mem {l : List Int} {i : Nat} (hi : i < l.length) : l.getD i 0 ∈ l := by
  rw [List.getD_eq_getElem?_getD, List.getElem?_eq_getElem hi]; exact List.getElem_mem hi
theorem zeros (n : Nat) : (List.replicate n [PyData.int 0]).flatten = (List.replicate n (0 : Int)).map .int := by
  induction n with
  | zero => rfl
  | succ n ih => rw [List.replicate_succ, List.flatten_cons, ih]; rfl
theorem left_of_counts {h w : Nat} {l : List Nat} (r : Rising l) (lt : ∀ x ∈ l, x < h + w) (h1 : (l.filter fun x => decide (x < h)).length ≠ h) (h2 : l.length - (l.filter fun x => decide (x < h)).length ≠ w) : Left h w l := by
  rw [len_rest] at h2
  constructor
  · refine Classical.byContradiction fun no => h1 ?_
    have all : ∀ x, x < h → x ∈ l := fun x hx => Classical.byContradiction fun n => no ⟨x, hx, n⟩
    have nd := r.nodup.filter (fun x => decide (x < h))
    have a := List.Nodup.length_le_of_subset nd (l₂ := List.range h) fun y hy => List.mem_range.mpr (of_decide_eq_true (List.mem_filter.mp hy).2)
    have b := List.Nodup.length_le_of_subset (List.nodup_range (n := h)) (l₂ := l.filter fun x => decide (x < h)) fun y hy => List.mem_filter.mpr ⟨all y (List.mem_range.mp hy), decide_eq_true (List.mem_range.mp hy)⟩
    rw [List.length_range] at a b
    omega
  · refine Classical.byContradiction fun no => h2 ?_
    have all : ∀ x, h ≤ x → x < h + w → x ∈ l := fun x hx hy => Classical.byContradiction fun n => no ⟨x, hx, hy, n⟩
    have nd := r.nodup.filter (fun x => !decide (x < h))
    have a := List.Nodup.length_le_of_subset nd (l₂ := List.range' h w) fun y hy => by
      have h1 := (List.mem_filter.mp hy).2
      have h2 := lt y (List.mem_filter.mp hy).1
      simp at h1
      exact List.mem_range'_1.mpr ⟨h1, h2⟩
    have b := List.Nodup.length_le_of_subset (List.nodup_range' (s := h) (n := w)) (l₂ := l.filter fun x => !decide (x < h)) fun y hy => by
      have := List.mem_range'_1.mp hy
      exact List.mem_filter.mpr ⟨all y this.1 this.2, by simp; omega⟩
    rw [List.length_range'] at a b
    omega
theorem lot_of {h w : Nat} {b : Board} {L : List Nat} (h1 : 1 ≤ h) (w1 : 1 ≤ w) (c : ComesB h w [b] (fun _ => True) L) : Lot h w L := ⟨c.rising, c.lt, comes_left h1 w1 (by simp) c⟩
end K23

set_option Elab.async false
set_option linter.all false
set_option maxRecDepth 100000
set_option maxHeartbeats 4000000
namespace K23
open PySem PySem.Spec PyProof.Rows L2
/-! ### _law_pick: slots 0 _law_row, 1 _law_things -/
abbrev N__law_pick : List Str := ["_law_row", "_law_things"]
theorem sc__law_pick : FnScope N__law_pick ["_law_row", "_law_things"] (defScope s_law_pick) := ⟨rfl, rfl, rfl, by decide +kernel, rfl, by decide +kernel, by decide +kernel⟩
abbrev E__law_pick : (List Nat) → List PyData := fun l => [.list (dI l)]
abbrev R__law_pick : (List Nat) → Prop := fun l => l ≠ [] ∧ l.length ≤ 1000
abbrev V__law_pick : (List Nat) → PyData → Prop := fun l d => ∃ x ∈ l, d = .int ((x : Nat) : Int)
abbrev SP__law_pick (K : PySem.W.Frag) : Sp := spR K E__law_pick R__law_pick V__law_pick
theorem ok__law_pick {P : Program} {w : World} {K : PySem.W.Frag} {mg : Str → Option Value} {base : Heap} (T : Txt mg) (F : FnAt K mg "_law_pick" s_law_pick ["_law_row", "_law_things"]) (D__law_taken : Def P w K mg base 1 "_law_taken" ["_law_row", "_law_many"] (SP__law_taken K)) : Def P w K mg base 2 "_law_pick" ["_law_row", "_law_things"] (SP__law_pick K) := by
  refine F.ok sc__law_pick (fun vs H Q E h => spR_len (n := 1) (fun _ => rfl) h) (fun f cdv A outer s H vs Q E hr h => ⟨_, (pss_one (ps_ret (pe_ix (ixLK (K := K) rfl) (pv 1) (pe_def D__law_taken (hr.mono (by decide)) (by rfl) (pa_cons (pv 0) (pa_cons (pe_callB (lenK (K := K) rfl) (by rfl) T.len PySem.boot_len (pa_cons (pv 1) pa_nil)) pa_nil))) (fun _ _ => rfl)))), ?_⟩)
  refine bodyR_ok (K := K) 0 (fun _ => rfl) (fun a hp => ?_) h
  obtain ⟨hne, hl⟩ : a ≠ [] ∧ a.length ≤ 1000 := hp
  have hpos : 0 < a.length := List.length_pos_iff.mpr hne
  refine wp_ret (evn_opI (C := fun d => ∃ x ∈ a, d = .int ((x : Nat) : Int)) (P1 := fun d => d = .list (dI a)) ev_var (ev_take (n := a.length) rfl (Ev.to (ev_lenL ev_var) (by show PyData.int ((dI a).length : Int) = _; rw [dI_len])) (by omega) hl) ?_) fun d h => h
  rintro dx dy rfl ⟨k, hk, rfl⟩
  exact ⟨.int ((a[k] : Nat) : Int), ⟨a[k], List.getElem_mem hk, rfl⟩, rv_ixL (atI_of rfl (by unfold dI; rw [List.getElem?_map, List.getElem?_eq_getElem hk]; rfl))⟩

/-! ### _law_board: slots 0 _law_row, 1 _law_rows_here, 2 _law_columns_here, 3 _law_many, 4 _law_high, 5 _law_wide, 6 _law_found, 7 _law_first, 8 _law_second, 9 _law_one, 10 _law_told, 11 _law_at -/
abbrev N__law_board : List Str := ["_law_row", "_law_rows_here", "_law_columns_here", "_law_many", "_law_high", "_law_wide", "_law_found", "_law_first", "_law_second", "_law_one", "_law_told", "_law_at"]
theorem sc__law_board : FnScope N__law_board ["_law_row", "_law_rows_here", "_law_columns_here", "_law_many"] (defScope s_law_board) := ⟨rfl, rfl, rfl, by decide +kernel, rfl, by decide +kernel, by decide +kernel⟩
abbrev E__law_board : (Unit) → List PyData := fun _ => [.int 4, .int 4, .int 4]
abbrev R__law_board : (Unit) → Prop := fun _ => True
abbrev V__law_board : (Unit) → PyData → Prop := fun _ d => ∃ B : BD, GoodB B ∧ d = dB B.b
abbrev SP__law_board (K : PySem.W.Frag) : Sp := spR K E__law_board R__law_board V__law_board
theorem ok__law_board {P : Program} {w : World} {K : PySem.W.Frag} {mg : Str → Option Value} {base : Heap} (T : Txt mg) (F : FnAt K mg "_law_board" s_law_board ["_law_row", "_law_rows_here", "_law_columns_here", "_law_many"]) (D__law_taken : Def P w K mg base 1 "_law_taken" ["_law_row", "_law_many"] (SP__law_taken K)) : Def P w K mg base 2 "_law_board" ["_law_row", "_law_rows_here", "_law_columns_here", "_law_many"] (SP__law_board K) := by
  refine F.ok sc__law_board (fun vs H Q E h => spR_len (n := 3) (fun _ => rfl) h) (fun f cdv A outer s H vs Q E hr h => ⟨_, (pss_cons (ps_par3 (i := 4) (j := 5) (l := 6) rfl sc__law_board.nd rfl rfl rfl (by decide) (by decide) (by decide) rfl rfl rfl (pa_cons (pe_op op_add pe_int (pe_def D__law_taken (hr.mono (by decide)) (by rfl) (pa_cons (pv 0) (pa_cons (pv 1) pa_nil)))) (pa_cons (pe_op op_add pe_int (pe_def D__law_taken (hr.mono (by decide)) (by rfl) (pa_cons (pv 0) (pa_cons (pv 2) pa_nil)))) (pa_cons (pe_lst pa_nil) pa_nil))) (by rfl))
      (pss_cons (ps_par (i := 7) (j := 8) rfl sc__law_board.nd rfl rfl (by decide) rfl rfl (pa_cons (pe_op op_rep (pe_lst (pa_cons pe_int pa_nil)) (pv 4)) (pa_cons (pe_op op_rep (pe_lst (pa_cons pe_int pa_nil)) (pv 5)) pa_nil)) (by rfl))
      (pss_cons (ps_if (pt_cmpR op_gt (pe_def D__law_taken (hr.mono (by decide)) (by rfl) (pa_cons (pv 0) (pa_cons pe_int pa_nil))) pe_int (nomark _)) (pss_cons (ps_setLc (i := 7) (own := [("_law_one", 9)]) (tt := tYes) (g := gName 9) rfl sc__law_board.nd rfl rfl (sw_true rfl rfl rfl (by decide +kernel)) (listI (K := K) rfl (pv 7)) (blkOk_by (own := [("_law_one", 9)]) (N := N__law_board) (sc := defScope s_law_board) (by decide +kernel)) (fun _ _ _ _ _ => pg_name (i := 9) sc__law_board.nd rfl (Or.inl rfl)) (fun _ _ _ _ _ => pts_nil) (fun _ _ _ _ _ => (pe_op op_mul pe_int (pe_def D__law_taken (hr.mono (by decide)) (by rfl) (pa_cons (pv 0) (pa_cons pe_int pa_nil))))))
      (pss_one (ps_setLc (i := 8) (own := [("_law_one", 9)]) (tt := tYes) (g := gName 9) rfl sc__law_board.nd rfl rfl (sw_true rfl rfl rfl (by decide +kernel)) (listI (K := K) rfl (pv 8)) (blkOk_by (own := [("_law_one", 9)]) (N := N__law_board) (sc := defScope s_law_board) (by decide +kernel)) (fun _ _ _ _ _ => pg_name (i := 9) sc__law_board.nd rfl (Or.inl rfl)) (fun _ _ _ _ _ => pts_nil) (fun _ _ _ _ _ => (pe_op op_mul pe_int (pe_def D__law_taken (hr.mono (by decide)) (by rfl) (pa_cons (pv 0) (pa_cons pe_int pa_nil)))))))) pss_nil)
      (pss_cons (ps_for PassesOwn.never rfl (pi_range1 (by rfl) T.range (pa_cons (pv 4) pa_nil)) (pg_name (i := 9) sc__law_board.nd rfl (Or.inl rfl)) (pss_cons (ps_set (i := 10) sc__law_board.nd rfl (Or.inl rfl) (pe_lst pa_nil))
      (pss_cons (ps_for PassesOwn.never rfl (pi_range1 (by rfl) T.range (pa_cons (pv 5) pa_nil)) (pg_name (i := 11) sc__law_board.nd rfl (Or.inl rfl)) (pss_one (ps_expr (pe_bm PySem.F.plainAttrs_list PySem.F.slot_list_append PySem.F.type_list_append mt_append (pv 10) (pa_cons (pe_tup (pa_cons (pe_op op_add (pe_ix (ixLK (K := K) rfl) (pv 7) (pv 9) (fun _ _ => rfl)) (pe_def D__law_taken (hr.mono (by decide)) (by rfl) (pa_cons (pv 0) (pa_cons (pv 3) pa_nil)))) (pa_cons (pe_op op_sub (pe_op op_add (pe_ix (ixLK (K := K) rfl) (pv 8) (pv 11) (fun _ _ => rfl)) (pe_def D__law_taken (hr.mono (by decide)) (by rfl) (pa_cons (pv 0) (pa_cons (pv 3) pa_nil)))) pe_int) pa_nil))) pa_nil)))))
      (pss_one (ps_expr (pe_bm PySem.F.plainAttrs_list PySem.F.slot_list_append PySem.F.type_list_append mt_append (pv 6) (pa_cons (tupleK (K := K) rfl (by rfl) T.tuple (pv 10)) pa_nil)))))))
      (pss_one (ps_ret (tupleK (K := K) rfl (by rfl) T.tuple (pv 6)))))))), ?_⟩)
  refine bodyR_ok (K := K) 8 (fun _ => rfl) (fun a hp => ?_) h
  have G0 : (Sl.row :: start0 (E__law_board a) 8) = [.row, .val (.int 4), .val (.int 4), .val (.int 4), .no, .no, .no, .no, .no, .no, .no, .no] := rfl
  rw [G0]
  have one : ∀ {Γ : Env} {te : TE} {j : Nat}, Γ[0]? = some .row → Ev K te Γ (.int 4) → EvN K (tOp (rI0 fun i j => .int (i + j)) (tC (.int 1)) (tCall (SP__law_taken K) [] E0 (tCons (tVar 0) (tCons te tNil)))) Γ (fun d => ∃ n : Nat, (1 ≤ n ∧ n ≤ 4) ∧ d = .int (n : Int)) := fun {Γ te j} h0 ht =>
    evn_opI (P1 := fun d => d = .int 1) ev_int (ev_take (n := 4) h0 ht (by omega) (by omega)) fun dx dy e ⟨k, hk, e2⟩ => by
      subst e e2
      exact ⟨.int (1 + (k : Int)), ⟨1 + k, by omega, by rw [Int.natCast_add]; rfl⟩, rv_I⟩
  refine wp_seq (N1 := fun Γ => ∃ hh ww : Nat, (1 ≤ hh ∧ hh ≤ 4) ∧ (1 ≤ ww ∧ ww ≤ 4) ∧ Γ = [.row, .val (.int 4), .val (.int 4), .val (.int 4), .val (.int (hh : Int)), .val (.int (ww : Int)), .own [], .no, .no, .no, .no, .no]) (wp_par3O (one (j := 0) rfl ev_var) (one (j := 0) rfl ev_var) fun d e ⟨n, hn, e1⟩ ⟨m, hm, e2⟩ => ⟨n, m, hn, hm, by rw [e1, e2]; rfl⟩) fun Γ e => ?_
  obtain ⟨hh, ww, ⟨hh1, hh4⟩, ⟨ww1, ww4⟩, rfl⟩ := e
  have zs : ∀ n : Nat, ∀ z ∈ List.replicate n (0 : Int), 0 ≤ z ∧ z ≤ 8 := fun n z hz => by
    rw [(List.mem_replicate.mp hz).2]; exact ⟨Int.le_refl _, by decide⟩
  refine wp_seq (N1 := fun Γ => ∃ f s : List Int, (f.length = hh ∧ ∀ z ∈ f, 0 ≤ z ∧ z ≤ 8) ∧ (s.length = ww ∧ ∀ z ∈ s, 0 ≤ z ∧ z ≤ 8) ∧ Γ = [.row, .val (.int 4), .val (.int 4), .val (.int 4), .val (.int (hh : Int)), .val (.int (ww : Int)), .own [], .val (.list (f.map .int)), .val (.list (s.map .int)), .no, .no, .no]) (wp_parD (by decide) (ea_c (ev_op (ev_lst (ea_c ev_int ea_nil) (by simp)) ev_var (rv_rep (ds := [.int 0]) (n := hh) (by simp; omega) (by omega))) (ea_c (ev_op (ev_lst (ea_c ev_int ea_nil) (by simp)) ev_var (rv_rep (ds := [.int 0]) (n := ww) (by simp; omega) (by omega))) ea_nil)) ⟨List.replicate hh 0, List.replicate ww 0, ⟨List.length_replicate, zs _⟩, ⟨List.length_replicate, zs _⟩, by rw [zeros, zeros]; rfl⟩) fun Γ e => ?_
  obtain ⟨f, s', hf, hs, rfl⟩ := e
  have dbl : ∀ {Γ : Env}, Γ[0]? = some .row → EvN K (tOp (rI CMul fun i j => .int (i * j)) (tC (.int 2)) (tCall (SP__law_taken K) [] E0 (tCons (tVar 0) (tCons (tC (.int 4)) tNil)))) Γ (fun d => ∃ z : Int, (0 ≤ z ∧ z ≤ 8) ∧ d = .int z) := fun {Γ} h0 =>
    evn_opI (P1 := fun d => d = .int 2) ev_int (ev_take (n := 4) h0 ev_int (by omega) (by omega)) fun dx dy e ⟨k, hk, e2⟩ => by
      subst e e2
      exact ⟨.int (2 * (k : Int)), ⟨2 * (k : Int), by omega, rfl⟩, rv_IC (.inl ⟨by decide, by decide⟩)⟩
  refine wp_seq (N1 := fun Γ => ∃ f s : List Int, (f.length = hh ∧ ∀ z ∈ f, 0 ≤ z ∧ z ≤ 8) ∧ (s.length = ww ∧ ∀ z ∈ s, 0 ≤ z ∧ z ≤ 8) ∧ Γ = [.row, .val (.int 4), .val (.int 4), .val (.int 4), .val (.int (hh : Int)), .val (.int (ww : Int)), .own [], .val (.list (f.map .int)), .val (.list (s.map .int)), .no, .no, .no]) (wp_ifN (B := fun _ => True) (etn_takeB (ev_take (n := 3) rfl ev_int (by omega) (by omega))) (fun _ => ?_) fun _ => wp_next ⟨f, s', hf, hs, rfl⟩) fun Γ e => ?_
  · refine wp_seq (N1 := fun Γ => ∃ f : List Int, (f.length = hh ∧ ∀ z ∈ f, 0 ≤ z ∧ z ≤ 8) ∧ Γ = [.row, .val (.int 4), .val (.int 4), .val (.int 4), .val (.int (hh : Int)), .val (.int (ww : Int)), .own [], .val (.list (f.map .int)), .val (.list (s'.map .int)), .no, .no, .no]) (wp_set (evn_lcR (l := f) (enc := .int) (enc' := .int) (S := fun z => 0 ≤ z ∧ z ≤ 8) (ei_listD ev_var) (by omega) fun a ha => dbl rfl) fun d ⟨bs, h1, h2, e⟩ => ⟨bs, ⟨h1.trans hf.1, h2⟩, by rw [e]; rfl⟩) fun Γ e => ?_
    obtain ⟨f, hf, rfl⟩ := e
    exact wp_set (evn_lcR (l := s') (enc := .int) (enc' := .int) (S := fun z => 0 ≤ z ∧ z ≤ 8) (ei_listD ev_var) (by omega) fun a ha => dbl rfl) fun d ⟨bs, h1, h2, e⟩ => ⟨f, bs, hf, ⟨h1.trans hs.1, h2⟩, by rw [e]; rfl⟩
  obtain ⟨f, s', hf, hs, rfl⟩ := e
  refine wp_seq (N1 := fun Γ => ∃ rows : List (List (Int × Int)), rows.length = hh ∧ (∀ r ∈ rows, r.length = ww ∧ ∀ p ∈ r, (-20 ≤ p.1 ∧ p.1 ≤ 20) ∧ -20 ≤ p.2 ∧ p.2 ≤ 20) ∧ ∃ s9 s10 s11, Γ = [.row, .val (.int 4), .val (.int 4), .val (.int 4), .val (.int (hh : Int)), .val (.int (ww : Int)), .own (rows.map dRow), .val (.list (f.map .int)), .val (.list (s'.map .int)), s9, s10, s11]) (wp_for (ei_rangeN (n := hh) (ea_c ev_var ea_nil) (by omega)) fun items e => ⟨fun k Γ => ∃ rows : List (List (Int × Int)), rows.length = k ∧ (∀ r ∈ rows, r.length = ww ∧ ∀ p ∈ r, (-20 ≤ p.1 ∧ p.1 ≤ 20) ∧ -20 ≤ p.2 ∧ p.2 ≤ 20) ∧ ∃ s9 s10 s11, Γ = [.row, .val (.int 4), .val (.int 4), .val (.int 4), .val (.int (hh : Int)), .val (.int (ww : Int)), .own (rows.map dRow), .val (.list (f.map .int)), .val (.list (s'.map .int)), s9, s10, s11], ⟨[], rfl, fun r hr => (by cases hr), .no, .no, .no, rfl⟩, ?_, ?_⟩) fun Γ e => ?_
  · subst e
    rintro k y Γ hy ⟨rows, hk, hrows, s9, s10, s11, rfl⟩
    obtain ⟨rfl, hk1⟩ := dIr_at hy
    refine ⟨_, tgs_name, ?_⟩
    refine wp_seq (N1 := fun Γ => Γ = [.row, .val (.int 4), .val (.int 4), .val (.int 4), .val (.int (hh : Int)), .val (.int (ww : Int)), .own (rows.map dRow), .val (.list (f.map .int)), .val (.list (s'.map .int)), .val (.int (k : Int)), .own [], s11]) (wp_setOwn ea_nil (fun ds e => by rw [e]; decide) fun ds e => by rw [e]; rfl) fun Γ e => ?_
    subst e
    refine wp_seq (N1 := fun Γ => ∃ ps : List (Int × Int), (ps.length = ww ∧ ∀ p ∈ ps, (-20 ≤ p.1 ∧ p.1 ≤ 20) ∧ -20 ≤ p.2 ∧ p.2 ≤ 20) ∧ ∃ s11, Γ = [.row, .val (.int 4), .val (.int 4), .val (.int 4), .val (.int (hh : Int)), .val (.int (ww : Int)), .own (rows.map dRow), .val (.list (f.map .int)), .val (.list (s'.map .int)), .val (.int (k : Int)), .own (ps.map dP), s11]) (wp_for (ei_rangeN (n := ww) (ea_c ev_var ea_nil) (by omega)) fun items e => ⟨fun j Γ => ∃ ps : List (Int × Int), (ps.length = j ∧ ∀ p ∈ ps, (-20 ≤ p.1 ∧ p.1 ≤ 20) ∧ -20 ≤ p.2 ∧ p.2 ≤ 20) ∧ ∃ s11, Γ = [.row, .val (.int 4), .val (.int 4), .val (.int 4), .val (.int (hh : Int)), .val (.int (ww : Int)), .own (rows.map dRow), .val (.list (f.map .int)), .val (.list (s'.map .int)), .val (.int (k : Int)), .own (ps.map dP), s11], ⟨[], ⟨rfl, fun p hp => (by cases hp)⟩, _, rfl⟩, ?_, ?_⟩) fun Γ e => ?_
    · subst e
      rintro j y Γ hy ⟨ps, ⟨hj, hps⟩, s11, rfl⟩
      obtain ⟨rfl, hj1⟩ := dIr_at hy
      refine ⟨_, tgs_name, ?_⟩
      have fk := hf.2 _ (getD_mem (l := f) (i := k) (by rw [hf.1]; exact hk1))
      have sj := hs.2 _ (getD_mem (l := s') (i := j) (by rw [hs.1]; exact hj1))
      refine wp_app (i := 10) (P := fun d => ∃ p : Int × Int, ((-20 ≤ p.1 ∧ p.1 ≤ 20) ∧ -20 ≤ p.2 ∧ p.2 ≤ 20) ∧ d = dP p) rfl (evn_tup (A := fun ds => ∃ p : Int × Int, ((-20 ≤ p.1 ∧ p.1 ≤ 20) ∧ -20 ≤ p.2 ∧ p.2 ≤ 20) ∧ ds = [.int p.1, .int p.2])
        (ea_cons (P := fun d => ∃ z : Int, (-20 ≤ z ∧ z ≤ 20) ∧ d = .int z) (A := fun ds => ∃ z : Int, (-20 ≤ z ∧ z ≤ 20) ∧ ds = [.int z])
          (evn_opI (P1 := fun d => d = .int (f.getD k 0)) (ev_op ev_var ev_var (rv_ixL (getD_ints (by rw [hf.1]; exact hk1)))) (ev_take (n := 4) rfl ev_var (by omega) (by omega)) fun dx dy e1 ⟨q, hq, e2⟩ => ⟨.int (f.getD k 0 + (q : Int)), ⟨_, by omega, rfl⟩, by subst e1 e2; exact rv_I⟩)
          (ea_cons (P := fun d => ∃ z : Int, (-20 ≤ z ∧ z ≤ 20) ∧ d = .int z) (A := fun ds => ds = [])
            (evn_opI (P1 := fun d => ∃ z : Int, (0 ≤ z ∧ z ≤ 12) ∧ d = .int z) (P2 := fun d => d = .int 1) (evn_opI (P1 := fun d => d = .int (s'.getD j 0)) (ev_op ev_var ev_var (rv_ixL (getD_ints (by rw [hs.1]; exact hj1)))) (ev_take (n := 4) rfl ev_var (by omega) (by omega)) fun dx dy e1 ⟨q, hq, e2⟩ => ⟨.int (s'.getD j 0 + (q : Int)), ⟨_, by omega, rfl⟩, by subst e1 e2; exact rv_I⟩) ev_int fun dx dy ⟨z, hz, e1⟩ e2 => ⟨.int (z - 1), ⟨_, by omega, rfl⟩, by subst e1 e2; exact rv_I⟩)
            ea_nil fun d ds ⟨z, hz, e1⟩ e2 => ⟨z, hz, by rw [e1, e2]⟩)
          fun d ds ⟨z, hz, e1⟩ ⟨u, hu, e2⟩ => ⟨(z, u), ⟨hz, hu⟩, by rw [e1, e2]⟩)
        (fun ds ⟨p, _, e⟩ => by rw [e]; simp) fun ds ⟨p, hp, e⟩ => ⟨p, hp, by rw [e]; rfl⟩) (by rw [List.length_map, hj]; have hj1 : j < ww := hj1; omega) fun d ⟨p, hp, e⟩ => ⟨ps ++ [p], ⟨by rw [List.length_append, hj]; rfl, fun q hq => ?_⟩, .val (.int (j : Int)), by subst e; rw [List.map_append]; rfl⟩
      rcases List.mem_append.mp hq with hq | hq
      · exact hps q hq
      · rw [List.mem_singleton.mp hq]; exact hp
    · subst e
      rintro Γ ⟨ps, h1, s11, rfl⟩
      rw [dI_len, List.length_range] at h1
      exact ⟨ps, h1, s11, rfl⟩
    obtain ⟨ps, ⟨hpl, hps⟩, s11, rfl⟩ := e
    refine wp_pub (i := 10) rfl (wp_app (i := 6) rfl (ev_tupleL ev_var) (by rw [List.length_map, hk]; have hk1 : k < hh := hk1; omega) fun d e => ⟨rows ++ [ps], by rw [List.length_append, hk]; rfl, fun r hr => ?_, .val (.int (k : Int)), .val (.list (ps.map dP)), s11, by subst e; rw [List.map_append]; rfl⟩)
    rcases List.mem_append.mp hr with hr | hr
    · exact hrows r hr
    · rw [List.mem_singleton.mp hr]; exact ⟨hpl, hps⟩
  · subst e
    rintro Γ ⟨rows, h1, h2, h3⟩
    rw [dI_len, List.length_range] at h1
    exact ⟨rows, h1, h2, h3⟩
  · obtain ⟨rows, hl, hrows, s9, s10, s11, rfl⟩ := e
    refine wp_pub (i := 6) rfl (wp_retD (ev_tupleL ev_var) ⟨⟨hh, ww, rows⟩, ⟨⟨hl, fun r hr => (hrows r hr).1, hh1, by show hh ≤ 6; omega, ww1, by show ww ≤ 6; omega, fun r hr p hp => ?_⟩, hh4, ww4, fun r hr p hp => (hrows r hr).2 p hp⟩, rfl⟩)
    have := (hrows r hr).2 p hp
    omega

/-! ### _law_drawn: slots 0 _law_row, 1 _law_board_here, 2 _law_many, 3 _law_lot_here, 4 _law_found, 5 _law_turn, 6 _law_some, 7 _law_line -/
abbrev N__law_drawn : List Str := ["_law_row", "_law_board_here", "_law_many", "_law_lot_here", "_law_found", "_law_turn", "_law_some", "_law_line"]
theorem sc__law_drawn : FnScope N__law_drawn ["_law_row", "_law_board_here", "_law_many"] (defScope s_law_drawn) := ⟨rfl, rfl, rfl, by decide +kernel, rfl, by decide +kernel, by decide +kernel⟩
abbrev E__law_drawn : (BD × Nat) → List PyData := fun a => [dB a.1.b, .int (a.2 : Int)]
abbrev R__law_drawn : (BD × Nat) → Prop := fun a => Good a.1 ∧ a.2 ≤ 12
abbrev V__law_drawn : (BD × Nat) → PyData → Prop := fun a d => ∃ o lot : List Nat, ComesB a.1.h a.1.w [a.1.b] (fun _ => True) lot ∧ d = .tuple [.tuple (dI o), .tuple (dI lot)]
abbrev SP__law_drawn (K : PySem.W.Frag) : Sp := spR K E__law_drawn R__law_drawn V__law_drawn
theorem ok__law_drawn {P : Program} {w : World} {K : PySem.W.Frag} {mg : Str → Option Value} {base : Heap} (T : Txt mg) (F : FnAt K mg "_law_drawn" s_law_drawn ["_law_row", "_law_board_here", "_law_many"]) (D__law_with : Def P w K mg base 1 "_law_with" ["_law_lot_here", "_law_line"] SP__law_with) (D__law_pick : Def P w K mg base 2 "_law_pick" ["_law_row", "_law_things"] (SP__law_pick K)) (D__law_ready : Def P w K mg base 4 "_law_ready" ["_law_board_here", "_law_lot_here"] SP__law_ready) : Def P w K mg base 5 "_law_drawn" ["_law_row", "_law_board_here", "_law_many"] (SP__law_drawn K) := by
  refine F.ok sc__law_drawn (fun vs H Q E h => spR_len (n := 2) (fun _ => rfl) h) (fun f cdv A outer s H vs Q E hr h => ⟨_, (pss_cons (ps_asg (pe_tup (pa_cons (pe_tup pa_nil) (pa_cons (pe_tup pa_nil) pa_nil))) (tupG (K := K) rfl rfl (pgs_cons (pg_name (i := 3) sc__law_drawn.nd rfl (Or.inl rfl)) (pgs_cons (pg_name (i := 4) sc__law_drawn.nd rfl (Or.inl rfl)) pgs_nil))))
      (pss_cons (ps_for PassesOwn.never rfl (pi_range1 (by rfl) T.range (pa_cons (pv 2) pa_nil)) (pg_name (i := 5) sc__law_drawn.nd rfl (Or.inl rfl)) (pss_cons (ps_set (i := 6) sc__law_drawn.nd rfl (Or.inl rfl) (pe_def D__law_ready (hr.mono (by decide)) (by rfl) (pa_cons (pv 1) (pa_cons (pv 3) pa_nil))))
      (pss_one (ps_if (pt_cmpR (neDK (K := K) rfl hr.units) (pv 6) (pe_lst pa_nil) (nomark _)) (pss_cons (ps_set (i := 7) sc__law_drawn.nd rfl (Or.inl rfl) (pe_def D__law_pick (hr.mono (by decide)) (by rfl) (pa_cons (pv 0) (pa_cons (pv 6) pa_nil))))
      (pss_one (ps_par (i := 3) (j := 4) rfl sc__law_drawn.nd rfl rfl (by decide) rfl rfl (pa_cons (pe_def D__law_with (hr.mono (by decide)) (by rfl) (pa_cons (pv 3) (pa_cons (pv 7) pa_nil))) (pa_cons (pe_op (catK (K := K) rfl) (pv 4) (pe_tup (pa_cons (pv 7) pa_nil))) pa_nil)) (by rfl)))) pss_nil))))
      (pss_one (ps_ret (pe_tup (pa_cons (pv 4) (pa_cons (pv 3) pa_nil))))))), ?_⟩)
  refine bodyR_ok (K := K) 5 (fun _ => rfl) (fun a hp => ?_) h
  obtain ⟨B, many⟩ := a
  obtain ⟨g, hm⟩ : Good B ∧ many ≤ 12 := hp
  have h6 := g.h6; have w6 := g.w6; have h1 := g.h1; have w1 := g.w1
  refine wp_seq (N1 := fun Γ => Γ = [.row, .val (dB B.b), .val (.int (many : Int)), .val (.tuple (dI [])), .val (.tuple (dI [])), .no, .no, .no]) (wp_asg2D (by decide) (ev_tup (ea_c ev_T0 (ea_c ev_T0 ea_nil)) (by simp)) rfl) fun Γ e => ?_
  subst e
  refine wp_seq (N1 := fun Γ => ∃ o lot : List Nat, ComesB B.h B.w [B.b] (fun _ => True) lot ∧ ∃ s5 s6 s7, Γ = [.row, .val (dB B.b), .val (.int (many : Int)), .val (.tuple (dI lot)), .val (.tuple (dI o)), s5, s6, s7]) (wp_for (ei_rangeN (n := many) (ea_c ev_var ea_nil) (by omega)) fun items e => ⟨fun k Γ => k ≤ many ∧ ∃ o lot : List Nat, ComesB B.h B.w [B.b] (fun _ => True) lot ∧ o.length ≤ k ∧ lot.length ≤ k ∧ ∃ s5 s6 s7, Γ = [.row, .val (dB B.b), .val (.int (many : Int)), .val (.tuple (dI lot)), .val (.tuple (dI o)), s5, s6, s7], ⟨Nat.zero_le _, [], [], .nil, Nat.le_refl _, Nat.le_refl _, .no, .no, .no, rfl⟩, ?_, ?_⟩) fun Γ e => ?_
  · subst e
    rintro k y Γ hy ⟨hk, o, lot, c, ho, hl, s5, s6, s7, rfl⟩
    obtain ⟨rfl, hk1⟩ := dIr_at hy
    refine ⟨_, tgs_name, ?_⟩
    refine wp_seq (N1 := fun Γ => Γ = [.row, .val (dB B.b), .val (.int (many : Int)), .val (.tuple (dI lot)), .val (.tuple (dI o)), .val (.int (k : Int)), .val (.list (dI (readyL B.h B.w B.b lot))), s7]) (wp_setD (ev_call (enc := E__law_ready) (f := V__law_ready) (B, lot) (ea_c ev_var (ea_c ev_var ea_nil)) g) rfl) fun Γ e => ?_
    subst e
    refine wp_if (et_test (ev_op ev_var ev_L0 rv_neLI)) (fun e => ?_) (fun e => wp_next ⟨hk1, o, lot, c, by omega, by omega, _, _, _, rfl⟩)
    have ne : readyL B.h B.w B.b lot ≠ [] := by simpa using e
    have hrl : (readyL B.h B.w B.b lot).length ≤ 12 := by
      have a1 := List.length_filter_le (fun x => !decide (overL B.h B.w B.b lot x = [])) (linesL B.h B.w lot)
      have a2 := linesL_len (h := B.h) (w := B.w) (lot := lot)
      unfold readyL; omega
    refine wp_seq (N1 := fun Γ => ∃ x ∈ readyL B.h B.w B.b lot, Γ = [.row, .val (dB B.b), .val (.int (many : Int)), .val (.tuple (dI lot)), .val (.tuple (dI o)), .val (.int (k : Int)), .val (.list (dI (readyL B.h B.w B.b lot))), .val (.int ((x : Nat) : Int))]) (wp_set (evn_row (enc := E__law_pick) (rel := V__law_pick) rfl (ea_c ev_var ea_nil) fun ds e => ⟨_, e, ⟨ne, by omega⟩, fun d hd => hd⟩) fun d ⟨x, hx, e⟩ => ⟨x, hx, by rw [e]; rfl⟩) fun Γ e => ?_
    obtain ⟨x, hx, rfl⟩ := e
    obtain ⟨x1, x2, x3⟩ := (mem_readyL (comes_left h1 w1 (by simp) c)).mp hx
    have hlot : lot.length ≤ 12 := by have := c.ln.len; omega
    exact wp_parD (by decide) (ea_c (ev_call (enc := E__law_with) (f := V__law_with) (lot, x) (ea_c ev_var (ea_c ev_var ea_nil)) (by show lot.length ≤ 1000; omega)) (ea_c (Ev.to (ev_op ev_var (Ev.to (ev_tup (ea_c ev_var ea_nil) (by simp)) (e := .tuple (dI [x])) rfl) (rv_catT (by rw [dI_len, dI_len]; show o.length + 1 ≤ _; omega))) (e := .tuple (dI (o ++ [x]))) (by rw [dI_app])) ea_nil)) ⟨hk1, o ++ [x], _, .step c x1 x2 trivial x3, by rw [List.length_append]; show o.length + 1 ≤ _; omega, by rw [len_with]; omega, _, _, _, rfl⟩
  · subst e
    rintro Γ ⟨_, o, lot, c, _, _, hh⟩
    exact ⟨o, lot, c, hh⟩
  · obtain ⟨o, lot, c, s5, s6, s7, rfl⟩ := e
    exact wp_retD (ev_tup (ea_c ev_var (ea_c ev_var ea_nil)) (by simp)) ⟨o, lot, c, rfl⟩

/-! ### _law_lot: slots 0 _law_row, 1 _law_board_here, 2 _law_high, 3 _law_wide, 4 _law_found, 5 _law_line, 6 _law_rows_here -/
abbrev N__law_lot : List Str := ["_law_row", "_law_board_here", "_law_high", "_law_wide", "_law_found", "_law_line", "_law_rows_here"]
theorem sc__law_lot : FnScope N__law_lot ["_law_row", "_law_board_here"] (defScope s_law_lot) := ⟨rfl, rfl, rfl, by decide +kernel, rfl, by decide +kernel, by decide +kernel⟩
abbrev E__law_lot : (BD) → List PyData := fun B => [dB B.b]
abbrev R__law_lot : (BD) → Prop := Good
abbrev V__law_lot : (BD) → PyData → Prop := fun B d => ∃ lot : List Nat, Lot B.h B.w lot ∧ d = .tuple (dI lot)
abbrev SP__law_lot (K : PySem.W.Frag) : Sp := spR K E__law_lot R__law_lot V__law_lot
theorem ok__law_lot {P : Program} {w : World} {K : PySem.W.Frag} {mg : Str → Option Value} {base : Heap} (T : Txt mg) (F : FnAt K mg "_law_lot" s_law_lot ["_law_row", "_law_board_here"]) (D__law_taken : Def P w K mg base 1 "_law_taken" ["_law_row", "_law_many"] (SP__law_taken K)) (D__law_drawn : Def P w K mg base 5 "_law_drawn" ["_law_row", "_law_board_here", "_law_many"] (SP__law_drawn K)) : Def P w K mg base 6 "_law_lot" ["_law_row", "_law_board_here"] (SP__law_lot K) := by
  refine F.ok sc__law_lot (fun vs H Q E h => spR_len (n := 1) (fun _ => rfl) h) (fun f cdv A outer s H vs Q E hr h => ⟨_, (pss_cons (ps_if (pt_cmpR op_eq (pe_def D__law_taken (hr.mono (by decide)) (by rfl) (pa_cons (pv 0) (pa_cons pe_int pa_nil))) pe_int (nomark _)) (pss_one (ps_ret (pe_ix (ixTK (K := K) rfl) (pe_def D__law_drawn (hr.mono (by decide)) (by rfl) (pa_cons (pv 0) (pa_cons (pv 1) (pa_cons (pe_def D__law_taken (hr.mono (by decide)) (by rfl) (pa_cons (pv 0) (pa_cons pe_int pa_nil))) pa_nil)))) pe_int (fun _ _ => rfl)))) pss_nil)
      (pss_cons (ps_asg (pe_tup (pa_cons (pe_callB (lenK (K := K) rfl) (by rfl) T.len PySem.boot_len (pa_cons (pv 1) pa_nil)) (pa_cons (pe_callB (lenK (K := K) rfl) (by rfl) T.len PySem.boot_len (pa_cons (pe_ix (ixTK (K := K) rfl) (pv 1) pe_int (fun _ _ => rfl)) pa_nil)) (pa_cons (pe_tup pa_nil) pa_nil)))) (tupG (K := K) rfl rfl (pgs_cons (pg_name (i := 2) sc__law_lot.nd rfl (Or.inr rfl)) (pgs_cons (pg_name (i := 3) sc__law_lot.nd rfl (Or.inl rfl)) (pgs_cons (pg_name (i := 4) sc__law_lot.nd rfl (Or.inl rfl)) pgs_nil)))))
      (pss_cons (ps_for PassesOwn.never rfl (pi_range1 (by rfl) T.range (pa_cons (pe_op op_add (pv 2) (pv 3)) pa_nil)) (pg_name (i := 5) sc__law_lot.nd rfl (Or.inl rfl)) (pss_one (ps_if (pt_cmpR op_eq (pe_def D__law_taken (hr.mono (by decide)) (by rfl) (pa_cons (pv 0) (pa_cons pe_int pa_nil))) pe_int (nomark _)) (pss_one (ps_set (i := 4) sc__law_lot.nd rfl (Or.inl rfl) (pe_op (catK (K := K) rfl) (pv 4) (pe_tup (pa_cons (pv 5) pa_nil))))) pss_nil)))
      (pss_cons (ps_setLc (i := 6) (own := [("_law_line", 5)]) (g := gName 5) rfl sc__law_lot.nd rfl rfl (sw_true rfl rfl rfl (by decide +kernel)) (tupI (K := K) rfl (pv 4)) (blkOk_by (own := [("_law_line", 5)]) (N := N__law_lot) (sc := defScope s_law_lot) (by decide +kernel)) (fun _ _ _ _ _ => pg_name (i := 5) sc__law_lot.nd rfl (Or.inl rfl)) (fun _ _ _ _ _ => pts_one (pt_cmpR op_lt (pv 5) (pv 2) (nomark _))) (fun _ _ _ _ _ => (pv 5)))
      (pss_cons (ps_if (PW.pt (pw_or (pt_cmpR op_eq (pe_callB (lenK (K := K) rfl) (by rfl) T.len PySem.boot_len (pa_cons (pv 6) pa_nil)) (pv 2) (nomark _)) (pw_or1 (pt_cmpR op_eq (pe_op op_sub (pe_callB (lenK (K := K) rfl) (by rfl) T.len PySem.boot_len (pa_cons (pv 4) pa_nil)) (pe_callB (lenK (K := K) rfl) (by rfl) T.len PySem.boot_len (pa_cons (pv 6) pa_nil))) (pv 3) (nomark _))))) (pss_one (ps_ret (pe_tup pa_nil))) pss_nil)
      (pss_one (ps_ret (pv 4)))))))), ?_⟩)
  refine bodyR_ok (K := K) 5 (fun _ => rfl) (fun a hp => ?_) h
  rename BD => B
  have g : Good B := hp
  have h6 := g.h6; have w6 := g.w6; have h1 := g.h1; have w1 := g.w1
  have G0 : (Sl.row :: start0 (E__law_lot B) 5) = [.row, .val (dB B.b), .no, .no, .no, .no, .no] := rfl
  rw [G0]
  refine wp_seq (N1 := fun Γ => Γ = [.row, .val (dB B.b), .no, .no, .no, .no, .no]) (wp_ifN (B := fun _ => True) (etn_takeE (ev_take (n := 2) rfl ev_int (by omega) (by omega))) (fun _ => ?_) fun _ => wp_next rfl) fun Γ e => ?_
  · refine wp_ret (evn_opI (C := fun d => ∃ lot : List Nat, Lot B.h B.w lot ∧ d = .tuple (dI lot)) (P1 := fun d => ∃ o lot : List Nat, ComesB B.h B.w [B.b] (fun _ => True) lot ∧ d = .tuple [.tuple (dI o), .tuple (dI lot)]) (P2 := fun d => d = .int 1)
      (evn_row (enc := E__law_drawn) (rel := V__law_drawn) rfl (ea_cons (P := fun d => d = dB B.b) (A := fun ds => ∃ k : Nat, k < 6 ∧ ds = [.int (k : Int)]) (A1 := fun ds => ∃ k : Nat, k < 6 ∧ ds = [dB B.b, .int (k : Int)]) ev_var (ea_cons (P := fun d => ∃ k : Nat, k < 6 ∧ d = .int (k : Int)) (A := fun ds => ds = []) (ev_take (n := 6) rfl ev_int (by omega) (by omega)) ea_nil fun d ds ⟨k, hk, e1⟩ e2 => ⟨k, hk, by rw [e1, e2]⟩) fun d ds e1 ⟨k, hk, e2⟩ => ⟨k, hk, by rw [e1, e2]⟩) fun ds ⟨k, hk, e⟩ => ⟨(B, k), e, ⟨g, by show k ≤ 12; omega⟩, fun d hd => hd⟩)
      ev_int ?_) fun d h => h
    rintro dx dy ⟨o, lot, c, rfl⟩ rfl
    exact ⟨.tuple (dI lot), ⟨lot, lot_of h1 w1 c, rfl⟩, rv_ixT (atI_of (j := 1) rfl rfl)⟩
  subst e
  refine wp_seq (N1 := fun Γ => Γ = [.row, .val (dB B.b), .val (.int (B.h : Int)), .val (.int (B.w : Int)), .val (.tuple (dI [])), .no, .no]) (wp_asg3D (ev_tup (ea_c (Ev.to (ev_lenT ev_var) (e := .int (B.h : Int)) (by rw [List.length_map, g.len])) (ea_c (Ev.to (ev_lenT (Ev.to (ev_op ev_var ev_int (rv_ixT (atI_of rfl (g.at g.h1)))) rfl)) (e := .int (B.w : Int)) (by rw [List.length_map, g.rlen g.h1])) (ea_c ev_T0 ea_nil))) (by simp)) rfl) fun Γ e => ?_
  subst e
  refine wp_seq (N1 := fun Γ => ∃ l : List Nat, Ln (B.h + B.w) l ∧ ∃ s5, Γ = [.row, .val (dB B.b), .val (.int (B.h : Int)), .val (.int (B.w : Int)), .val (.tuple (dI l)), s5, .no]) (wp_for (ei_rangeN (n := B.h + B.w) (ea_c (Ev.to (ev_op ev_var ev_var rv_I) (by rw [Int.natCast_add])) ea_nil) (by omega)) fun items e => ⟨fun k Γ => ∃ l : List Nat, Ln k l ∧ ∃ s5, Γ = [.row, .val (dB B.b), .val (.int (B.h : Int)), .val (.int (B.w : Int)), .val (.tuple (dI l)), s5, .no], ⟨[], Ln.nil, .no, rfl⟩, ?_, ?_⟩) fun Γ e => ?_
  · subst e
    rintro k y Γ hy ⟨l, L, s5, rfl⟩
    obtain ⟨rfl, hk1⟩ := dIr_at hy
    have hll := L.len
    refine ⟨_, tgs_name, wp_ifN (B := fun _ => True) (etn_takeE (ev_take (n := 3) rfl ev_int (by omega) (by omega))) (fun _ => ?_) fun _ => wp_next ⟨l, ⟨L.1, fun x hx => Nat.lt_succ_of_lt (L.2 x hx)⟩, _, rfl⟩⟩
    refine wp_setD (Ev.to (ev_op ev_var (Ev.to (ev_tup (ea_c ev_var ea_nil) (by simp)) (e := .tuple (dI [k])) rfl) (rv_catT (by rw [dI_len, dI_len]; show l.length + 1 ≤ _; omega))) (e := .tuple (dI (l ++ [k]))) (by rw [dI_app])) ⟨l ++ [k], ⟨?_, fun x hx => ?_⟩, _, rfl⟩
    · unfold Rising
      rw [List.pairwise_append]
      exact ⟨L.1, List.pairwise_singleton _ _, fun a ha c hc => by rw [List.mem_singleton.mp hc]; exact L.2 a ha⟩
    · rcases List.mem_append.mp hx with hx | hx
      · exact Nat.lt_succ_of_lt (L.2 x hx)
      · rw [List.mem_singleton.mp hx]; exact Nat.lt_succ_self _
  · subst e
    rintro Γ ⟨l, L, hh⟩
    rw [dI_len, List.length_range] at L
    exact ⟨l, L, hh⟩
  obtain ⟨l, L, s5, rfl⟩ := e
  have hll := L.len
  refine wp_seq (N1 := fun Γ => Γ = [.row, .val (dB B.b), .val (.int (B.h : Int)), .val (.int (B.w : Int)), .val (.tuple (dI l)), s5, .val (.list (dI (l.filter fun x => decide (x < B.h))))]) (wp_setD (ev_lcN l (fun x => decide (x < B.h)) (ei_tupD ev_var) (by omega) fun x hx => et_test (ev_op ev_var ev_var rv_ltN)) rfl) fun Γ e => ?_
  subst e
  have hfl := List.length_filter_le (fun x => decide (x < B.h)) l
  refine wp_seq (N1 := fun Γ => ((l.filter fun x => decide (x < B.h)).length ≠ B.h ∧ l.length - (l.filter fun x => decide (x < B.h)).length ≠ B.w) ∧ Γ = [.row, .val (dB B.b), .val (.int (B.h : Int)), .val (.int (B.w : Int)), .val (.tuple (dI l)), s5, .val (.list (dI (l.filter fun x => decide (x < B.h))))]) (wp_if (b := decide ((l.filter fun x => decide (x < B.h)).length = B.h) || decide (l.length - (l.filter fun x => decide (x < B.h)).length = B.w)) (et_or (a := decide ((l.filter fun x => decide (x < B.h)).length = B.h)) (et_test (Ev.to (ev_op (Ev.to (ev_lenL ev_var) (by rw [dI_len])) ev_var rv_eqI) ?_)) (fun e => et_test (Ev.to (ev_op (ev_op (Ev.to (ev_lenT ev_var) (by rw [dI_len])) (Ev.to (ev_lenL ev_var) (by rw [dI_len])) rv_I) ev_var rv_eqI) ?_)) (fun e => by rw [e]; rfl)) (fun e => ?_) fun e => wp_next ⟨?_, rfl⟩) fun Γ e => ?_
  · congr 1
    by_cases c : (l.filter fun x => decide (x < B.h)).length = B.h
    · rw [decide_eq_true c, decide_eq_true (by omega)]
    · rw [decide_eq_false c, decide_eq_false (by omega)]
  · rw [e, Bool.false_or]
    congr 1
    by_cases c : l.length - (l.filter fun x => decide (x < B.h)).length = B.w
    · rw [decide_eq_true c, decide_eq_true (by omega)]
    · rw [decide_eq_false c, decide_eq_false (by omega)]
  · exact wp_retD ev_T0 ⟨[], ⟨.nil, fun x hx => (by cases hx), ⟨⟨0, by omega, by simp⟩, ⟨B.h, by omega, by omega, by simp⟩⟩⟩, rfl⟩
  · rw [Bool.or_eq_false_iff] at e
    exact ⟨of_decide_eq_false e.1, of_decide_eq_false e.2⟩
  · obtain ⟨⟨c1, c2⟩, rfl⟩ := e
    exact wp_retD ev_var ⟨l, ⟨L.1, L.2, left_of_counts L.1 L.2 c1 c2⟩, rfl⟩
end K23

set_option Elab.async false
set_option linter.all false
set_option maxRecDepth 100000
set_option maxHeartbeats 4000000
namespace K23
open PySem PySem.Spec PyProof.Rows L2
/-! ### _law_alike: the same data told twice -/
def dep : Nat → PyData → Prop
  | 0, _ => False
  | n + 1, d => d = .none ∨ (∃ i, d = .int i) ∨ ∃ ds, d = .tuple ds ∧ ds.length ≤ 1000 ∧ ∀ e ∈ ds, dep n e
abbrev E__law_alike : PyData → List PyData := fun d => [d, d]
abbrev V__law_alike : PyData → PyData := fun _ => .bool true
abbrev SP__law_alike (n : Nat) : Sp := spF E__law_alike (dep n) V__law_alike
theorem def0 {P : Program} {w : World} {K : PySem.W.Frag} {mg : Str → Option Value} {base : Heap} {x : Str} {st : Stmt} {ps : List Str} {sp : Sp} (F : FnAt K mg x st ps) (no : ∀ vs H Q E, ¬ sp vs H Q E) (k : Nat) : Def P w K mg base k x ps sp := by
  obtain ⟨f, fd, h1, h2, h3⟩ := F.ex
  exact ⟨f, fd, h1, h2.kp, h3, fun vs H Q E h => (no _ _ _ _ h).elim, fun A outer s H args us vs Q E _ _ _ _ h => (no _ _ _ _ h).elim⟩
/-! slots [(0, '_law_found'), (1, '_law_due'), (2, '_law_k')] -/
abbrev N__law_alike : List Str := ["_law_found", "_law_due", "_law_k"]
theorem sc__law_alike : FnScope N__law_alike ["_law_found", "_law_due"] (defScope s_law_alike) := ⟨rfl, rfl, rfl, by decide +kernel, rfl, by decide +kernel, by decide +kernel⟩
theorem step__law_alike {P : Program} {w : World} {K : PySem.W.Frag} {mg : Str → Option Value} {base : Heap} {n : Nat} (T : Txt mg) (F : FnAt K mg "_law_alike" s_law_alike ["_law_found", "_law_due"]) (D__law_alike : Def P w K mg base n "_law_alike" ["_law_found", "_law_due"] (SP__law_alike n)) : Def P w K mg base (n + 1) "_law_alike" ["_law_found", "_law_due"] (SP__law_alike (n + 1)) := by
  refine F.ok sc__law_alike (fun vs H Q E h => spF_len (n := 2) (fun _ => rfl) h) (fun f cdv A outer s H vs Q E hr h => ⟨_, (pss_cons (ps_if (pt_val (pe_callB (isiTK (K := K) rfl) (by rfl) T.isinstance (by decide +kernel) (pa_cons (pv 1) (pa_cons (pe_tup (pa_cons (pe_bltn (v := .ty "tuple") (by rfl) T.tuple boot_tuple rfl) (pa_cons (pe_bltn (v := .ty "list") (by rfl) T.list boot_list rfl) pa_nil))) pa_nil)))) (pss_cons (ps_if (PW.pt (pw_or (pt_not (pt_val (pe_callB (isiTK (K := K) rfl) (by rfl) T.isinstance (by decide +kernel) (pa_cons (pv 0) (pa_cons (pe_tup (pa_cons (pe_bltn (v := .ty "tuple") (by rfl) T.tuple boot_tuple rfl) (pa_cons (pe_bltn (v := .ty "list") (by rfl) T.list boot_list rfl) pa_nil))) pa_nil))))) (pw_or1 (pt_cmpR op_ne (pe_callB (isiK (K := K) rfl) (by rfl) T.isinstance (by decide +kernel) (pa_cons (pv 0) (pa_cons (pe_bltn (v := .ty "list") (by rfl) T.list boot_list rfl) pa_nil))) (pe_callB (isiK (K := K) rfl) (by rfl) T.isinstance (by decide +kernel) (pa_cons (pv 1) (pa_cons (pe_bltn (v := .ty "list") (by rfl) T.list boot_list rfl) pa_nil))) (nomark _))))) (pss_one (ps_ret pe_bl)) pss_nil)
      (pss_cons (ps_if (pt_cmpR op_ne (pe_callB (lenK (K := K) rfl) (by rfl) T.len PySem.boot_len (pa_cons (pv 0) pa_nil)) (pe_callB (lenK (K := K) rfl) (by rfl) T.len PySem.boot_len (pa_cons (pv 1) pa_nil)) (nomark _)) (pss_one (ps_ret pe_bl)) pss_nil)
      (pss_one (ps_ret (pe_cmpR (eqDK (K := K) rfl hr.units) (pe_lc (own := [("_law_k", 2)]) (g := gName 2) rfl sc__law_alike.nd (pi_range1 (by rfl) T.range (pa_cons (pe_callB (lenK (K := K) rfl) (by rfl) T.len PySem.boot_len (pa_cons (pv 1) pa_nil)) pa_nil)) (blkOk_by (own := [("_law_k", 2)]) (N := N__law_alike) (sc := defScope s_law_alike) (by decide +kernel)) (fun _ _ _ _ _ => pg_name (i := 2) sc__law_alike.nd rfl (Or.inl rfl)) (fun _ _ _ _ _ => pts_one (pt_not (pt_val (pe_def D__law_alike hr (by rfl) (pa_cons (pe_ix (ixTK (K := K) rfl) (pv 0) (pv 2) (fun _ _ => rfl)) (pa_cons (pe_ix (ixTK (K := K) rfl) (pv 1) (pv 2) (fun _ _ => rfl)) pa_nil)))))) (fun _ _ _ _ _ => (pv 2))) (pe_lst pa_nil) (nomark _)))))) pss_nil)
      (pss_cons (ps_if (PW.pt (pw_or (pt_cmpR op_isN (pv 1) pe_non (nomark _)) (pw_or1 (pt_val (pe_callB (isiK (K := K) rfl) (by rfl) T.isinstance (by decide +kernel) (pa_cons (pv 1) (pa_cons (pe_bltn (v := .ty "str") (by rfl) T.str boot_str rfl) pa_nil))))))) (pss_one (ps_ret (pe_and (pe_cmpR op_eq (pv 0) (pv 1) (nomark _)) (pe_one (pe_cmpR op_eq (pe_callB (isiK (K := K) rfl) (by rfl) T.isinstance (by decide +kernel) (pa_cons (pv 0) (pa_cons (pe_bltn (v := .ty "str") (by rfl) T.str boot_str rfl) pa_nil))) (pe_callB (isiK (K := K) rfl) (by rfl) T.isinstance (by decide +kernel) (pa_cons (pv 1) (pa_cons (pe_bltn (v := .ty "str") (by rfl) T.str boot_str rfl) pa_nil))) (nomark _)))))) pss_nil)
      (pss_one (ps_ret (pe_and (pe_callB (isiK (K := K) rfl) (by rfl) T.isinstance (by decide +kernel) (pa_cons (pv 0) (pa_cons (pe_bltn (v := .ty "int") (by rfl) T.int boot_int rfl) pa_nil))) (pe_and (pe_cmpR op_eq (pe_callB (isiK (K := K) rfl) (by rfl) T.isinstance (by decide +kernel) (pa_cons (pv 0) (pa_cons (pe_bltn (v := .ty "bool") (by rfl) T.bool boot_bool rfl) pa_nil))) (pe_callB (isiK (K := K) rfl) (by rfl) T.isinstance (by decide +kernel) (pa_cons (pv 1) (pa_cons (pe_bltn (v := .ty "bool") (by rfl) T.bool boot_bool rfl) pa_nil))) (nomark _)) (pe_one (pe_cmpR op_eq (pv 0) (pv 1) (nomark _))))))))), body_ok (K := K) 1 (fun _ => rfl) (fun a hp => ?_) h⟩)
  have G0 : start0 (E__law_alike a) 1 = [.val a, .val a, .no] := rfl
  rw [G0]
  rcases hp with rfl | ⟨i, rfl⟩ | ⟨ds, rfl, hl, hds⟩
  · refine wp_seq (N1 := fun Γ => Γ = [.val .none, .val .none, .no]) (wp_no (et_B (Ev.to (ev_isT "NoneType" false false ev_var (by decide +kernel) (by decide +kernel)) rfl)) (wp_next rfl)) fun Γ e => ?_
    subst e
    refine wp_seq (N1 := fun Γ => False) (wp_yes (et_or (a := true) (b := true) (et_test (ev_op ev_var ev_non (rv_isN rfl))) (fun e => by cases e) (fun e => e)) (wp_retD (ev_andV (a := true) (b := true) (ev_op ev_var ev_var rv_eqN) (fun _ => ev_op (ev_is "NoneType" false ev_var (by decide +kernel)) (ev_is "NoneType" false ev_var (by decide +kernel)) rv_eqB) (fun e => e)) rfl)) fun Γ e => e.elim
  · refine wp_seq (N1 := fun Γ => Γ = [.val (.int i), .val (.int i), .no]) (wp_no (et_B (Ev.to (ev_isT "int" false false ev_var (by decide +kernel) (by decide +kernel)) rfl)) (wp_next rfl)) fun Γ e => ?_
    subst e
    refine wp_seq (N1 := fun Γ => Γ = [.val (.int i), .val (.int i), .no]) (wp_no (et_or (a := false) (b := false) (et_test (ev_op ev_var ev_non (rv_isN rfl))) (fun _ => et_B (ev_is "int" false ev_var (by decide +kernel))) (fun e => e)) (wp_next rfl)) fun Γ e => ?_
    subst e
    exact wp_retD (ev_andV (a := true) (b := true) (ev_is "int" true ev_var (by decide +kernel)) (fun _ => ev_andV (a := true) (b := true) (ev_op (ev_is "int" false ev_var (by decide +kernel)) (ev_is "int" false ev_var (by decide +kernel)) rv_eqB) (fun _ => Ev.to (ev_op ev_var ev_var rv_eqI) (by simp)) (fun e => e)) (fun e => e)) rfl
  · refine wp_seq (N1 := fun Γ => False) (wp_yes (et_B (Ev.to (ev_isT "tuple" true false ev_var (by decide +kernel) (by decide +kernel)) rfl)) ?_) fun Γ e => e.elim
    refine wp_seq (N1 := fun Γ => Γ = [.val (.tuple ds), .val (.tuple ds), .no]) (wp_no (et_or (a := false) (b := false) (et_not (a := true) (et_B (Ev.to (ev_isT "tuple" true false ev_var (by decide +kernel) (by decide +kernel)) rfl))) (fun _ => et_test (Ev.to (ev_op (ev_is "tuple" false ev_var (by decide +kernel)) (ev_is "tuple" false ev_var (by decide +kernel)) rv_neB) rfl)) (fun e => e)) (wp_next rfl)) fun Γ e => ?_
    subst e
    refine wp_seq (N1 := fun Γ => Γ = [.val (.tuple ds), .val (.tuple ds), .no]) (wp_no (et_test (Ev.to (ev_op (ev_lenT ev_var) (ev_lenT ev_var) rv_neI) (by simp))) (wp_next rfl)) fun Γ e => ?_
    subst e
    refine wp_retD (Ev.to (ev_op (ev_lcN (List.range ds.length) (fun _ => false) (ei_rangeN (ea_c (ev_lenT ev_var) ea_nil) (by omega)) (by rw [List.length_range]; omega) fun i hi => et_not (a := true) (et_B ?_)) ev_L0 rv_eqLI) ?_) rfl
    · have hi : i < ds.length := List.mem_range.mp hi
      exact ev_call (enc := E__law_alike) (f := V__law_alike) ds[i] (ea_c (ev_op ev_var ev_var (rv_ixT (atI_of rfl (List.getElem?_eq_getElem hi)))) (ea_c (ev_op ev_var ev_var (rv_ixT (atI_of rfl (List.getElem?_eq_getElem hi)))) ea_nil)) (hds _ (List.getElem_mem hi))
    · have : (List.range ds.length).filter (fun _ => false) = [] := List.filter_eq_nil_iff.mpr fun _ _ => by simp
      rw [this, decide_eq_true rfl]
theorem ok__law_alike {P : Program} {w : World} {K : PySem.W.Frag} {mg : Str → Option Value} {base : Heap} (T : Txt mg) (F : FnAt K mg "_law_alike" s_law_alike ["_law_found", "_law_due"]) : ∀ n, Def P w K mg base n "_law_alike" ["_law_found", "_law_due"] (SP__law_alike n)
  | 0 => def0 F (fun vs H Q E ⟨_, _, _, _, h, _⟩ => h) 0
  | n + 1 => step__law_alike T F (ok__law_alike T F n)
theorem dep_ints {l : List Nat} (hl : l.length ≤ 1000) (n : Nat) : dep (n + 2) (.tuple (dI l)) := .inr (.inr ⟨_, rfl, by rw [dI_len]; exact hl, fun e he => by
  obtain ⟨x, _, rfl⟩ := List.mem_map.mp he
  exact .inr (.inl ⟨_, rfl⟩)⟩)
theorem partsL_head (l : List Nat) : ∃ r, partsL l = [] :: r := by
  refine snoc_ind (p := fun l => ∃ r, partsL l = [] :: r) ⟨[], rfl⟩ (fun l x ih => ?_) l
  obtain ⟨r, e⟩ := ih
  rw [partsL_snoc, e]
  exact ⟨_, rfl⟩
/-! ### _law_parts: slots 0 _law_some, 1 _law_found, 2 _law_line, 3 _law_lot_here -/
abbrev N__law_parts : List Str := ["_law_some", "_law_found", "_law_line", "_law_lot_here"]
theorem sc__law_parts : FnScope N__law_parts ["_law_some"] (defScope s_law_parts) := ⟨rfl, rfl, rfl, by decide +kernel, rfl, by decide +kernel, by decide +kernel⟩
abbrev E__law_parts : (List Nat) → List PyData := fun l => [.list (dI l)]
abbrev R__law_parts : (List Nat) → Prop := fun l => l.length ≤ 12
abbrev V__law_parts : (List Nat) → PyData := fun l => .list (((partsL l).mergeSort uleL).map fun m => .tuple (dI m))
abbrev SP__law_parts : Sp := spF E__law_parts R__law_parts V__law_parts
theorem ok__law_parts {P : Program} {w : World} {K : PySem.W.Frag} {mg : Str → Option Value} {base : Heap} (T : Txt mg) (F : FnAt K mg "_law_parts" s_law_parts ["_law_some"]) : Def P w K mg base 2 "_law_parts" ["_law_some"] SP__law_parts := by
  refine F.ok sc__law_parts (fun vs H Q E h => spF_len (n := 1) (fun _ => rfl) h) (fun f cdv A outer s H vs Q E hr h => ⟨_, (pss_cons (ps_set (i := 1) sc__law_parts.nd rfl (Or.inl rfl) (pe_lst (pa_cons (pe_tup pa_nil) pa_nil)))
      (pss_cons (ps_for PassesOwn.never rfl (listI (K := K) rfl (pv 0)) (pg_name (i := 2) sc__law_parts.nd rfl (Or.inr rfl)) (pss_one (ps_set (i := 1) sc__law_parts.nd rfl (Or.inl rfl) (pe_op op_cat (pv 1) (pe_lc (own := [("_law_lot_here", 3)]) (tt := tYes) (g := gName 3) rfl sc__law_parts.nd (listI (K := K) rfl (pv 1)) (blkOk_by (own := [("_law_lot_here", 3)]) (N := N__law_parts) (sc := defScope s_law_parts) (by decide +kernel)) (fun _ _ _ _ _ => pg_name (i := 3) sc__law_parts.nd rfl (Or.inl rfl)) (fun _ _ _ _ _ => pts_nil) (fun _ _ _ _ _ => (pe_op (catK (K := K) rfl) (pv 3) (pe_tup (pa_cons (pv 2) pa_nil)))))))))
      (pss_one (ps_ret (pe_callB (sortedUK (K := K) rfl hr.units) (by rfl) T.sorted (by decide +kernel) (pa_cons (pv 1) pa_nil)))))), body_ok (K := K) 3 (fun _ => rfl) (fun a hp => ?_) h⟩)
  have hl : a.length ≤ 12 := hp
  have G0 : start0 (E__law_parts a) 3 = [.val (.list (dI a)), .no, .no, .no] := rfl
  rw [G0]
  refine wp_seq (N1 := fun Γ => Γ = [.val (.list (dI a)), .val (.list ((partsL (a.take 0)).map fun m => .tuple (dI m))), .no, .no]) (wp_setD (ev_lst (ea_c ev_T0 ea_nil) (by simp)) rfl) fun Γ e => ?_
  subst e
  refine wp_seq (N1 := fun Γ => ∃ s t, Γ = [.val (.list (dI a)), .val (.list ((partsL a).map fun m => .tuple (dI m))), s, t]) (wp_for (ei_listD ev_var) fun items e => ⟨fun k Γ => k ≤ a.length ∧ ∃ s t, Γ = [.val (.list (dI a)), .val (.list ((partsL (a.take k)).map fun m => .tuple (dI m))), s, t], ⟨Nat.zero_le _, .no, .no, rfl⟩, ?_, ?_⟩) fun Γ e => ?_
  · subst e
    rintro k y Γ hy ⟨hk, s, t, rfl⟩
    obtain ⟨x, hx, rfl⟩ := dI_at hy
    have hk1 : k < a.length := (List.getElem?_eq_some_iff.mp hx).1
    have htl : (a.take k).length = k := by rw [List.length_take]; omega
    have p12 : 2 ^ k ≤ 4096 := pow12 (by omega)
    refine ⟨_, tgs_name, wp_setD (Ev.to (ev_op ev_var (ev_lcm (l := partsL (a.take k)) (enc := fun m => .tuple (dI m)) (fun m => .tuple (dI (m ++ [x]))) (ei_listD ev_var) (by rw [partsL_len, htl]; omega) fun m hm => Ev.to (ev_op ev_var (Ev.to (ev_tup (ea_c ev_var ea_nil) (by simp)) (e := .tuple (dI [x])) rfl) (rv_catT (by rw [dI_len, dI_len]; have := (mem_partsL.mp hm).length_le; show m.length + 1 ≤ _; omega))) (by rw [dI_app])) (rv_cat ?_)) ?_) ⟨hk1, _, _, rfl⟩⟩
    · rw [List.length_map, List.length_map, partsL_len, htl]; omega
    · rw [partsL_take hx, List.map_append, List.map_map]; rfl
  · subst e
    rintro Γ ⟨_, s, t, rfl⟩
    rw [dI_len, List.take_length]
    exact ⟨s, t, rfl⟩
  · obtain ⟨s, t, rfl⟩ := e
    have p12 : 2 ^ a.length ≤ 4096 := pow12 hl
    exact wp_retD (ev_sortedU (lots := partsL a) ev_var (partsL_head a) (by rw [partsL_len]; omega)) rfl

end K23

set_option Elab.async false
set_option linter.all false
set_option maxRecDepth 100000
set_option maxHeartbeats 4000000
/-! Dicts whose keys are tuples of ints: the display of one pair, != {}. -/
namespace K23
open PySem PySem.Spec PyProof.Rows L2
def tDispT (tk tv : TE) : TE := fun σ H Q => ∀ p, H p = none → tk σ (upd H p (.dT [])) fun x H1 => tv σ H1 fun v H2 => H2 p = some (.dT []) ∧ ∃ (k : List L2.Key) (b : Addr), x = .ref b ∧ H2 b = some (.tup (k.map kV)) ∧ Q (.ref p) (upd H2 p (.dT [(k, v)]))
theorem pe_dispT {X : Cx} {pos : Pos} {ek ev : Expr} {tk tv : TE} (hk : PE X ek tk) (hv : PE X ev tv) (hu : X.A.units + 64 < cLine) : PE X (.Dict [some ek] [ev] pos) (tDispT tk tv) := by
  refine ⟨fun pins s σ H Q I q => ?_⟩
  have hn := I.hok.fresh (Nat.le_refl s.heap.objs.size)
  have I1 := I.laid (a := s.heap.objs.size) (o := .dT []) (h' := s.heap.push { cls := .type "dict", data := .dict #[] }) (t' := s.toks) (fun _ _ q => Heap.get?_push_of_some _ q) (Nat.le_refl _) (dt_empty s.heap I.big)
  rw [arm_eval_Dict, zip_pairTrees [some ek] [ev] X.env pos rfl rfl, dictDisplay_pairs (pairTrees [some ek] [ev] X.env pos) (by
    intro e
    have := pairTrees_length [some ek] [ev] X.env pos rfl rfl
    rw [e] at this; cases this) (by rw [pairTrees_length _ _ _ _ rfl rfl]; show 1 < 17; decide)]
  refine wpAny_bind (wpAny_standAt (wpAny_bind (wpAny_subDictH (knd := tupleKind (mixKind X.prog X.w)) (by show X.A.units < cLine; omega) (by rw [pairTrees_length _ _ _ _ rfl rfl]; show 1 ≤ 15; decide) ?_)))
  refine thn ((pps_cons hk hv pps_nil).run pins _ σ _ (fun ps H2 => H2 s.heap.objs.size = some (.dT []) ∧ ∃ (k : List L2.Key) (b : Addr) (v : V), ps = [(.ref b, v)] ∧ H2 b = some (.tup (k.map kV)) ∧ Q (.ref s.heap.objs.size) (upd H2 s.heap.objs.size (.dT [(k, v)]))) I1 ?_) fun ws s2 ⟨ps, H2, I2, rel, e, k, b, v, ep, eb, q2⟩ => ?_
  · have h0 := q _ hn
    have key : ∀ {t : TE} {σ : L2.St} {H : Hp} {Q Q' : VK}, Q = Q' → t σ H Q → t σ H Q' := fun {t σ H Q Q'} e h => e ▸ h
    refine key ?_ h0
    funext x H1
    refine propext ⟨fun h => key ?_ h, fun h => key ?_ h⟩
    · funext v H2
      refine propext ⟨fun ⟨a, k, b, c, d, f⟩ => ⟨a, k, b, v, by rw [c], d, f⟩, fun ⟨a, k, b, v', c, d, f⟩ => ?_⟩
      have c' : x = .ref b ∧ v = v' := by simpa using c
      obtain ⟨c1, c2⟩ := c'
      subst c2
      exact ⟨a, k, b, c1, d, f⟩
    · funext v H2
      refine propext ⟨fun ⟨a, k, b, v', c, d, f⟩ => ?_, fun ⟨a, k, b, c, d, f⟩ => ⟨a, k, b, v, by rw [c], d, f⟩⟩
      have c' : x = .ref b ∧ v = v' := by simpa using c
      obtain ⟨c1, c2⟩ := c'
      subst c2
      exact ⟨a, k, b, c1, d, f⟩
  · subst ep
    cases rel with
    | @cons p w ps ws hr ht =>
      cases ht
      obtain ⟨w1, w2⟩ := w
      obtain ⟨r1, r2⟩ := hr
      cases (show w1 = Value.ref b from r1)
      obtain ⟨z, hd, xs, rk, dd⟩ := dt_of I2.hok e
      cases rk
      refine ⟨[(k, b, w2)], ⟨rfl, rfl, key_of I2.hok eb, trivial⟩, dd, fun h' tk dd' hs => wpAny_pure ?_⟩
      obtain ⟨o, es, ep, ho, h2, h3, h4, _, h5⟩ := dd'
      have nb : b ≠ s.heap.objs.size := fun z => by rw [z, e] at eb; cases eb
      refine ⟨.ref s.heap.objs.size, _, d_write (ob := .dT [(k, v)]) I2 (by rw [e]; exact True.intro) hs ⟨o, ho⟩ ⟨by show 1 ≤ sizeLine; rw [sizeLine_eq]; omega, hd, [(k, b, w2)], .cons ⟨rfl, by rw [upd_ne nb]; exact eb, r2⟩ .nil, o, es, ep, ho, h2, h3, h4, h5⟩, rfl, q2⟩
def rNeDT : R2 := fun x y H Q => ∃ (a b : Addr) (ka : List (List L2.Key × V)), x = .ref a ∧ y = .ref b ∧ H a = some (.dT ka) ∧ H b = some (.dT []) ∧ Q (.bl (!ka.isEmpty)) H
theorem op_neDT {X : Cx} (hu : X.A.units + 64 < cLine) : OpR X (compareOp .NotEq) rNeDT := by
  intro pins s σ H x y v u Q I rx ry h
  obtain ⟨a, b, ka, rfl, rfl, ea, eb, q⟩ := h
  cases (show v = Value.ref a from rx)
  cases (show u = Value.ref b from ry)
  obtain ⟨_, ha, xs, rk, oa, es, epa, hoa, hxa, hda, hesa, _, _⟩ := dt_of I.hok ea
  obtain ⟨_, hb, ys, rk', ob, es', epb, hob, hxb, hdb, hesb, _, _⟩ := dt_of I.hok eb
  cases rk'
  have l1 : es.size = ka.length := by
    have h1 := size_of_entries hesa
    have h2 : ka.length = xs.length := Paired.length rk
    omega
  have l2 : es'.size = 0 := by have := size_of_entries hesb; simpa using this
  have ta : s.TypeIs (.ref a) "dict" := ⟨oa, hoa, hxa.1⟩
  have tb : s.TypeIs (.ref b) "dict" := ⟨ob, hob, hxb.1⟩
  show wpAny _ _ (richCompare .NotEq (.ref a) (.ref b)) _ _ _
  refine wpAny_richCompare_same_room (op := .NotEq) ta tb PySem.F.slot_dict_ne (wpAny_call_entry PySem.F.slot_dict_ne ta PySem.F.entry_dict_ne ?_ (PySem.F.args_dict_ne_2 _ _)) (by omega)
  show wpAny _ _ (Builtin.Dict.dictSlotArgs "__ne__" ⟨[.ref a, .ref b], []⟩ >>= _) _ _ s
  refine wpAny_bind ?_
  unfold Builtin.Dict.dictSlotArgs
  refine wpAny_bind (wpAny_notOrdered_dict ta ?_)
  show wpAny _ _ (pure (Value.ref a, Value.ref b)) _ _ s
  refine wpAny_pure ?_
  refine wpAny_bind (wpAny_isInstance (T := "dict") tb PySem.F.sub_dict_dict ?_)
  simp only [Bool.not_true, Bool.false_eq_true, if_false]
  refine wpAny_bind (wpAny_pure (wpAny_bind (wpAny_pure ?_)))
  have fin : ∀ r : Bool, r = ka.isEmpty → wpAny (model X.prog X.w) X.A.in1 (Builtin.Dict.samePairs "dict.__ne__" a b) (fun r' s' => s' = s ∧ r' = r) X.xe s := fun r er => by
    unfold Builtin.Dict.samePairs Builtin.Dict.showsAll
    rw [if_neg (show ¬ (a == sysModules) = true by rw [ha]; exact Bool.false_ne_true), if_neg (show ¬ (b == sysModules) = true by rw [hb]; exact Bool.false_ne_true)]
    refine wpAny_bind (wpAny_pure (wpAny_bind (wpAny_pure ?_)))
    refine wpAny_bind (wpAny_dictEntries hoa hda ?_)
    dsimp only
    refine wpAny_bind (wpAny_dictEntries hob hdb ?_)
    by_cases hsz : es.size = es'.size
    · rw [if_neg (by rw [hsz]; simp)]
      refine wpAny_bind (wpAny_dictEpoch hoa hda ?_)
      have e0 : es.size = 0 := by omega
      rw [e0]
      have : ka = [] := List.length_eq_zero_iff.mp (by omega)
      refine wpAny_bind ?_
      rw [Std.Legacy.Range.forIn_eq_forIn_range']
      simp only [Std.Legacy.Range.size, Nat.sub_zero, Nat.add_sub_cancel, Nat.div_one]
      refine wpAny_pure (wpAny_pure ⟨rfl, ?_⟩)
      rw [er, this]; rfl
    · rw [if_pos (by simpa using hsz)]
      refine wpAny_bind (wpAny_rule (wpAny_pure ⟨rfl, ?_⟩))
      rw [er]
      cases ka with
      | nil => exfalso; apply hsz; rw [l1, l2]; rfl
      | cons p ps => rfl
  refine wpAny_bind (wpAny_mono (fin _ rfl) (fun r' s' h => ?_) fun _ _ e => e)
  obtain ⟨rfl, rfl⟩ := h
  refine wpAny_pure ⟨_, rfl, ?_, ?_⟩
  · exact fun x => nomatch x
  · have : (ka.isEmpty == false) = !ka.isEmpty := by cases ka.isEmpty <;> rfl
    rw [this]
    exact ⟨.bl _, H, I, rfl, q⟩
end K23

set_option linter.all false
set_option Elab.async false
/-! All lots that come, level by level; the greatest of them. -/
namespace K23
section
variable {n : Nat} {R : List Nat → Nat → Prop}
structure Bfs (n : Nat) (R : List Nat → Nat → Prop) (k : Nat) (fl el : List (List Nat)) : Prop where
  fn : fl.Nodup
  en : el.Nodup
  e : ∀ m, m ∈ el ↔ Comes n R (fun _ => True) m ∧ m.length = k
  f : ∀ m, m ∈ fl ↔ Comes n R (fun _ => True) m ∧ m.length ≤ k
theorem bfs_start : Bfs n R 0 [[]] [[]] := by
  refine ⟨List.nodup_cons.mpr ⟨by simp, .nil⟩, List.nodup_cons.mpr ⟨by simp, .nil⟩, fun m => ?_, fun m => ?_⟩ <;>
  · rw [List.mem_singleton]
    constructor
    · rintro rfl; exact ⟨.nil, by simp⟩
    · rintro ⟨_, h⟩; exact List.length_eq_zero_iff.mp (by omega)
theorem comes_back {m : List Nat} {k : Nat} (c : Comes n R (fun _ => True) m) (h : m.length = k + 1) : ∃ L x, Comes n R (fun _ => True) L ∧ L.length = k ∧ x < n ∧ x ∉ L ∧ R L x ∧ m = srt (L ++ [x]) := by
  cases c with
  | nil => simp at h
  | @step L x c hx hn hw hr => exact ⟨L, x, c, by rw [len_with] at h; omega, hx, hn, hr, rfl⟩
theorem bfs_next {k : Nat} {fl el fl' ll : List (List Nat)} (b : Bfs n R k fl el) (ln : ll.Nodup) (hl : ∀ m, m ∈ ll ↔ ∃ lot ∈ el, ∃ x, (x < n ∧ x ∉ lot ∧ R lot x) ∧ m = srt (lot ++ [x])) (fn : fl'.Nodup) (hf : ∀ m, m ∈ fl' ↔ m ∈ fl ∨ m ∈ ll) : Bfs n R (k + 1) fl' ll := by
  have e : ∀ m, m ∈ ll ↔ Comes n R (fun _ => True) m ∧ m.length = k + 1 := fun m => by
    rw [hl]
    constructor
    · rintro ⟨lot, h1, x, ⟨h2, h3, h4⟩, rfl⟩
      obtain ⟨c, h5⟩ := (b.e lot).mp h1
      exact ⟨.step c h2 h3 trivial h4, by rw [len_with, h5]⟩
    · rintro ⟨c, h⟩
      obtain ⟨L, x, c', h1, h2, h3, h4, rfl⟩ := comes_back c h
      exact ⟨L, (b.e L).mpr ⟨c', h1⟩, x, ⟨h2, h3, h4⟩, rfl⟩
  refine ⟨fn, ln, e, fun m => ?_⟩
  rw [hf, b.f, e]
  constructor
  · rintro (⟨c, h⟩ | ⟨c, h⟩) <;> exact ⟨c, by omega⟩
  · rintro ⟨c, h⟩
    by_cases z : m.length ≤ k
    · exact .inl ⟨c, z⟩
    · exact .inr ⟨c, by omega⟩
theorem bfs_end {k : Nat} {fl : List (List Nat)} (b : Bfs n R k fl []) (m : List Nat) : m ∈ fl ↔ Comes n R (fun _ => True) m := by
  have no : ∀ j m, Comes n R (fun _ => True) m → m.length ≠ k + j := by
    intro j
    induction j with
    | zero =>
      intro m c h
      have := (b.e m).mpr ⟨c, h⟩
      cases this
    | succ j ih =>
      intro m c h
      obtain ⟨L, x, c', h1, _⟩ := comes_back (k := k + j) c (by omega)
      exact ih L c' h1
  rw [b.f]
  constructor
  · exact fun h => h.1
  · intro c
    refine ⟨c, ?_⟩
    rcases Nat.lt_or_ge k m.length with h | h
    · exact absurd (by omega) (no (m.length - k) m c)
    · exact h
theorem bfs_k {k : Nat} {fl el : List (List Nat)} (b : Bfs n R k fl el) (h : el ≠ []) : k ≤ n := by
  obtain ⟨m, hm⟩ := List.exists_mem_of_ne_nil _ h
  obtain ⟨c, e⟩ := (b.e m).mp hm
  rw [← e]; exact c.ln.len
theorem ln_sub {l : List Nat} (h : Ln n l) : l.Sublist (List.range n) := by
  have : l = (List.range n).filter fun x => l.contains x := rising_ext h.1 (rising_filter _ (rising_range n)) fun x => by
    rw [List.mem_filter, List.mem_range]
    simp
    exact h.2 x
  rw [this]; exact List.filter_sublist
theorem lots_len {ls : List (List Nat)} (nd : ls.Nodup) (h : ∀ m ∈ ls, Ln n m) : ls.length ≤ 2 ^ n := by
  have := List.Nodup.length_le_of_subset nd (l₂ := partsL (List.range n)) fun m hm => mem_partsL.mpr (ln_sub (h m hm))
  rwa [partsL_len, List.length_range] at this
/-- the greatest lot -/
theorem done_longest {M L : List Nat} (K : Keeps n R) (d : Done n R (fun _ => True) M) (c : Comes n R (fun _ => True) L) : L.length ≤ M.length ∧ (L.length = M.length → L = M) := by
  have sub := d.most K c
  have le := List.Nodup.length_le_of_subset c.rising.nodup sub
  refine ⟨le, fun e => rising_ext c.rising d.1.rising fun x => ⟨sub x, fun hx => Classical.byContradiction fun nx => ?_⟩⟩
  have := List.Nodup.length_le_of_subset (List.nodup_cons.mpr ⟨nx, c.rising.nodup⟩) (l₂ := M) fun y hy => by
    rcases List.mem_cons.mp hy with rfl | hy
    · exact hx
    · exact sub y hy
  rw [List.length_cons] at this
  omega
end
/-- a key put among keys -/
def addL (ls : List (List Nat)) (m : List Nat) : List (List Nat) := if m ∈ ls then ls else ls ++ [m]
theorem mem_addL {ls : List (List Nat)} {m x : List Nat} : x ∈ addL ls m ↔ x ∈ ls ∨ x = m := by
  unfold addL
  split
  · rename_i h
    exact ⟨.inl, fun z => z.elim id fun e => e ▸ h⟩
  · rw [List.mem_append, List.mem_singleton]
theorem addL_nodup {ls : List (List Nat)} {m : List Nat} (h : ls.Nodup) : (addL ls m).Nodup := by
  unfold addL
  split
  · exact h
  · rename_i nm
    rw [List.nodup_append]
    exact ⟨h, List.nodup_cons.mpr ⟨by simp, .nil⟩, fun a ha b hb e => by rw [List.mem_singleton] at hb; rw [e, hb] at ha; exact nm ha⟩
end K23

set_option linter.all false
set_option Elab.async false
set_option maxRecDepth 100000
/-! The lots by their length, then by their order: two ways. -/
namespace K23
open PySem PySem.Spec PyProof.Rows L2
theorem toks_inj : ∀ {l m : List Nat}, PySem.W.keyToksAll (dI l) = PySem.W.keyToksAll (dI m) → l = m
  | [], [], _ => rfl
  | [], y :: m, h => by
    have h' : [Sum.inl (0 : Int)] = (Sum.inl 1 :: (PySem.W.keyToks (.int (y : Int)) ++ PySem.W.keyToksAll (dI m)) : List (Int ⊕ List Nat)) := h
    injection h' with h1 _
    exact absurd (Sum.inl.inj h1) (by decide)
  | x :: l, [], h => by
    have h' : (Sum.inl 1 :: (PySem.W.keyToks (.int (x : Int)) ++ PySem.W.keyToksAll (dI l)) : List (Int ⊕ List Nat)) = [Sum.inl (0 : Int)] := h
    injection h' with h1 _
    exact absurd (Sum.inl.inj h1) (by decide)
  | x :: l, y :: m, h => by
    have h' : (Sum.inl 1 :: (Sum.inl (x : Int) :: PySem.W.keyToksAll (dI l)) : List (Int ⊕ List Nat)) = Sum.inl 1 :: (Sum.inl (y : Int) :: PySem.W.keyToksAll (dI m)) := h
    injection h' with _ h2
    injection h2 with h3 h4
    have := Sum.inl.inj h3
    rw [toks_inj h4, show x = y by omega]
theorem alikeI : ∀ l m : List Nat, PySem.W.alikeAll (dI l) (dI m) = true
  | [], m => by
    show PySem.W.alikeAll [] _ = true
    rw [PySem.W.alikeAll]
  | x :: l, [] => by
    show PySem.W.alikeAll (_ :: _) [] = true
    rw [PySem.W.alikeAll]
  | x :: l, y :: m => by
    show PySem.W.alikeAll (PyData.int (x : Int) :: dI l) (PyData.int (y : Int) :: dI m) = true
    rw [PySem.W.alikeAll, alikeI l m]; rfl
theorem lex_tail {l m : List Nat} (a : List (Int ⊕ List Nat)) : PyProof.Rows.lexLt itemOrd (PySem.W.keyToksAll (dI l) ++ a) (PySem.W.keyToksAll (dI m) ++ a) = PyProof.Rows.lexLt itemOrd (PySem.W.keyToksAll (dI l)) (PySem.W.keyToksAll (dI m)) := by
  have t := PySem.W.toksAll_eqv (dI l) (dI m) (alikeI l m)
  cases e : PyData.eqvAll (dI l) (dI m) with
  | true =>
    rw [t.1 e, lex_irrefl, lex_irrefl]
  | false => exact t.2 e a a
theorem kyD_toks (l : List Nat) : PySem.W.keyToks (kyD l) = Sum.inl 1 :: Sum.inl (l.length : Int) :: Sum.inl 1 :: (PySem.W.keyToksAll (dI l) ++ [Sum.inl 0]) := rfl
theorem kle_eq (a b : List Nat) : kleL a b = !PyProof.Rows.lexLt itemOrd (PySem.W.keyToks (kyD b)) (PySem.W.keyToks (kyD a)) := rfl
theorem ule_eq (a b : List Nat) : uleL a b = !PyProof.Rows.lexLt itemOrd (PySem.W.keyToksAll (dI b)) (PySem.W.keyToksAll (dI a)) := rfl
theorem kle_same {a b : List Nat} (h : a.length = b.length) : kleL a b = uleL a b := by
  rw [kle_eq, ule_eq, kyD_toks, kyD_toks, lex_self, h, lex_self, lex_self, lex_tail]
theorem kle_lt {a b : List Nat} (h : a.length < b.length) : kleL a b = true := by
  rw [kle_eq, kyD_toks, kyD_toks, lex_self, lex_diff (fun z => by have := Sum.inl.inj z; omega)]
  have : itemLt (Sum.inl (b.length : Int)) (Sum.inl (a.length : Int)) = false := decide_eq_false (by omega)
  show (!itemLt (Sum.inl (b.length : Int)) (Sum.inl (a.length : Int))) = true
  rw [this]; rfl
theorem kle_anti {a b : List Nat} (h1 : kleL a b = true) (h2 : kleL b a = true) : a = b := by
  rw [kle_eq, Bool.not_eq_true'] at h1 h2
  have e := lex_total _ _ h2 h1
  rw [kyD_toks, kyD_toks] at e
  injection e with _ e
  injection e with _ e
  injection e with _ e
  exact toks_inj (List.append_cancel_right e)
theorem kle_total : PySem.W.TotalLe kleL := by
  unfold kleL PySem.W.dataLe
  exact PySem.W.sortLe_total _ _ _
theorem ule_total : PySem.W.TotalLe uleL := by
  unfold uleL PySem.W.dataLe
  exact PySem.W.sortLe_total _ _ _
/-- by size -/
def bySize (U : List (List Nat)) (n : Nat) : List (List Nat) := (List.range n).flatMap fun s => U.filter fun m => decide (m.length = s)
theorem bySize_succ (U : List (List Nat)) (n : Nat) : bySize U (n + 1) = bySize U n ++ U.filter fun m => decide (m.length = n) := by
  unfold bySize
  rw [List.range_succ, List.flatMap_append, List.flatMap_singleton]
theorem bySize_perm (U : List (List Nat)) : ∀ n, (bySize U n).Perm (U.filter fun m => decide (m.length < n))
  | 0 => by
    have : (U.filter fun m => decide (m.length < 0)) = [] := List.filter_eq_nil_iff.mpr fun m _ => by simp
    rw [this]; exact .nil
  | n + 1 => by
    rw [bySize_succ]
    have h := List.filter_append_perm (fun m : List Nat => decide (m.length < n)) (U.filter fun m => decide (m.length < n + 1))
    refine (List.Perm.append (bySize_perm U n) (.refl _)).trans (List.Perm.trans (List.Perm.of_eq ?_) h)
    rw [List.filter_filter, List.filter_filter]
    congr 1
    · refine List.filter_congr fun m _ => ?_
      by_cases c : m.length < n
      · rw [decide_eq_true c, decide_eq_true (by omega)]; rfl
      · rw [decide_eq_false c]; rfl
    · refine List.filter_congr fun m _ => ?_
      by_cases c : m.length = n
      · rw [decide_eq_true c, decide_eq_false (by omega), decide_eq_true (by omega)]; rfl
      · by_cases d : m.length < n
        · rw [decide_eq_false c, decide_eq_true d]; rfl
        · rw [decide_eq_false c, decide_eq_false d, decide_eq_false (by omega)]; rfl
theorem bySize_mem {U : List (List Nat)} {n : Nat} {m : List Nat} (h : m ∈ bySize U n) : m.length < n := by
  have := (bySize_perm U n).mem_iff.mp h
  exact of_decide_eq_true (List.mem_filter.mp this).2
theorem bySize_sorted {U : List (List Nat)} (hU : U.Pairwise fun a b => uleL a b = true) : ∀ n, (bySize U n).Pairwise fun a b => kleL a b = true
  | 0 => .nil
  | n + 1 => by
    rw [bySize_succ, List.pairwise_append]
    refine ⟨bySize_sorted hU n, ?_, fun a ha b hb => kle_lt ?_⟩
    · refine (hU.filter _).imp_of_mem fun {a b} ha hb h => ?_
      have ha := of_decide_eq_true (List.mem_filter.mp ha).2
      have hb := of_decide_eq_true (List.mem_filter.mp hb).2
      rw [kle_same (ha.trans hb.symm)]; exact h
    · rw [of_decide_eq_true (List.mem_filter.mp hb).2]; exact bySize_mem ha
theorem lots_bySize {l : List Nat} {n : Nat} (h : l.length < n) : bySize ((partsL l).mergeSort uleL) n = lotsS l := by
  have hp := bySize_perm ((partsL l).mergeSort uleL) n
  have all : ((partsL l).mergeSort uleL).filter (fun m => decide (m.length < n)) = (partsL l).mergeSort uleL := List.filter_eq_self.mpr fun m hm => decide_eq_true (by
    have := (mem_partsL.mp ((List.mergeSort_perm _ _).mem_iff.mp hm)).length_le
    omega)
  rw [all] at hp
  refine List.Perm.eq_of_pairwise (le := fun a b => kleL a b = true) (fun a b _ _ h1 h2 => kle_anti h1 h2) (bySize_sorted (PySem.W.sort_pairwise ule_total _) n) (PySem.W.sort_pairwise kle_total _) (hp.trans ((List.mergeSort_perm _ _).trans (List.mergeSort_perm _ _).symm))
/-- the law's answer is the program's -/
theorem few_same {h w : Nat} (h1 : 1 ≤ h) (w1 : 1 ≤ w) (hn : h + w ≤ 12) {b : Board} {x : Nat} (hx : x ∈ lastOf h w b) :
    fewOf h w b x = (bySize ((partsL ((endL h w b).filter fun y : Nat => !decide ((y : Int) = (x : Int)))).mergeSort uleL) (endL h w b).length).find? fun lot => !(heldL h w b lot).contains x := by
  have e := end_last h1 w1 hn (b := b)
  unfold fewOf
  rw [lots_bySize, e]
  · have : (fun lot : List Nat => !(ordW h w b lot).contains x) = fun lot : List Nat => !(heldL h w b lot).contains x := by
      funext lot
      rw [← held_last h1 w1 hn]
      congr 1
      rw [Bool.eq_iff_iff]
      simp only [List.contains_iff_mem]
      exact mem_ords
    rw [this]
  · rw [e]
    exact List.length_filter_lt_length_iff_exists.mpr ⟨x, by first | exact hx | (rw [e]; exact hx), by simp⟩
end K23

set_option Elab.async false
set_option linter.all false
set_option maxRecDepth 100000
set_option maxHeartbeats 4000000
/-! _law_lots. -/
namespace K23
open PySem PySem.Spec PyProof.Rows L2
theorem kL_vI (l : List Nat) : (kL l).map kV = l.map vI := by unfold kL vI; rw [List.map_map]; rfl
theorem kL_inj : ∀ {l m : List Nat}, kL l = kL m → l = m
  | [], [], _ => rfl
  | [], _ :: _, h => by simp [kL] at h
  | _ :: _, [], h => by simp [kL] at h
  | x :: l, y :: m, h => by
    have h' : (Sum.inl (x : Int) : L2.Key) = .inl (y : Int) ∧ kL l = kL m := by simpa [kL] using h
    have e : x = y := by have := Sum.inl.inj h'.1; omega
    rw [e, kL_inj h'.2]
/-! ### all tuples and lists as known part -/
def gT (H : Hp) : Hp := fun a => match H a with | some (.tup vs) => some (.tup vs) | some (.lst vs) => some (.lst vs) | _ => none
theorem gT_same {H : Hp} : Same (gT H) H := fun a o e => by
  unfold gT at e
  cases q : H a with
  | none => rw [q] at e; cases e
  | some u => rw [q] at e; cases u <;> first | exact e | cases e
theorem gT_tup {H : Hp} {a : Addr} {vs : List V} (h : H a = some (.tup vs)) : gT H a = some (.tup vs) := by unfold gT; rw [h]
theorem gT_lst {H : Hp} {a : Addr} {vs : List V} (h : H a = some (.lst vs)) : gT H a = some (.lst vs) := by unfold gT; rw [h]
mutual
theorem Rp.gTs {G H : Hp} (s : Same G H) : ∀ (d : PyData) (v : V), Rp G v d → Rp (gT H) v d
  | _, _, .non => .non
  | _, _, .bl b => .bl b
  | _, _, .int i => .int i
  | _, _, .str x => .str x
  | _, _, .lst g rs => .lst (gT_lst (s _ _ g)) (Rps.gTs s _ _ rs)
  | _, _, .tup g rs => .tup (gT_tup (s _ _ g)) (Rps.gTs s _ _ rs)
theorem Rps.gTs {G H : Hp} (s : Same G H) : ∀ (ds : List PyData) (vs : List V), Rps G vs ds → Rps (gT H) vs ds
  | _, _, .nil => .nil
  | _, _, .cons h hr => .cons (Rp.gTs s _ _ h) (Rps.gTs s _ _ hr)
end
theorem hu1 {A : Around} (h : A.units + 64 < cLine) : A.units + 1 < cLine := by omega
/-- all but the dicts stays -/
def KeepD (H H' : Hp) : Prop := ∀ a o, (∀ cs, o ≠ .dT cs) → H a = some o → H' a = some o
theorem KeepD.of {H H' : Hp} (s : Same H H') : KeepD H H' := fun a o _ e => s a o e
theorem KeepD.trans {H H' H'' : Hp} (a : KeepD H H') (b : KeepD H' H'') : KeepD H H'' := fun c o n e => b c o n (a c o n e)
theorem KeepD.gTs {H H' : Hp} (k : KeepD H H') : Same (gT H) (gT H') := fun a o e => by
  unfold gT at e
  cases q : H a with
  | none => rw [q] at e; cases e
  | some u =>
    rw [q] at e
    cases u <;> first
      | (cases e; exact gT_tup (k _ _ (fun cs z => by cases z) q))
      | (cases e; exact gT_lst (k _ _ (fun cs z => by cases z) q))
      | cases e
theorem callF {α : Type} {enc : α → List PyData} {pre : α → Prop} {f : α → PyData} {vs : List V} {H : Hp} {Q : VK} {E : XK} (a : α) (hp : pre a) (rs : Rps (gT H) vs (enc a)) (q : ∀ v H', Same H H' → Rp (gT H') v (f a) → Q v H') : spF enc pre f vs H Q E :=
  ⟨a, gT H, gT_same, rs, hp, fun v G' H' x r => q v H' x.same (Rp.gTs x.sub _ _ r)⟩
theorem tup_of {H : Hp} {v : V} {l : List Nat} (r : Rp (gT H) v (.tuple (dI l))) : ∃ b, v = .ref b ∧ H b = some (.tup (l.map vI)) := by
  cases r with
  | @tup b us _ g rs =>
    rw [dI_ints] at rs
    have := rs.ints
    subst this
    have e2 : (nI l).map V.int = l.map vI := by unfold nI vI; rw [List.map_map]; rfl
    exact ⟨b, rfl, by rw [← e2]; exact gT_same _ _ g⟩
theorem lst_of {H : Hp} {v : V} {l : List Nat} (r : Rp (gT H) v (.list (dI l))) : ∃ b, v = .ref b ∧ H b = some (.lst (l.map vI)) := by
  cases r with
  | @lst b us _ g rs =>
    rw [dI_ints] at rs
    have := rs.ints
    subst this
    have e2 : (nI l).map V.int = l.map vI := by unfold nI vI; rw [List.map_map]; rfl
    exact ⟨b, rfl, by rw [← e2]; exact gT_same _ _ g⟩
theorem rps_vI {G : Hp} : ∀ l : List Nat, Rps G (l.map vI) (dI l)
  | [] => .nil
  | _ :: l => .cons (.int _) (rps_vI l)
theorem rp_tup {H : Hp} {b : Addr} {l : List Nat} (h : H b = some (.tup (l.map vI))) : Rp (gT H) (.ref b) (.tuple (dI l)) := .tup (gT_tup h) (rps_vI l)
/-! ### a dict whose keys are these lots -/
theorem DkAt.same {H H' : Hp} {a : Addr} {ls : List (List Nat)} (d : DkAt H a ls) (s : Same H H') : DkAt H' a ls := let ⟨cs, h1, h2, h3⟩ := d; ⟨cs, s _ _ h1, h2, h3⟩
theorem DkAt.upd {H : Hp} {a b : Addr} {ls : List (List Nat)} {o : HO} (d : DkAt H a ls) (n : a ≠ b) : DkAt (upd H b o) a ls := let ⟨cs, h1, h2, h3⟩ := d; ⟨cs, by rw [upd_ne n]; exact h1, h2, h3⟩
theorem keys_len {cs : List (List L2.Key × V)} {ls : List (List Nat)} (h : cs.map (·.1) = ls.map kL) : cs.length = ls.length := by
  have := congrArg List.length h
  rwa [List.length_map, List.length_map] at this
theorem any_mem {cs : List (List L2.Key × V)} {ls : List (List Nat)} {m : List Nat} (h : cs.map (·.1) = ls.map kL) : (cs.any fun kv => decide (kv.1 = kL m)) = true ↔ m ∈ ls := by
  rw [List.any_eq_true]
  constructor
  · rintro ⟨p, hp, e⟩
    have e := of_decide_eq_true e
    have : p.1 ∈ ls.map kL := by rw [← h]; exact List.mem_map.mpr ⟨p, hp, rfl⟩
    obtain ⟨l, hl, e2⟩ := List.mem_map.mp this
    rw [← kL_inj (e2.trans e)]; exact hl
  · intro hm
    have : kL m ∈ cs.map (·.1) := by rw [h]; exact List.mem_map.mpr ⟨m, hm, rfl⟩
    obtain ⟨p, hp, e⟩ := List.mem_map.mp this
    exact ⟨p, hp, decide_eq_true e⟩
theorem val_or {cs : List (List L2.Key × V)} (hz : ∀ p ∈ cs, ∃ z : Int, p.2 = .int z) (k : List L2.Key) : valV cs k = none ∨ ∃ z : Int, valV cs k = some (.int z) := by
  unfold valV
  cases e : cs.find? fun kv => decide (kv.1 = k) with
  | none => exact .inl rfl
  | some p =>
    obtain ⟨z, hz'⟩ := hz p (List.mem_of_find?_eq_some e)
    exact .inr ⟨z, by rw [← hz']; rfl⟩
theorem val_in {cs : List (List L2.Key × V)} {ls : List (List Nat)} {m : List Nat} (h : cs.map (·.1) = ls.map kL) (hz : ∀ p ∈ cs, ∃ z : Int, p.2 = .int z) (hm : m ∈ ls) : ∃ z : Int, valV cs (kL m) = some (.int z) := by
  rcases val_or hz (kL m) with e | e
  · have h1 := (any_mem h).mpr hm
    rw [valV_any, e] at h1
    cases h1
  · exact e
theorem put_keys {cs : List (List L2.Key × V)} {ls : List (List Nat)} {m : List Nat} {z : Int} (h : cs.map (·.1) = ls.map kL) (hz : ∀ p ∈ cs, ∃ z : Int, p.2 = .int z) : (putK cs (kL m) (.int z)).map (·.1) = (addL ls m).map kL ∧ ∀ p ∈ putK cs (kL m) (.int z), ∃ z : Int, p.2 = .int z := by
  unfold putK addL
  by_cases c : m ∈ ls
  · rw [if_pos ((any_mem h).mpr c), if_pos c]
    refine ⟨?_, fun p hp => ?_⟩
    · rw [List.map_map, ← h]
      refine List.map_congr_left fun p hp => ?_
      show (if p.1 = kL m then (p.1, V.int z) else p).1 = p.1
      split <;> rfl
    · obtain ⟨q, hq, e⟩ := List.mem_map.mp hp
      rw [← e]
      split
      · exact ⟨z, rfl⟩
      · exact hz q hq
  · rw [if_neg (fun z => c ((any_mem h).mp z)), if_neg c]
    refine ⟨by rw [List.map_append, List.map_append, h]; rfl, fun p hp => ?_⟩
    rcases List.mem_append.mp hp with hp | hp
    · exact hz p hp
    · rw [List.mem_singleton.mp hp]; exact ⟨z, rfl⟩
theorem keys_at {H : Hp} : ∀ {cs : List (List L2.Key × V)} {bs : List Addr} {ls : List (List Nat)}, IsKeys H cs bs → cs.map (·.1) = ls.map kL → ∀ {i : Nat} {v : V}, (bs.map V.ref)[i]? = some v → ∃ b l, v = .ref b ∧ ls[i]? = some l ∧ H b = some (.tup (l.map vI))
  | [], _, ls, h, hk, i, v, hv => by cases h; simp at hv
  | p :: cs, _, [], h, hk, i, v, hv => by simp at hk
  | p :: cs, _, l :: ls, h, hk, i, v, hv => by
    cases h with
    | @cons _ b _ bs h1 h2 =>
      have hk' : p.1 = kL l ∧ cs.map (·.1) = ls.map kL := by simpa using hk
      cases i with
      | zero =>
        have : V.ref b = v := by simpa using hv
        refine ⟨b, l, this.symm, rfl, ?_⟩
        rw [hk'.1, kL_vI] at h1; exact h1
      | succ i =>
        have hv' : (bs.map V.ref)[i]? = some v := by simpa using hv
        exact keys_at (cs := cs) (ls := ls) h2 hk'.2 hv'
/-! ### raw steps -/
theorem disp_ok {σ : L2.St} {H : Hp} {Q : VK} (q : ∀ p H', H p = none → Same H H' → DkAt H' p [[]] → Q (.ref p) H') : tDispT (tTup tNil) (tC (.int 1)) σ H Q := fun p hp => by
  refine ⟨Nat.zero_le _, fun b hb => ?_⟩
  have nb : p ≠ b := fun z => by rw [← z, upd_same] at hb; cases hb
  have hb' : H b = none := by rw [upd_ne (Ne.symm nb)] at hb; exact hb
  refine ⟨by rw [upd_ne nb, upd_same], [], b, rfl, by rw [upd_same]; rfl, q p _ hp (fun a o e => ?_) ⟨[([], .int 1)], upd_same, rfl, fun p hp => by rw [List.mem_singleton.mp hp]; exact ⟨1, rfl⟩⟩⟩
  have n1 : a ≠ p := ne_of_none e hp
  have n2 : a ≠ b := ne_of_none e hb'
  rw [upd_ne n1, upd_ne n2, upd_ne n1]; exact e
theorem par_disp {a b : TE} {rest : TS} {D : Ends} {σ : L2.St} {H : Hp} (h : tDispT a b σ H fun x H1 => tDispT a b σ H1 fun y H2 => ∃ v w, [x, y] = [v, w] ∧ rest D ((σ.set 2 (some v)).set 3 (some w)) H2) : tSeq (tPar 2 3 (tCons (tDispT a b) (tCons (tDispT a b) tNil))) rest D σ H := h
theorem loopL {K : PySem.W.Frag} {j : Nat} {tb : TS} {D : Ends} {p : Addr} {us : List V} {σ : L2.St} {H : Hp} (I : Nat → L2.St → Hp → Prop) (h0 : I 0 σ H) (hp : ∀ i σ H, I i σ H → H p = some (.lst us))
    (hs : ∀ i u σ H, us[i]? = some u → I i σ H → ∀ D' : Ends, (∀ σ' H', I (i + 1) σ' H' → D'.nx σ' H') → tb D' (σ.set j (some u)) H) (he : ∀ σ H, I us.length σ H → D.nx σ H) :
    ∃ W : Nat → Nat → L2.St → Hp → Prop, (∃ m, W 0 m σ H) ∧ ∀ i m σ H, W i m σ H → ((Itl K p).stop i H ∧ D.nx σ H) ∨ ((Itl K p).go i H ∧ ∃ N : L2.St → Hp → Prop, (∀ σ' H', N σ' H' → ∃ m', m' < m ∧ W (i + 1) m' σ' H') ∧ ∀ x H', (Itl K p).yld i H x H' → gName j x σ H' fun σ2 H2 => tb { D with nx := N, ct := N, bk := D.nx } σ2 H2) := by
  refine ⟨fun i m σ H => m = us.length - i ∧ i ≤ us.length ∧ I i σ H, ⟨us.length, by simp, Nat.zero_le _, h0⟩, ?_⟩
  rintro i m σ H ⟨rfl, hi, hI⟩
  by_cases hlt : i < us.length
  · have hu : us[i]? = some us[i] := List.getElem?_eq_getElem hlt
    refine .inr ⟨⟨us, us[i], SqL.of (hp _ _ _ hI), hu⟩, fun σ' H' => I (i + 1) σ' H', fun σ' H' h => ⟨us.length - (i + 1), by omega, rfl, hlt, h⟩, ?_⟩
    rintro x H' ⟨rfl, hx⟩
    have := hx us (SqL.of (hp _ _ _ hI))
    exact hs i x σ H' this hI _ fun σ' H' h => h
  · have e : i = us.length := by omega
    subst e
    exact .inl ⟨⟨us, SqL.of (hp _ _ _ hI), Nat.le_refl _⟩, he _ _ hI⟩
theorem small_dict {n : Nat} (h : n ≤ 4096) : n < sizeLine := Nat.lt_of_le_of_lt h (by decide)
theorem put1 {H : Hp} {L E b mt : Addr} {ll el : List (List Nat)} {lot m : List Nat} {σ : L2.St} {D : Ends} (e4 : σ[4]? = some (some (.ref L))) (e7 : σ[7]? = some (some (.ref mt))) (e3 : σ[3]? = some (some (.ref E))) (e5 : σ[5]? = some (some (.ref b))) (dL : DkAt H L ll) (dE : DkAt H E el)
    (hm : H mt = some (.tup (m.map vI))) (hb : H b = some (.tup (lot.map vI))) (hlot : lot ∈ el) (hl : ll.length ≤ 4096) (n : ∀ cs, DkAt (upd H L (.dT cs)) L (addL ll m) → D.nx σ (upd H L (.dT cs))) :
    sDPut (tVar 4) (tVar 7) (tOp (rI0 fun i j => .int (i + j)) (tDGet2 (tVar 4) (tVar 7) (tC (.int 0))) (tDGet (tVar 3) (tVar 5))) D σ H := by
  obtain ⟨cl, l1, l2, l3⟩ := dL
  obtain ⟨ce, e1, e2, e3'⟩ := dE
  have hm' : H mt = some (.tup ((kL m).map kV)) := by rw [kL_vI]; exact hm
  have hb' : H b = some (.tup ((kL lot).map kV)) := by rw [kL_vI]; exact hb
  obtain ⟨z, hz⟩ := val_in e2 e3' hlot
  obtain ⟨y, hy⟩ : ∃ y : Int, (valV cl (kL m)).getD (.int 0) = .int y := by
    rcases val_or l3 (kL m) with h | ⟨y, h⟩ <;> rw [h]
    · exact ⟨0, rfl⟩
    · exact ⟨y, rfl⟩
  obtain ⟨k1, k2⟩ := put_keys (m := m) (z := y + z) l2 l3
  refine ⟨.ref L, e4, L, rfl, .inr ⟨_, .inl l1⟩, .ref mt, e7, valV cl (kL m), DGet.t l1 hm', ?_⟩
  rw [hy]
  refine ⟨.ref E, e3, .ref b, e5, E, .int z, rfl, by rw [← hz]; exact DGet.t e1 hb', y, z, rfl, rfl, .ref L, e4, .ref mt, e7, L, _, rfl, DPut.t l1 hm' (small_dict (by rw [keys_len l2]; exact hl)), n _ ⟨_, upd_same, k1, k2⟩⟩
theorem put2 {H : Hp} {L F b : Addr} {ll fl : List (List Nat)} {lot : List Nat} {σ : L2.St} {D : Ends} (e2 : σ[2]? = some (some (.ref F))) (e4 : σ[4]? = some (some (.ref L))) (e5 : σ[5]? = some (some (.ref b))) (dL : DkAt H L ll) (dF : DkAt H F fl)
    (hb : H b = some (.tup (lot.map vI))) (hlot : lot ∈ ll) (hl : fl.length ≤ 4096) (n : ∀ cs, DkAt (upd H F (.dT cs)) F (addL fl lot) → D.nx σ (upd H F (.dT cs))) :
    sDPut (tVar 2) (tVar 5) (tDGet (tVar 4) (tVar 5)) D σ H := by
  obtain ⟨cl, l1, l2, l3⟩ := dL
  obtain ⟨cf, f1, f2, f3⟩ := dF
  have hb' : H b = some (.tup ((kL lot).map kV)) := by rw [kL_vI]; exact hb
  obtain ⟨z, hz⟩ := val_in l2 l3 hlot
  obtain ⟨k1, k2⟩ := put_keys (m := lot) (z := z) f2 f3
  exact ⟨.ref L, e4, .ref b, e5, L, .int z, rfl, by rw [← hz]; exact DGet.t l1 hb', .ref F, e2, .ref b, e5, F, _, rfl, DPut.t f1 hb' (small_dict (by rw [keys_len f2]; exact hl)), n _ ⟨_, upd_same, k1, k2⟩⟩
theorem upd_keep {H : Hp} {a : Addr} {ls : List (List Nat)} {cs : List (List L2.Key × V)} (d : DkAt H a ls) : KeepD H (upd H a (.dT cs)) := fun b o n e => by
  have : b ≠ a := fun z => by
    obtain ⟨c, h, _⟩ := d
    rw [z, h] at e; exact n c (Option.some.inj e).symm
  rw [upd_ne this]; exact e
theorem upd_same0 {H0 H : Hp} {a : Addr} {o : HO} (s : Same H0 H) (n : H0 a = none) : Same H0 (upd H a o) := fun b u e => by
  rw [upd_ne (ne_of_none e n)]; exact s _ _ e

abbrev N__law_lots : List Str := ["_law_board_here", "_law_ready_here", "_law_found", "_law_edge", "_law_later", "_law_lot_here", "_law_line", "_law_more"]
theorem sc__law_lots : FnScope N__law_lots ["_law_board_here", "_law_ready_here"] (defScope s_law_lots) := ⟨rfl, rfl, rfl, by decide +kernel, rfl, by decide +kernel, by decide +kernel⟩
/-- f: where _law_common stands -/
def spL (f : Addr) : Sp := fun vs H Q _ => ∃ (S : BDs) (vb : V), vs = [vb, .ref f] ∧ Rp (gT H) vb (dBs S) ∧ GoodS S ∧ ∀ F H' ls, Same H H' → H F = none → DkAt H' F ls → ls.Nodup → (∀ m, m ∈ ls ↔ ComesB S.h S.w S.bs (fun _ => True) m) → Q (.ref F) H'
theorem ok__law_lots {P : Program} {w : World} {K : PySem.W.Frag} {mg : Str → Option Value} {base : Heap} (T : Txt mg) (F : FnAt K mg "_law_lots" s_law_lots ["_law_board_here", "_law_ready_here"]) (D__law_common : Def P w K mg base 4 "_law_common" ["_law_boards", "_law_lot_here"] SP__law_common) (D__law_with : Def P w K mg base 1 "_law_with" ["_law_lot_here", "_law_line"] SP__law_with) :
    ∃ f, mg "_law_common" = some (.ref f) ∧ PySem.W.keepIn K (.ref f) = true ∧ Def P w K mg base 6 "_law_lots" ["_law_board_here", "_law_ready_here"] (spL f) := by
  obtain ⟨f, fd, hmg, hk, hb, Fn⟩ := D__law_common.ex
  refine ⟨f, hmg, hk, F.ok sc__law_lots (fun vs H Q E ⟨S, vb, e, _⟩ => by rw [e]; rfl) (fun fl cdv A outer s H vs Q E hr h => ⟨_, (pss_cons (ps_par (i := 2) (j := 3) rfl sc__law_lots.nd rfl rfl (by decide) rfl rfl (pa_cons (pe_dispT (pe_tup pa_nil) pe_int hr.units) (pa_cons (pe_dispT (pe_tup pa_nil) pe_int hr.units) pa_nil)) (by rfl)) (pss_cons (ps_while PassesOwn.never (pt_cmpR (op_neDT hr.units) (pv 3) pe_dnewT (nomark _)) (pss_cons (ps_set (i := 4) sc__law_lots.nd rfl (Or.inl rfl) pe_dnewT) (pss_cons (ps_for PassesOwn.never rfl (listI (K := K) rfl (pe_callTy (call_list_dT rfl) (by rfl) T.list boot_list (pa_cons (pv 3) pa_nil))) (pg_name (i := 5) sc__law_lots.nd rfl (Or.inl rfl)) (pss_one (ps_for PassesOwn.never rfl (listI (K := K) rfl (pe_callL (i := 1) (f := f) Fn (hr.mono (by decide)) rfl (Or.inl rfl) hk hb .nil pass0 (pa_cons (pv 0) (pa_cons (pv 5) pa_nil)))) (pg_name (i := 6) sc__law_lots.nd rfl (Or.inl rfl)) (pss_cons (ps_set (i := 7) sc__law_lots.nd rfl (Or.inl rfl) (pe_def D__law_with (hr.mono (by decide)) (by rfl) (pa_cons (pv 5) (pa_cons (pv 6) pa_nil)))) (pss_one (ps_dput (hu1 hr.units) (pv 4) (pv 7) (pe_op op_add (pe_dget2 (hu1 hr.units) (pv 4) (pv 7) pe_int ⟨rfl, rfl, rfl, rfl⟩) (pe_dget (hu1 hr.units) (pv 3) (pv 5) (fun _ _ => rfl))) rfl)))))) (pss_cons (ps_for PassesOwn.never rfl (listI (K := K) rfl (pe_callTy (call_list_dT rfl) (by rfl) T.list boot_list (pa_cons (pv 4) pa_nil))) (pg_name (i := 5) sc__law_lots.nd rfl (Or.inl rfl)) (pss_one (ps_dput (hu1 hr.units) (pv 2) (pv 5) (pe_dget (hu1 hr.units) (pv 4) (pv 5) (fun _ _ => rfl)) rfl))) (pss_one (ps_set (i := 3) sc__law_lots.nd rfl (Or.inl rfl) (pv 4))))))) (pss_one (ps_ret (pv 2))))), ?_⟩)⟩
  obtain ⟨S, vb, rfl, rb, g, q⟩ := h
  have g1 := g.one; have h6 : S.h ≤ 6 := g1.h6; have w6 : S.w ≤ 6 := g1.w6; have h1 : 1 ≤ S.h := g1.h1; have w1 : 1 ≤ S.w := g1.w1
  have n12 : S.h + S.w ≤ 12 := by omega
  have lim : ∀ ls : List (List Nat), ls.Nodup → (∀ m ∈ ls, Ln (S.h + S.w) m) → ls.length ≤ 4096 := fun ls nd hl => Nat.le_trans (lots_len nd hl) (pow12 n12)
  have et : L2.start N__law_lots [vb, .ref f] = [some vb, some (.ref f), none, none, none, none, none, none] := rfl
  rw [et]
  refine par_disp ?_
  refine disp_ok (fun F0 H1 f0 s1 d1 => ?_)
  refine disp_ok (fun E0' H2 e0 s2 d2 => ?_)
  refine ⟨_, _, rfl, ?_⟩
  have ne0 : F0 ≠ E0' := fun z => by
    obtain ⟨cs, hcs, _⟩ := d1
    rw [z, e0] at hcs; cases hcs
  have he0 : H E0' = none := by
    cases e : H E0' with
    | none => rfl
    | some o => rw [s1 _ _ e] at e0; cases e0
  let I : Nat → L2.St → Hp → Prop := fun m σ Hc => ∃ (k : Nat) (Ee : Addr) (fl el : List (List Nat)) (s4 s5 s6 s7 : Option V), m = 13 - k ∧ Same H Hc ∧ KeepD H2 Hc ∧ DkAt Hc F0 fl ∧ H Ee = none ∧ DkAt Hc Ee el ∧ F0 ≠ Ee ∧ Bfs (S.h + S.w) (Falls S.h S.w S.bs) k fl el ∧ σ = [some vb, some (.ref f), some (.ref F0), some (.ref Ee), s4, s5, s6, s7]
  refine ⟨I, ⟨13, 0, E0', [[]], [[]], none, none, none, none, rfl, fun a o e => s2 _ _ (s1 _ _ e), fun a o _ e => e, d1.same s2, he0, d2, ne0, bfs_start, rfl⟩, ?_⟩
  rintro m σ Hc ⟨k, Ee, fl, el, s4, s5, s6, s7, rfl, sm, kd, dF, hE, dE, ne, bfs, rfl⟩
  obtain ⟨ce, ce1, ce2, ce3⟩ := id dE
  refine ⟨.ref Ee, rfl, fun pe hpe => ⟨Ee, pe, ce, rfl, rfl, by rw [upd_ne (ne_of_none ce1 hpe)]; exact ce1, upd_same, _, rfl, ?_⟩⟩
  have hcel : ce.isEmpty = true ↔ el = [] := by
    rw [List.isEmpty_iff]
    have := keys_len ce2
    constructor
    · rintro rfl; exact List.length_eq_zero_iff.mp (by simpa using this.symm)
    · rintro rfl; exact List.length_eq_zero_iff.mp (by simpa using this)
  have smE : Same Hc (upd Hc pe (.dT [])) := fun a o e => by rw [upd_ne (ne_of_none e hpe)]; exact e
  by_cases hel : el = []
  · refine iteFd (by rw [hcel.mpr hel]; rfl) ?_
    subst hel
    exact ⟨.ref F0, rfl, q F0 _ fl (fun a o e => smE _ _ (sm _ _ e)) f0 (dF.same smE) bfs.fn (bfs_end bfs)⟩
  · refine iteTd (by cases z : ce.isEmpty with | true => exact absurd (hcel.mp z) hel | false => rfl) ?_
    refine ⟨fun σ' H' => ∃ m', m' < 13 - k ∧ I m' σ' H', fun σ' H' h => h, ?_⟩
    have hk12 := bfs_k bfs hel
    -- later = {}
    refine fun L hL => ?_
    have s3 : Same (upd Hc pe (.dT [])) (upd (upd Hc pe (.dT [])) L (.dT [])) := fun a o e => by rw [upd_ne (ne_of_none e hL)]; exact e
    generalize hH3 : upd (upd Hc pe (.dT [])) L (.dT []) = H3 at s3
    have sm3 : Same Hc H3 := fun a o e => s3 _ _ (smE _ _ e)
    have hL0 : Hc L = none := by
      cases e : Hc L with
      | none => rfl
      | some o => rw [smE _ _ e] at hL; cases hL
    have hLH : H L = none := by
      cases e : H L with
      | none => rfl
      | some o => rw [sm _ _ e] at hL0; cases hL0
    have dL : DkAt H3 L [] := ⟨[], by rw [← hH3]; exact upd_same, rfl, fun p hp => by cases hp⟩
    have nFL : F0 ≠ L := fun z => by obtain ⟨c, hc, _⟩ := dF; rw [z, hL0] at hc; cases hc
    have nEL : Ee ≠ L := fun z => by rw [z, hL0] at ce1; cases ce1
    have elLn : ∀ lot ∈ el, Ln (S.h + S.w) lot := fun lot hlot => ((bfs.e lot).mp hlot).1.ln
    have inS : ∀ lot ∈ el, ∀ x, x ∈ commonL S.h S.w S.bs lot ↔ x < S.h + S.w ∧ x ∉ lot ∧ Falls S.h S.w S.bs lot x := fun lot hlot x => mem_commonL (comes_left h1 w1 g.ne ((bfs.e lot).mp hlot).1) g.ne
    have nxLn : ∀ lot ∈ el, ∀ x ∈ commonL S.h S.w S.bs lot, Ln (S.h + S.w) (srt (lot ++ [x])) := fun lot hlot x hx => (elLn lot hlot).with ((inS lot hlot x).mp hx).1 ((inS lot hlot x).mp hx).2.1
    -- for lot in list(edge)
    refine ⟨.ref Ee, rfl, Ee, ce, rfl, .inl (sm3 _ _ ce1), fun p bs hp hk => ⟨p, rfl, ⟨_, SqL.of upd_same⟩, ?_⟩⟩
    have s4' : Same H3 (upd H3 p (.lst (bs.map V.ref))) := fun a o e => by rw [upd_ne (ne_of_none e hp)]; exact e
    have hp' : (upd H3 p (.lst (bs.map V.ref))) p = some (.lst (bs.map V.ref)) := upd_same
    generalize hH4 : upd H3 p (.lst (bs.map V.ref)) = H4 at s4' hp'
    have hbl : bs.length = el.length := by rw [← keys_len ce2]; exact (Paired.length hk).symm
    have at4 : ∀ {i : Nat} {v : V}, (bs.map V.ref)[i]? = some v → ∃ b l, v = .ref b ∧ el[i]? = some l ∧ H4 b = some (.tup (l.map vI)) := fun {i v} hv => by
      obtain ⟨b, l, e1, e2, e3⟩ := keys_at hk ce2 hv
      exact ⟨b, l, e1, e2, s4' _ _ e3⟩
    -- what later holds behind the first i lots and, of the next, the first j lines
    refine loopL (us := bs.map V.ref) (fun i σ Hx => i ≤ el.length ∧ ∃ (ll : List (List Nat)) (s5 s6 s7 : Option V), Same H Hx ∧ KeepD H4 Hx ∧ DkAt Hx F0 fl ∧ DkAt Hx Ee el ∧ DkAt Hx L ll ∧ ll.Nodup ∧ (∀ m, m ∈ ll ↔ ∃ i' lot, i' < i ∧ el[i']? = some lot ∧ ∃ x ∈ commonL S.h S.w S.bs lot, m = srt (lot ++ [x])) ∧ σ = [some vb, some (.ref f), some (.ref F0), some (.ref Ee), some (.ref L), s5, s6, s7])
      ⟨Nat.zero_le _, [], s5, s6, s7, fun a o e => s4' _ _ (sm3 _ _ (sm _ _ e)), fun a o _ e => e, (dF.same sm3).same s4', (dE.same sm3).same s4', dL.same s4', .nil, fun m => ⟨fun h => (by cases h), fun ⟨i', _, h, _⟩ => (by omega)⟩, rfl⟩
      (fun i σ Hx ⟨_, _, _, _, _, _, kx, _⟩ => kx _ _ (fun cs z => by cases z) hp') ?_ ?_
    · rintro i u σ Hx hu ⟨hi, ll, t5, t6, t7, smx, kx, dFx, dEx, dLx, lnd, lmem, rfl⟩ D' hD'
      obtain ⟨b, lot, rfl, hlot, hb4⟩ := at4 hu
      have hbx := kx _ _ (fun cs z => by cases z) hb4
      have hlm : lot ∈ el := List.mem_of_getElem? hlot
      have hil : i < el.length := (List.getElem?_eq_some_iff.mp hlot).1
      have rbx : Rp (gT Hx) vb (dBs S) := (rb.up (KeepD.gTs (KeepD.of smx)))
      -- for line in ready(board, lot)
      refine ⟨rfl, vb, rfl, .ref b, rfl, callF (E := fun _ _ _ => False) (S, lot) g (.cons rbx (.cons (rp_tup hbx) .nil)) fun v H5 s5' r5 => ?_⟩
      obtain ⟨c, rfl, hc5⟩ := lst_of r5
      refine ⟨c, rfl, ⟨_, SqL.of hc5⟩, ?_⟩
      refine loopL (us := (commonL S.h S.w S.bs lot).map vI) (fun j σ Hy => j ≤ (commonL S.h S.w S.bs lot).length ∧ ∃ (l2 : List (List Nat)) (s6 s7 : Option V), Same H Hy ∧ KeepD H5 Hy ∧ DkAt Hy F0 fl ∧ DkAt Hy Ee el ∧ DkAt Hy L l2 ∧ l2.Nodup ∧ (∀ m, m ∈ l2 ↔ m ∈ ll ∨ ∃ x ∈ (commonL S.h S.w S.bs lot).take j, m = srt (lot ++ [x])) ∧ σ = [some vb, some (.ref f), some (.ref F0), some (.ref Ee), some (.ref L), some (.ref b), s6, s7])
        ⟨Nat.zero_le _, ll, t6, t7, fun a o e => s5' _ _ (smx _ _ e), fun a o _ e => e, dFx.same s5', dEx.same s5', dLx.same s5', lnd, fun m => by simp, rfl⟩
        (fun j σ Hy ⟨_, _, _, _, _, ky, _⟩ => ky _ _ (fun cs z => by cases z) hc5) ?_ ?_
      · rintro j u σ Hy hu ⟨hj, l2, t6, t7, smy, ky, dFy, dEy, dLy, l2nd, l2mem, rfl⟩ D'' hD''
        rw [List.getElem?_map] at hu
        obtain ⟨x, hx, rfl⟩ := Option.map_eq_some_iff.mp hu
        have hxm : x ∈ commonL S.h S.w S.bs lot := List.mem_of_getElem? hx
        obtain ⟨hj1, hje⟩ := List.getElem?_eq_some_iff.mp hx
        have hby : Hy b = some (.tup (lot.map vI)) := ky _ _ (fun cs z => by cases z) (s5' _ _ hbx)
        have hll12 : lot.length ≤ 12 := Nat.le_trans (elLn lot hlm).len n12
        -- more = _law_with(lot, line)
        refine ⟨.ref b, rfl, .int (x : Int), rfl, callF (E := fun _ _ _ => False) (lot, x) (by show lot.length ≤ 1000; omega) (.cons (rp_tup hby) (.cons (.int _) .nil)) fun v H6 s6' r6 => ?_⟩
        obtain ⟨mt, rfl, hmt⟩ := tup_of r6
        have l2len : l2.length ≤ 4096 := lim l2 l2nd fun m hm => by
          rcases (l2mem m).mp hm with h | ⟨y, hy, rfl⟩
          · obtain ⟨i', lot', _, h3, y, hy, rfl⟩ := (lmem m).mp h
            exact nxLn lot' (List.mem_of_getElem? h3) y hy
          · exact nxLn lot hlm y (List.mem_of_mem_take hy)
        refine put1 (L := L) (E := Ee) (b := b) (mt := mt) (m := srt (lot ++ [x])) rfl rfl rfl rfl (dLy.same s6') (dEy.same s6') hmt (s6' _ _ hby) hlm l2len fun cs dcs => hD'' _ _ ⟨hj1, addL l2 (srt (lot ++ [x])), some (.int (x : Int)), some (.ref mt), upd_same0 (fun a o e => s6' _ _ (smy _ _ e)) hLH, (ky.trans (KeepD.of s6')).trans (upd_keep (dLy.same s6')), (dFy.same s6').upd nFL, (dEy.same s6').upd nEL, dcs, addL_nodup l2nd, fun m => ?_, rfl⟩
        rw [mem_addL, l2mem, List.take_succ_eq_append_getElem hj1, hje]
        constructor
        · rintro ((h | ⟨y, hy, e⟩) | e)
          · exact .inl h
          · exact .inr ⟨y, List.mem_append_left _ hy, e⟩
          · exact .inr ⟨x, by simp, e⟩
        · rintro (h | ⟨y, hy, e⟩)
          · exact .inl (.inl h)
          · rcases List.mem_append.mp hy with hy | hy
            · exact .inl (.inr ⟨y, hy, e⟩)
            · rw [List.mem_singleton.mp hy] at e; exact .inr e
      · rintro σ Hy ⟨_, l2, t6, t7, smy, ky, dFy, dEy, dLy, l2nd, l2mem, rfl⟩
        refine hD' _ _ ⟨hil, l2, some (.ref b), t6, t7, smy, (kx.trans (KeepD.of s5')).trans ky, dFy, dEy, dLy, l2nd, fun m => ?_, rfl⟩
        rw [l2mem, lmem, List.length_map, List.take_length]
        constructor
        · rintro (⟨i', lot', h1, h2, h3⟩ | h)
          · exact ⟨i', lot', by omega, h2, h3⟩
          · exact ⟨i, lot, Nat.lt_succ_self _, hlot, h⟩
        · rintro ⟨i', lot', h1, h2, h3⟩
          rcases Nat.lt_succ_iff_lt_or_eq.mp h1 with z | z
          · exact .inl ⟨i', lot', z, h2, h3⟩
          · rw [z, hlot] at h2
            cases h2
            exact .inr h3
    · rintro σ Hx ⟨_, ll, t5, t6, t7, smx, kx, dFx, dEx, dLx, lnd, lmem, rfl⟩
      have lmem' : ∀ m, m ∈ ll ↔ ∃ lot ∈ el, ∃ x, (x < S.h + S.w ∧ x ∉ lot ∧ Falls S.h S.w S.bs lot x) ∧ m = srt (lot ++ [x]) := fun m => by
        rw [lmem, List.length_map, hbl]
        constructor
        · rintro ⟨i', lot, _, h2, x, hx, e⟩
          have hm := List.mem_of_getElem? h2
          exact ⟨lot, hm, x, (inS lot hm x).mp hx, e⟩
        · rintro ⟨lot, hm, x, hx, e⟩
          obtain ⟨i', hi', e'⟩ := List.mem_iff_getElem.mp hm
          exact ⟨i', lot, hi', by rw [List.getElem?_eq_getElem hi', e'], x, (inS lot hm x).mpr hx, e⟩
      have llLn : ∀ m ∈ ll, Ln (S.h + S.w) m := fun m hm => by
        obtain ⟨lot, hlot, x, hx, rfl⟩ := (lmem' m).mp hm
        exact nxLn lot hlot x ((inS lot hlot x).mpr hx)
      have flLn : ∀ m ∈ fl, Ln (S.h + S.w) m := fun m hm => ((bfs.f m).mp hm).1.ln
      -- for lot in list(later)
      obtain ⟨cl, cl1, cl2, cl3⟩ := id dLx
      refine ⟨.ref L, rfl, L, cl, rfl, .inl cl1, fun p2 bs2 hp2 hk2 => ⟨p2, rfl, ⟨_, SqL.of upd_same⟩, ?_⟩⟩
      have s7' : Same Hx (upd Hx p2 (.lst (bs2.map V.ref))) := fun a o e => by rw [upd_ne (ne_of_none e hp2)]; exact e
      have hp2' : (upd Hx p2 (.lst (bs2.map V.ref))) p2 = some (.lst (bs2.map V.ref)) := upd_same
      generalize hH7 : upd Hx p2 (.lst (bs2.map V.ref)) = H7 at s7' hp2'
      have hbl2 : bs2.length = ll.length := by rw [← keys_len cl2]; exact (Paired.length hk2).symm
      refine loopL (us := bs2.map V.ref) (fun i σ Hy => i ≤ ll.length ∧ ∃ (f2 : List (List Nat)) (s5 s6 s7 : Option V), Same H Hy ∧ KeepD H7 Hy ∧ DkAt Hy F0 f2 ∧ DkAt Hy L ll ∧ f2.Nodup ∧ (∀ m, m ∈ f2 ↔ m ∈ fl ∨ m ∈ ll.take i) ∧ σ = [some vb, some (.ref f), some (.ref F0), some (.ref Ee), some (.ref L), s5, s6, s7])
        ⟨Nat.zero_le _, fl, t5, t6, t7, fun a o e => s7' _ _ (smx _ _ e), fun a o _ e => e, dFx.same s7', dLx.same s7', bfs.fn, fun m => by simp, rfl⟩
        (fun i σ Hy ⟨_, _, _, _, _, _, ky, _⟩ => ky _ _ (fun cs z => by cases z) hp2') ?_ ?_
      · rintro i u σ Hy hu ⟨hi, f2, u5, u6, u7, smy, ky, dFy, dLy, f2nd, f2mem, rfl⟩ D' hD'
        obtain ⟨b, lot, rfl, hlot, hbx⟩ := keys_at hk2 cl2 hu
        have hby := ky _ _ (fun cs z => by cases z) (s7' _ _ hbx)
        have hlm : lot ∈ ll := List.mem_of_getElem? hlot
        obtain ⟨hi1, hie⟩ := List.getElem?_eq_some_iff.mp hlot
        have f2len : f2.length ≤ 4096 := lim f2 f2nd fun m hm => by
          rcases (f2mem m).mp hm with h | h
          · exact flLn m h
          · exact llLn m (List.mem_of_mem_take h)
        refine put2 (L := L) (F := F0) (b := b) (lot := lot) rfl rfl rfl dLy dFy hby hlm f2len fun cs dcs => hD' _ _ ⟨hi1, addL f2 lot, some (.ref b), u6, u7, upd_same0 smy f0, ky.trans (upd_keep dFy), dcs, dLy.upd (Ne.symm nFL), addL_nodup f2nd, fun m => ?_, rfl⟩
        rw [mem_addL, f2mem, List.take_succ_eq_append_getElem hi1, hie, List.mem_append, List.mem_singleton, or_assoc]
      · rintro σ Hy ⟨_, f2, u5, u6, u7, smy, ky, dFy, dLy, f2nd, f2mem, rfl⟩
        -- edge = later
        refine ⟨.ref L, rfl, 13 - (k + 1), by omega, k + 1, L, f2, ll, some (.ref L), u5, u6, u7, rfl, smy, ?_, dFy, hLH, dLy, nFL, bfs_next bfs lnd lmem' f2nd fun m => ?_, rfl⟩
        · exact ((((((kd.trans (KeepD.of sm3)).trans (KeepD.of s4')).trans kx).trans (KeepD.of s7')).trans ky))
        · rw [f2mem, List.length_map, hbl2, List.take_length]
end K23

set_option Elab.async false
set_option linter.all false
set_option maxRecDepth 100000
set_option maxHeartbeats 4000000
/-! max of tuples (length, lot). -/
namespace K23
open PySem PySem.Spec PyProof.Rows L2
theorem maxD_ok : ∀ (xs : List (List Nat)) (x : List Nat), ∃ m, PySem.W.maxD (kyD x) (xs.map kyD) = kyD m ∧ m ∈ x :: xs ∧ ∀ l ∈ x :: xs, kleL l m = true
  | [], x => ⟨x, rfl, List.mem_cons_self, fun l hl => by rw [List.mem_singleton.mp hl]; exact kle_total.refl x⟩
  | y :: xs, x => by
    have e : PySem.W.maxD (kyD x) ((y :: xs).map kyD) = PySem.W.maxD (if PySem.W.dataLt (kyD x) (kyD y) then kyD y else kyD x) (xs.map kyD) := rfl
    have k : kleL y x = !PySem.W.dataLt (kyD x) (kyD y) := rfl
    rw [e]
    cases c : PySem.W.dataLt (kyD x) (kyD y) with
    | true =>
      obtain ⟨m, e1, e2, e3⟩ := maxD_ok xs y
      refine ⟨m, e1, List.mem_cons_of_mem _ e2, fun l hl => ?_⟩
      rcases List.mem_cons.mp hl with rfl | hl
      · rcases kle_total.total l y with z | z
        · exact kle_total.trans _ _ _ z (e3 y List.mem_cons_self)
        · rw [k, c] at z; cases z
      · exact e3 l hl
    | false =>
      obtain ⟨m, e1, e2, e3⟩ := maxD_ok xs x
      refine ⟨m, e1, ?_, fun l hl => ?_⟩
      · rcases List.mem_cons.mp e2 with z | z
        · rw [z]; exact List.mem_cons_self
        · exact List.mem_cons_of_mem _ (List.mem_cons_of_mem _ z)
      · rcases List.mem_cons.mp hl with rfl | hl
        · exact e3 l List.mem_cons_self
        · rcases List.mem_cons.mp hl with rfl | hl
          · exact kle_total.trans _ _ _ (by rw [k, c]; rfl) (e3 x List.mem_cons_self)
          · exact e3 l (List.mem_cons_of_mem _ hl)
theorem reads_dI {h : Heap} : ∀ {vs : List Value} {l m : List Nat} {as bs : List Addr}, ReadsAll h vs (dI l) as → ReadsAll h vs (dI m) bs → l = m
  | _, [], [], _, _, _, _ => rfl
  | _, [], y :: m, _, _, h1, h2 => by cases h1; cases h2
  | _, x :: l, [], _, _, h1, h2 => by cases h2; cases h1
  | _, x :: l, y :: m, _, _, h1, h2 => by
    cases h1 with
    | cons a b =>
      cases h2 with
      | cons c d =>
        cases a
        have e : (x : Int) = (y : Int) := by
          generalize hx : ((y : Nat) : Int) = z at c ⊢
          cases c; first | exact hx | rfl | exact hx.symm
        rw [reads_dI b d, show x = y by omega]
theorem reads_ky {h : Heap} {v : Value} {l m : List Nat} {as bs : List Addr} (h1 : Reads h v (kyD l) as) (h2 : Reads h v (kyD m) bs) : l = m := by
  unfold kyD at h1 h2
  cases h1 with
  | tuple k1 k2 k3 k4 =>
    cases h2 with
    | tuple j1 j2 j3 j4 =>
      rw [k1] at j1
      cases j1
      rw [k3] at j3
      cases j3
      generalize hv : Array.toList _ = vs at k4 j4
      cases k4 with
      | cons a b =>
        cases j4 with
        | cons c d =>
          cases b with
          | cons b1 b2 =>
            cases d with
            | cons d1 d2 =>
              cases b1 with
              | tuple k1 k2 k3 k4 =>
                cases d1 with
                | tuple j1 j2 j3 j4 =>
                  rw [k1] at j1
                  cases j1
                  rw [k3] at j3
                  cases j3
                  exact reads_dI k4 j4
theorem each_get {α β : Type} {R : α → β → Prop} : ∀ {vs : List α} {ws : List β} {i : Nat} {v : α}, PySem.W.EachIs R vs ws → vs[i]? = some v → ∃ w, ws[i]? = some w ∧ R v w
  | _, _, i, v, .nil, h => by simp at h
  | _, _, 0, v, .cons h _, e => ⟨_, rfl, by have := Option.some.inj e; rw [← this]; exact h⟩
  | _, _, i + 1, v, .cons _ h, e => each_get (i := i) h (by simpa using e)
def rMaxK (K : PySem.W.Frag) : List V → Hp → VK → Prop := fun vs H Q => ∃ (a : Addr) (zs : List (V × List Nat)), vs = [.ref a] ∧ SqL K H a (zs.map (·.1)) ∧ zs ≠ [] ∧
  (∀ z ∈ zs, ∃ t u, z.1 = .ref t ∧ SqT K H t [.int (z.2.length : Int), .ref u] ∧ SqT K H u (z.2.map vI)) ∧ ∀ z ∈ zs, (∀ y ∈ zs, kleL y.2 z.2 = true) → Q z.1 H
theorem dep0 (l : List Nat) : PyData.depthAll (dI l) = 0 := by
  induction l with
  | nil => simp only [dI, List.map_nil, PyData.depthAll]
  | cons x l ih => simp only [dI, List.map_cons, PyData.depthAll, PyData.depth] at ih ⊢; omega
theorem dep2 (l : List Nat) : (kyD l).depth ≤ 2 := by
  have := dep0 l
  simp only [kyD, PyData.depth, PyData.depthAll, this]; decide
theorem depK (ls : List (List Nat)) : PyData.depthAll (ls.map kyD) ≤ 2 := by
  induction ls with
  | nil => simp only [List.map_nil, PyData.depthAll]; decide
  | cons x l ih =>
    have := dep2 x
    simp only [List.map_cons, PyData.depthAll]; omega
theorem cr_maxK {X : Cx} (hc : X.calm = true) (hu : X.A.units + 64 < cLine) : CallR X (.builtin "max") (rMaxK X.K) := by
  intro pins s σ H vs us Q I r h
  obtain ⟨a, zs, rfl, hs, ne, hzs, q⟩ := h
  obtain ⟨its, rv, hl, hsz⟩ := I.list hs
  rw [Vals.ref1 r]
  have eR : PySem.W.EachIs (fun (v : Value) (z : V × List Nat) => RelV z.1 v ∧ ∃ as, Reads s.heap v (kyD z.2) as) its zs := each_of rv fun z hz' v r => by
    obtain ⟨t, u, e, ht, hu'⟩ := hzs z hz'
    obtain ⟨its', rv', p', _⟩ := I.tuple ht
    obtain ⟨its2, rv2, p2, _⟩ := I.tuple hu'
    rw [e] at r ⊢
    cases r
    cases rv' with
    | cons h1 h2 =>
      cases h2 with
      | cons h2 h3 =>
        cases h3
        obtain ⟨tk, rfl⟩ := h1
        cases h2
        obtain ⟨o, ho, hcl, n, hd⟩ := p'
        obtain ⟨o2, ho2, hcl2, n2, hd2⟩ := p2
        exact ⟨rfl, [], .tuple ho hcl hd (.cons (as := []) (bs := []) (.int _ _) (.cons (as := []) (bs := []) (.tuple ho2 hcl2 hd2 (by simpa using reads_ints z.2 its2 rv2)) .nil))⟩
  obtain ⟨as, rall⟩ := PySem.W.each_readsAll (fun z : V × List Nat => kyD z.2) (eR.mono fun v z h => h.2)
  obtain ⟨z0, zr, rfl⟩ : ∃ z0 zr, zs = z0 :: zr := by
    cases zs with
    | nil => exact absurd rfl ne
    | cons z0 zr => exact ⟨_, _, rfl⟩
  have em : (z0 :: zr).map (fun z : V × List Nat => kyD z.2) = kyD z0.2 :: (zr.map (·.2)).map kyD := by rw [List.map_map]; rfl
  rw [em] at rall
  obtain ⟨m, m1, m2, m3⟩ := maxD_ok (zr.map (·.2)) z0.2
  have hal : PySem.W.AllAlike (kyD z0.2 :: (zr.map (·.2)).map kyD) := by
    have : PySem.W.AllAlike ((z0.2 :: zr.map (·.2)).map kyD) := PySem.W.AllAlike.of fun l l' => by
      unfold kyD
      simp [PySem.W.alike, PySem.W.alikeAll, alikeI l l']
    exact this
  have hd : PyData.depthAll (kyD z0.2 :: (zr.map (·.2)).map kyD) ≤ 2 := depK (z0.2 :: zr.map (fun x : V × List Nat => x.2))
  refine PySem.W.max_list_data (I.ok.hd hc) hl.isList (show ReadsAll s.heap its.toArray.toList _ _ from rall) ⟨hal, fun x hx e => by subst e; simp [kyD] at hx⟩ (by have := hd; omega) fun i v h' tk bs hv rd hk => ?_
  rw [m1] at rd
  obtain ⟨z, hz, rz, as', rz2⟩ := each_get eR (by simpa using hv)
  have ez := reads_ky (PyProof.Rows.Reads.keeps hk rz2) rd
  refine ⟨z.1, H, I.kept (t' := tk) hk, rz, q z (List.mem_of_getElem? hz) fun y hy => ?_⟩
  rw [ez]
  refine m3 y.2 ?_
  have := List.mem_map_of_mem (f := fun z : V × List Nat => z.2) hy
  exact this
theorem maxK {X : Cx} {K : PySem.W.Frag} (h : X.K = K) (hc : X.calm = true) (hu : X.A.units + 64 < cLine) : CallR X (.builtin "max") (rMaxK K) := by subst h; exact cr_maxK hc hu
theorem rps_ky {G : Hp} : ∀ {vs : List V} {ls : List (List Nat)}, Rps G vs (ls.map kyD) → ∀ z ∈ vs.zip ls, Rp G z.1 (kyD z.2)
  | _, [], rs, z, hz => by cases rs; simp at hz
  | _, l :: ls, rs, z, hz => by
    cases rs with
    | cons h hr =>
      rw [List.zip_cons_cons] at hz
      rcases List.mem_cons.mp hz with rfl | hz
      · exact h
      · exact rps_ky hr z hz
theorem rc_maxD {K : PySem.W.Frag} {ls : List (List Nat)} {M : List Nat} (hM : M ∈ ls) (hm : ∀ l ∈ ls, l ≠ M → kleL l M = true ∧ kleL M l = false) : RC (rMaxK K) [.list (ls.map kyD)] (fun x => x = kyD M) := fun G H vs s rs Q q => by
  cases rs with
  | cons r1 rn =>
    cases rn
    cases r1 with
    | @lst a us _ g rs =>
      have hlen : us.length = ls.length := by have := rs.length; rwa [List.length_map] at this
      have hz := rps_ky rs
      refine ⟨a, us.zip ls, rfl, by rw [zip_map_fst us ls hlen]; exact SqL.of (s _ _ g), fun e => ?_, fun z hm' => ?_, fun z hz' hk => ?_⟩
      · have : ls.length = 0 := by
          have := congrArg List.length e
          rw [List.length_zip, hlen] at this
          simpa using this
        rw [List.length_eq_zero_iff.mp this] at hM
        cases hM
      · obtain ⟨z1, z2⟩ := z
        have rz : Rp G z1 (kyD z2) := hz _ hm'
        unfold kyD at rz
        cases rz with
        | @tup t xs _ g2 rs2 =>
          cases rs2 with
          | cons ra rs2 =>
            cases rs2 with
            | cons rb rs2 =>
              cases rs2
              cases rb with
              | @tup u ys _ g3 rs3 =>
                refine ⟨t, u, rfl, ?_, ?_⟩
                · rw [← ra.int_of]; exact SqT.of (s _ _ g2)
                · rw [dI_ints] at rs3
                  have := rs3.ints
                  subst this
                  have e2 : (nI z2).map V.int = z2.map vI := by unfold nI vI; rw [List.map_map]; rfl
                  rw [← e2]
                  exact SqT.of (s _ _ g3)
      · have hin : z.2 ∈ ls := (List.of_mem_zip hz').2
        have e : z.2 = M := Classical.byContradiction fun n => by
          have e2 : ((us.zip ls).map (·.2)) = ls := zip_map_snd us ls hlen
          rw [← e2] at hM
          obtain ⟨y, hy, ey⟩ := List.mem_map.mp hM
          have := hk y hy
          rw [ey, (hm _ hin n).2] at this
          cases this
        have rz := hz _ hz'
        rw [e] at rz
        exact q _ _ G H rfl (.refl s) rz
end K23

set_option Elab.async false
set_option linter.all false
set_option maxRecDepth 100000
set_option maxHeartbeats 4000000
/-! The law's own walk: what it needs besides. -/
namespace K23
open PySem PySem.Spec PyProof.Rows L2 LamX
section
variable {K : PySem.W.Frag} {r : Option Addr} {G H : Hp} {σ : L2.St} {Γ : Env}
theorem StOk.setS {i : Nat} {x : Option V} {s : Sl} (S : StOk K r G H σ Γ) (ho : ∀ ds, s ≠ .own ds) (ok : SlOk r G H (some x) s) : StOk K r G H (σ.set i x) (Γ.set i s) := by
  refine ⟨S.same, S.row, by simpa using S.len, fun j t e => ?_, fun j k ds es a e1 e2 f1 f2 => ?_⟩
  · by_cases hj : i = j
    · subst hj
      by_cases hl : i < Γ.length
      · rw [List.getElem?_set_self hl] at e
        cases e
        rw [List.getElem?_set_self (by rw [S.len]; exact hl)]
        exact ok
      · rw [List.getElem?_eq_none (by simpa using hl)] at e; cases e
    · rw [List.getElem?_set_ne hj] at e ⊢
      exact S.ok j t e
  · have ne : ∀ {j : Nat} {ds : List PyData}, (Γ.set i s)[j]? = some (.own ds) → i ≠ j ∧ Γ[j]? = some (.own ds) := fun {j ds} e => by
      by_cases hj : i = j
      · subst hj
        by_cases hl : i < Γ.length
        · rw [List.getElem?_set_self hl] at e; exact absurd (Option.some.inj e) (ho ds)
        · rw [List.getElem?_eq_none (by simpa using hl)] at e; cases e
      · rw [List.getElem?_set_ne hj] at e
        exact ⟨hj, e⟩
    obtain ⟨n1, e1⟩ := ne e1
    obtain ⟨n2, e2⟩ := ne e2
    rw [List.getElem?_set_ne n1] at f1
    rw [List.getElem?_set_ne n2] at f2
    exact S.sep j k ds es a e1 e2 f1 f2
theorem own_setS {i : Nat} {x : Option V} {s : Sl} (ho : ∀ ds, s ≠ .own ds) {a : Addr} (h : Own (σ.set i x) (Γ.set i s) a) : Own σ Γ a := by
  obtain ⟨j, ds, e1, e2⟩ := h
  by_cases hj : i = j
  · subst hj
    by_cases hl : i < Γ.length
    · rw [List.getElem?_set_self hl] at e1; exact absurd (Option.some.inj e1) (ho ds)
    · rw [List.getElem?_eq_none (by simpa using hl)] at e1; cases e1
  · rw [List.getElem?_set_ne hj] at e1 e2
    exact ⟨j, ds, e1, e2⟩
/-! ### all tuples become known -/
def gU (G H : Hp) : Hp := fun a => match G a with | some o => some o | none => match H a with | some (.tup vs) => some (.tup vs) | _ => none
theorem gU_l : Same G (gU G H) := fun a o e => by unfold gU; rw [e]
theorem gU_sub (s : Same G H) : Same (gU G H) H := fun a o e => by
  unfold gU at e
  cases q : G a with
  | some u => rw [q] at e; cases e; exact s _ _ q
  | none =>
    rw [q] at e
    cases q2 : H a with
    | none => rw [q2] at e; cases e
    | some u => rw [q2] at e; cases u <;> first | exact e | cases e
theorem gU_tup (s : Same G H) {a : Addr} {vs : List V} (h : H a = some (.tup vs)) : gU G H a = some (.tup vs) := by
  unfold gU
  cases q : G a with
  | some u => have := s _ _ q; rw [h] at this; cases this; rfl
  | none => rw [h]
theorem gU_lst {a : Addr} {vs : List V} (g : G a = none) (h : H a = some (.lst vs)) : gU G H a = none := by unfold gU; rw [g, h]
theorem StOk.more (S : StOk K r G H σ Γ) : StOk K r (gU G H) H σ Γ := by
  refine ⟨gU_sub S.same, fun a e => ?_, S.len, fun i s e => ?_, S.sep⟩
  · obtain ⟨g, sa, ns, k, s, rest, e1, e3, e4⟩ := S.row a e
    exact ⟨gU_lst g e1, sa, ns, k, s, rest, e1, e3.up gU_l fun o u z => z, e4⟩
  · have q := S.ok i s e
    cases s with
    | no => trivial
    | val d => obtain ⟨v, e1, e2⟩ := q; exact ⟨v, e1, e2.up gU_l⟩
    | own ds =>
      obtain ⟨D, vs, e1, e2, e3, e4, e5⟩ := q
      exact ⟨D, vs, e1, gU_lst e2 e4, e3, e4, e5.up gU_l⟩
    | row => exact q
    | raw v => exact q
    | dk ls => exact q
end
theorem rps_keys {G H : Hp} (s : Same G H) : ∀ {cs : List (List L2.Key × V)} {bs : List Addr} {ls : List (List Nat)}, IsKeys H cs bs → cs.map (·.1) = ls.map kL → Rps (gU G H) (bs.map V.ref) (ls.map fun l => .tuple (dI l))
  | [], _, ls, h, hk => by
    cases h
    have : ls = [] := by simpa using hk.symm
    subst this; exact .nil
  | p :: cs, _, [], h, hk => by simp at hk
  | p :: cs, _, l :: ls, h, hk => by
    cases h with
    | @cons _ b _ bs h1 h2 =>
      have hk' : p.1 = kL l ∧ cs.map (·.1) = ls.map kL := by simpa using hk
      rw [hk'.1, kL_vI] at h1
      exact .cons (.tup (gU_tup s h1) (rps_vI l)) (rps_keys (cs := cs) (ls := ls) s h2 hk'.2)
/-! ### the walk, the tables beside -/
def Wt (K : PySem.W.Frag) (T : List (Addr × Str)) (t : TS) (Γ : Env) (R : PyData → Prop) : Prop :=
  ∀ (r : Option Addr) (G H : Hp) (σ : L2.St), StOk K r G H σ Γ → Tabs T H → ∀ D : Ends, (∀ v d G' H', R d → Rp G' v d → D.rt v H') → t D σ H
section
variable {K : PySem.W.Frag} {T : List (Addr × Str)} {Γ : Env} {t u : TS} {N : Env → Prop} {R : PyData → Prop}
theorem wt_seq (h : Wp K t Γ N R) (k : ∀ Γ', N Γ' → Wt K T u Γ' R) : Wt K T (tSeq t u) Γ R := fun r G H σ S tt D q =>
  h r G H σ S { D with nx := u D } (fun Γ1 σ1 G1 H1 n1 x1 S1 _ => k Γ1 n1 r G1 H1 σ1 S1 (tabs_ext tt x1 S.row fun a z => let ⟨vs, _, _, e⟩ := own_none S z; ⟨vs, e⟩) D q) fun v d G1 H1 rd _ _ rp => q v d G1 H1 rd rp
theorem wt_last (h : Wp K t Γ (fun _ => False) R) : Wt K T t Γ R := fun r G H σ S tt D q => h r G H σ S D (fun _ _ _ _ n => n.elim) fun v d G1 H1 rd _ _ rp => q v d G1 H1 rd rp
/-! ### the row of draws -/
theorem wt_row {H : Hp} {a : Addr} {ns : List Int} {m : Nat} {D : Ends} (hs : SqL K H a (ns.map V.int)) (tt : Tabs T H) (k : Wt K T u (.no :: .row :: List.replicate m .no) R) (q : ∀ v d G' H', R d → Rp G' v d → D.rt v H') :
    tSeq (tAsg (tLst (tCons (tVar 0) (tCons (tC (.int 0)) (tCons (tC (.int 5223)) (tCons (tC (.int 0)) tNil))))) (gName 1)) u D (some (.ref a) :: none :: List.replicate m none) H := by
  refine ⟨.ref a, rfl, by show 4 ≤ sizeLine; decide, fun p hp => ?_⟩
  have hT : Tabs T (upd H p (.lst [.ref a, .int 0, .int 5223, .int 0])) := fun x hx => (tt x hx).ext fun b o e => by rw [upd_ne (ne_of_none e hp)]; exact e
  have kn : ∀ b o, H b = some o → upd H p (.lst [.ref a, .int 0, .int 5223, .int 0]) b = some o := fun b o e => by rw [upd_ne (ne_of_none e hp)]; exact e
  refine k (some p) (fun b => if b = a then H a else none) _ _ ⟨fun b o e => ?_, fun b e => ?_, ?_, fun i s e => ?_, fun i j ds es b e => ?_⟩ hT D q
  · by_cases h : b = a
    · subst h
      simp only [if_true] at e
      exact kn _ _ e
    · simp only [if_neg h] at e; cases e
  · cases e
    refine ⟨?_, a, ns, 0, 5223, 0, upd_same, ?_, by decide, by decide, by decide, by decide⟩
    · by_cases h : p = a
      · subst h; simp only [if_true]; exact hp
      · simp only [if_neg h]
    · rcases hs with (h | ⟨o, h⟩) | h
      · exact .inl (by simp only [if_true]; exact h)
      · exact .inr (.inl ⟨o, kn _ _ h⟩)
      · exact .inr (.inr h)
  · simp
  · match i, e with
    | 0, e => cases e; trivial
    | 1, e => cases e; exact ⟨p, rfl, rfl⟩
    | i + 2, e =>
      have e' : (List.replicate m Sl.no)[i]? = some s := e
      have := List.mem_of_getElem? e'
      rw [List.mem_replicate] at this
      rw [this.2]; trivial
  · match i, e with
    | 0, e => cases e
    | 1, e => cases e
    | i + 2, e =>
      have e' : (List.replicate m Sl.no)[i]? = some (.own ds) := e
      have := List.mem_of_getElem? e'
      rw [List.mem_replicate] at this
      cases this.2
/-! ### the lots known -/
theorem wp_lots {f : Addr} {S : BDs} (e3 : Γ[3]? = some (.val (dBs S))) (g : GoodS S) (k : ∀ ls : List (List Nat), ls.Nodup → (∀ m, m ∈ ls ↔ ComesB S.h S.w S.bs (fun _ => True) m) → N (Γ.set 8 (.dk ls))) : Wp K (tAsg (tCall (spL f) [] E0 (tCons (tVar 3) (tCons (tC (.ref f)) tNil))) (gName 8)) Γ N R := fun r G H σ S' D n q => by
  obtain ⟨v, e1, e2⟩ := S'.ok 3 _ e3
  refine ⟨v, e1, S, v, rfl, Rp.gTs S'.same _ _ e2, g, fun F H' ls s f0 dk nd mem => ?_⟩
  have x : Ext none NoO G H G H' := ⟨fun a o _ _ e => s _ _ e, fun _ _ e => e, fun a o e => s _ _ (S'.same _ _ e), fun a o e => .inl e⟩
  have S1 := S'.ext0 x
  exact n _ _ G H' (k ls nd mem) x.any (S1.setS (i := 8) (fun ds z => by cases z) ⟨F, rfl, S'.row.ne f0, dk⟩) fun a z => .inl (own_setS (fun ds z => by cases z) z)
theorem ev_dIn {m : List Nat} {ls : List (List Nat)} (e7 : Γ[7]? = some (.val (.tuple (dI m)))) (e8 : Γ[8]? = some (.dk ls)) : Ev K (tDIn (tVar 7) (tVar 8)) Γ (.bool (decide (m ∈ ls))) := fun r G H σ S Q q => by
  obtain ⟨v, e1, e2⟩ := S.ok 7 _ e7
  obtain ⟨F, f1, f2, cs, f3, f4, f5⟩ := S.ok 8 _ e8
  obtain ⟨b, rfl, hb⟩ := tup_of (Rp.gTs S.same _ _ e2)
  have hb' : H b = some (.tup ((kL m).map kV)) := by rw [kL_vI]; exact hb
  refine ⟨.ref b, e1, .ref F, f1, F, valV cs (kL m), rfl, DGet.t f3 hb', ?_⟩
  have : (valV cs (kL m)).isSome = decide (m ∈ ls) := by
    rw [← valV_any, Bool.eq_iff_iff, any_mem f4, decide_eq_true_iff]
  rw [this]
  exact q _ _ G H rfl (.refl S.same) S.row (.bl _)
/-- the longest of the lots known -/
theorem wt_max {ls : List (List Nat)} {M : List Nat} (e8 : Γ[8]? = some (.dk ls)) (hl : ls.length ≤ 4096) (hM : M ∈ ls) (hm : ∀ l ∈ ls, l ≠ M → kleL l M = true ∧ kleL M l = false) (hs : ∀ l ∈ ls, l.length ≤ 1000) {te : TE}
    (he : ∀ l ∈ ls, Ev K te (Γ.set 22 (.val (.tuple (dI l)))) (kyD l)) (k : Wt K T u (Γ.set 9 (.val (.tuple (dI M)))) R) :
    Wt K T (tSeq (tAsg (tOp (rIxT K) (tCB (rMaxK K) (tCons (tLc (iList K (tCB (fun xs H Q => ∃ d kvs, xs = [V.ref d] ∧ Rd H d (.dT kvs) ∧ ∀ p bs, H p = none → IsKeys H kvs bs → Q (.ref p) (upd H p (.lst (bs.map V.ref)))) (tCons (tVar 8) tNil))) (gName 22) tYes te [22]) tNil)) (tC (.int 1))) (gName 9)) u) Γ R := fun r G H σ S tt D q => by
  obtain ⟨F, f1, f2, cs, f3, f4, f5⟩ := S.ok 8 _ e8
  refine ⟨.ref F, f1, F, cs, rfl, .inl f3, fun p bs hp hk => ⟨p, rfl, ⟨_, SqL.of upd_same⟩, ?_⟩⟩
  have S0 := S.more
  have rs := rps_keys S.same hk f4
  have x0 : Ext none NoO (gU G H) H (upd (gU G H) p (.lst (bs.map V.ref))) (upd H p (.lst (bs.map V.ref))) := Ext.obj S0.same hp
  have S1 := S0.ext0 x0
  have t1 : Tabs T (upd H p (.lst (bs.map V.ref))) := fun x hx => (tt x hx).ext fun b o e => by rw [upd_ne (ne_of_none e hp)]; exact e
  have ww : Walks (Itl K p) (upd (gU G H) p (.lst (bs.map V.ref))) (ls.map fun l => .tuple (dI l)) := walks_list upd_same (rs.up x0.kn)
  show tLc (fun _ H R => R (Itl K p) H) (gName 22) tYes te [22] σ (upd H p (.lst (bs.map V.ref))) (fun x H1 => rMaxK K [x] H1 fun x H1 => rIxT K x (.int 1) H1 fun x H1 => u D (σ.set 9 (some x)) H1)
  refine lc_at (P := fun d => d = .list (ls.map kyD)) S1 ww (B := fun _ => True) tgt_name (fun _ _ => trivial) ?_ _ fun v d G' H' hd x w rp => ?_
  · have h := lc_ok (K := K) (tt := tYes) (te := te) (l := ls) (enc := fun l => .tuple (dI l)) (Γx := fun d => Γ.set 22 (.val d)) (fun _ => true) kyD (by omega) (fun a _ => et_yes) fun a ha _ => he a ha
    rwa [List.filter_eq_self.mpr (fun _ _ => rfl)] at h
  · subst hd
    have t2 : Tabs T H' := tabs_ext t1 x S1.row fun a z => z.elim
    have S2 := S1.ext x w
    refine rc_maxD (K := K) hM hm G' H' [v] S2.same (.one rp) _ fun v2 d2 G2 H2 p2 x2 r2 => ?_
    subst p2
    have S3 := S2.ext0 x2
    have t3 : Tabs T H2 := tabs_ext t2 x2 (RowOk.no (K := K)) fun a z => z.elim
    refine rv_ixT (K := K) (ds := [.int (M.length : Int), .tuple (dI M)]) (i := 1) (d := .tuple (dI M)) rfl G2 H2 v2 (.int 1) S3.same r2 (.int 1) _ fun v3 d3 G3 H3 p3 x3 r3 => ?_
    subst p3
    have S4 := S3.ext0 x3
    have t4 : Tabs T H3 := tabs_ext t3 x3 (RowOk.no (K := K)) fun a z => z.elim
    exact k r G3 H3 _ (S4.set r3) t4 D q
/-! ### try -/
theorem wt_try {mg : Str → Option Value} {C Pt : Addr} (NF : NFs K mg C) {B : BD} {x : Nat} {rest : TS} (hT : T = [(Pt, QL)]) (e2 : Γ[2]? = some (.val (dB B.b))) (e15 : Γ[15]? = some (.val (.int (x : Int)))) (g : Good B) (hx : x < B.h + B.w)
    (h1 : x ∉ lastOf B.h B.w B.b → Wt K T u (((Γ.set 21 .no).set 18 (.val (.str "never"))).set 21 .no) R)
    (h2 : x ∈ lastOf B.h B.w B.b → Wt K T (tSeq rest u) ((Γ.set 6 (.val (match fewOf B.h B.w B.b x with | some lot => .tuple (dI lot) | none => .none))).set 19 (.val .none)) R) :
    Wt K T (tSeq (fun D σ H => (fun W => tSeq (tPar 6 19 (tCons (tCallS (SP_fewest_held Pt C) (WE W) (tCons (tVar 2) (tCons (tVar 15) tNil))) (tCons (tC .non) tNil))) rest) (wAs K (.ref C) 21 (fun _ _ _ => tAsg (tC (.str "never")) (gName 18)) (fun _ _ _ _ => False) D) D σ H) u) Γ R := fun r G H σ S tt D q => by
  subst hT
  obtain ⟨v2, f2, r2⟩ := S.ok 2 _ e2
  obtain ⟨v15, f15, r15⟩ := S.ok 15 _ e15
  refine ⟨v2, f2, v15, f15, (B, x), G, S.same, .cons r2 (.cons r15 .nil), ⟨g, hx⟩, tt, fun v d G' H' hd xq t' rv => ?_, fun G' H' hd xq t' => ?_⟩
  · have hin : x ∈ lastOf B.h B.w B.b := by
      by_cases c : x ∈ lastOf B.h B.w B.b
      · exact c
      · have hd : (if (lastOf B.h B.w B.b).contains x then some (match fewOf B.h B.w B.b x with | some lot => PyData.tuple (dI lot) | none => PyData.none) else none) = some d := hd
        rw [if_neg (by simpa using c)] at hd; cases hd
    have e : d = match fewOf B.h B.w B.b x with | some lot => PyData.tuple (dI lot) | none => PyData.none := by
      have hd : (if (lastOf B.h B.w B.b).contains x then some (match fewOf B.h B.w B.b x with | some lot => PyData.tuple (dI lot) | none => PyData.none) else none) = some d := hd
      rw [if_pos (by simpa using hin)] at hd
      exact (Option.some.inj hd).symm
    subst e
    exact ⟨v, .non, rfl, h2 hin r G' H' _ (((S.exq xq).set rv).set .non) t' D q⟩
  · have hin : x ∉ lastOf B.h B.w B.b := fun c => by
      have hd : (if (lastOf B.h B.w B.b).contains x then some (match fewOf B.h B.w B.b x with | some lot => PyData.tuple (dI lot) | none => PyData.none) else none) = none := hd
      rw [if_pos (by simpa using c)] at hd; cases hd
    refine ⟨true, NF.m, fun _ a _ => ?_, fun z => by cases z⟩
    refine h1 hin r G' H' _ ?_ t' D q
    exact (((S.exq xq).setS (i := 21) (s := .no) (fun ds z => by cases z) trivial).set (.str _)).setS (i := 21) (s := .no) (fun ds z => by cases z) trivial
theorem rv_eqS {a b : Str} : RV rEq (.str a) (.str b) (fun x => x = .bool (decide (a = b))) := fun G H x y s h1 h2 Q q => by
  rw [h1.str_of, h2.str_of]
  refine ⟨rfl, ?_⟩
  have e : decide (V.str a = V.str b) = decide (a = b) := by simp
  rw [e]
  exact q _ _ G H rfl (.refl s) (.bl _)
end
/-! ### rounds -/
theorem rnds_len {S : List Nat → List Nat} : ∀ (k : Nat) (lot : List Nat), (rnds S k lot).length ≤ k
  | 0, _ => Nat.le_refl _
  | k + 1, lot => by
    unfold rnds
    split
    · exact Nat.zero_le _
    · rw [List.length_cons]; exact Nat.succ_le_succ (rnds_len k _)
theorem rnds_mem {S : List Nat → List Nat} {l : List Nat} : ∀ (k : Nat) (lot : List Nat), l ∈ rnds S k lot → ∃ m, l = S m
  | 0, _, h => by cases h
  | k + 1, lot, h => by
    unfold rnds at h
    split at h
    · cases h
    · rcases List.mem_cons.mp h with rfl | h
      · exact ⟨lot, rfl⟩
      · exact rnds_mem k _ h
/-! ### the promise -/
def spMain (K : PySem.W.Frag) (T : List (Addr × Str)) : Sp := fun vs H Q _ => ∃ (a : Addr) (ns : List Int), vs = [.ref a] ∧ SqL K H a (ns.map V.int) ∧ Tabs T H ∧ ∀ H', Q (.bl true) H'
end K23

set_option Elab.async false
set_option linter.all false
set_option maxRecDepth 100000
set_option maxHeartbeats 4000000
namespace K23
open PySem PySem.Spec PyProof.Rows L2 LamX
/-! slots [(0, '_law_script'), (1, '_law_row'), (2, '_law_board_here'), (3, '_law_boards'), (4, '_law_turn'), (5, '_law_new'), (6, '_law_told'), (7, '_law_lot_here'), (8, '_law_known'), (9, '_law_last'), (10, '_law_now'), (11, '_law_found'), (12, '_law_some'), (13, '_law_end_here'), (14, '_law_many'), (15, '_law_line'), (16, '_law_held_here'), (17, '_law_due'), (18, '_law_word'), (19, '_law_best'), (20, '_law_size'), (21, 'e'), (22, '_law_one'), (23, '_law_a'), (24, '_law_b')] -/
abbrev N_law : List Str := ["_law_script", "_law_row", "_law_board_here", "_law_boards", "_law_turn", "_law_new", "_law_told", "_law_lot_here", "_law_known", "_law_last", "_law_now", "_law_found", "_law_some", "_law_end_here", "_law_many", "_law_line", "_law_held_here", "_law_due", "_law_word", "_law_best", "_law_size", "e", "_law_one", "_law_a", "_law_b"]
theorem sc_law : FnScope N_law ["_law_script"] (defScope slaw) := ⟨rfl, rfl, rfl, by decide +kernel, rfl, by decide +kernel, by decide +kernel⟩
theorem wp_seqE {K : PySem.W.Frag} {Γ Γ1 : Env} {t u : TS} {T : List (Addr × Str)} {R : PyData → Prop} (h : Wp K t Γ (fun Γ' => Γ' = Γ1) R) (k : Wt K T u Γ1 R) : Wt K T (tSeq t u) Γ R := wt_seq h fun Γ' e => by rw [e]; exact k
theorem fnOk_of {P : Program} {w : World} {K : PySem.W.Frag} {mg : Str → Option Value} {base : Heap} {x : Str} {st : Stmt} {ps N : List Str} {k : Nat} {sp : Sp} {f : Addr} {fd : FuncData} (F : FnD K x st f fd) (S : FnScope N ps (defScope st)) (len : ∀ vs H Q E, sp vs H Q E → vs.length = ps.length)
    (hbody : ∀ (f : Addr) (cdv : Value) (A : Around) (outer : List PySem.Env) (s : Shared) (H : Hp) (vs : List V) (Q : VK) (E : XK), Room k (A.deeper (envOfC x (defScope st) s.heap.objs.size f cdv)) → sp vs H Q E →
      ∃ t, PSs (cxOf CX0 P w K mg base N x (defScope st) f cdv A outer s H E).nox (defBody st) t ∧ t { nx := fun _ H' => Q .non H', rt := Q } (L2.start N vs) H) : FnOk P w K mg base CX0 (k + 1) f fd ps sp := FunD.ok F S len fun cdv A outer s H vs Q E hr hs => by
  obtain ⟨t, a, b⟩ := hbody f cdv A outer s H vs Q E hr hs
  exact ⟨t, a.nox, b⟩
abbrev Yes : PyData → Prop := fun d => d = .bool true
/-- a row of a board drawn anew -/
def RowD (n : Nat) (l : List (Int × Int)) : Prop := l.length = n ∧ ∀ p ∈ l, (-1000 ≤ p.1 ∧ p.1 ≤ 1000) ∧ -1000 ≤ p.2 ∧ p.2 ≤ 1000
theorem at_tk {x : Nat} {l : List Nat} {q : Nat → Bool} : True := trivial
theorem sub_keep {l m : List Nat} {k x : Nat} (h : m.Sublist (l.take k)) (hx : l[k]? = some x) : (m ++ [x]).Sublist (l.take (k + 1)) := by
  have : l.take (k + 1) = l.take k ++ [x] := by rw [List.take_add_one, hx]; rfl
  rw [this]; exact h.append (.refl _)
theorem sub_skip {l m : List Nat} {k x : Nat} (h : m.Sublist (l.take k)) (hx : l[k]? = some x) : m.Sublist (l.take (k + 1)) := by
  have : l.take (k + 1) = l.take k ++ [x] := by rw [List.take_add_one, hx]; rfl
  rw [this]; exact h.trans (List.sublist_append_left _ _)
def encO (o : Option (List Nat)) : PyData := match o with | some lot => .tuple (dI lot) | none => .none
theorem encO_dep {o : Option (List Nat)} (h : ∀ l, o = some l → l.length ≤ 1000) : dep 3 (encO o) := by
  cases o with
  | none => exact .inl rfl
  | some l => exact dep_ints (h l rfl) 1
theorem find_add {p : List Nat → Bool} (L : List (List Nat)) (lot : List Nat) : (L ++ [lot]).find? p = (match L.find? p with | some a => some a | none => if p lot then some lot else none) := by
  rw [List.find?_append]
  cases L.find? p with
  | some a => rfl
  | none =>
    by_cases c : p lot = true
    · rw [if_pos c, List.find?_cons_of_pos c]; rfl
    · rw [if_neg c, List.find?_cons_of_neg c]; rfl
section
variable {K : PySem.W.Frag} {T : List (Addr × Str)} {B : BD} {R : PyData → Prop} {u : TS}
/-- boards drawn from the first -/
theorem s_boards (g : GoodB B) {N : Env → Prop} (k : ∀ (bs : List Board) (s4 s5 s6 : Sl), bs.length ≤ 4 → B.b ∈ bs → (∀ b ∈ bs, Good ⟨B.h, B.w, b⟩) → N [.no, .row, .val (dB B.b), .own (bs.map dB), s4, s5, s6, .no, .no, .no, .no, .no, .no, .no, .no, .no, .no, .no, .no, .no, .no, .no, .no, .no, .no]) :
    Wp K (tFor (iRng1 (tCons (tCall (SP__law_taken K) [] E0 (tCons (tVar 1) (tCons (tC (.int 3)) tNil))) tNil)) (gName 4) (tSeq (tAsg (tLst tNil) (gName 5)) (tSeq (tFor (iTup K (tVar 2)) (gName 6) (tDrop (tBM K "list" rAppend (tVar 5) (tCons (tThen (tLc (iTup K (tVar 6)) (gTup K 2 (gCons (gName 23) (gCons (gName 24) gNil))) tYes (tTup (tCons (tOp (rI0 fun i j => .int (i + j)) (tVar 23) (tCall (SP__law_taken K) [] E0 (tCons (tVar 1) (tCons (tC (.int 3)) tNil)))) (tCons (tOp (rI0 fun i j => .int (i + j)) (tVar 24) (tCall (SP__law_taken K) [] E0 (tCons (tVar 1) (tCons (tC (.int 3)) tNil)))) tNil))) [23, 24]) (kTup K)) tNil)))) (tDrop (tBM K "list" rAppend (tVar 3) (tCons (tThen (tVar 5) (kTup K)) tNil))))))
      [.no, .row, .val (dB B.b), .own [dB B.b], .no, .no, .no, .no, .no, .no, .no, .no, .no, .no, .no, .no, .no, .no, .no, .no, .no, .no, .no, .no, .no] N Yes := by
  refine wp_for (ei_range1 (A := fun ds => ∃ n : Nat, n < 3 ∧ ds = [.int (n : Int)]) (ea_cons (ev_take (n := 3) rfl ev_int (by decide) (by decide)) ea_nil fun d ds ⟨n, hn, e⟩ e2 => ⟨n, hn, by rw [e, e2]⟩) fun ds ⟨n, hn, e⟩ => ⟨n, e, by omega, by omega⟩) fun items ⟨n, ⟨n', hn', en⟩, ei⟩ => ?_
  have hn : n = (n' : Int) := by simpa using en
  have hlen : items.length = n' := by rw [ei, rangeD_len, hn]; rfl
  refine ⟨fun k Γ => ∃ (bs : List Board) (s4 s5 s6 : Sl), bs.length = k + 1 ∧ B.b ∈ bs ∧ (∀ b ∈ bs, Good ⟨B.h, B.w, b⟩) ∧ Γ = [.no, .row, .val (dB B.b), .own (bs.map dB), s4, s5, s6, .no, .no, .no, .no, .no, .no, .no, .no, .no, .no, .no, .no, .no, .no, .no, .no, .no, .no], ⟨[B.b], .no, .no, .no, rfl, by simp, fun b hb => (by rw [List.mem_singleton.mp hb]; exact g.good), rfl⟩, ?_, ?_⟩
  · rintro k y Γ hy ⟨bs, s4, s5, s6, h1, h2, h3, rfl⟩
    have hk : k < n' := by have := (List.getElem?_eq_some_iff.mp hy).1; omega
    refine ⟨_, tgs_name, ?_⟩
    refine wp_seq (N1 := fun Γ => Γ = [.no, .row, .val (dB B.b), .own (bs.map dB), .val y, .own [], s6, .no, .no, .no, .no, .no, .no, .no, .no, .no, .no, .no, .no, .no, .no, .no, .no, .no, .no]) (wp_setOwn ea_nil (fun ds e => by rw [e]; decide) fun ds e => by rw [e]; rfl) fun Γ e => ?_
    subst e
    refine wp_seq (N1 := fun Γ => ∃ (rows : List (List (Int × Int))) (s6 : Sl), rows.length = B.b.length ∧ (∀ r ∈ rows, RowD B.w r) ∧ Γ = [.no, .row, .val (dB B.b), .own (bs.map dB), .val y, .own (rows.map dRow), s6, .no, .no, .no, .no, .no, .no, .no, .no, .no, .no, .no, .no, .no, .no, .no, .no, .no, .no]) (wp_for (ei_tupD (ds := B.b.map dRow) ev_var) fun items e => ⟨fun j Γ => ∃ (rows : List (List (Int × Int))) (s6 : Sl), rows.length = j ∧ (∀ r ∈ rows, RowD B.w r) ∧ Γ = [.no, .row, .val (dB B.b), .own (bs.map dB), .val y, .own (rows.map dRow), s6, .no, .no, .no, .no, .no, .no, .no, .no, .no, .no, .no, .no, .no, .no, .no, .no, .no, .no], ⟨[], s6, rfl, fun r hr => (by cases hr), rfl⟩, ?_, ?_⟩) fun Γ e => ?_
    · subst e
      rintro j z Γ hz ⟨rows, s6, r1, r2, rfl⟩
      rw [List.getElem?_map] at hz
      obtain ⟨row, hrow, rfl⟩ := Option.map_eq_some_iff.mp hz
      have hrm : row ∈ B.b := List.mem_of_getElem? hrow
      have hj : j < B.b.length := (List.getElem?_eq_some_iff.mp hrow).1
      have rl := g.good.row row hrm
      have hbl := g.good.len
      have h6 := g.good.h6
      have w6 := g.good.w6
      refine ⟨_, tgs_name, ?_⟩
      refine wp_app (ds := rows.map dRow) rfl (P := fun d => ∃ l, RowD B.w l ∧ d = dRow l) (evn_tupleL (evn_lcRp (l := row) (enc' := dP) (S := fun p => (-1000 ≤ p.1 ∧ p.1 ≤ 1000) ∧ -1000 ≤ p.2 ∧ p.2 ≤ 1000) (by decide) (ei_tupD (ds := row.map dP) ev_var) (by omega) fun p hp => ?_) fun d ⟨l, l1, l2, l3⟩ => ⟨_, l3, l, ⟨l1.trans rl, l2⟩, rfl⟩) (by rw [List.length_map]; omega) fun d ⟨l, hl, e⟩ => ⟨rows ++ [l], .val (dRow row), by rw [List.length_append, r1]; rfl, fun r hr => ?_, by rw [e, List.map_append]; rfl⟩
      · have hs := g.small row hrm p hp
        have tk : ∀ {i : Nat} {c : Int} {Γ : Env}, Γ[1]? = some .row → Γ[i]? = some (.val (.int c)) → EvN K (tOp (rI0 fun i j => .int (i + j)) (tVar i) (tCall (SP__law_taken K) [] E0 (tCons (tVar 1) (tCons (tC (.int 3)) tNil)))) Γ (fun d => ∃ m : Nat, m < 3 ∧ d = .int (c + m)) := fun {i c Γ} h1 h2 =>
          evn_op (P1 := fun d => d = .int c) (ev_var h2) (ev_take (n := 3) h1 ev_int (by decide) (by decide)) fun dx dy e1 ⟨m, hm, e2⟩ => by
            subst e1 e2
            intro G H x y s h1 h2 Q q
            exact rv_I G H x y s h1 h2 Q fun v d G' H' e => q v d G' H' ⟨m, hm, e⟩
        refine evn_tup (A := fun ds => ∃ m m' : Nat, m < 3 ∧ m' < 3 ∧ ds = [.int (p.1 + m), .int (p.2 + m')]) (ea_cons (tk rfl rfl) (ea_cons (tk rfl rfl) ea_nil (A1 := fun ds => ∃ m : Nat, m < 3 ∧ ds = [.int (p.2 + m)]) fun d ds ⟨m, hm, e1⟩ e2 => ⟨m, hm, by rw [e1, e2]⟩) fun d ds ⟨m, hm, e⟩ ⟨m', hm', e'⟩ => ⟨m, m', hm, hm', by rw [e, e']⟩) (fun ds ⟨m, m', _, _, e⟩ => by rw [e]; show 2 ≤ 1000000; decide) fun ds ⟨m, m', hm, hm', e⟩ => ⟨(p.1 + m, p.2 + m'), ?_, by rw [e]; rfl⟩
        · show (-1000 ≤ p.1 + (m : Int) ∧ p.1 + (m : Int) ≤ 1000) ∧ -1000 ≤ p.2 + (m' : Int) ∧ p.2 + (m' : Int) ≤ 1000
          omega
      · rcases List.mem_append.mp hr with hr | hr
        · exact r2 r hr
        · rw [List.mem_singleton.mp hr]; exact hl
    · subst e
      rintro Γ ⟨rows, s6, r1, r2, rfl⟩
      exact ⟨rows, s6, by rw [r1, List.length_map], r2, rfl⟩
    · obtain ⟨rows, s6, r1, r2, rfl⟩ := e
      refine wp_pub (i := 5) rfl (wp_app (ds := bs.map dB) rfl (P := fun d => d = dB rows) (Ev.to (ev_tupleL (ds := rows.map dRow) ev_var) rfl) (by rw [List.length_map]; omega) fun d e => ⟨bs ++ [rows], .val y, .val (.list (rows.map dRow)), s6, by rw [List.length_append, h1]; rfl, List.mem_append_left _ h2, fun b hb => ?_, by rw [e, List.map_append]; rfl⟩)
      rcases List.mem_append.mp hb with hb | hb
      · exact h3 b hb
      · rw [List.mem_singleton.mp hb]
        exact ⟨r1.trans g.good.len, fun r hr => (r2 r hr).1, g.good.h1, g.good.h6, g.good.w1, g.good.w6, fun r hr => (r2 r hr).2⟩
  · rintro Γ ⟨bs, s4, s5, s6, h1, h2, h3, rfl⟩
    exact k bs s4 s5 s6 (by omega) h2 h3
end
theorem s_rounds {K : PySem.W.Frag} {S : BDs} {a2 a4 a5 a6 a7 a8 a9 a12 : Sl} (g : GoodS S) {N : Env → Prop} (k : ∀ (now : List Nat) (fd : List (List Nat)) (t4 t12 : Sl), ComesB S.h S.w S.bs (fun _ => True) now → fd = rnds (commonL S.h S.w S.bs) 9 [] → now = rend (commonL S.h S.w S.bs) 9 [] → N [.no, .row, a2, .val (dBs S), t4, a5, a6, a7, a8, a9, .val (.tuple (dI now)), .own (fd.map fun l => .tuple (dI l)), t12, .no, .no, .no, .no, .no, .no, .no, .no, .no, .no, .no, .no]) :
    Wp K (tFor (iRng1 (tCons (tC (.int 9)) tNil)) (gName 4) (tSeq (tAsg (tCall SP__law_common [] E0 (tCons (tVar 3) (tCons (tVar 10) tNil))) (gName 12)) (tIfS (tTest (tOp (rNeD K) (tVar 12) (tLst tNil))) (tSeq (tDrop (tBM K "list" rAppend (tVar 11) (tCons (tThen (tVar 12) (kTup K)) tNil))) (tAsg (tThen (tCB (rSortedTI K) (tCons (tOp (rCatA K) (tVar 10) (tThen (tVar 12) (kTup K))) tNil)) (kTup K)) (gName 10))) tNext)))
      [.no, .row, a2, .val (dBs S), a4, a5, a6, a7, a8, a9, .val (.tuple (dI [])), .own [], a12, .no, .no, .no, .no, .no, .no, .no, .no, .no, .no, .no, .no] N Yes := by
  have g1 := g.one; have h6 : S.h ≤ 6 := g1.h6; have w6 : S.w ≤ 6 := g1.w6; have h1 : 1 ≤ S.h := g1.h1; have w1 : 1 ≤ S.w := g1.w1
  refine wp_for (ei_range1D (n := 9) (ea_c ev_int ea_nil) (by decide) (by decide)) fun items e => ⟨fun k Γ => ∃ (now : List Nat) (fd : List (List Nat)) (t4 t12 : Sl), ComesB S.h S.w S.bs (fun _ => True) now ∧ fd ++ rnds (commonL S.h S.w S.bs) (9 - k) now = rnds (commonL S.h S.w S.bs) 9 [] ∧ rend (commonL S.h S.w S.bs) (9 - k) now = rend (commonL S.h S.w S.bs) 9 [] ∧ fd.length ≤ k ∧ Γ = [.no, .row, a2, .val (dBs S), t4, a5, a6, a7, a8, a9, .val (.tuple (dI now)), .own (fd.map fun l => .tuple (dI l)), t12, .no, .no, .no, .no, .no, .no, .no, .no, .no, .no, .no, .no], ⟨[], [], a4, a12, .nil, rfl, rfl, Nat.le_refl _, rfl⟩, ?_, ?_⟩
  · rintro k y Γ hy ⟨now, fd, t4, t12, c, e1, e2, hfl, rfl⟩
    have hk : k < 9 := by
      have := (List.getElem?_eq_some_iff.mp hy).1
      rw [e, rangeD_len] at this; exact this
    obtain ⟨m, hm⟩ : ∃ m, m = 9 - (k + 1) := ⟨_, rfl⟩
    have e9 : 9 - k = m + 1 := by omega
    rw [e9] at e1 e2
    have mem : ∀ x, x ∈ (commonL S.h S.w S.bs) now ↔ x < S.h + S.w ∧ x ∉ now ∧ Falls S.h S.w S.bs now x := fun x => pk_common h1 w1 g.ne c
    have cl : ((commonL S.h S.w S.bs) now).length ≤ S.h + S.w := rising_len commonL_rising fun x hx => ((mem x).mp hx).1
    have nl := c.ln.len
    refine ⟨_, tgs_name, ?_⟩
    refine wp_seq (N1 := fun Γ => Γ = [.no, .row, a2, .val (dBs S), .val y, a5, a6, a7, a8, a9, .val (.tuple (dI now)), .own (fd.map fun l => .tuple (dI l)), .val (.list (dI ((commonL S.h S.w S.bs) now))), .no, .no, .no, .no, .no, .no, .no, .no, .no, .no, .no, .no]) (wp_setD (ev_call (enc := E__law_common) (f := V__law_common) (S, now) (ea_c ev_var (ea_c ev_var ea_nil)) g) rfl) fun Γ e => ?_
    subst e
    refine wp_if (et_test (ev_op ev_var ev_L0 rv_neLI)) (fun hne => ?_) (fun he => wp_next ?_)
    · have hne' : (commonL S.h S.w S.bs) now ≠ [] := by simpa using hne
      rw [rnds, if_neg hne'] at e1
      rw [rend, if_neg hne'] at e2
      have c' := comes_more (keepsB h1 w1 (ne_ex g.ne)) c ((commonL S.h S.w S.bs) now) commonL_rising.nodup fun x hx => (mem x).mp hx
      refine wp_seq (N1 := fun Γ => Γ = [.no, .row, a2, .val (dBs S), .val y, a5, a6, a7, a8, a9, .val (.tuple (dI now)), .own ((fd ++ [(commonL S.h S.w S.bs) now]).map fun l => .tuple (dI l)), .val (.list (dI ((commonL S.h S.w S.bs) now))), .no, .no, .no, .no, .no, .no, .no, .no, .no, .no, .no, .no]) (wp_app (ds := fd.map fun l => .tuple (dI l)) (P := fun d => d = .tuple (dI ((commonL S.h S.w S.bs) now))) rfl (ev_tupleL ev_var) (by rw [List.length_map]; omega) fun d e => by rw [e, List.map_append]; rfl) fun Γ e => ?_
      subst e
      refine wp_setD (ev_tupleL (ev_sortedTN (l := now ++ (commonL S.h S.w S.bs) now) (Ev.to (ev_op ev_var (ev_tupleL ev_var) (rv_catT ?_)) ?_))) ⟨srt (now ++ (commonL S.h S.w S.bs) now), fd ++ [(commonL S.h S.w S.bs) now], _, _, c', ?_, ?_, ?_, rfl⟩
      · rw [dI_len, dI_len]; omega
      · rw [dI_app]
      · rw [← hm, List.append_assoc]; exact e1
      · rw [← hm]; exact e2
      · rw [List.length_append]; exact Nat.succ_le_succ hfl
    · have he' : (commonL S.h S.w S.bs) now = [] := by simpa using he
      rw [rnds_none he'] at e1
      rw [rend_none he'] at e2
      exact ⟨now, fd, _, _, c, by rw [rnds_none he']; exact e1, by rw [rend_none he']; exact e2, by omega, rfl⟩
  · subst e
    rintro Γ ⟨now, fd, t4, t12, c, e1, e2, hfl, rfl⟩
    have e0 : 9 - (rangeD 0 (9 : Int).toNat).length = 0 := by rw [rangeD_len]; rfl
    rw [e0] at e1 e2
    rw [rnds, List.append_nil] at e1
    exact k now fd t4 t12 c e1 e2
/-! ### a lot drawn from all lines -/
theorem s_held {K : PySem.W.Frag} {a2 a3 a4 a5 a6 a7 a8 a9 a10 a11 a12 a13 a15 a16 a17 a18 a19 a20 : Sl} {n : Nat} (hn : n ≤ 12) : EvN K (tThen (tLc (iRng1 (tCons (tVar 14) tNil)) (gName 15) (tTest (tOp rEq (tCall (SP__law_taken K) [] E0 (tCons (tVar 1) (tCons (tC (.int 3)) tNil))) (tC (.int 0)))) (tVar 15) [15]) (kTup K)) [.no, .row, a2, a3, a4, a5, a6, a7, a8, a9, a10, a11, a12, a13, .val (.int (n : Int)), a15, a16, a17, a18, a19, a20, .no, .no, .no, .no] (fun d => ∃ m, Ln n m ∧ d = .tuple (dI m)) := by
  refine evn_tupleL (P := fun d => ∃ m, Ln n m ∧ d = .list (dI m)) (evn_lc (A := fun x => x = dI (List.range n)) (B := fun _ => True) (ei_rangeN (ea_c ev_var ea_nil) (by omega)) tgt_name (fun _ _ _ _ => trivial) fun items e => ?_) fun d ⟨m, hm, e⟩ => ⟨dI m, e, m, hm, rfl⟩
  subst e
  refine ⟨fun k acc => ∃ m : List Nat, m.Sublist ((List.range n).take k) ∧ acc = dI m, ⟨[], List.nil_sublist _, rfl⟩, by rw [dI_len, List.length_range]; omega, fun k x acc hx ⟨m, hm, e⟩ _ => ?_, fun acc ⟨m, hm, e⟩ => ⟨m, ?_, by rw [e]⟩⟩
  · obtain ⟨z, hz, rfl⟩ := dI_at hx
    exact ⟨fun _ => True, etn_takeE (ev_take (n := 3) rfl ev_int (by decide) (by decide)), fun _ => EvN.imp (P := fun d => d = .int (z : Int)) ev_var fun y ey => ⟨m ++ [z], sub_keep hm hz, by rw [e, ey, dI_app]; rfl⟩, fun _ => ⟨m, sub_skip hm hz, e⟩⟩
  · rw [dI_len, List.take_length] at hm
    exact ⟨(rising_range n).sublist hm, fun y hy => List.mem_range.mp (hm.subset hy)⟩
theorem best_step {p : List Nat → Bool} (L : List (List Nat)) (lot : List Nat) (k : Nat) : encO ((L ++ [lot].filter fun m => decide (m.length = k)).find? p) = if ((L.find? p).isNone && (decide ((lot.length : Int) = (k : Int)) && p lot)) = true then .tuple (dI lot) else encO (L.find? p) := by
  by_cases c : lot.length = k
  · have : ([lot].filter fun m => decide (m.length = k)) = [lot] := by rw [List.filter_cons, if_pos (decide_eq_true c)]; rfl
    rw [this, find_add, decide_eq_true (show (lot.length : Int) = (k : Int) by omega), Bool.true_and]
    cases h : L.find? p with
    | some a => rfl
    | none =>
      cases hp : p lot with
      | true => rfl
      | false => rfl
  · have : ([lot].filter fun m => decide (m.length = k)) = [] := by rw [List.filter_cons, if_neg (by simpa using c)]; rfl
    rw [this, List.append_nil, decide_eq_false (show ¬ (lot.length : Int) = (k : Int) by omega), Bool.false_and, Bool.and_false]
    rfl
theorem s_best {K : PySem.W.Frag} {B : BD} {x : Nat} {a3 a4 a5 a6 a7 a8 a9 a10 a11 a12 a14 a16 a17 a18 a20 : Sl} (g : Good B) {N : Env → Prop} (k : ∀ t7 t20 : Sl, N [.no, .row, .val (dB B.b), a3, a4, a5, a6, t7, a8, a9, a10, a11, a12, .val (.tuple (dI (endL B.h B.w B.b))), a14, .val (.int (x : Int)), a16, a17, a18, .val (encO ((bySize ((partsL ((endL B.h B.w B.b).filter fun y : Nat => !decide ((y : Int) = (x : Int)))).mergeSort uleL) (endL B.h B.w B.b).length).find? (fun lot : List Nat => !(heldL B.h B.w B.b lot).contains x))), t20, .no, .no, .no, .no]) :
    Wp K (tFor (iRng1 (tCons (tCB (rLenK K) (tCons (tVar 13) tNil)) tNil)) (gName 20) (tFor (iList K (tCall SP__law_parts [] E0 (tCons (tLc (iTup K (tVar 13)) (gName 22) (tTest (tOp rNe (tVar 22) (tVar 15))) (tVar 22) [22]) tNil))) (gName 7) (tIfS (tAnd (tTest (tOp (fun x y H Q => y = .non ∧ Q (.bl (decide (x = .non))) H) (tVar 19) (tC .non))) (tAnd (tTest (tOp rEq (tCB (rLenK K) (tCons (tVar 7) tNil)) (tVar 20))) (tTest (tOp (rIn K true) (tVar 15) (tCall SP__law_held [] E0 (tCons (tVar 2) (tCons (tVar 7) tNil))))))) (tAsg (tVar 7) (gName 19)) tNext)))
      [.no, .row, .val (dB B.b), a3, a4, a5, a6, a7, a8, a9, a10, a11, a12, .val (.tuple (dI (endL B.h B.w B.b))), a14, .val (.int (x : Int)), a16, a17, a18, .val .none, a20, .no, .no, .no, .no] N Yes := by
  have h6 : B.h ≤ 6 := g.h6; have w6 : B.w ≤ 6 := g.w6
  have hel : (endL B.h B.w B.b).length ≤ B.h + B.w := by
    rw [end_last g.h1 g.w1 (by omega)]; exact lastOf_ln.len
  obtain ⟨p, hp⟩ : ∃ p, p = (fun lot : List Nat => !(heldL B.h B.w B.b lot).contains x) := ⟨_, rfl⟩
  obtain ⟨U, hU⟩ : ∃ U, U = ((partsL ((endL B.h B.w B.b).filter fun y : Nat => !decide ((y : Int) = (x : Int)))).mergeSort uleL) := ⟨_, rfl⟩
  have hes : ((endL B.h B.w B.b).filter fun y : Nat => !decide ((y : Int) = (x : Int))).length ≤ 12 := by
    have := List.length_filter_le (fun y : Nat => !decide ((y : Int) = (x : Int))) (endL B.h B.w B.b)
    omega
  refine wp_for (ei_rangeN (n := (endL B.h B.w B.b).length) (ea_c (Ev.to (ev_lenT (ds := dI (endL B.h B.w B.b)) ev_var) (by rw [dI_len])) ea_nil) (by omega)) fun items e => ⟨fun k Γ => ∃ t7 t20 : Sl, Γ = [.no, .row, .val (dB B.b), a3, a4, a5, a6, t7, a8, a9, a10, a11, a12, .val (.tuple (dI (endL B.h B.w B.b))), a14, .val (.int (x : Int)), a16, a17, a18, .val (encO ((bySize U k).find? p)), t20, .no, .no, .no, .no], ⟨a7, a20, rfl⟩, ?_, ?_⟩
  · subst e
    rintro k y Γ hy ⟨t7, t20, rfl⟩
    obtain ⟨kk, hk, rfl⟩ := dI_at hy
    have hkk : kk = k := by
      have := (List.getElem?_eq_some_iff.mp hk).2
      rw [List.getElem_range] at this; exact this.symm
    subst hkk
    refine ⟨_, tgs_name, ?_⟩
    refine wp_for (ei_listD (ev_call (enc := E__law_parts) (f := V__law_parts) ((endL B.h B.w B.b).filter fun y : Nat => !decide ((y : Int) = (x : Int))) (ea_c (ev_lcN (endL B.h B.w B.b) (fun y : Nat => !decide ((y : Int) = (x : Int))) (ei_tupD ev_var) (by omega) fun y hy => et_test (ev_op ev_var ev_var rv_neI)) ea_nil) hes)) fun items e => ⟨fun j Γ => ∃ t7 : Sl, Γ = [.no, .row, .val (dB B.b), a3, a4, a5, a6, t7, a8, a9, a10, a11, a12, .val (.tuple (dI (endL B.h B.w B.b))), a14, .val (.int (x : Int)), a16, a17, a18, .val (encO ((bySize U kk ++ (U.take j).filter fun m => decide (m.length = kk)).find? p)), .val (.int (kk : Int)), .no, .no, .no, .no], ⟨t7, ?_⟩, ?_, ?_⟩
    · rw [List.take_zero, List.filter_nil, List.append_nil]; rfl
    · rw [← hU] at e
      subst e
      rintro j z Γ hz ⟨t7, rfl⟩
      rw [List.getElem?_map] at hz
      obtain ⟨lot, hlot, rfl⟩ := Option.map_eq_some_iff.mp hz
      have et : U.take (j + 1) = U.take j ++ [lot] := by rw [List.take_add_one, hlot]; rfl
      obtain ⟨L, hL⟩ : ∃ L, L = bySize U kk ++ (U.take j).filter fun m => decide (m.length = kk) := ⟨_, rfl⟩
      have eL : (bySize U kk ++ (U.take (j + 1)).filter fun m => decide (m.length = kk)) = L ++ [lot].filter fun m => decide (m.length = kk) := by
        rw [et, List.filter_append, ← List.append_assoc, ← hL]
      rw [← hL]
      have hpl : p lot = !(heldL B.h B.w B.b lot).contains x := by rw [hp]
      refine ⟨_, tgs_name, ?_⟩
      refine wp_if (b := (L.find? p).isNone && (decide ((lot.length : Int) = (kk : Int)) && p lot)) (et_and (a := (L.find? p).isNone) (et_test (ev_op (ev_var (d := encO (L.find? p))) ev_non (rv_isN ?_))) (fun e1 => EvT.to (et_and (a := decide ((lot.length : Int) = (kk : Int))) (b := decide ((lot.length : Int) = (kk : Int)) && p lot) (et_test (ev_op (Ev.to (ev_lenT (ds := dI lot) ev_var) (by rw [dI_len])) ev_var rv_eqI)) (fun e2 => EvT.to (et_test (ev_op ev_var (ev_call (enc := E__law_held) (f := V__law_held) (B, lot) (ea_c ev_var (ea_c ev_var ea_nil)) g) rv_niTN)) ?_) (fun e2 => by rw [e2]; rfl)) (by rw [e1]; rfl)) (fun e1 => by rw [e1]; rfl)) (fun hb => wp_setD ev_var ⟨.val (.tuple (dI lot)), ?_⟩) (fun hb => wp_next ⟨.val (.tuple (dI lot)), ?_⟩)
      · cases L.find? p <;> rfl
      · rw [e2, hpl]; rfl
      · rw [eL, best_step, if_pos hb]; rfl
      · rw [eL, best_step, if_neg (by rw [hb]; decide)]; rfl
    · rw [← hU] at e
      subst e
      rintro Γ ⟨t7, rfl⟩
      refine ⟨t7, .val (.int (kk : Int)), ?_⟩
      rw [List.length_map, List.take_length, ← bySize_succ]
  · subst e
    rintro Γ ⟨t7, t20, rfl⟩
    rw [dI_len, List.length_range, hU, hp]
    exact k t7 t20
theorem ok_law {P : Program} {w : World} {K : PySem.W.Frag} {mg : Str → Option Value} {base : Heap} {Pt C : Addr} (T : Txt mg) (NF : NFs K mg C) {fL : Addr} {fdL : FuncData} (F : FnD K "law" slaw fL fdL) (D__law_taken : Def P w K mg base 1 "_law_taken" ["_law_row", "_law_many"] (SP__law_taken K)) (D__law_board : Def P w K mg base 2 "_law_board" ["_law_row", "_law_rows_here", "_law_columns_here", "_law_many"] (SP__law_board K)) (D__law_lot : Def P w K mg base 6 "_law_lot" ["_law_row", "_law_board_here"] (SP__law_lot K)) (D__law_alike : Def P w K mg base 3 "_law_alike" ["_law_found", "_law_due"] (SP__law_alike 3)) (D__law_common : Def P w K mg base 4 "_law_common" ["_law_boards", "_law_lot_here"] SP__law_common) (D_all_ready : Def P w K mg base 8 "all_ready" ["boards", "lot"] SP_all_ready) (D_all_last : Def P w K mg base 8 "all_last" ["boards"] SP_all_last) (D__law_is : Def P w K mg base 1 "_law_is" ["_law_found", "_law_due"] SP__law_is) (D_all_comes : Def P w K mg base 8 "all_comes" ["boards", "lot"] SP_all_comes) (D_all_rounds : Def P w K mg base 8 "all_rounds" ["boards"] SP_all_rounds) (D__law_end : Def P w K mg base 5 "_law_end" ["_law_board_here"] SP__law_end) (D__law_held : Def P w K mg base 5 "_law_held" ["_law_board_here", "_law_held_here"] SP__law_held) (D_last_with : Def P w K mg base 8 "last_with" ["board", "held"] SP_last_with) (D_keeps : Def P w K mg base 9 "keeps" ["board", "held"] SP_keeps) (D__law_parts : Def P w K mg base 2 "_law_parts" ["_law_some"] SP__law_parts) (hL : ∃ f, mg "_law_common" = some (.ref f) ∧ PySem.W.keepIn K (.ref f) = true ∧ Def P w K mg base 6 "_law_lots" ["_law_board_here", "_law_ready_here"] (spL f)) (D_fewest_held : DefX P w K mg base 9 "fewest_held" ["board", "line"] (SP_fewest_held Pt C)) : FnOk P w K mg base CX0 10 fL fdL ["_law_script"] (spMain K [(Pt, QL)]) := by
  obtain ⟨fC, hfC, _, D__law_lots⟩ := hL
  obtain ⟨fF, fdF, gF, kF, bF, GT⟩ := D_fewest_held.ex
  refine fnOk_of F sc_law (fun vs H Q E ⟨a, ns, e, _⟩ => by rw [e]; rfl) (fun f cdv A outer s H vs Q E hr h => ?_)
  have hr1 : Room 9 _ := hr
  refine ⟨_, (pss_cons (ps_set (i := 1) sc_law.nd rfl (Or.inr rfl) (pe_lst (pa_cons (pv 0) (pa_cons pe_int (pa_cons pe_int (pa_cons pe_int pa_nil))))))
      (pss_cons (ps_set (i := 2) sc_law.nd rfl (Or.inl rfl) (pe_def D__law_board (hr.mono (by decide)) (by rfl) (pa_cons (pv 1) (pa_cons pe_int (pa_cons pe_int (pa_cons pe_int pa_nil))))))
      (pss_cons (ps_set (i := 3) sc_law.nd rfl (Or.inl rfl) (pe_lst (pa_cons (pv 2) pa_nil)))
      (pss_cons (ps_for PassesOwn.never rfl (pi_range1 (by rfl) T.range (pa_cons (pe_def D__law_taken (hr.mono (by decide)) (by rfl) (pa_cons (pv 1) (pa_cons pe_int pa_nil))) pa_nil)) (pg_name (i := 4) sc_law.nd rfl (Or.inl rfl)) (pss_cons (ps_set (i := 5) sc_law.nd rfl (Or.inl rfl) (pe_lst pa_nil))
      (pss_cons (ps_for PassesOwn.never rfl (tupI (K := K) rfl (pv 2)) (pg_name (i := 6) sc_law.nd rfl (Or.inl rfl)) (pss_one (ps_expr (pe_bm PySem.F.plainAttrs_list PySem.F.slot_list_append PySem.F.type_list_append mt_append (pv 5) (pa_cons (tupleK (K := K) rfl (by rfl) T.tuple (pe_lc (own := [("_law_a", 23), ("_law_b", 24)]) (tt := tYes) (g := gTup K 2 (gCons (gName 23) (gCons (gName 24) gNil))) rfl sc_law.nd (tupI (K := K) rfl (pv 6)) (blkOk_by (own := [("_law_a", 23), ("_law_b", 24)]) (N := N_law) (sc := defScope slaw) (by decide +kernel)) (fun _ _ _ _ _ => tupG (K := K) rfl rfl (pgs_cons (pg_name (i := 23) sc_law.nd rfl (Or.inl rfl)) (pgs_cons (pg_name (i := 24) sc_law.nd rfl (Or.inl rfl)) pgs_nil))) (fun _ _ _ _ _ => pts_nil) (fun _ _ _ _ _ => (pe_tup (pa_cons (pe_op op_add (pv 23) (pe_def D__law_taken (hr.mono (by decide)) (by rfl) (pa_cons (pv 1) (pa_cons pe_int pa_nil)))) (pa_cons (pe_op op_add (pv 24) (pe_def D__law_taken (hr.mono (by decide)) (by rfl) (pa_cons (pv 1) (pa_cons pe_int pa_nil)))) pa_nil)))))) pa_nil)))))
      (pss_one (ps_expr (pe_bm PySem.F.plainAttrs_list PySem.F.slot_list_append PySem.F.type_list_append mt_append (pv 3) (pa_cons (tupleK (K := K) rfl (by rfl) T.tuple (pv 5)) pa_nil)))))))
      (pss_cons (ps_par (i := 3) (j := 7) rfl sc_law.nd rfl rfl (by decide) rfl rfl (pa_cons (tupleK (K := K) rfl (by rfl) T.tuple (pv 3)) (pa_cons (pe_def D__law_lot (hr.mono (by decide)) (by rfl) (pa_cons (pv 1) (pa_cons (pv 2) pa_nil))) pa_nil)) (by rfl))
      (pss_cons (ps_if (pt_not (pt_val (pe_def D__law_alike (hr.mono (by decide)) (by rfl) (pa_cons (pe_def D_all_ready (hr.mono (by decide)) (by rfl) (pa_cons (pv 3) (pa_cons (pv 7) pa_nil))) (pa_cons (tupleK (K := K) rfl (by rfl) T.tuple (pe_def D__law_common (hr.mono (by decide)) (by rfl) (pa_cons (pv 3) (pa_cons (pv 7) pa_nil)))) pa_nil))))) (pss_one (ps_ret pe_bl)) pss_nil)
      (pss_cons (ps_set (i := 8) sc_law.nd rfl (Or.inl rfl) (pe_def D__law_lots (hr.mono (by decide)) (by rfl) (pa_cons (pv 3) (pa_cons (pe_glob (by rfl) hfC (show RelV (V.ref fC) (Value.ref fC) from rfl) (by decide)) pa_nil))))
      (pss_cons (ps_set (i := 9) sc_law.nd rfl (Or.inl rfl) (pe_ix (ixTK (K := K) rfl) (pe_callB (maxK (K := K) rfl rfl hr.units) (by rfl) T.max (by decide +kernel) (pa_cons (pe_lc (own := [("_law_one", 22)]) (tt := tYes) (g := gName 22) rfl sc_law.nd (listI (K := K) rfl (pe_callTy (call_list_dT rfl) (by rfl) T.list boot_list (pa_cons (pv 8) pa_nil))) (blkOk_by (own := [("_law_one", 22)]) (N := N_law) (sc := defScope slaw) (by decide +kernel)) (fun _ _ _ _ _ => pg_name (i := 22) sc_law.nd rfl (Or.inl rfl)) (fun _ _ _ _ _ => pts_nil) (fun _ _ _ _ _ => (pe_tup (pa_cons (pe_callB (lenK (K := K) rfl) (by rfl) T.len PySem.boot_len (pa_cons (pv 22) pa_nil)) (pa_cons (pv 22) pa_nil))))) pa_nil)) pe_int (fun _ _ => rfl)))
      (pss_cons (ps_if (PW.pt (pw_or (pt_not (pt_val (pe_def D__law_is (hr.mono (by decide)) (by rfl) (pa_cons (pe_def D_all_comes (hr.mono (by decide)) (by rfl) (pa_cons (pv 3) (pa_cons (pv 7) pa_nil))) (pa_cons (pe_cmp (pc_din (hu1 hr.units) (pv 7) (pv 8)) (by rfl)) pa_nil))))) (pw_or1 (pt_not (pt_val (pe_def D__law_alike (hr.mono (by decide)) (by rfl) (pa_cons (pe_def D_all_last (hr.mono (by decide)) (by rfl) (pa_cons (pv 3) pa_nil)) (pa_cons (pv 9) pa_nil)))))))) (pss_one (ps_ret pe_bl)) pss_nil)
      (pss_cons (ps_par (i := 10) (j := 11) rfl sc_law.nd rfl rfl (by decide) rfl rfl (pa_cons (pe_tup pa_nil) (pa_cons (pe_lst pa_nil) pa_nil)) (by rfl))
      (pss_cons (ps_for PassesOwn.never rfl (pi_range1 (by rfl) T.range (pa_cons pe_int pa_nil)) (pg_name (i := 4) sc_law.nd rfl (Or.inl rfl)) (pss_cons (ps_set (i := 12) sc_law.nd rfl (Or.inl rfl) (pe_def D__law_common (hr.mono (by decide)) (by rfl) (pa_cons (pv 3) (pa_cons (pv 10) pa_nil))))
      (pss_one (ps_if (pt_cmpR (neDK (K := K) rfl hr.units) (pv 12) (pe_lst pa_nil) (nomark _)) (pss_cons (ps_expr (pe_bm PySem.F.plainAttrs_list PySem.F.slot_list_append PySem.F.type_list_append mt_append (pv 11) (pa_cons (tupleK (K := K) rfl (by rfl) T.tuple (pv 12)) pa_nil)))
      (pss_one (ps_set (i := 10) sc_law.nd rfl (Or.inl rfl) (tupleK (K := K) rfl (by rfl) T.tuple (pe_callB (sortedTK (K := K) rfl) (by rfl) T.sorted (by decide +kernel) (pa_cons (pe_op (catK (K := K) rfl) (pv 10) (tupleK (K := K) rfl (by rfl) T.tuple (pv 12))) pa_nil)))))) pss_nil))))
      (pss_cons (ps_if (PW.pt (pw_or (pt_cmpR (neDK (K := K) rfl hr.units) (pv 10) (pv 9) (nomark _)) (pw_or1 (pt_not (pt_val (pe_def D__law_alike (hr.mono (by decide)) (by rfl) (pa_cons (pe_def D_all_rounds (hr.mono (by decide)) (by rfl) (pa_cons (pv 3) pa_nil)) (pa_cons (tupleK (K := K) rfl (by rfl) T.tuple (pv 11)) pa_nil)))))))) (pss_one (ps_ret pe_bl)) pss_nil)
      (pss_cons (ps_asg (pe_tup (pa_cons (pe_def D__law_end (hr.mono (by decide)) (by rfl) (pa_cons (pv 2) pa_nil)) (pa_cons (pe_op op_add (pe_callB (lenK (K := K) rfl) (by rfl) T.len PySem.boot_len (pa_cons (pv 2) pa_nil)) (pe_callB (lenK (K := K) rfl) (by rfl) T.len PySem.boot_len (pa_cons (pe_ix (ixTK (K := K) rfl) (pv 2) pe_int (fun _ _ => rfl)) pa_nil))) pa_nil))) (tupG (K := K) rfl rfl (pgs_cons (pg_name (i := 13) sc_law.nd rfl (Or.inr rfl)) (pgs_cons (pg_name (i := 14) sc_law.nd rfl (Or.inl rfl)) pgs_nil))))
      (pss_cons (ps_if (PW.pt (pw_or (pt_cmpR (neDK (K := K) rfl hr.units) (pe_lc (own := [("_law_line", 15)]) (g := gName 15) rfl sc_law.nd (tupI (K := K) rfl (pv 9)) (blkOk_by (own := [("_law_line", 15)]) (N := N_law) (sc := defScope slaw) (by decide +kernel)) (fun _ _ _ _ _ => pg_name (i := 15) sc_law.nd rfl (Or.inl rfl)) (fun _ _ _ _ _ => pts_one (pt_cmpR (ninK (K := K) rfl) (pv 15) (pv 13) (by rfl))) (fun _ _ _ _ _ => (pv 15))) (pe_lst pa_nil) (nomark _)) (pw_or1 (pt_cmpR (neDK (K := K) rfl hr.units) (pe_def D_all_last (hr.mono (by decide)) (by rfl) (pa_cons (pe_tup (pa_cons (pv 2) pa_nil)) pa_nil)) (pv 13) (nomark _))))) (pss_one (ps_ret pe_bl)) pss_nil)
      (pss_cons (ps_set (i := 16) sc_law.nd rfl (Or.inr rfl) (tupleK (K := K) rfl (by rfl) T.tuple (pe_lc (own := [("_law_line", 15)]) (g := gName 15) rfl sc_law.nd (pi_range1 (by rfl) T.range (pa_cons (pv 14) pa_nil)) (blkOk_by (own := [("_law_line", 15)]) (N := N_law) (sc := defScope slaw) (by decide +kernel)) (fun _ _ _ _ _ => pg_name (i := 15) sc_law.nd rfl (Or.inl rfl)) (fun _ _ _ _ _ => pts_one (pt_cmpR op_eq (pe_def D__law_taken (hr.mono (by decide)) (by rfl) (pa_cons (pv 1) (pa_cons pe_int pa_nil))) pe_int (nomark _))) (fun _ _ _ _ _ => (pv 15)))))
      (pss_cons (ps_set (i := 17) sc_law.nd rfl (Or.inr rfl) (pe_def D__law_held (hr.mono (by decide)) (by rfl) (pa_cons (pv 2) (pa_cons (pv 16) pa_nil))))
      (pss_cons (ps_if (pt_not (pt_val (pe_def D__law_alike (hr.mono (by decide)) (by rfl) (pa_cons (pe_def D_last_with (hr.mono (by decide)) (by rfl) (pa_cons (pv 2) (pa_cons (pv 16) pa_nil))) (pa_cons (pv 17) pa_nil))))) (pss_one (ps_ret pe_bl)) pss_nil)
      (pss_cons (ps_if (pt_not (pt_val (pe_def D__law_alike (hr.mono (by decide)) (by rfl) (pa_cons (pe_def D_keeps (hr.mono (by decide)) (by rfl) (pa_cons (pv 2) (pa_cons (pv 16) pa_nil))) (pa_cons (tupleK (K := K) rfl (by rfl) T.tuple (pe_lc (own := [("_law_line", 15)]) (g := gName 15) rfl sc_law.nd (tupI (K := K) rfl (pv 13)) (blkOk_by (own := [("_law_line", 15)]) (N := N_law) (sc := defScope slaw) (by decide +kernel)) (fun _ _ _ _ _ => pg_name (i := 15) sc_law.nd rfl (Or.inl rfl)) (fun _ _ _ _ _ => pts_one (PW.pt (pw_and (pt_cmpR (ninK (K := K) rfl) (pv 15) (pv 17) (by rfl)) (pw_and1 (pt_cmpR (ninK (K := K) rfl) (pv 15) (pv 16) (by rfl)))))) (fun _ _ _ _ _ => (pv 15)))) pa_nil))))) (pss_one (ps_ret pe_bl)) pss_nil)
      (pss_cons (ps_asg (pe_tup (pa_cons (pe_def D__law_taken (hr.mono (by decide)) (by rfl) (pa_cons (pv 1) (pa_cons (pv 14) pa_nil))) (pa_cons pe_str pa_nil))) (tupG (K := K) rfl rfl (pgs_cons (pg_name (i := 15) sc_law.nd rfl (Or.inr rfl)) (pgs_cons (pg_name (i := 18) sc_law.nd rfl (Or.inl rfl)) pgs_nil))))
      (pss_cons (ps_try_as (i := 21) (tb := fun W => tSeq (tPar 6 19 (tCons (tCallS (SP_fewest_held Pt C) (WE W) (tCons (tVar 2) (tCons (tVar 15) tNil))) (tCons (tC .non) tNil))) _) (ts := fun _ _ _ => tAsg (tC (.str "never")) (gName 18)) (Wout := fun _ _ _ _ => False) rfl rfl sc_law.nd rfl rfl ⟨rfl, by decide, Or.inl NF.g⟩ L2.takes0 (fun W pn xe tk po => (pss_cons (ps_par (i := 6) (j := 19) rfl sc_law.nd rfl rfl (by decide) rfl rfl (pa_cons (pe_callS GT hr1 rfl gF kF bF (fun σ => passAt tk σ) (pa_cons (pv 2) (pa_cons (pv 15) pa_nil))) (pa_cons pe_non pa_nil)) (by rfl))
      (pss_cons (ps_for po rfl (pi_range1 (by rfl) T.range (pa_cons (pe_callB (lenK (K := K) rfl) (by rfl) T.len PySem.boot_len (pa_cons (pv 13) pa_nil)) pa_nil)) (pg_name (i := 20) sc_law.nd rfl (Or.inl rfl)) (pss_one (ps_for po rfl (listI (K := K) rfl (pe_def D__law_parts (hr.mono (by decide)) (by rfl) (pa_cons (pe_lc (own := [("_law_one", 22)]) (g := gName 22) rfl sc_law.nd (tupI (K := K) rfl (pv 13)) (blkOk_by (own := [("_law_one", 22)]) (N := N_law) (sc := defScope slaw) (by decide +kernel)) (fun _ _ _ _ _ => pg_name (i := 22) sc_law.nd rfl (Or.inl rfl)) (fun _ _ _ _ _ => pts_one (pt_cmpR op_ne (pv 22) (pv 15) (nomark _))) (fun _ _ _ _ _ => (pv 22))) pa_nil))) (pg_name (i := 7) sc_law.nd rfl (Or.inl rfl)) (pss_one (ps_if (PW.pt (pw_and (pt_cmpR op_isN (pv 19) pe_non (nomark _)) (pw_and (pt_cmpR op_eq (pe_callB (lenK (K := K) rfl) (by rfl) T.len PySem.boot_len (pa_cons (pv 7) pa_nil)) (pv 20) (nomark _)) (pw_and1 (pt_cmpR (ninK (K := K) rfl) (pv 15) (pe_def D__law_held (hr.mono (by decide)) (by rfl) (pa_cons (pv 2) (pa_cons (pv 7) pa_nil))) (by rfl)))))) (pss_one (ps_set (i := 19) sc_law.nd rfl (Or.inl rfl) (pv 7))) pss_nil)))))
      (pss_one (ps_if (pt_not (pt_val (pe_def D__law_alike (hr.mono (by decide)) (by rfl) (pa_cons (pv 6) (pa_cons (pv 19) pa_nil))))) (pss_one (ps_ret pe_bl)) pss_nil))))) (fun a oe cls d pn hz hf => (pss_one (ps_set (i := 18) sc_law.nd rfl (Or.inl rfl) pe_str))))
      (pss_one (ps_ret (pe_cmpR op_eq (pe_cmpR op_eq (pv 18) pe_str (nomark _)) (pe_cmpR (inK (K := K) rfl) (pv 15) (pv 13) (by rfl)) (nomark _)))))))))))))))))))))))), ?_⟩
  obtain ⟨a, ns, rfl, hs, tt, q⟩ := h
  refine wt_row (m := 23) (R := Yes) hs tt ?_ (fun v d G' H' rd rp => ?_)
  rotate_left
  · have rd : d = .bool true := rd
    subst rd
    rw [rp.bool_of]; exact q H'
  show Wt K _ _ [.no, .row, .no, .no, .no, .no, .no, .no, .no, .no, .no, .no, .no, .no, .no, .no, .no, .no, .no, .no, .no, .no, .no, .no, .no] Yes
  refine wt_seq (N := fun Γ => ∃ B, GoodB B ∧ Γ = [.no, .row, .val (dB B.b), .no, .no, .no, .no, .no, .no, .no, .no, .no, .no, .no, .no, .no, .no, .no, .no, .no, .no, .no, .no, .no, .no]) (wp_set (evn_row rfl (ea_c ev_int (ea_c ev_int (ea_c ev_int ea_nil))) fun ds e => ⟨(), e, trivial, fun d hd => hd⟩) fun d ⟨B, gB, e⟩ => ⟨B, gB, by rw [e]; rfl⟩) fun Γ e => ?_
  obtain ⟨B, gB, rfl⟩ := e
  refine wt_seq (N := fun Γ => Γ = [.no, .row, .val (dB B.b), .own [dB B.b], .no, .no, .no, .no, .no, .no, .no, .no, .no, .no, .no, .no, .no, .no, .no, .no, .no, .no, .no, .no, .no]) (wp_setOwn (ea_c ev_var ea_nil) (fun ds e => by rw [e]; show 1 ≤ 1000000; decide) fun ds e => by rw [e]; rfl) fun Γ e => ?_
  subst e
  refine wt_seq (N := fun Γ => ∃ (bs : List Board) (s4 s5 s6 : Sl), bs.length ≤ 4 ∧ B.b ∈ bs ∧ (∀ b ∈ bs, Good ⟨B.h, B.w, b⟩) ∧ Γ = [.no, .row, .val (dB B.b), .own (bs.map dB), s4, s5, s6, .no, .no, .no, .no, .no, .no, .no, .no, .no, .no, .no, .no, .no, .no, .no, .no, .no, .no]) (s_boards gB fun bs s4 s5 s6 h1 h2 h3 => ⟨bs, s4, s5, s6, h1, h2, h3, rfl⟩) fun Γ e => ?_
  obtain ⟨bs, s4, s5, s6, b1, b2, b3, rfl⟩ := e
  have ne : bs ≠ [] := List.ne_nil_of_mem b2
  have g : GoodS (⟨B.h, B.w, bs⟩ : BDs) := ⟨b3, ne, b1⟩
  have h1 : 1 ≤ B.h := gB.good.h1
  have w1 : 1 ≤ B.w := gB.good.w1
  have h4 : B.h ≤ 4 := gB.h4
  have w4 : B.w ≤ 4 := gB.w4
  have n12 : B.h + B.w ≤ 12 := by omega
  refine wt_seq (N := fun Γ => ∃ lot, Lot B.h B.w lot ∧ Γ = [.no, .row, .val (dB B.b), .val (dBs ⟨B.h, B.w, bs⟩), s4, s5, s6, .val (.tuple (dI lot)), .no, .no, .no, .no, .no, .no, .no, .no, .no, .no, .no, .no, .no, .no, .no, .no, .no]) (wp_pub (i := 3) (ds := bs.map dB) rfl (wp_par (by decide) (A := fun ds => ∃ lot, Lot B.h B.w lot ∧ ds = [.tuple (bs.map dB), .tuple (dI lot)]) (ea_cons (ev_tupleL ev_var) (ea_cons (evn_row rfl (ea_c ev_var ea_nil) fun ds e => ⟨B, e, gB.good, fun d hd => hd⟩) ea_nil (A1 := fun ds => ∃ lot, Lot B.h B.w lot ∧ ds = [.tuple (dI lot)]) fun d ds ⟨lot, hl, e⟩ e2 => ⟨lot, hl, by rw [e, e2]⟩) fun d ds e ⟨lot, hl, e2⟩ => ⟨lot, hl, by rw [e, e2]⟩) fun ds ⟨lot, hl, e⟩ => ⟨_, _, e, lot, hl, rfl⟩)) fun Γ e => ?_
  obtain ⟨lot, hl, rfl⟩ := e
  have ready_len : ∀ lot, (readyIn B.h B.w bs lot).length ≤ 1000 := fun lot => by
    have := List.length_filter_le (fun x => !lot.contains x && fallsIn B.h B.w bs lot x) (List.range (B.h + B.w))
    rw [List.length_range] at this
    show ((List.range (B.h + B.w)).filter _).length ≤ 1000
    omega
  refine wt_seq (N := fun Γ => Γ = [.no, .row, .val (dB B.b), .val (dBs ⟨B.h, B.w, bs⟩), s4, s5, s6, .val (.tuple (dI lot)), .no, .no, .no, .no, .no, .no, .no, .no, .no, .no, .no, .no, .no, .no, .no, .no, .no]) (wp_no (et_not (a := true) (et_B (ev_call (enc := E__law_alike) (f := V__law_alike) (.tuple (dI (readyIn B.h B.w bs lot))) (ea_c (ev_call (enc := E_all_ready) (f := V_all_ready) ((⟨B.h, B.w, bs⟩ : BDs), lot) (ea_c ev_var (ea_c ev_var ea_nil)) ⟨g, hl⟩) (ea_c (Ev.to (ev_tupleL (ev_call (enc := E__law_common) (f := V__law_common) ((⟨B.h, B.w, bs⟩ : BDs), lot) (ea_c ev_var (ea_c ev_var ea_nil)) g)) (by rw [← common_ready hl.left ne])) ea_nil)) (dep_ints (ready_len lot) 1)))) (wp_next rfl)) fun Γ e => ?_
  subst e
  refine wt_seq (N := fun Γ => ∃ ls : List (List Nat), ls.Nodup ∧ (∀ m, m ∈ ls ↔ ComesB B.h B.w bs (fun _ => True) m) ∧ Γ = [.no, .row, .val (dB B.b), .val (dBs ⟨B.h, B.w, bs⟩), s4, s5, s6, .val (.tuple (dI lot)), .dk ls, .no, .no, .no, .no, .no, .no, .no, .no, .no, .no, .no, .no, .no, .no, .no, .no]) (wp_lots (S := (⟨B.h, B.w, bs⟩ : BDs)) rfl g fun ls nd mem => ⟨ls, nd, mem, rfl⟩) fun Γ e => ?_
  obtain ⟨ls, nd, mem, rfl⟩ := e
  obtain ⟨M, eM⟩ : ∃ M, M = runs (fun lot => (readyIn B.h B.w bs lot).head?) (B.h + B.w) [] := ⟨_, rfl⟩
  have dM : Done (B.h + B.w) (Falls B.h B.w bs) (fun _ => True) M := by rw [eM]; exact allLast_done
  have kp := keepsB h1 w1 (ne_ex ne)
  have lln : ∀ l ∈ ls, l.length ≤ 12 := fun l hl => by
    have := ((mem l).mp hl).ln.len
    omega
  have Ml : M.length ≤ 12 := by
    have := dM.1.ln.len
    omega
  have hll : ls.length ≤ 4096 := Nat.le_trans (lots_len nd fun m hm => ((mem m).mp hm).ln) (pow12 n12)
  refine wt_max (M := M) rfl hll ((mem M).mpr dM.1) (fun l hl ne' => ?_) (fun l hl => by have := lln l hl; omega) (fun l hl => Ev.to (ev_tup (ea_c (ev_lenT ev_var) (ea_c ev_var ea_nil)) (by show 2 ≤ 1000000; decide)) (by unfold kyD; rw [dI_len])) ?_
  · obtain ⟨l1, l2⟩ := done_longest kp dM ((mem l).mp hl)
    have lt : l.length < M.length := Nat.lt_of_le_of_ne l1 fun e => ne' (l2 e)
    have k1 := kle_lt lt
    refine ⟨k1, ?_⟩
    cases c : kleL M l with
    | false => rfl
    | true => exact absurd (kle_anti k1 c) ne'
  show Wt K _ _ [.no, .row, .val (dB B.b), .val (dBs ⟨B.h, B.w, bs⟩), s4, s5, s6, .val (.tuple (dI lot)), .dk ls, .val (.tuple (dI M)), .no, .no, .no, .no, .no, .no, .no, .no, .no, .no, .no, .no, .no, .no, .no] Yes
  refine wt_seq (N := fun Γ => Γ = [.no, .row, .val (dB B.b), .val (dBs ⟨B.h, B.w, bs⟩), s4, s5, s6, .val (.tuple (dI lot)), .dk ls, .val (.tuple (dI M)), .no, .no, .no, .no, .no, .no, .no, .no, .no, .no, .no, .no, .no, .no, .no]) (wp_no (et_or (a := false) (b := false) (et_not (a := true) (et_B (ev_call (enc := E__law_is) (f := V__law_is) (decide (lot ∈ ls)) (ea_c (Ev.to (ev_call (enc := E_all_comes) (f := V_all_comes) ((⟨B.h, B.w, bs⟩ : BDs), lot) (ea_c ev_var (ea_c ev_var ea_nil)) ⟨g, hl⟩) (congrArg PyData.bool (decide_eq_decide.mpr ((comes_dec h1 w1 ne hl.rise).trans (mem lot).symm)))) (ea_c (ev_dIn rfl rfl) ea_nil)) trivial))) (fun _ => (et_not (a := true) (et_B (ev_call (enc := E__law_alike) (f := V__law_alike) (.tuple (dI M)) (ea_c (Ev.to (ev_call (enc := E_all_last) (f := V_all_last) (⟨B.h, B.w, bs⟩ : BDs) (ea_c ev_var ea_nil) g) (by rw [eM])) (ea_c ev_var ea_nil)) (dep_ints (by omega) 1))))) (fun e => e)) (wp_next rfl)) fun Γ e => ?_
  subst e
  refine wt_seq (N := fun Γ => Γ = [.no, .row, .val (dB B.b), .val (dBs ⟨B.h, B.w, bs⟩), s4, s5, s6, .val (.tuple (dI lot)), .dk ls, .val (.tuple (dI M)), .val (.tuple (dI [])), .own [], .no, .no, .no, .no, .no, .no, .no, .no, .no, .no, .no, .no, .no]) (wp_parO (by decide) ev_T0 fun d e => by rw [e]; rfl) fun Γ e => ?_
  subst e
  refine wt_seq (N := fun Γ => ∃ (now : List Nat) (fd : List (List Nat)) (t4 t12 : Sl), ComesB B.h B.w bs (fun _ => True) now ∧ fd = rnds (commonL B.h B.w bs) 9 [] ∧ now = rend (commonL B.h B.w bs) 9 [] ∧ Γ = [.no, .row, .val (dB B.b), .val (dBs ⟨B.h, B.w, bs⟩), t4, s5, s6, .val (.tuple (dI lot)), .dk ls, .val (.tuple (dI M)), .val (.tuple (dI now)), .own (fd.map fun l => .tuple (dI l)), t12, .no, .no, .no, .no, .no, .no, .no, .no, .no, .no, .no, .no]) (s_rounds (S := (⟨B.h, B.w, bs⟩ : BDs)) g fun now fd t4 t12 c e1 e2 => ⟨now, fd, t4, t12, c, e1, e2, rfl⟩) fun Γ e => ?_
  obtain ⟨now, fd, t4, t12, cn, ef, en, rfl⟩ := e
  have dn := rend_done (bs := bs) h1 w1 ne 9 [] .nil (by show B.h + B.w ≤ 0 + 9; omega)
  rw [← en] at dn
  have eN : now = M := dn.one kp dM
  have er := rnds_same (bs := bs) h1 w1 ne 9 (B.h + B.w) [] .nil (by show B.h + B.w ≤ 0 + 9; omega) (by show B.h + B.w ≤ 0 + (B.h + B.w); omega)
  rw [← ef] at er
  have fl : fd.length ≤ 9 := by rw [ef]; exact rnds_len 9 []
  have fm : ∀ l ∈ fd, l.length ≤ 1000 := fun l hl => by
    rw [er] at hl
    obtain ⟨m, e⟩ := rnds_mem _ _ hl
    rw [e]; exact ready_len m
  have fdep : dep 3 (.tuple (fd.map fun l => PyData.tuple (dI l))) := .inr (.inr ⟨_, rfl, by rw [List.length_map]; omega, fun e he => by
    obtain ⟨l, hl, rfl⟩ := List.mem_map.mp he
    exact dep_ints (fm l hl) 0⟩)
  refine wt_seq (N := fun Γ => Γ = [.no, .row, .val (dB B.b), .val (dBs ⟨B.h, B.w, bs⟩), t4, s5, s6, .val (.tuple (dI lot)), .dk ls, .val (.tuple (dI M)), .val (.tuple (dI now)), .val (.list (fd.map fun l => .tuple (dI l))), t12, .no, .no, .no, .no, .no, .no, .no, .no, .no, .no, .no, .no]) (wp_pub (i := 11) (ds := fd.map fun l => .tuple (dI l)) rfl (wp_no (et_or (a := false) (b := false) (et_test (Ev.to (ev_op ev_var ev_var rv_neTI) (by rw [eN, decide_eq_true rfl]; rfl))) (fun _ => (et_not (a := true) (et_B (ev_call (enc := E__law_alike) (f := V__law_alike) (.tuple (fd.map fun l => PyData.tuple (dI l))) (ea_c (Ev.to (ev_call (enc := E_all_rounds) (f := V_all_rounds) (⟨B.h, B.w, bs⟩ : BDs) (ea_c ev_var ea_nil) g) (by rw [er])) (ea_c (ev_tupleL ev_var) ea_nil)) fdep)))) (fun e => e)) (wp_next rfl))) fun Γ e => ?_
  subst e
  refine wt_seq (N := fun Γ => Γ = [.no, .row, .val (dB B.b), .val (dBs ⟨B.h, B.w, bs⟩), t4, s5, s6, .val (.tuple (dI lot)), .dk ls, .val (.tuple (dI M)), .val (.tuple (dI now)), .val (.list (fd.map fun l => .tuple (dI l))), t12, .val (.tuple (dI (endL B.h B.w B.b))), .val (.int ((B.h + B.w : Nat) : Int)), .no, .no, .no, .no, .no, .no, .no, .no, .no, .no]) (wp_asg2D (by decide) (ev_tup (ea_c (ev_call (enc := E__law_end) (f := V__law_end) B (ea_c ev_var ea_nil) gB.good) (ea_c (Ev.to (ev_op (ev_lenT (ds := B.b.map dRow) ev_var) (ev_lenT (ds := (B.b.getD 0 []).map dP) (ev_op (ev_var (d := .tuple (B.b.map dRow))) ev_int (rv_ixT (atI_of (j := 0) rfl (gB.good.at (by omega)))))) rv_I) (by rw [List.length_map, List.length_map, gB.good.len, gB.good.rlen (by omega)]; rfl)) ea_nil)) (by show 2 ≤ 1000000; decide)) rfl) fun Γ e => ?_
  subst e
  obtain ⟨end0, een⟩ : ∃ l, l = endL B.h B.w B.b := ⟨_, rfl⟩
  have ee1 : lastOf B.h B.w B.b = end0 := by rw [een, end_last h1 w1 n12]
  rw [← een]
  have el : end0.length ≤ 12 := by
    rw [← ee1]
    exact Nat.le_trans lastOf_ln.len n12
  have sub0 : (M.filter fun x => !end0.contains x) = [] := List.filter_eq_nil_iff.mpr fun x hx => by
    have := last_sub h1 w1 n12 b2 dM x hx
    rw [← een] at this
    simpa using this
  refine wt_seq (N := fun Γ => Γ = [.no, .row, .val (dB B.b), .val (dBs ⟨B.h, B.w, bs⟩), t4, s5, s6, .val (.tuple (dI lot)), .dk ls, .val (.tuple (dI M)), .val (.tuple (dI now)), .val (.list (fd.map fun l => .tuple (dI l))), t12, .val (.tuple (dI end0)), .val (.int ((B.h + B.w : Nat) : Int)), .no, .no, .no, .no, .no, .no, .no, .no, .no, .no]) (wp_no (et_or (a := false) (b := false) (et_test (Ev.to (ev_op (ev_lcN M (fun x => !end0.contains x) (ei_tupD ev_var) (by omega) fun x hx => et_test (ev_op ev_var ev_var rv_niTN)) ev_L0 rv_neLI) (by rw [sub0, decide_eq_true rfl]; rfl))) (fun _ => et_test (Ev.to (ev_op (ev_call (enc := E_all_last) (f := V_all_last) (⟨B.h, B.w, [B.b]⟩ : BDs) (ea_c (ev_tup (ea_c ev_var ea_nil) (by show 1 ≤ 1000000; decide)) ea_nil) ⟨fun b hb => (by rw [List.mem_singleton.mp hb]; exact gB.good), by simp, by show 1 ≤ 4; decide⟩) ev_var rv_neTI) (by rw [end_allLast h1 w1 n12, ← een, decide_eq_true rfl]; rfl))) (fun e => e)) (wp_next rfl)) fun Γ e => ?_
  subst e
  refine wt_seq (N := fun Γ => ∃ held, Ln (B.h + B.w) held ∧ Γ = [.no, .row, .val (dB B.b), .val (dBs ⟨B.h, B.w, bs⟩), t4, s5, s6, .val (.tuple (dI lot)), .dk ls, .val (.tuple (dI M)), .val (.tuple (dI now)), .val (.list (fd.map fun l => .tuple (dI l))), t12, .val (.tuple (dI end0)), .val (.int ((B.h + B.w : Nat) : Int)), .no, .val (.tuple (dI held)), .no, .no, .no, .no, .no, .no, .no, .no]) (wp_set (s_held n12) fun d ⟨held, hh, e⟩ => ⟨held, hh, by rw [e]; rfl⟩) fun Γ e => ?_
  obtain ⟨held, hh, rfl⟩ := e
  refine wt_seq (N := fun Γ => Γ = [.no, .row, .val (dB B.b), .val (dBs ⟨B.h, B.w, bs⟩), t4, s5, s6, .val (.tuple (dI lot)), .dk ls, .val (.tuple (dI M)), .val (.tuple (dI now)), .val (.list (fd.map fun l => .tuple (dI l))), t12, .val (.tuple (dI end0)), .val (.int ((B.h + B.w : Nat) : Int)), .no, .val (.tuple (dI held)), .val (.tuple (dI (heldL B.h B.w B.b held))), .no, .no, .no, .no, .no, .no, .no]) (wp_setD (ev_call (enc := E__law_held) (f := V__law_held) (B, held) (ea_c ev_var (ea_c ev_var ea_nil)) gB.good) rfl) fun Γ e => ?_
  subst e
  obtain ⟨due, edue⟩ : ∃ l, l = heldL B.h B.w B.b held := ⟨_, rfl⟩
  have ed1 : lastWith B.h B.w B.b held = due := by rw [edue, held_last h1 w1 n12]
  rw [← edue]
  have dl : due.length ≤ 12 := by
    rw [edue]
    exact Nat.le_trans (held_done h1 w1 n12).1.ln.len n12
  refine wt_seq (N := fun Γ => Γ = [.no, .row, .val (dB B.b), .val (dBs ⟨B.h, B.w, bs⟩), t4, s5, s6, .val (.tuple (dI lot)), .dk ls, .val (.tuple (dI M)), .val (.tuple (dI now)), .val (.list (fd.map fun l => .tuple (dI l))), t12, .val (.tuple (dI end0)), .val (.int ((B.h + B.w : Nat) : Int)), .no, .val (.tuple (dI held)), .val (.tuple (dI due)), .no, .no, .no, .no, .no, .no, .no]) (wp_no (et_not (a := true) (et_B (ev_call (enc := E__law_alike) (f := V__law_alike) (.tuple (dI due)) (ea_c (Ev.to (ev_call (enc := E_last_with) (f := V_last_with) (B, held) (ea_c ev_var (ea_c ev_var ea_nil)) ⟨gB.good, hh⟩) (by rw [← ed1])) (ea_c ev_var ea_nil)) (dep_ints (by omega) 1)))) (wp_next rfl)) fun Γ e => ?_
  subst e
  have kl : (end0.filter fun x => !due.contains x && !held.contains x).length ≤ 1000 := by
    have := List.length_filter_le (fun x => !due.contains x && !held.contains x) end0
    omega
  refine wt_seq (N := fun Γ => Γ = [.no, .row, .val (dB B.b), .val (dBs ⟨B.h, B.w, bs⟩), t4, s5, s6, .val (.tuple (dI lot)), .dk ls, .val (.tuple (dI M)), .val (.tuple (dI now)), .val (.list (fd.map fun l => .tuple (dI l))), t12, .val (.tuple (dI end0)), .val (.int ((B.h + B.w : Nat) : Int)), .no, .val (.tuple (dI held)), .val (.tuple (dI due)), .no, .no, .no, .no, .no, .no, .no]) (wp_no (et_not (a := true) (et_B (ev_call (enc := E__law_alike) (f := V__law_alike) (.tuple (dI (end0.filter fun x => !due.contains x && !held.contains x))) (ea_c (Ev.to (ev_call (enc := E_keeps) (f := V_keeps) (B, held) (ea_c ev_var (ea_c ev_var ea_nil)) ⟨gB.good, hh⟩) (by rw [← ed1, ← ee1])) (ea_c (ev_tupleL (ev_lcN end0 (fun x => !due.contains x && !held.contains x) (ei_tupD ev_var) (by omega) fun x hx => et_and (a := !due.contains x) (et_test (ev_op ev_var ev_var rv_niTN)) (fun e => EvT.to (et_test (ev_op ev_var ev_var rv_niTN)) (by rw [e]; rfl)) (fun e => by rw [e]; rfl))) ea_nil)) (dep_ints kl 1)))) (wp_next rfl)) fun Γ e => ?_
  subst e
  refine wt_seq (N := fun Γ => ∃ x : Nat, x < B.h + B.w ∧ Γ = [.no, .row, .val (dB B.b), .val (dBs ⟨B.h, B.w, bs⟩), t4, s5, s6, .val (.tuple (dI lot)), .dk ls, .val (.tuple (dI M)), .val (.tuple (dI now)), .val (.list (fd.map fun l => .tuple (dI l))), t12, .val (.tuple (dI end0)), .val (.int ((B.h + B.w : Nat) : Int)), .val (.int (x : Int)), .val (.tuple (dI held)), .val (.tuple (dI due)), .val (.str ""), .no, .no, .no, .no, .no, .no]) (wp_asg2 (by decide) (evn_tup (A := fun ds => ∃ x : Nat, x < B.h + B.w ∧ ds = [.int (x : Int), .str ""]) (ea_cons (ev_take (n := B.h + B.w) rfl ev_var (by omega) (by omega)) (ea_c ev_str ea_nil) fun d ds ⟨x, hx, e⟩ e2 => ⟨x, hx, by rw [e, e2]⟩) (fun ds ⟨x, hx, e⟩ => by rw [e]; show 2 ≤ 1000000; decide) (P := fun d => ∃ x : Nat, x < B.h + B.w ∧ d = .tuple [.int (x : Int), .str ""]) fun ds ⟨x, hx, e⟩ => ⟨x, hx, by rw [e]⟩) fun d ⟨x, hx, e⟩ => ⟨_, _, e, x, hx, rfl⟩) fun Γ e => ?_
  obtain ⟨x, hx, rfl⟩ := e
  refine wt_try NF rfl rfl rfl gB.good hx (fun hn => ?_) (fun hin => ?_)
  · have hc : end0.contains x = false := by rw [← ee1]; simpa using hn
    refine wt_last (wp_retD (ev_op (ev_op (ev_var (d := .str "never")) ev_str rv_eqS) (ev_op ev_var ev_var rv_isTN) rv_eqB) ?_)
    rw [hc, decide_eq_false (show ¬ (("never" : Str) = "") by decide)]; rfl
  · have hc : end0.contains x = true := by rw [← ee1]; simpa using hin
    rw [few_same h1 w1 n12 hin]
    rw [een] at hc
    refine wt_seq (N := fun Γ => ∃ t6 t7 t19 t20 : Sl, Γ = [.no, .row, .val (dB B.b), .val (dBs ⟨B.h, B.w, bs⟩), t4, s5, t6, t7, .dk ls, .val (.tuple (dI M)), .val (.tuple (dI now)), .val (.list (fd.map fun l => .tuple (dI l))), t12, .val (.tuple (dI (endL B.h B.w B.b))), .val (.int ((B.h + B.w : Nat) : Int)), .val (.int (x : Int)), .val (.tuple (dI held)), .val (.tuple (dI due)), .val (.str ""), t19, t20, .no, .no, .no, .no]) (wp_seq (N1 := fun Γ => ∃ t7 t20 : Sl, Γ = [.no, .row, .val (dB B.b), .val (dBs ⟨B.h, B.w, bs⟩), t4, s5, .val (encO ((bySize ((partsL ((endL B.h B.w B.b).filter fun y : Nat => !decide ((y : Int) = (x : Int)))).mergeSort uleL) (endL B.h B.w B.b).length).find? (fun lot : List Nat => !(heldL B.h B.w B.b lot).contains x))), t7, .dk ls, .val (.tuple (dI M)), .val (.tuple (dI now)), .val (.list (fd.map fun l => .tuple (dI l))), t12, .val (.tuple (dI (endL B.h B.w B.b))), .val (.int ((B.h + B.w : Nat) : Int)), .val (.int (x : Int)), .val (.tuple (dI held)), .val (.tuple (dI due)), .val (.str ""), .val (encO ((bySize ((partsL ((endL B.h B.w B.b).filter fun y : Nat => !decide ((y : Int) = (x : Int)))).mergeSort uleL) (endL B.h B.w B.b).length).find? (fun lot : List Nat => !(heldL B.h B.w B.b lot).contains x))), t20, .no, .no, .no, .no]) ?_ fun Γ e => ?_) fun Γ e => ?_
    · rw [een]
      exact s_best gB.good fun t7 t20 => ⟨t7, t20, rfl⟩
    · obtain ⟨t7, t20, rfl⟩ := e
      refine wp_no (et_not (a := true) (et_B (ev_call (enc := E__law_alike) (f := V__law_alike) _ (ea_c ev_var (ea_c ev_var ea_nil)) (encO_dep fun l hl => ?_)))) (wp_next ⟨_, _, _, _, rfl⟩)
      have hm := List.mem_of_find?_eq_some hl
      have := bySize_mem hm
      rw [← een] at this
      omega
    · obtain ⟨t6, t7, t19, t20, rfl⟩ := e
      refine wt_last (wp_retD (ev_op (ev_op (ev_var (d := .str "")) ev_str rv_eqS) (ev_op ev_var ev_var rv_isTN) rv_eqB) ?_)
      rw [hc, decide_eq_true rfl]; rfl
end K23

set_option Elab.async false
set_option linter.all false
set_option maxRecDepth 100000
set_option maxHeartbeats 4000000
namespace K23
open PySem PySem.Spec PyProof.Rows L2 LamX
theorem fnAt_of {K : PySem.W.Frag} {h : Heap} {mg : Str → Option Value} (X : K.In h) (G : h.Ns mainGlobals mg) (c : He.SaysD fa fn K) (x : Str) (st : Stmt) (ps : List Str) (i j : Nat) (hf : fa[i]? = some (.glo x)) (hd : fn[j]? = some (dd x st))
    (hb : ∀ (kV doc pm : Value) (an : Option Addr) (cdv ct : Value) (us : List Value), us.length = ps.length → bindArgs (PySem.W.fnOf x x (defArgs st) (defBody st) (defScope st) .none kV doc pm an cdv ct) ⟨us, []⟩ = pure (ps.zip us)) : FnAt K mg x st ps := by
  obtain ⟨fd, F⟩ := c.def_ j hd
  exact ⟨_, fd, He.glo_ok X G (c.fact i hf), F, FunD.bindsN F hb⟩
theorem fnAtC_of {K : PySem.W.Frag} {h : Heap} {mg : Str → Option Value} (X : K.In h) (G : h.Ns mainGlobals mg) (c : He.SaysD fa fn K) (x : Str) (st : Stmt) (ps : List Str) (i j : Nat) (hf : fa[i]? = some (.glo x)) (hd : fn[j]? = some (dd x st))
    (hb : ∀ (kV doc pm : Value) (an : Option Addr) (cdv ct : Value) (us : List Value), us.length = ps.length → bindArgs (PySem.W.fnOf x x (defArgs st) (defBody st) (defScope st) .none kV doc pm an cdv ct) ⟨us, []⟩ = pure (ps.zip us)) : FnAtC K mg x st ps (He.codeOf K (x, none)) := by
  obtain ⟨fd, F⟩ := c.def_ j hd
  refine ⟨_, fd, He.glo_ok X G (c.fact i hf), F, FunD.bindsN F hb, ?_⟩
  obtain ⟨oc, od, dV, kV, doc, pm, an, cdv, ct, osl, rfl, lk, hcd, _, _⟩ := F.ex
  obtain ⟨c0, rfl⟩ := He.codeIn_ref hcd
  rw [He.codeOf_eq (p := (x, none)) lk rfl]
theorem law_at {w : World} {K : PySem.W.Frag} {h : Heap} {mg : Str → Option Value} {f : Addr} (X : K.In h) (G : h.Ns mainGlobals mg) (hf : mg ("law" : Str) = some (.ref f)) (c : He.SaysX fa fn [] tf (fun _ => true) w h K) : LawAtS PySem.Challenge.rw_struckboards_k23_whole_several_boards w K CX0 10 63 "_law_script" mg f h := by
  have d := c.t.d
  have T : Txt mg := ⟨He.free_ok X G (d.fact 48 (f := .free "all") rfl), He.free_ok X G (d.fact 49 (f := .free "any") rfl), He.free_ok X G (d.fact 50 (f := .free "bool") rfl), He.free_ok X G (d.fact 51 (f := .free "enumerate") rfl), He.free_ok X G (d.fact 52 (f := .free "int") rfl), He.free_ok X G (d.fact 53 (f := .free "isinstance") rfl), He.free_ok X G (d.fact 54 (f := .free "len") rfl), He.free_ok X G (d.fact 55 (f := .free "list") rfl), He.free_ok X G (d.fact 56 (f := .free "max") rfl), He.free_ok X G (d.fact 57 (f := .free "range") rfl), He.free_ok X G (d.fact 58 (f := .free "sorted") rfl), He.free_ok X G (d.fact 59 (f := .free "str") rfl), He.free_ok X G (d.fact 60 (f := .free "sum") rfl), He.free_ok X G (d.fact 61 (f := .free "tuple") rfl), He.free_ok X G (d.fact 62 (f := .free "zip") rfl), He.int_ok X G (d.fact 63 (f := .int "MOST_SIDE" 6) rfl), He.int_ok X G (d.fact 64 (f := .int "MOST_VALUE" 1000) rfl), He.int_ok X G (d.fact 65 (f := .int "MOST_BOARDS" 4) rfl)⟩
  obtain ⟨q1, q2, q3, q4⟩ := He.exc_ok (d.fact 67 (f := .exc "NeverFalls") rfl)
  have NF : NFs K mg (He.ga K "NeverFalls") := ⟨He.glo_ok X G (d.fact 66 (f := .glo "NeverFalls") rfl), q1, q2, q3, q4, He.exm_ok (d.fact 68 (f := .exm "NeverFalls" "NeverFalls" true) rfl)⟩
  have F_is_int := fnAt_of X G d "is_int" sis_int ["value"] 0 0 rfl rfl (fun _ _ _ _ _ _ us hl => match us, hl with | [_], _ => rfl)
  have F_is_from := fnAt_of X G d "is_from" sis_from ["value", "least", "most"] 1 1 rfl rfl (fun _ _ _ _ _ _ us hl => match us, hl with | [_, _, _], _ => rfl)
  have F_is_place := fnAt_of X G d "is_place" sis_place ["value"] 2 2 rfl rfl (fun _ _ _ _ _ _ us hl => match us, hl with | [_], _ => rfl)
  have F_need_board := fnAt_of X G d "need_board" sneed_board ["value"] 3 3 rfl rfl (fun _ _ _ _ _ _ us hl => match us, hl with | [_], _ => rfl)
  have F_sides := fnAt_of X G d "sides" ssides ["board"] 4 4 rfl rfl (fun _ _ _ _ _ _ us hl => match us, hl with | [_], _ => rfl)
  have F_lines_of := fnAt_of X G d "lines_of" slines_of ["board"] 5 5 rfl rfl (fun _ _ _ _ _ _ us hl => match us, hl with | [_], _ => rfl)
  have F_is_lot := fnAt_of X G d "is_lot" sis_lot ["board", "value"] 6 6 rfl rfl (fun _ _ _ _ _ _ us hl => match us, hl with | [_, _], _ => rfl)
  have F_need_lot := fnAt_of X G d "need_lot" sneed_lot ["board", "value"] 7 7 rfl rfl (fun _ _ _ _ _ _ us hl => match us, hl with | [_, _], _ => rfl)
  have F_need_line := fnAt_of X G d "need_line" sneed_line ["board", "value"] 8 8 rfl rfl (fun _ _ _ _ _ _ us hl => match us, hl with | [_, _], _ => rfl)
  have F_left_of := fnAt_of X G d "left_of" sleft_of ["board", "lot"] 9 9 rfl rfl (fun _ _ _ _ _ _ us hl => match us, hl with | [_, _], _ => rfl)
  have F_numbers := fnAt_of X G d "numbers" snumbers ["board", "lot", "line"] 10 10 rfl rfl (fun _ _ _ _ _ _ us hl => match us, hl with | [_, _, _], _ => rfl)
  have F_same_side := fnAt_of X G d "same_side" ssame_side ["board", "one", "other"] 11 11 rfl rfl (fun _ _ _ _ _ _ us hl => match us, hl with | [_, _, _], _ => rfl)
  have F_is_greater := fnAt_of X G d "is_greater" sis_greater ["board", "lot", "line", "other"] 12 12 rfl rfl (fun _ _ _ _ _ _ us hl => match us, hl with | [_, _, _, _], _ => rfl)
  have F_can_fall := fnAt_of X G d "can_fall" scan_fall ["board", "lot", "line"] 13 13 rfl rfl (fun _ _ _ _ _ _ us hl => match us, hl with | [_, _, _], _ => rfl)
  have F_with_line := fnAt_of X G d "with_line" swith_line ["lot", "line"] 14 14 rfl rfl (fun _ _ _ _ _ _ us hl => match us, hl with | [_, _], _ => rfl)
  have F_closure := fnAt_of X G d "closure" sclosure ["board", "within"] 15 15 rfl rfl (fun _ _ _ _ _ _ us hl => match us, hl with | [_, _], _ => rfl)
  have F_last_of := fnAt_of X G d "last_of" slast_of ["board"] 16 16 rfl rfl (fun _ _ _ _ _ _ us hl => match us, hl with | [_], _ => rfl)
  have F_lots_of := fnAtC_of X G d "lots_of" slots_of ["some"] 17 17 rfl rfl (fun _ _ _ _ _ _ us hl => match us, hl with | [_], _ => rfl)
  have F_need_boards := fnAt_of X G d "need_boards" sneed_boards ["value"] 18 18 rfl rfl (fun _ _ _ _ _ _ us hl => match us, hl with | [_], _ => rfl)
  have F_falls_in_all := fnAt_of X G d "falls_in_all" sfalls_in_all ["boards", "lot", "line"] 19 19 rfl rfl (fun _ _ _ _ _ _ us hl => match us, hl with | [_, _, _], _ => rfl)
  have F_all_ready_of := fnAt_of X G d "all_ready_of" sall_ready_of ["boards", "lot"] 20 20 rfl rfl (fun _ _ _ _ _ _ us hl => match us, hl with | [_, _], _ => rfl)
  have F_all_ready := fnAt_of X G d "all_ready" sall_ready ["boards", "lot"] 21 21 rfl rfl (fun _ _ _ _ _ _ us hl => match us, hl with | [_, _], _ => rfl)
  have F_all_last := fnAt_of X G d "all_last" sall_last ["boards"] 22 22 rfl rfl (fun _ _ _ _ _ _ us hl => match us, hl with | [_], _ => rfl)
  have F_all_rounds := fnAt_of X G d "all_rounds" sall_rounds ["boards"] 23 23 rfl rfl (fun _ _ _ _ _ _ us hl => match us, hl with | [_], _ => rfl)
  have F_all_comes := fnAt_of X G d "all_comes" sall_comes ["boards", "lot"] 24 24 rfl rfl (fun _ _ _ _ _ _ us hl => match us, hl with | [_, _], _ => rfl)
  have F_need_held := fnAt_of X G d "need_held" sneed_held ["board", "value"] 25 25 rfl rfl (fun _ _ _ _ _ _ us hl => match us, hl with | [_, _], _ => rfl)
  have F_last_with := fnAt_of X G d "last_with" slast_with ["board", "held"] 26 26 rfl rfl (fun _ _ _ _ _ _ us hl => match us, hl with | [_, _], _ => rfl)
  have F_fewest_held := fnAt_of X G d "fewest_held" sfewest_held ["board", "line"] 27 27 rfl rfl (fun _ _ _ _ _ _ us hl => match us, hl with | [_, _], _ => rfl)
  have F_keeps := fnAt_of X G d "keeps" skeeps ["board", "held"] 28 28 rfl rfl (fun _ _ _ _ _ _ us hl => match us, hl with | [_, _], _ => rfl)
  have F__law_taken := fnAt_of X G d "_law_taken" s_law_taken ["_law_row", "_law_many"] 29 29 rfl rfl (fun _ _ _ _ _ _ us hl => match us, hl with | [_, _], _ => rfl)
  have F__law_pick := fnAt_of X G d "_law_pick" s_law_pick ["_law_row", "_law_things"] 30 30 rfl rfl (fun _ _ _ _ _ _ us hl => match us, hl with | [_, _], _ => rfl)
  have F__law_alike := fnAt_of X G d "_law_alike" s_law_alike ["_law_found", "_law_due"] 31 31 rfl rfl (fun _ _ _ _ _ _ us hl => match us, hl with | [_, _], _ => rfl)
  have F__law_is := fnAt_of X G d "_law_is" s_law_is ["_law_found", "_law_due"] 32 32 rfl rfl (fun _ _ _ _ _ _ us hl => match us, hl with | [_, _], _ => rfl)
  have F__law_board := fnAt_of X G d "_law_board" s_law_board ["_law_row", "_law_rows_here", "_law_columns_here", "_law_many"] 33 33 rfl rfl (fun _ _ _ _ _ _ us hl => match us, hl with | [_, _, _, _], _ => rfl)
  have F__law_rows := fnAt_of X G d "_law_rows" s_law_rows ["_law_board_here", "_law_lot_here"] 34 34 rfl rfl (fun _ _ _ _ _ _ us hl => match us, hl with | [_, _], _ => rfl)
  have F__law_columns := fnAt_of X G d "_law_columns" s_law_columns ["_law_board_here", "_law_lot_here"] 35 35 rfl rfl (fun _ _ _ _ _ _ us hl => match us, hl with | [_, _], _ => rfl)
  have F__law_numbers := fnAt_of X G d "_law_numbers" s_law_numbers ["_law_board_here", "_law_lot_here", "_law_line"] 36 36 rfl rfl (fun _ _ _ _ _ _ us hl => match us, hl with | [_, _, _], _ => rfl)
  have F__law_over := fnAt_of X G d "_law_over" s_law_over ["_law_board_here", "_law_lot_here", "_law_line"] 37 37 rfl rfl (fun _ _ _ _ _ _ us hl => match us, hl with | [_, _, _], _ => rfl)
  have F__law_ready := fnAt_of X G d "_law_ready" s_law_ready ["_law_board_here", "_law_lot_here"] 38 38 rfl rfl (fun _ _ _ _ _ _ us hl => match us, hl with | [_, _], _ => rfl)
  have F__law_with := fnAt_of X G d "_law_with" s_law_with ["_law_lot_here", "_law_line"] 39 39 rfl rfl (fun _ _ _ _ _ _ us hl => match us, hl with | [_, _], _ => rfl)
  have F__law_drawn := fnAt_of X G d "_law_drawn" s_law_drawn ["_law_row", "_law_board_here", "_law_many"] 40 40 rfl rfl (fun _ _ _ _ _ _ us hl => match us, hl with | [_, _, _], _ => rfl)
  have F__law_lot := fnAt_of X G d "_law_lot" s_law_lot ["_law_row", "_law_board_here"] 41 41 rfl rfl (fun _ _ _ _ _ _ us hl => match us, hl with | [_, _], _ => rfl)
  have F__law_end := fnAt_of X G d "_law_end" s_law_end ["_law_board_here"] 42 42 rfl rfl (fun _ _ _ _ _ _ us hl => match us, hl with | [_], _ => rfl)
  have F__law_lots := fnAt_of X G d "_law_lots" s_law_lots ["_law_board_here", "_law_ready_here"] 43 43 rfl rfl (fun _ _ _ _ _ _ us hl => match us, hl with | [_, _], _ => rfl)
  have F__law_common := fnAt_of X G d "_law_common" s_law_common ["_law_boards", "_law_lot_here"] 44 44 rfl rfl (fun _ _ _ _ _ _ us hl => match us, hl with | [_, _], _ => rfl)
  have F__law_held := fnAt_of X G d "_law_held" s_law_held ["_law_board_here", "_law_held_here"] 45 45 rfl rfl (fun _ _ _ _ _ _ us hl => match us, hl with | [_, _], _ => rfl)
  have F__law_parts := fnAt_of X G d "_law_parts" s_law_parts ["_law_some"] 46 46 rfl rfl (fun _ _ _ _ _ _ us hl => match us, hl with | [_], _ => rfl)
  obtain ⟨fd, F⟩ := d.def_ 47 (d := dd "law" slaw) rfl
  have ef : f = He.ga K "law" := by
    have e := hf.symm.trans (He.glo_ok X G (d.fact 47 (f := .glo "law") rfl))
    cases e; rfl
  subst ef
  have b := FunD.bindsA (ps := ["_law_script"]) F (fun _ _ _ _ _ _ us hl => match us, hl with | [_], _ => rfl)
  have p0 : ((("lots_of" : Str), none) : He.Defn) ∈ tf := List.mem_cons_self
  refine ⟨fd, [He.cT K ("lots_of", none)], spMain K [((He.cT K ("lots_of", none)).2, QL)], fun p hp => ?_, fun p hp => ?_, fun p hp => ?_, fun s u => b s [u] rfl, fun H a ns hl _ hT hS => ⟨a, ns, rfl, hS, fun p hp => ?_, fun _ => rfl⟩, fun base Xb Gb TB => ?_⟩
  · rw [List.mem_singleton.mp hp]; exact c.empty _ p0
  · rw [List.mem_singleton.mp hp]; exact c.out _ p0
  · rw [List.mem_singleton.mp hp]; exact PySem.W.codeHd_of_K X (c.hd _ p0)
  · rw [List.mem_singleton.mp hp]
    exact ⟨#[], hT _ (List.mem_singleton.mpr rfl), trivial, fun pos cv hc => by cases hc⟩
  · have tb := TB _ (List.mem_singleton.mpr rfl)
    have D_is_int := ok_is_int (P := (PySem.W.OpenLaw.prog PySem.Challenge.rw_struckboards_k23_whole_several_boards)) (w := w) (base := base) T F_is_int
    have D_is_from := ok_is_from (P := (PySem.W.OpenLaw.prog PySem.Challenge.rw_struckboards_k23_whole_several_boards)) (w := w) (base := base) T F_is_from (D_is_int := D_is_int)
    have D_is_place := ok_is_place (P := (PySem.W.OpenLaw.prog PySem.Challenge.rw_struckboards_k23_whole_several_boards)) (w := w) (base := base) T F_is_place (D_is_from := D_is_from)
    have D_need_board := ok_need_board (P := (PySem.W.OpenLaw.prog PySem.Challenge.rw_struckboards_k23_whole_several_boards)) (w := w) (base := base) T F_need_board (D_is_place := D_is_place)
    have D_sides := ok_sides (P := (PySem.W.OpenLaw.prog PySem.Challenge.rw_struckboards_k23_whole_several_boards)) (w := w) (base := base) T F_sides
    have D_lines_of := ok_lines_of (P := (PySem.W.OpenLaw.prog PySem.Challenge.rw_struckboards_k23_whole_several_boards)) (w := w) (base := base) T F_lines_of (D_sides := D_sides)
    have D_is_lot := ok_is_lot (P := (PySem.W.OpenLaw.prog PySem.Challenge.rw_struckboards_k23_whole_several_boards)) (w := w) (base := base) T F_is_lot (D_is_from := D_is_from) (D_sides := D_sides)
    have D_need_lot := ok_need_lot (P := (PySem.W.OpenLaw.prog PySem.Challenge.rw_struckboards_k23_whole_several_boards)) (w := w) (base := base) T F_need_lot (D_is_lot := D_is_lot)
    have D_need_line := ok_need_line (P := (PySem.W.OpenLaw.prog PySem.Challenge.rw_struckboards_k23_whole_several_boards)) (w := w) (base := base) T F_need_line (D_is_from := D_is_from) (D_sides := D_sides)
    have D_left_of := ok_left_of (P := (PySem.W.OpenLaw.prog PySem.Challenge.rw_struckboards_k23_whole_several_boards)) (w := w) (base := base) T F_left_of (D_lines_of := D_lines_of)
    have D_numbers := ok_numbers (P := (PySem.W.OpenLaw.prog PySem.Challenge.rw_struckboards_k23_whole_several_boards)) (w := w) (base := base) T F_numbers (D_left_of := D_left_of)
    have D_same_side := ok_same_side (P := (PySem.W.OpenLaw.prog PySem.Challenge.rw_struckboards_k23_whole_several_boards)) (w := w) (base := base) T F_same_side
    have D_is_greater := ok_is_greater (P := (PySem.W.OpenLaw.prog PySem.Challenge.rw_struckboards_k23_whole_several_boards)) (w := w) (base := base) T F_is_greater (D_numbers := D_numbers) (D_same_side := D_same_side)
    have D_can_fall := ok_can_fall (P := (PySem.W.OpenLaw.prog PySem.Challenge.rw_struckboards_k23_whole_several_boards)) (w := w) (base := base) T F_can_fall (D_is_greater := D_is_greater) (D_lines_of := D_lines_of)
    have D_with_line := ok_with_line (P := (PySem.W.OpenLaw.prog PySem.Challenge.rw_struckboards_k23_whole_several_boards)) (w := w) (base := base) T F_with_line
    have D_closure := ok_closure (P := (PySem.W.OpenLaw.prog PySem.Challenge.rw_struckboards_k23_whole_several_boards)) (w := w) (base := base) T F_closure (D_can_fall := D_can_fall) (D_with_line := D_with_line)
    have D_last_of := ok_last_of (P := (PySem.W.OpenLaw.prog PySem.Challenge.rw_struckboards_k23_whole_several_boards)) (w := w) (base := base) T F_last_of (D_closure := D_closure) (D_lines_of := D_lines_of)
    have D_lots_of := ok_lots_of (C := He.ga K "NeverFalls") (P := (PySem.W.OpenLaw.prog PySem.Challenge.rw_struckboards_k23_whole_several_boards)) (w := w) (base := base) T F_lots_of tb
    have D_need_boards := ok_need_boards (P := (PySem.W.OpenLaw.prog PySem.Challenge.rw_struckboards_k23_whole_several_boards)) (w := w) (base := base) T F_need_boards (D_sides := D_sides) (D_need_board := D_need_board)
    have D_falls_in_all := ok_falls_in_all (P := (PySem.W.OpenLaw.prog PySem.Challenge.rw_struckboards_k23_whole_several_boards)) (w := w) (base := base) T F_falls_in_all (D_lines_of := D_lines_of) (D_is_greater := D_is_greater)
    have D_all_ready_of := ok_all_ready_of (P := (PySem.W.OpenLaw.prog PySem.Challenge.rw_struckboards_k23_whole_several_boards)) (w := w) (base := base) T F_all_ready_of (D_lines_of := D_lines_of) (D_falls_in_all := D_falls_in_all)
    have D_all_ready := ok_all_ready (P := (PySem.W.OpenLaw.prog PySem.Challenge.rw_struckboards_k23_whole_several_boards)) (w := w) (base := base) T F_all_ready (D_all_ready_of := D_all_ready_of) (D_need_lot := D_need_lot) (D_need_boards := D_need_boards)
    have D_all_last := ok_all_last (P := (PySem.W.OpenLaw.prog PySem.Challenge.rw_struckboards_k23_whole_several_boards)) (w := w) (base := base) T F_all_last (D_all_ready_of := D_all_ready_of) (D_with_line := D_with_line) (D_need_boards := D_need_boards)
    have D_all_rounds := ok_all_rounds (P := (PySem.W.OpenLaw.prog PySem.Challenge.rw_struckboards_k23_whole_several_boards)) (w := w) (base := base) T F_all_rounds (D_all_ready_of := D_all_ready_of) (D_need_boards := D_need_boards)
    have D_all_comes := ok_all_comes (P := (PySem.W.OpenLaw.prog PySem.Challenge.rw_struckboards_k23_whole_several_boards)) (w := w) (base := base) T F_all_comes (D_all_ready_of := D_all_ready_of) (D_with_line := D_with_line) (D_need_lot := D_need_lot) (D_need_boards := D_need_boards)
    have D_need_held := ok_need_held (P := (PySem.W.OpenLaw.prog PySem.Challenge.rw_struckboards_k23_whole_several_boards)) (w := w) (base := base) T F_need_held (D_is_from := D_is_from) (D_sides := D_sides)
    have D_last_with := ok_last_with (P := (PySem.W.OpenLaw.prog PySem.Challenge.rw_struckboards_k23_whole_several_boards)) (w := w) (base := base) T F_last_with (D_closure := D_closure) (D_lines_of := D_lines_of) (D_need_held := D_need_held) (D_need_board := D_need_board)
    have D_fewest_held := ok_fewest_held (P := (PySem.W.OpenLaw.prog PySem.Challenge.rw_struckboards_k23_whole_several_boards)) (w := w) (base := base) T NF F_fewest_held (D_lots_of := D_lots_of) (D_closure := D_closure) (D_lines_of := D_lines_of) (D_last_of := D_last_of) (D_need_line := D_need_line) (D_need_board := D_need_board)
    have D_keeps := ok_keeps (P := (PySem.W.OpenLaw.prog PySem.Challenge.rw_struckboards_k23_whole_several_boards)) (w := w) (base := base) T F_keeps (D_last_of := D_last_of) (D_last_with := D_last_with) (D_need_held := D_need_held) (D_need_board := D_need_board)
    have D__law_taken := ok__law_taken (P := (PySem.W.OpenLaw.prog PySem.Challenge.rw_struckboards_k23_whole_several_boards)) (w := w) (base := base) T F__law_taken
    have D__law_pick := ok__law_pick (P := (PySem.W.OpenLaw.prog PySem.Challenge.rw_struckboards_k23_whole_several_boards)) (w := w) (base := base) T F__law_pick (D__law_taken := D__law_taken)
    have D__law_alike := ok__law_alike (P := (PySem.W.OpenLaw.prog PySem.Challenge.rw_struckboards_k23_whole_several_boards)) (w := w) (base := base) T F__law_alike 3
    have D__law_is := ok__law_is (P := (PySem.W.OpenLaw.prog PySem.Challenge.rw_struckboards_k23_whole_several_boards)) (w := w) (base := base) T F__law_is
    have D__law_board := ok__law_board (P := (PySem.W.OpenLaw.prog PySem.Challenge.rw_struckboards_k23_whole_several_boards)) (w := w) (base := base) T F__law_board (D__law_taken := D__law_taken)
    have D__law_rows := ok__law_rows (P := (PySem.W.OpenLaw.prog PySem.Challenge.rw_struckboards_k23_whole_several_boards)) (w := w) (base := base) T F__law_rows
    have D__law_columns := ok__law_columns (P := (PySem.W.OpenLaw.prog PySem.Challenge.rw_struckboards_k23_whole_several_boards)) (w := w) (base := base) T F__law_columns
    have D__law_numbers := ok__law_numbers (P := (PySem.W.OpenLaw.prog PySem.Challenge.rw_struckboards_k23_whole_several_boards)) (w := w) (base := base) T F__law_numbers (D__law_rows := D__law_rows) (D__law_columns := D__law_columns)
    have D__law_over := ok__law_over (P := (PySem.W.OpenLaw.prog PySem.Challenge.rw_struckboards_k23_whole_several_boards)) (w := w) (base := base) T F__law_over (D__law_numbers := D__law_numbers) (D__law_rows := D__law_rows) (D__law_columns := D__law_columns)
    have D__law_ready := ok__law_ready (P := (PySem.W.OpenLaw.prog PySem.Challenge.rw_struckboards_k23_whole_several_boards)) (w := w) (base := base) T F__law_ready (D__law_over := D__law_over) (D__law_rows := D__law_rows) (D__law_columns := D__law_columns)
    have D__law_with := ok__law_with (P := (PySem.W.OpenLaw.prog PySem.Challenge.rw_struckboards_k23_whole_several_boards)) (w := w) (base := base) T F__law_with
    have D__law_drawn := ok__law_drawn (P := (PySem.W.OpenLaw.prog PySem.Challenge.rw_struckboards_k23_whole_several_boards)) (w := w) (base := base) T F__law_drawn (D__law_with := D__law_with) (D__law_pick := D__law_pick) (D__law_ready := D__law_ready)
    have D__law_lot := ok__law_lot (P := (PySem.W.OpenLaw.prog PySem.Challenge.rw_struckboards_k23_whole_several_boards)) (w := w) (base := base) T F__law_lot (D__law_taken := D__law_taken) (D__law_drawn := D__law_drawn)
    have D__law_end := ok__law_end (P := (PySem.W.OpenLaw.prog PySem.Challenge.rw_struckboards_k23_whole_several_boards)) (w := w) (base := base) T F__law_end (D__law_with := D__law_with) (D__law_ready := D__law_ready)
    have D__law_common := ok__law_common (P := (PySem.W.OpenLaw.prog PySem.Challenge.rw_struckboards_k23_whole_several_boards)) (w := w) (base := base) T F__law_common (D__law_rows := D__law_rows) (D__law_columns := D__law_columns) (D__law_over := D__law_over)
    have D__law_lots := ok__law_lots (P := (PySem.W.OpenLaw.prog PySem.Challenge.rw_struckboards_k23_whole_several_boards)) (w := w) (base := base) T F__law_lots (D__law_common := D__law_common) (D__law_with := D__law_with)
    have D__law_held := ok__law_held (P := (PySem.W.OpenLaw.prog PySem.Challenge.rw_struckboards_k23_whole_several_boards)) (w := w) (base := base) T F__law_held (D__law_with := D__law_with) (D__law_ready := D__law_ready)
    have D__law_parts := ok__law_parts (P := (PySem.W.OpenLaw.prog PySem.Challenge.rw_struckboards_k23_whole_several_boards)) (w := w) (base := base) T F__law_parts
    exact ok_law T NF F (D__law_taken := D__law_taken) (D__law_board := D__law_board) (D__law_lot := D__law_lot) (D__law_alike := D__law_alike) (D__law_common := D__law_common) (D_all_ready := D_all_ready) (D_all_last := D_all_last) (D__law_is := D__law_is) (D_all_comes := D_all_comes) (D_all_rounds := D_all_rounds) (D__law_end := D__law_end) (D__law_held := D__law_held) (D_last_with := D_last_with) (D_keeps := D_keeps) (D__law_parts := D__law_parts) (D_fewest_held := D_fewest_held) (hL := D__law_lots)
end K23
open PySem PySem.W PySem.Calls PyProof.Rows
theorem PySem.Challenge.cw_struckboards_k23_whole_several_boards_holds : PySem.Challenge.rw_struckboards_k23_whole_several_boards.Holds := by
  w_on; o_law
  refine HandSHeadRun.head_any (r := OpenLaw.row PySem.Challenge.rw_struckboards_k23_whole_several_boards) (q := view (OpenLaw.row PySem.Challenge.rw_struckboards_k23_whole_several_boards).prog [63]) (H := K23.hk) (ob := K23.ob) (M := 6000) (loose := K23.loose) (d := HandSHeadRun.topDef (OpenLaw.row PySem.Challenge.rw_struckboards_k23_whole_several_boards).prog 63) (kwd := []) K23.ob_eq
    (by kernel_rfl) (fun s => by kernel_rfl) K23.run (by kernel_rfl) (by kernel_rfl) (by kernel_rfl) (by rfl) (by first | assumption | decide +kernel) (by decide +kernel) ⟨rfl, rfl, rfl, rfl, rfl, by decide +kernel⟩ ?hw ?hc
  case hw => w_witness2
  case hc =>
    refine LamX.walk_ofTsE (l := PySem.Challenge.rw_struckboards_k23_whole_several_boards) (n := 63) (k := 10) (x := "_law_script") (CX := fun _ => L2.CX0) rfl (by decide) (by kernel_rfl) ⟨rfl, by decide, by decide⟩ ?F (fun _ _ _ _ _ z => z)
    intro w mg fa h Y G hmg0
    obtain ⟨K, KX, c⟩ := Y
    have hmg : mg ("law" : PySem.Str) = some (.ref fa) := by
      have e : (HandSHeadRun.topDef (OpenLaw.row PySem.Challenge.rw_struckboards_k23_whole_several_boards).prog 63).name = ("law" : PySem.Str) := by kernel_rfl
      rw [← e]
      exact hmg0
    exact ⟨K, KX, K23.law_at KX G hmg c⟩
