import PyProof.Rows.All
import Wide.All
import OpenK.AllK
import Wide.FinOn
import HandS.ForMost
import HandS.ForExc
import HandS.Star
import HandS.Wide
import HandS.Flow
import HandS.More
import HandS.SortInts
import HandS.IsInst
import HandS.DictComp
import HandS.Walk
import HandS.Zip
import HandS.Small
import HandS.TupAny
import HandS.Conv
import HandS.Style
import KE.DataMinMax
import KE.SortData
import PyProof.LongRange
import PyProof.Rows.TupMore
import KE.GoesEnum
import PyProof.TupleOfSeq
import KE.DatumOrd
import HandS.ExcInit
import HandS.ExcSuper
import HandS.WordsExc
import HandS.ExcIs
import KE.KExcSuper
import HandS.ExcValue
import PySem.Challenge.RW_cutsmaller_k79_whole_rows_beside_and_tim
set_option Elab.async false
set_option linter.all false
/-! Cu, maths 1: what the code computes, in plain words. -/
namespace Cu
def recs : Option Int → List Int → List Int
  | _, [] => []
  | none, x :: r => x :: recs (some x) r
  | some m, x :: r => if x < m then x :: recs (some x) r else recs (some m) r
def lone (row : List Int) (least : Int) : Bool := row.any fun x => decide (x < 2 * least)
def joinStep (least : Int) (found : List (Int × Int)) (b : Int × Int) : List (Int × Int) :=
  match found.getLast? with
  | none => found ++ [b]
  | some p => if b.1 - p.2 ≤ least then found.dropLast ++ [(p.1, b.2)] else found ++ [b]
def joinB (least : Int) (bs : List (Int × Int)) : List (Int × Int) := bs.foldl (joinStep least) []
def fillF (row : List Int) (least : Int) : Option (List (Int × Int)) :=
  if lone row least then none else some (joinB least ((recs none row).reverse.map fun x => (x, x)))
theorem recs_len : ∀ (row : List Int) (m : Option Int), (recs m row).length ≤ row.length
  | [], _ => by simp [recs]
  | x :: r, none => by
    have := recs_len r (some x)
    simp only [recs, List.length_cons]; omega
  | x :: r, some m => by
    have h1 := recs_len r (some x)
    have h2 := recs_len r (some m)
    unfold recs
    split
    · simp only [List.length_cons]; omega
    · simp only [List.length_cons]; omega
/-- strictly falling, below m -/
theorem recs_lt : ∀ (row : List Int) (m : Option Int), (∀ y ∈ recs m row, ∀ k, m = some k → y < k) ∧ (recs m row).Pairwise (· > ·)
  | [], _ => by simp [recs]
  | x :: r, none => by
    obtain ⟨h1, h2⟩ := recs_lt r (some x)
    refine ⟨fun y _ k e => (nomatch e), ?_⟩
    unfold recs
    exact List.pairwise_cons.mpr ⟨fun y hy => h1 y hy x rfl, h2⟩
  | x :: r, some m => by
    unfold recs
    split
    · rename_i hx
      obtain ⟨h1, h2⟩ := recs_lt r (some x)
      refine ⟨fun y hy k e => ?_, List.pairwise_cons.mpr ⟨fun y hy => h1 y hy x rfl, h2⟩⟩
      cases e
      rcases List.mem_cons.mp hy with rfl | hy
      · exact hx
      · have := h1 y hy x rfl
        omega
    · exact recs_lt r (some m)
theorem recs_rev_sorted (row : List Int) : (recs none row).reverse.Pairwise (· ≤ ·) := by
  rw [List.pairwise_reverse]
  exact (recs_lt row none).2.imp fun h => Int.le_of_lt h
theorem joinStep_len {least : Int} {found : List (Int × Int)} {b : Int × Int} : (joinStep least found b).length ≤ found.length + 1 := by
  unfold joinStep
  split
  · simp
  · split
    · simp only [List.length_append, List.length_dropLast, List.length_singleton]; omega
    · simp
theorem fold_join_len {least : Int} : ∀ (bs found : List (Int × Int)), (bs.foldl (joinStep least) found).length ≤ found.length + bs.length
  | [], _ => by simp
  | b :: bs, found => by
    have h1 := fold_join_len (least := least) bs (joinStep least found b)
    have h2 := joinStep_len (least := least) (found := found) (b := b)
    simp only [List.foldl_cons, List.length_cons]; omega
theorem joinB_len {least : Int} {bs : List (Int × Int)} : (joinB least bs).length ≤ bs.length := by
  have := fold_join_len (least := least) bs []
  simpa [joinB] using this

/-! ### how many limits a block asks -/
/-- x / l, rounded up -/
def cdiv (x l : Int) : Int := -((-x) / l)
def cnt (low high least : Int) : Nat := 1 + (cdiv (high - low) least).toNat
theorem cdiv_eq {x l : Int} (hl : 0 < l) : cdiv x l = (x - 1) / l + 1 := by
  unfold cdiv
  have h1 := Int.emod_add_mul_ediv (x - 1) l
  have h2 := Int.emod_nonneg (x - 1) (by omega : l ≠ 0)
  have h3 := Int.emod_lt_of_pos (x - 1) hl
  generalize (x - 1) / l = q at *
  generalize (x - 1) % l = r at *
  have h4 : (-x) / l = -q - 1 := by
    have e : -x = (l - r - 1) + l * (-q - 1) := by
      rw [Int.mul_sub, Int.mul_neg, Int.mul_one]
      omega
    rw [e, Int.add_mul_ediv_left _ _ (by omega : l ≠ 0), Int.ediv_eq_zero_of_lt (by omega) (by omega)]
    omega
  rw [h4]; omega
theorem cdiv_sub {x l : Int} (hl : 0 < l) : cdiv (x - l) l = cdiv x l - 1 := by
  unfold cdiv
  have e : -(x - l) = -x + 1 * l := by omega
  rw [e, Int.add_mul_ediv_right _ _ (by omega : l ≠ 0)]
  omega
theorem cdiv_small {x l : Int} (h0 : 0 < x) (h1 : x ≤ l) : cdiv x l = 1 := by
  rw [cdiv_eq (by omega), Int.ediv_eq_zero_of_lt (by omega) (by omega)]
  rfl
theorem cdiv_zero {l : Int} : cdiv 0 l = 0 := by
  unfold cdiv
  simp
theorem cdiv_pos {x l : Int} (hl : 0 < l) (h : 0 < x) : 1 ≤ cdiv x l := by
  rw [cdiv_eq hl]
  have := Int.ediv_nonneg (by omega : 0 ≤ x - 1) (by omega : 0 ≤ l)
  omega
theorem cdiv_le {x l : Int} {n : Nat} (hl : 0 < l) (h : x ≤ l * n) : cdiv x l ≤ n := by
  unfold cdiv
  have : -(n : Int) ≤ (-x) / l := by
    rw [Int.le_ediv_iff_mul_le hl]
    rw [Int.neg_mul, Int.mul_comm]
    omega
  omega
/-- one step of few_limits -/
theorem cdiv_step {low cur l : Int} (hl : 0 < l) (h : low < cur) : (cdiv (cur - low) l).toNat = 1 + (cdiv (max low (cur - l) - low) l).toNat := by
  have hp := cdiv_pos hl (by omega : 0 < cur - low)
  by_cases h1 : cur - l ≤ low
  · rw [show max low (cur - l) - low = 0 by omega, cdiv_zero, cdiv_small (by omega) (by omega)]
    rfl
  · rw [show max low (cur - l) - low = (cur - low) - l by omega, cdiv_sub hl]
    omega
def blocksOf (o : Option (List (Int × Int))) : List (Int × Int) := o.getD []
def holdsF (o : Option (List (Int × Int))) (x : Int) : Bool := (blocksOf o).any fun b => decide (b.1 ≤ x) && decide (x ≤ b.2)
def nextF (o : Option (List (Int × Int))) (x : Int) : Option Int := (((blocksOf o).filter fun b => decide (b.1 < x)).map fun b => min b.2 (x - 1)).getLast?
def cntB (bs : List (Int × Int)) (least : Int) : Nat := (bs.map fun b => cnt b.1 b.2 least).sum
def cntR (row : List Int) (least : Int) : Nat := match fillF row least with
  | none => 1
  | some bs => cntB bs least
/-- 0 .. n - 1 -/
def upto (n : Nat) : List Int := (List.range n).map fun k : Nat => (k : Int)
def without (row : List Int) (h : Nat) : List Int := row.take h ++ row.drop (h + 1)
def idleF (row : List Int) (least : Int) : List Int := (upto row.length).filter fun h : Int => decide (fillF (without row h.toNat) least = fillF row least)
def followsF (bs : List (Int × Int)) (above below least : Int) : Bool := decide (below < above) && (decide (above - below ≤ least) || decide (nextF (some bs) above = some below))
def shortF : Option Nat → Option Nat → Option Nat
  | none, o => o
  | some a, none => some a
  | some a, some b => if a ≤ b then some a else some b
end Cu
/-! Cu, maths 2: kept, the offers. -/
namespace Cu
def topOf (bs : List (Int × Int)) : Int := (bs.getLast?.map (·.2)).getD 0
def botOf (bs : List (Int × Int)) : Int := (bs.head?.map (·.1)).getD 0
def keptIn (bs : List (Int × Int)) (least : Int) (ways : List (Int × Nat)) (limit : Int) (way : Option Nat) : Option Nat :=
  ways.foldl (fun way o => if followsF bs o.1 limit least then shortF way (some (o.2 + 1)) else way) way
def keptStep (bs : List (Int × Int)) (least : Int) (st : List (Int × Nat) × Option Nat) (limit : Int) : List (Int × Nat) × Option Nat :=
  match keptIn bs least st.1 limit (if limit = topOf bs then some 1 else none) with
  | none => st
  | some l => if holdsF (some bs) limit then (st.1 ++ [(limit, l)], if limit = botOf bs then shortF st.2 (some l) else st.2) else st
def keptB (bs : List (Int × Int)) (least : Int) (row : List Int) : Option Nat := (row.foldl (keptStep bs least) ([], none)).2
def keptN (row : List Int) (least : Int) : Option Nat := match fillF row least with
  | none => some 1
  | some bs => if bs = [] then some 0 else keptB bs least row
theorem keptStep_len {bs : List (Int × Int)} {least : Int} {st : List (Int × Nat) × Option Nat} {limit : Int} : (keptStep bs least st limit).1.length ≤ st.1.length + 1 := by
  unfold keptStep
  split
  · omega
  · split
    · simp
    · omega
/-- the lengths told stay small -/
def KSm (n : Nat) (st : List (Int × Nat) × Option Nat) : Prop := (∀ o ∈ st.1, o.2 ≤ n) ∧ ∀ l, st.2 = some l → l ≤ n
theorem keptIn_le {bs : List (Int × Int)} {least limit : Int} {n : Nat} : ∀ (ways : List (Int × Nat)) (way : Option Nat), (∀ o ∈ ways, o.2 ≤ n) → (∀ l, way = some l → l ≤ n + 1) → ∀ l, keptIn bs least ways limit way = some l → l ≤ n + 1
  | [], way, _, hw, l, h => hw l h
  | o :: ways, way, ho, hw, l, h => by
    unfold keptIn at h
    rw [List.foldl_cons] at h
    refine keptIn_le ways _ (fun p hp => ho p (List.mem_cons_of_mem _ hp)) (fun m hm => ?_) l h
    have h1 := ho o List.mem_cons_self
    split at hm
    · cases way with
      | none => simp only [shortF, Option.some.injEq] at hm; omega
      | some a =>
        have := hw a rfl
        simp only [shortF] at hm
        split at hm <;> simp only [Option.some.injEq] at hm <;> omega
    · exact hw m hm
/-! ### the offers -/
def putP (kvs : List (Int × Int)) (k a : Int) : List (Int × Int) := kvs ++ [(k, a)]
/-- the cheapest way up to a limit -/
def nearF (found : List (Int × Int)) (limit least : Int) : List Int := (found.filter fun o => decide (limit - o.1 ≤ least)).map (·.2)
def minL : List Int → Option Int
  | [] => none
  | n :: ns => some (ns.foldl min n)
def upStep (low high least : Int) (found : List (Int × Int)) (o : Int × Int) : List (Int × Int) :=
  if o.1 = low then putP found o.1 o.2
  else if low < o.1 ∧ o.1 ≤ high then
    match minL (nearF found o.1 least) with
    | none => found
    | some paid => putP found o.1 (paid + o.2)
  else found
def waysF (b : Int × Int) (least : Int) (offers : List (Int × Int)) : List (Int × Int) := offers.foldl (upStep b.1 b.2 least) []
def findP (kvs : List (Int × Int)) (k : Int) : Option Int := (kvs.find? fun p => decide (p.1 = k)).map (·.2)
def priceB (least : Int) (offers : List (Int × Int)) : List (Int × Int) → Option Int
  | [] => some 0
  | b :: bs => match findP (waysF b least offers) b.2 with
    | none => none
    | some p => (priceB least offers bs).map (p + ·)
def smallF (least : Int) (offers : List (Int × Int)) : List Int := (offers.filter fun o => decide (o.1 < 2 * least)).map (·.2)
def cheapF (row : List Int) (least : Int) (offers : List (Int × Int)) : Option Int := match fillF row least with
  | none => minL (smallF least offers)
  | some bs => priceB least offers bs
theorem upStep_keys {low high least : Int} {acc : List (Int × Int)} {o : Int × Int} : ((upStep low high least acc o).map (·.1)).Sublist (acc.map (·.1) ++ [o.1]) := by
  unfold upStep putP
  split
  · rw [List.map_append]; exact List.Sublist.refl _
  · split
    · split
      · exact List.sublist_append_left _ _
      · rw [List.map_append]; exact List.Sublist.refl _
    · exact List.sublist_append_left _ _
theorem fold_up_keys {low high least : Int} : ∀ (offers acc : List (Int × Int)), ((offers.foldl (upStep low high least) acc).map (·.1)).Sublist (acc.map (·.1) ++ offers.map (·.1))
  | [], acc => by simp
  | o :: offers, acc => by
    have h1 := fold_up_keys (low := low) (high := high) (least := least) offers (upStep low high least acc o)
    have h2 : ((upStep low high least acc o).map (·.1) ++ offers.map (·.1)).Sublist ((acc.map (·.1) ++ [o.1]) ++ offers.map (·.1)) := List.Sublist.append_right upStep_keys _
    rw [List.foldl_cons]
    refine h1.trans ?_
    rw [List.append_assoc] at h2
    exact h2
theorem waysF_keys {b : Int × Int} {least : Int} {offers : List (Int × Int)} : ((waysF b least offers).map (·.1)).Sublist (offers.map (·.1)) := by
  have := fold_up_keys (low := b.1) (high := b.2) (least := least) offers []
  simpa [waysF] using this
theorem up_nodup {offers : List (Int × Int)} (h : offers.Pairwise fun a b => a.1 < b.1) : (offers.map (·.1)).Nodup := by
  rw [List.Nodup, List.pairwise_map]
  exact h.imp fun h e => by omega
theorem waysF_nodup {b : Int × Int} {least : Int} {offers : List (Int × Int)} (h : offers.Pairwise fun a b => a.1 < b.1) : ((waysF b least offers).map (·.1)).Nodup := (up_nodup h).sublist waysF_keys
theorem waysF_len {b : Int × Int} {least : Int} {offers : List (Int × Int)} : (waysF b least offers).length ≤ offers.length := by
  have := (waysF_keys (b := b) (least := least) (offers := offers)).length_le
  simpa using this
/-! ### what bound sums -/
def belowF (limit least : Int) (marked : List (Int × Int)) : List Int := (marked.filter fun m => decide (0 < limit - m.1) && decide (limit - m.1 ≤ least)).map (·.2)
def excF (limit own low least : Int) (marked : List (Int × Int)) : Int := max 0 (own - if limit = low then 0 else (minL (belowF limit least marked)).getD 0)
def innerF (b : Int × Int) (offers : List (Int × Int)) (marks : List Int) : List ((Int × Int) × Int) := (offers.zip marks).filter fun x => decide (b.1 ≤ x.1.1) && decide (x.1.1 ≤ b.2)
def markedF (b : Int × Int) (offers : List (Int × Int)) (marks : List Int) : List (Int × Int) := (innerF b offers marks).map fun x => (x.1.1, x.2)
def lastM (l : List (Int × Int)) : Int := (l.getLast?.map (·.2)).getD 0
def boundB (least : Int) (offers : List (Int × Int)) (marks : List Int) (b : Int × Int) : Int :=
  lastM (markedF b offers marks) - ((innerF b offers marks).map fun x => excF x.1.1 (x.2 - x.1.2) b.1 least (markedF b offers marks)).sum
def boundF (row : List Int) (least : Int) (offers : List (Int × Int)) (marks : List Int) : Int := match fillF row least with
  | none => (cheapF row least offers).getD 0
  | some bs => (bs.map (boundB least offers marks)).sum
def markF (bs : List (Int × Int)) (least : Int) (offers : List (Int × Int)) (x : Int) : Option Int := bs.foldl (fun acc b => (findP (waysF b least offers) x).or acc) none
def marksF (row : List Int) (least : Int) (offers : List (Int × Int)) : List Int := offers.map fun o => (markF (blocksOf (fillF row least)) least offers o.1).getD 0
end Cu
/-! Cu, maths 3: the law's own way to the blocks. -/
namespace Cu
def lowLast (l : List Int) (c : Int) : Bool := match l.getLast? with
  | none => false
  | some m => decide (m < c)
def lawBlk (way : List Int) (low : Int) : Option (List (Int × Int)) :=
  if lowLast (recs none way) (2 * low) = true then none else some (joinB low ((recs none way).reverse.map fun x => (x, x)))
/-- the running least -/
theorem recs_last : ∀ (row : List Int) (m : Int), (∀ x ∈ row, m ≤ x ∨ ∃ l, (recs (some m) row).getLast? = some l ∧ l ≤ x) ∧ (∀ l, (recs (some m) row).getLast? = some l → l ∈ row ∧ l < m ∧ ∀ x ∈ row, l ≤ x)
  | [], m => by simp [recs]
  | x :: r, m => by
    unfold recs
    by_cases h : x < m
    · rw [if_pos h]
      obtain ⟨h1, h2⟩ := recs_last r x
      cases hl : (recs (some x) r).getLast? with
      | none =>
        have hn : recs (some x) r = [] := List.getLast?_eq_none_iff.mp hl
        rw [hn]
        have hx : ∀ y ∈ r, x ≤ y := fun y hy => by
          rcases h1 y hy with z | ⟨l, z, _⟩
          · exact z
          · rw [hl] at z; cases z
        refine ⟨fun y hy => .inr ⟨x, rfl, ?_⟩, fun l e => ?_⟩
        · rcases List.mem_cons.mp hy with rfl | hy
          · exact Int.le_refl _
          · exact hx y hy
        · simp only [List.getLast?_singleton, Option.some.injEq] at e
          subst e
          refine ⟨List.mem_cons_self, h, fun y hy => ?_⟩
          rcases List.mem_cons.mp hy with rfl | hy
          · exact Int.le_refl _
          · exact hx y hy
      | some l =>
        obtain ⟨g1, g2, g3⟩ := h2 l hl
        have hc : (x :: recs (some x) r).getLast? = some l := by
          rw [List.getLast?_cons, hl]; rfl
        rw [hc]
        refine ⟨fun y hy => .inr ⟨l, rfl, ?_⟩, fun l' e => ?_⟩
        · rcases List.mem_cons.mp hy with rfl | hy
          · omega
          · exact g3 y hy
        · simp only [Option.some.injEq] at e
          subst e
          refine ⟨List.mem_cons_of_mem _ g1, by omega, fun y hy => ?_⟩
          rcases List.mem_cons.mp hy with rfl | hy
          · omega
          · exact g3 y hy
    · rw [if_neg h]
      obtain ⟨h1, h2⟩ := recs_last r m
      refine ⟨fun y hy => ?_, fun l e => ?_⟩
      · rcases List.mem_cons.mp hy with rfl | hy
        · exact .inl (by omega)
        · exact h1 y hy
      · obtain ⟨g1, g2, g3⟩ := h2 l e
        refine ⟨List.mem_cons_of_mem _ g1, g2, fun y hy => ?_⟩
        rcases List.mem_cons.mp hy with rfl | hy
        · omega
        · exact g3 y hy
/-- the last record is the least -/
theorem recs_min : ∀ (row : List Int), row ≠ [] → ∃ l, (recs none row).getLast? = some l ∧ l ∈ row ∧ ∀ x ∈ row, l ≤ x
  | [], h => absurd rfl h
  | x :: r, _ => by
    unfold recs
    obtain ⟨h1, h2⟩ := recs_last r x
    cases hl : (recs (some x) r).getLast? with
    | none =>
      have hn : recs (some x) r = [] := List.getLast?_eq_none_iff.mp hl
      rw [hn]
      refine ⟨x, rfl, List.mem_cons_self, fun y hy => ?_⟩
      rcases List.mem_cons.mp hy with rfl | hy
      · exact Int.le_refl _
      · rcases h1 y hy with z | ⟨l, z, _⟩
        · exact z
        · rw [hl] at z; cases z
    | some l =>
      obtain ⟨g1, g2, g3⟩ := h2 l hl
      refine ⟨l, by rw [List.getLast?_cons, hl]; rfl, List.mem_cons_of_mem _ g1, fun y hy => ?_⟩
      rcases List.mem_cons.mp hy with rfl | hy
      · omega
      · exact g3 y hy
theorem lone_iff {row : List Int} {least l : Int} (h : (recs none row).getLast? = some l) (hl : l ∈ row) (hm : ∀ x ∈ row, l ≤ x) : lone row least = decide (l < 2 * least) := by
  unfold lone
  by_cases q : l < 2 * least
  · rw [decide_eq_true q, List.any_eq_true]
    exact ⟨l, hl, decide_eq_true q⟩
  · rw [decide_eq_false q, List.any_eq_false]
    intro x hx
    have := hm x hx
    simp only [decide_eq_true_eq]
    omega
theorem lawBlk_eq (way : List Int) (low : Int) : lawBlk way low = fillF way low := by
  unfold lawBlk fillF lowLast
  by_cases h : way = []
  · subst h
    simp [recs, lone]
  · obtain ⟨l, h1, h2, h3⟩ := recs_min way h
    rw [h1, lone_iff h1 h2 h3]
theorem recs_mem : ∀ (row : List Int) (m : Option Int), ∀ x ∈ recs m row, x ∈ row
  | [], _ => by simp [recs]
  | y :: r, none => by
    unfold recs
    intro x hx
    rcases List.mem_cons.mp hx with rfl | hx
    · exact List.mem_cons_self
    · exact List.mem_cons_of_mem _ (recs_mem r _ x hx)
  | y :: r, some m => by
    unfold recs
    intro x hx
    split at hx
    · rcases List.mem_cons.mp hx with rfl | hx
      · exact List.mem_cons_self
      · exact List.mem_cons_of_mem _ (recs_mem r _ x hx)
    · exact List.mem_cons_of_mem _ (recs_mem r _ x hx)
/-! ### blocks of rising limits -/
/-- rising blocks, each from low to high -/
structure Blk (bs : List (Int × Int)) : Prop where
  le : ∀ b ∈ bs, b.1 ≤ b.2
  sep : bs.Pairwise fun a b => a.2 < b.1
theorem joinStep_snoc {least : Int} {acc : List (Int × Int)} {p b : Int × Int} : joinStep least (acc ++ [p]) b = if b.1 - p.2 ≤ least then acc ++ [(p.1, b.2)] else acc ++ [p] ++ [b] := by
  unfold joinStep
  simp
/-- what joining rising limits gives, behind acc -/
theorem join_inv {least : Int} (X : Int → Prop) : ∀ (xs : List Int) (acc : List (Int × Int)), xs.Pairwise (· < ·) → (∀ x ∈ xs, X x) → Blk acc → (∀ b ∈ acc, X b.1 ∧ X b.2) → (∀ b ∈ acc, ∀ x ∈ xs, b.2 < x) →
    Blk ((xs.map fun x => (x, x)).foldl (joinStep least) acc) ∧ ∀ b ∈ (xs.map fun x => (x, x)).foldl (joinStep least) acc, X b.1 ∧ X b.2
  | [], acc, _, _, h, hx, _ => ⟨h, hx⟩
  | x :: xs, acc, hp, hX, h, hx, hlt => by
    rw [List.pairwise_cons] at hp
    rw [List.map_cons, List.foldl_cons]
    have hXx := hX x List.mem_cons_self
    have hXs : ∀ y ∈ xs, X y := fun y hy => hX y (List.mem_cons_of_mem _ hy)
    rcases List.eq_nil_or_concat acc with rfl | ⟨a, p, rfl⟩
    · refine join_inv X xs _ hp.2 hXs ⟨?_, ?_⟩ ?_ ?_
      · intro b hb
        simp [joinStep] at hb
        subst hb
        exact Int.le_refl _
      · simp [joinStep]
      · intro b hb
        simp [joinStep] at hb
        subst hb
        exact ⟨hXx, hXx⟩
      · intro b hb y hy
        simp [joinStep] at hb
        subst hb
        exact hp.1 y hy
    · rw [List.concat_eq_append] at h hx hlt ⊢
      have hpm : p ∈ a ++ [p] := List.mem_append_right _ (List.mem_singleton.mpr rfl)
      have hpx := hlt p hpm x List.mem_cons_self
      have hple := h.le p hpm
      have hsa := List.pairwise_append.mp h.sep
      rw [joinStep_snoc]
      split
      · refine join_inv X xs _ hp.2 hXs ⟨?_, ?_⟩ ?_ ?_
        · intro b hb
          rcases List.mem_append.mp hb with hb | hb
          · exact h.le b (List.mem_append_left _ hb)
          · rw [List.mem_singleton] at hb
            subst hb
            show p.1 ≤ x
            omega
        · rw [List.pairwise_append]
          refine ⟨hsa.1, List.pairwise_singleton _ _, fun b hb c hc => ?_⟩
          rw [List.mem_singleton] at hc
          subst hc
          exact hsa.2.2 b hb p (List.mem_singleton.mpr rfl)
        · intro b hb
          rcases List.mem_append.mp hb with hb | hb
          · exact hx b (List.mem_append_left _ hb)
          · rw [List.mem_singleton] at hb
            subst hb
            exact ⟨(hx p hpm).1, hXx⟩
        · intro b hb y hy
          rcases List.mem_append.mp hb with hb | hb
          · exact hlt b (List.mem_append_left _ hb) y (List.mem_cons_of_mem _ hy)
          · rw [List.mem_singleton] at hb
            subst hb
            exact hp.1 y hy
      · refine join_inv X xs _ hp.2 hXs ⟨?_, ?_⟩ ?_ ?_
        · intro b hb
          rcases List.mem_append.mp hb with hb | hb
          · exact h.le b hb
          · rw [List.mem_singleton] at hb
            subst hb
            exact Int.le_refl _
        · rw [List.pairwise_append]
          refine ⟨h.sep, List.pairwise_singleton _ _, fun b hb c hc => ?_⟩
          rw [List.mem_singleton] at hc
          subst hc
          exact hlt b hb x List.mem_cons_self
        · intro b hb
          rcases List.mem_append.mp hb with hb | hb
          · exact hx b hb
          · rw [List.mem_singleton] at hb
            subst hb
            exact ⟨hXx, hXx⟩
        · intro b hb y hy
          rcases List.mem_append.mp hb with hb | hb
          · exact hlt b hb y (List.mem_cons_of_mem _ hy)
          · rw [List.mem_singleton] at hb
            subst hb
            exact hp.1 y hy
theorem recs_up (row : List Int) : (recs none row).reverse.Pairwise (· < ·) := by
  rw [List.pairwise_reverse]
  exact (recs_lt row none).2
/-- the blocks of a row -/
theorem fill_blk {row : List Int} {least : Int} {bs : List (Int × Int)} (h : fillF row least = some bs) : Blk bs ∧ ∀ b ∈ bs, b.1 ∈ row ∧ b.2 ∈ row := by
  unfold fillF at h
  split at h
  · cases h
  · cases h
    exact join_inv (fun x => x ∈ row) _ [] (recs_up row) (fun x hx => recs_mem row none x (List.mem_reverse.mp hx)) ⟨fun b hb => (nomatch hb), List.Pairwise.nil⟩ (fun b hb => nomatch hb) (fun b hb => nomatch hb)
theorem fill_len {row : List Int} {least : Int} {bs : List (Int × Int)} (h : fillF row least = some bs) : bs.length ≤ row.length := by
  unfold fillF at h
  split at h
  · cases h
  · cases h
    refine Nat.le_trans joinB_len ?_
    rw [List.length_map, List.length_reverse]
    exact recs_len row none
end Cu
/-! Cu, maths 4: fill as a function of the records; longer rows; rows beside one another. -/
namespace Cu
/-! ### records of a longer row -/
theorem recs_some_ge : ∀ {row : List Int} {m : Int}, (∀ x ∈ row, m ≤ x) → recs (some m) row = []
  | [], _, _ => rfl
  | x :: r, m, h => by
    unfold recs
    rw [if_neg (by have := h x List.mem_cons_self; omega)]
    exact recs_some_ge fun y hy => h y (List.mem_cons_of_mem _ hy)
theorem recs_some_lt : ∀ {row : List Int} {m : Int}, (∀ x ∈ row, x < m) → recs (some m) row = recs none row
  | [], _, _ => rfl
  | x :: r, m, h => by
    rw [show recs (some m) (x :: r) = if x < m then x :: recs (some x) r else recs (some m) r from rfl, if_pos (h x List.mem_cons_self)]
    rfl
/-- the running least, as an option -/
def lowOf (o : Option Int) (l : List Int) : Option Int := match l.getLast? with
  | none => o
  | some x => some x
theorem recs_append : ∀ (a b : List Int) (o : Option Int), recs o (a ++ b) = recs o a ++ recs (lowOf o (recs o a)) b
  | [], b, o => by simp [recs, lowOf]
  | x :: a, b, none => by
    have ih := recs_append a b (some x)
    rw [List.cons_append]
    show x :: recs (some x) (a ++ b) = (x :: recs (some x) a) ++ recs (lowOf none (x :: recs (some x) a)) b
    rw [ih, List.cons_append]
    congr 2
    unfold lowOf
    rw [List.getLast?_cons]
    cases (recs (some x) a).getLast? <;> rfl
  | x :: a, b, some m => by
    rw [List.cons_append]
    show (if x < m then x :: recs (some x) (a ++ b) else recs (some m) (a ++ b)) = (if x < m then x :: recs (some x) a else recs (some m) a) ++ recs (lowOf (some m) (if x < m then x :: recs (some x) a else recs (some m) a)) b
    by_cases h : x < m
    · simp only [if_pos h]
      rw [recs_append a b (some x), List.cons_append]
      congr 2
      unfold lowOf
      rw [List.getLast?_cons]
      cases (recs (some x) a).getLast? <;> rfl
    · simp only [if_neg h]
      exact recs_append a b (some m)
theorem recs_more {a b : List Int} (ha : a ≠ []) (h : ∀ l, l ∈ a → (∀ x ∈ a, l ≤ x) → ∀ y ∈ b, l ≤ y) : recs none (a ++ b) = recs none a := by
  obtain ⟨l, h1, h2, h3⟩ := recs_min a ha
  rw [recs_append]
  have : lowOf none (recs none a) = some l := by unfold lowOf; rw [h1]
  rw [this, recs_some_ge (h l h2 h3), List.append_nil]
theorem recs_beside {a b : List Int} (ha : a ≠ []) (h : ∀ x ∈ a, ∀ y ∈ b, y < x) : recs none (a ++ b) = recs none a ++ recs none b := by
  obtain ⟨l, h1, h2, h3⟩ := recs_min a ha
  rw [recs_append]
  have : lowOf none (recs none a) = some l := by unfold lowOf; rw [h1]
  rw [this, recs_some_lt (h l h2)]
/-- fill asks for the records alone -/
theorem fill_recs {a b : List Int} {least : Int} (h : recs none a = recs none b) : fillF a least = fillF b least := by
  rw [← lawBlk_eq, ← lawBlk_eq]
  unfold lawBlk
  rw [h]
theorem fill_more {a b : List Int} {least : Int} (ha : a ≠ []) (h : ∀ l, l ∈ a → (∀ x ∈ a, l ≤ x) → ∀ y ∈ b, l ≤ y) : fillF (a ++ b) least = fillF a least := fill_recs (recs_more ha h)
theorem lone_none {row : List Int} {least : Int} : fillF row least = none ↔ lone row least = true := by
  unfold fillF
  split
  · rename_i h; simp [h]
  · rename_i h; simp [h]
theorem lone_app {a b : List Int} {least : Int} : lone (a ++ b) least = (lone a least || lone b least) := by
  unfold lone
  rw [List.any_append]
/-! ### the first block begins at the least limit -/
theorem join_head {least : Int} : ∀ (xs : List (Int × Int)) (acc : List (Int × Int)) (p : Int × Int), ∃ q rest, xs.foldl (joinStep least) (p :: acc) = q :: rest ∧ q.1 = p.1
  | [], acc, p => ⟨p, acc, rfl, rfl⟩
  | x :: xs, acc, p => by
    rw [List.foldl_cons]
    have : ∃ q rest, joinStep least (p :: acc) x = q :: rest ∧ q.1 = p.1 := by
      rcases List.eq_nil_or_concat acc with rfl | ⟨a, l, rfl⟩
      · rw [show [p] = [] ++ [p] from rfl, joinStep_snoc]
        split
        · exact ⟨_, _, rfl, rfl⟩
        · exact ⟨_, _, rfl, rfl⟩
      · rw [List.concat_eq_append, ← List.cons_append, joinStep_snoc]
        split
        · exact ⟨_, _, rfl, rfl⟩
        · exact ⟨_, _, rfl, rfl⟩
    obtain ⟨q, rest, h1, h2⟩ := this
    rw [h1]
    obtain ⟨q', rest', h3, h4⟩ := join_head xs rest q
    exact ⟨q', rest', h3, h4.trans h2⟩
theorem fill_bot {row : List Int} {least : Int} {bs : List (Int × Int)} (h : fillF row least = some bs) (hne : row ≠ []) : ∃ b rest, bs = b :: rest ∧ b.1 ∈ row ∧ ∀ x ∈ row, b.1 ≤ x := by
  obtain ⟨l, h1, h2, h3⟩ := recs_min row hne
  unfold fillF at h
  split at h
  · cases h
  · cases h
    obtain ⟨ys, hy⟩ : ∃ ys, (recs none row).reverse = l :: ys := by
      rw [List.getLast?_eq_some_iff] at h1
      obtain ⟨zs, hz⟩ := h1
      exact ⟨zs.reverse, by rw [hz]; simp⟩
    rw [hy]
    unfold joinB
    rw [List.map_cons, List.foldl_cons]
    have e : joinStep least [] (l, l) = [(l, l)] := by simp [joinStep]
    rw [e]
    obtain ⟨q, rest, h4, h5⟩ := join_head (least := least) (ys.map fun x => (x, x)) [] (l, l)
    have h5 : q.1 = l := h5
    exact ⟨q, rest, h4, by rw [h5]; exact h2, fun x hx => by rw [h5]; exact h3 x hx⟩
theorem fill_nil {least : Int} : fillF [] least = some [] := by simp [fillF, lone, recs, joinB]
theorem fill_ne {row : List Int} {least : Int} (hne : row ≠ []) : fillF row least ≠ some [] := fun h => by
  obtain ⟨b, rest, h1, _⟩ := fill_bot h hne
  cases h1
/-! ### longer rows: T5 -/
theorem without_mem {row : List Int} {k : Nat} : ∀ x ∈ without row k, x ∈ row := fun x hx => by
  unfold without at hx
  rcases List.mem_append.mp hx with h | h
  · exact List.mem_of_mem_take h
  · exact List.mem_of_mem_drop h
theorem idle_iff {row : List Int} {least : Int} {k : Int} : k ∈ idleF row least ↔ ∃ j : Nat, k = (j : Int) ∧ j < row.length ∧ fillF (without row j) least = fillF row least := by
  unfold idleF upto
  rw [List.mem_filter, List.mem_map]
  constructor
  · rintro ⟨⟨j, hj, rfl⟩, h⟩
    refine ⟨j, rfl, List.mem_range.mp hj, ?_⟩
    simpa using h
  · rintro ⟨j, rfl, hj, h⟩
    exact ⟨⟨j, List.mem_range.mpr hj, rfl⟩, by simpa using h⟩
theorem without_left {a b : List Int} {k : Nat} (h : k < a.length) : without (a ++ b) k = without a k ++ b := by
  unfold without
  rw [List.take_append_of_le_length (by omega), List.drop_append_of_le_length (by omega), List.append_assoc]
theorem without_right {a b : List Int} {k : Nat} : without (a ++ b) (a.length + k) = a ++ without b k := by
  unfold without
  rw [List.take_append, List.drop_append]
  rw [List.take_of_length_le (by omega), List.drop_of_length_le (by omega)]
  rw [show a.length + k - a.length = k by omega, show a.length + k + 1 - a.length = k + 1 by omega, List.nil_append, List.append_assoc]
theorem fill_longer {row ext : List Int} {least : Int} (hne : row ≠ []) (h : ∀ l ∈ row, (∀ x ∈ row, l ≤ x) → ∀ y ∈ ext, l ≤ y) : fillF (row ++ ext) least = fillF row least := fill_more hne h
theorem idle_longer {row ext : List Int} {least : Int} (hne : row ≠ []) (h : ∀ l ∈ row, (∀ x ∈ row, l ≤ x) → ∀ y ∈ ext, l ≤ y) :
    (∀ k ∈ idleF row least, k ∈ idleF (row ++ ext) least) ∧ ∀ j, row.length ≤ j → j < (row ++ ext).length → (j : Int) ∈ idleF (row ++ ext) least := by
  have hfull := fill_longer (least := least) hne h
  refine ⟨fun k hk => ?_, fun j hj1 hj2 => ?_⟩
  · obtain ⟨j, rfl, hj, he⟩ := idle_iff.mp hk
    refine idle_iff.mpr ⟨j, rfl, by rw [List.length_append]; omega, ?_⟩
    rw [without_left hj, hfull]
    cases hf : fillF row least with
    | none =>
      rw [hf] at he
      rw [lone_none] at he ⊢
      rw [lone_app, he]; rfl
    | some bs =>
      rw [hf] at he
      have hwne : without row j ≠ [] := fun z => by
        rw [z, fill_nil] at he
        rw [← he] at hf
        exact fill_ne hne hf
      obtain ⟨b, rest, e1, m1, l1⟩ := fill_bot he hwne
      obtain ⟨b', rest', e2, m2, l2⟩ := fill_bot hf hne
      rw [e1] at e2
      have eb : b = b' := by cases e2; rfl
      rw [fill_more hwne (fun l hl hm y hy => ?_), he]
      have hle := h b'.1 m2 l2 y hy
      have h3 := hm b.1 m1
      rw [← eb] at hle
      omega
  · obtain ⟨i, rfl⟩ : ∃ i, j = row.length + i := ⟨j - row.length, by omega⟩
    refine idle_iff.mpr ⟨_, rfl, hj2, ?_⟩
    rw [without_right, hfull]
    exact fill_more hne fun l hl hm y hy => h l hl hm y (without_mem y hy)
/-! ### rows beside: T6 -/
theorem join_sep {least : Int} : ∀ (ys : List (Int × Int)) (acc : List (Int × Int)) (p : Int × Int), ys.foldl (joinStep least) (acc ++ [p]) = acc ++ ys.foldl (joinStep least) [p]
  | [], acc, p => rfl
  | y :: ys, acc, p => by
    have e0 : joinStep least [p] y = if y.1 - p.2 ≤ least then [(p.1, y.2)] else [p] ++ [y] := joinStep_snoc (acc := [])
    rw [List.foldl_cons, List.foldl_cons, joinStep_snoc, e0]
    split
    · exact join_sep ys acc (p.1, y.2)
    · rw [join_sep ys (acc ++ [p]) y, join_sep ys [p] y, List.append_assoc]
theorem join_apart {least : Int} {acc : List (Int × Int)} {y : Int × Int} {ys : List (Int × Int)} (h : ∀ p, acc.getLast? = some p → least < y.1 - p.2) : (y :: ys).foldl (joinStep least) acc = acc ++ (y :: ys).foldl (joinStep least) [] := by
  rw [List.foldl_cons, List.foldl_cons]
  have e : joinStep least [] y = [y] := by simp [joinStep]
  rw [e]
  rcases List.eq_nil_or_concat acc with rfl | ⟨a, p, rfl⟩
  · rw [e]; rfl
  · rw [List.concat_eq_append] at h ⊢
    have hp := h p (by simp)
    rw [joinStep_snoc, if_neg (by omega), join_sep]
/-- the condition: every limit of the one stands more than least above all of the other -/
def Apart (high way : List Int) (least : Int) : Prop := ∀ x ∈ high, ∀ y ∈ way, least < x - y
theorem fill_beside {high way : List Int} {least : Int} {bh bw : List (Int × Int)} (hl : 0 < least) (hne : high ≠ []) (hap : Apart high way least) (h1 : fillF high least = some bh) (h2 : fillF way least = some bw) : fillF (high ++ way) least = some (bw ++ bh) := by
  have l1 : lone high least = false := by
    cases q : lone high least with
    | false => rfl
    | true => rw [lone_none.mpr q] at h1; cases h1
  have l2 : lone way least = false := by
    cases q : lone way least with
    | false => rfl
    | true => rw [lone_none.mpr q] at h2; cases h2
  have hr := recs_beside (a := high) (b := way) hne fun x hx y hy => by have := hap x hx y hy; omega
  have e1 : bh = joinB least ((recs none high).reverse.map fun x => (x, x)) := by
    unfold fillF at h1
    rw [l1, if_neg Bool.false_ne_true] at h1
    exact (Option.some.inj h1).symm
  have e2 : bw = joinB least ((recs none way).reverse.map fun x => (x, x)) := by
    unfold fillF at h2
    rw [l2, if_neg Bool.false_ne_true] at h2
    exact (Option.some.inj h2).symm
  unfold fillF
  rw [lone_app, l1, l2, hr]
  rw [if_neg (by decide)]
  congr 1
  rw [List.reverse_append, List.map_append]
  unfold joinB at e1 e2 ⊢
  rw [List.foldl_append, ← e2]
  obtain ⟨l, g1, g2, g3⟩ := recs_min high hne
  obtain ⟨ys, hy⟩ : ∃ ys, (recs none high).reverse = l :: ys := by
    rw [List.getLast?_eq_some_iff] at g1
    obtain ⟨zs, hz⟩ := g1
    exact ⟨zs.reverse, by rw [hz]; simp⟩
  rw [hy, List.map_cons] at e1 ⊢
  rw [join_apart, ← e1]
  intro p hp
  have hm : p ∈ bw := List.mem_of_getLast? hp
  have := (fill_blk h2).2 p hm
  exact hap l g2 p.2 this.2
end Cu
/-! Cu, maths 5: idle hops of rows beside; counts; scaling. -/
namespace Cu
theorem upto_app (a b : Nat) : upto (a + b) = upto a ++ (upto b).map fun k => (a : Int) + k := by
  unfold upto
  rw [List.range_add, List.map_append, List.map_map, List.map_map]
  congr 1
theorem apart_without {high way : List Int} {least : Int} {k : Nat} (h : Apart high way least) : Apart (without high k) way least ∧ Apart high (without way k) least :=
  ⟨fun x hx y hy => h x (without_mem x hx) y hy, fun x hx y hy => h x hx y (without_mem y hy)⟩
theorem lone_sub {a b : List Int} {least : Int} (h : ∀ x ∈ a, x ∈ b) (hb : lone b least = false) : lone a least = false := by
  unfold lone at *
  rw [List.any_eq_false] at *
  exact fun x hx => hb x (h x hx)
theorem fill_some {row : List Int} {least : Int} (h : lone row least = false) : ∃ bs, fillF row least = some bs := by
  cases q : fillF row least with
  | none => rw [lone_none.mp q] at h; cases h
  | some bs => exact ⟨bs, rfl⟩
theorem lone_of_some {row : List Int} {least : Int} {bs : List (Int × Int)} (h : fillF row least = some bs) : lone row least = false := by
  cases q : lone row least with
  | false => rfl
  | true => rw [lone_none.mpr q] at h; cases h
theorem idle_beside {high way : List Int} {least : Int} {bh bw : List (Int × Int)} (hl : 0 < least) (hne : high ≠ []) (wne : way ≠ []) (hap : Apart high way least) (h1 : fillF high least = some bh) (h2 : fillF way least = some bw) :
    idleF (high ++ way) least = idleF high least ++ (idleF way least).map fun k => (high.length : Int) + k := by
  have hfull := fill_beside hl hne hap h1 h2
  have hbh : bh ≠ [] := fun z => by rw [z] at h1; exact fill_ne hne h1
  have hbw : bw ≠ [] := fun z => by rw [z] at h2; exact fill_ne wne h2
  unfold idleF
  rw [List.length_append, upto_app, List.filter_append, List.filter_map]
  congr 1
  · apply List.filter_congr
    intro k hk
    obtain ⟨j, hj, rfl⟩ := List.mem_map.mp (show k ∈ (List.range high.length).map fun k : Nat => (k : Int) from hk)
    have hj := List.mem_range.mp hj
    rw [show ((j : Int)).toNat = j by omega, without_left hj, hfull, h1]
    congr 1
    by_cases hw : without high j = []
    · rw [hw, List.nil_append, h2, fill_nil]
      apply propext
      constructor
      · intro e
        have e := Option.some.inj e
        exact absurd (List.append_cancel_left (by rw [List.append_nil]; exact e.symm : bw ++ bh = bw ++ [])) hbh
      · intro e
        exact absurd (Option.some.inj e).symm hbh
    · obtain ⟨b', hb'⟩ := fill_some (lone_sub (fun x hx => without_mem x hx) (lone_of_some h1) : lone (without high j) least = false)
      rw [fill_beside hl hw (apart_without hap).1 hb' h2, hb']
      apply propext
      constructor
      · intro e
        rw [List.append_cancel_left (Option.some.inj e)]
      · intro e
        rw [Option.some.inj e]
  · congr 1
    apply List.filter_congr
    intro k hk
    obtain ⟨j, hj, rfl⟩ := List.mem_map.mp (show k ∈ (List.range way.length).map fun k : Nat => (k : Int) from hk)
    have hj := List.mem_range.mp hj
    show decide (fillF (without (high ++ way) ((high.length : Int) + (j : Int)).toNat) least = fillF (high ++ way) least) = decide (fillF (without way ((j : Int)).toNat) least = fillF way least)
    rw [show ((high.length : Int) + (j : Int)).toNat = high.length + j by omega, show ((j : Int)).toNat = j by omega, without_right, hfull, h2]
    congr 1
    by_cases hw : without way j = []
    · rw [hw, List.append_nil, h1, fill_nil]
      apply propext
      constructor
      · intro e
        have e := Option.some.inj e
        exact absurd (List.append_cancel_right (by rw [List.nil_append]; exact e.symm : bw ++ bh = [] ++ bh)) hbw
      · intro e
        exact absurd (Option.some.inj e).symm hbw
    · obtain ⟨b', hb'⟩ := fill_some (lone_sub (fun x hx => without_mem x hx) (lone_of_some h2) : lone (without way j) least = false)
      rw [fill_beside hl hne (apart_without hap).2 h1 hb', hb']
      apply propext
      constructor
      · intro e
        rw [List.append_cancel_right (Option.some.inj e)]
      · intro e
        rw [Option.some.inj e]
theorem cnt_beside {high way : List Int} {least : Int} {bh bw : List (Int × Int)} (hl : 0 < least) (hne : high ≠ []) (hap : Apart high way least) (h1 : fillF high least = some bh) (h2 : fillF way least = some bw) :
    cntR (high ++ way) least = cntR way least + cntR high least := by
  unfold cntR
  rw [fill_beside hl hne hap h1 h2, h1, h2]
  show cntB (bw ++ bh) least = cntB bw least + cntB bh least
  unfold cntB
  rw [List.map_append, List.sum_append]
theorem cnt_fill {a b : List Int} {least : Int} (h : fillF a least = fillF b least) : cntR a least = cntR b least := by
  unfold cntR
  rw [h]
/-! ### scaling: T4 -/
def sc (t : Int) (b : Int × Int) : Int × Int := (b.1 * t, b.2 * t)
def scale (t : Int) (row : List Int) : List Int := row.map (· * t)
section
variable {t : Int} (ht : 0 < t)
include ht
theorem mul_lt_iff' {a b : Int} : a * t < b * t ↔ a < b := Int.mul_lt_mul_right ht
theorem mul_le_iff' {a b : Int} : a * t ≤ b * t ↔ a ≤ b := Int.mul_le_mul_right ht
theorem mul_inj' {a b : Int} : a * t = b * t ↔ a = b := by
  constructor
  · intro h
    exact Int.eq_of_mul_eq_mul_right (by omega) h
  · intro h; rw [h]
theorem recs_scale : ∀ (row : List Int) (o : Option Int), recs (o.map (· * t)) (scale t row) = scale t (recs o row)
  | [], o => by cases o <;> rfl
  | x :: r, none => by
    have := recs_scale r (some x)
    show x * t :: recs (some (x * t)) (scale t r) = scale t (x :: recs (some x) r)
    rw [show recs (some (x * t)) (scale t r) = scale t (recs (some x) r) from this]
    rfl
  | x :: r, some m => by
    have h1 := recs_scale r (some x)
    have h2 := recs_scale r (some m)
    show (if x * t < m * t then x * t :: recs (some (x * t)) (scale t r) else recs (some (m * t)) (scale t r)) = scale t (if x < m then x :: recs (some x) r else recs (some m) r)
    rw [show recs (some (x * t)) (scale t r) = scale t (recs (some x) r) from h1, show recs (some (m * t)) (scale t r) = scale t (recs (some m) r) from h2]
    by_cases h : x < m
    · rw [if_pos ((mul_lt_iff' ht).mpr h), if_pos h]; rfl
    · rw [if_neg (fun z => h ((mul_lt_iff' ht).mp z)), if_neg h]
theorem lone_scale {row : List Int} {least : Int} : lone (scale t row) (least * t) = lone row least := by
  unfold lone scale
  rw [List.any_map]
  congr 1
  funext x
  show decide (x * t < 2 * (least * t)) = decide (x < 2 * least)
  rw [← Int.mul_assoc]
  exact decide_eq_decide.mpr (mul_lt_iff' ht)
theorem joinStep_scale {least : Int} {acc : List (Int × Int)} {b : Int × Int} : joinStep (least * t) (acc.map (sc t)) (sc t b) = (joinStep least acc b).map (sc t) := by
  rcases List.eq_nil_or_concat acc with rfl | ⟨a, p, rfl⟩
  · simp [joinStep]
  · rw [List.concat_eq_append, List.map_append, List.map_singleton, joinStep_snoc, joinStep_snoc]
    have e : ((sc t b).1 - (sc t p).2 ≤ least * t) ↔ (b.1 - p.2 ≤ least) := by
      show b.1 * t - p.2 * t ≤ least * t ↔ _
      rw [← Int.sub_mul]
      exact mul_le_iff' ht
    by_cases h : b.1 - p.2 ≤ least
    · rw [if_pos (e.mpr h), if_pos h, List.map_append]; rfl
    · rw [if_neg (fun z => h (e.mp z)), if_neg h, List.map_append, List.map_append]; rfl
theorem join_scale {least : Int} : ∀ (bs acc : List (Int × Int)), (bs.map (sc t)).foldl (joinStep (least * t)) (acc.map (sc t)) = (bs.foldl (joinStep least) acc).map (sc t)
  | [], acc => rfl
  | b :: bs, acc => by
    rw [List.map_cons, List.foldl_cons, List.foldl_cons, joinStep_scale ht]
    exact join_scale bs _
theorem fill_scale {row : List Int} {least : Int} : fillF (scale t row) (least * t) = (fillF row least).map (·.map (sc t)) := by
  unfold fillF
  rw [lone_scale ht]
  split
  · rfl
  · have h := recs_scale ht row none
    have h : recs none (scale t row) = scale t (recs none row) := h
    rw [h]
    show some _ = some _
    congr 1
    unfold joinB
    have e : (scale t (recs none row)).reverse.map (fun x => (x, x)) = ((recs none row).reverse.map fun x => (x, x)).map (sc t) := by
      unfold scale
      rw [← List.map_reverse, List.map_map, List.map_map]
      rfl
    rw [e]
    exact join_scale ht _ []
theorem cnt_scale {low high least : Int} : cnt (low * t) (high * t) (least * t) = cnt low high least := by
  unfold cnt cdiv
  rw [← Int.sub_mul, ← Int.neg_mul, Int.mul_ediv_mul_of_pos_left _ _ ht]
theorem cntR_scale {row : List Int} {least : Int} : cntR (scale t row) (least * t) = cntR row least := by
  unfold cntR
  rw [fill_scale ht]
  cases fillF row least with
  | none => rfl
  | some bs =>
    show cntB (bs.map (sc t)) (least * t) = cntB bs least
    unfold cntB
    rw [List.map_map]
    congr 1
    apply List.map_congr_left
    intro b _
    exact cnt_scale ht
theorem sc_inj {a b : Int × Int} (h : sc t a = sc t b) : a = b := by
  have h1 : a.1 * t = b.1 * t := congrArg (·.1) h
  have h2 : a.2 * t = b.2 * t := congrArg (·.2) h
  exact Prod.ext ((mul_inj' ht).mp h1) ((mul_inj' ht).mp h2)
theorem fill_inj {a b : Option (List (Int × Int))} (h : a.map (·.map (sc t)) = b.map (·.map (sc t))) : a = b := by
  cases a with
  | none => cases b with
    | none => rfl
    | some b => cases h
  | some a => cases b with
    | none => cases h
    | some b =>
      congr 1
      have h := Option.some.inj h
      exact (List.map_inj_right (fun _ _ => sc_inj ht)).mp h
theorem without_scale {row : List Int} {k : Nat} : without (scale t row) k = scale t (without row k) := by
  unfold without scale
  rw [List.map_append, List.map_take, List.map_drop]
theorem idle_scale {row : List Int} {least : Int} : idleF (scale t row) (least * t) = idleF row least := by
  unfold idleF
  rw [show (scale t row).length = row.length from List.length_map ..]
  apply List.filter_congr
  intro k _
  rw [without_scale ht, fill_scale ht, fill_scale ht]
  exact decide_eq_decide.mpr ⟨fill_inj ht, fun h => by rw [h]⟩
end
end Cu
/-! Cu, maths 6: kept is there for every row. -/
namespace Cu
/-! ### the next one below, without the - 1 -/
def lastHi (bs : List (Int × Int)) (x : Int) : Option Int := ((bs.filter fun b => decide (b.1 < x)).map (·.2)).getLast?
theorem follows_iff {bs : List (Int × Int)} {a b least : Int} (hl : 0 < least) : followsF bs a b least = true ↔ b < a ∧ (a - b ≤ least ∨ lastHi bs a = some b) := by
  unfold followsF nextF lastHi blocksOf
  simp only [Bool.and_eq_true, Bool.or_eq_true, decide_eq_true_eq, Option.getD_some, List.getLast?_map]
  cases (bs.filter fun b => decide (b.1 < a)).getLast? with
  | none => simp
  | some q =>
    simp only [Option.map_some, Option.some.injEq]
    omega
theorem shortF_r {o : Option Nat} {n : Nat} : (shortF o (some n)).isSome = true := by
  cases o with
  | none => rfl
  | some a =>
    simp only [shortF]
    split <;> rfl
theorem shortF_l {o : Option Nat} {n : Nat} : (shortF (some n) o).isSome = true := by
  cases o with
  | none => rfl
  | some a =>
    simp only [shortF]
    split <;> rfl
theorem keptIn_keep {bs : List (Int × Int)} {least limit : Int} : ∀ (ways : List (Int × Nat)) (way : Option Nat), way.isSome = true → (keptIn bs least ways limit way).isSome = true
  | [], way, h => h
  | o :: ways, way, h => by
    unfold keptIn
    rw [List.foldl_cons]
    refine keptIn_keep ways _ ?_
    split
    · exact shortF_r
    · exact h
theorem keptIn_of {bs : List (Int × Int)} {least limit : Int} : ∀ (ways : List (Int × Nat)) (way : Option Nat), (∃ o ∈ ways, followsF bs o.1 limit least = true) → (keptIn bs least ways limit way).isSome = true
  | [], way, ⟨o, h, _⟩ => nomatch h
  | p :: ways, way, ⟨o, h, hf⟩ => by
    unfold keptIn
    rw [List.foldl_cons]
    rcases List.mem_cons.mp h with rfl | h
    · rw [if_pos hf]
      exact keptIn_keep ways _ shortF_r
    · exact keptIn_of ways _ ⟨o, h, hf⟩
theorem keptStep_has {bs : List (Int × Int)} {least : Int} {st : List (Int × Nat) × Option Nat} {limit : Int} (h1 : (keptIn bs least st.1 limit (if limit = topOf bs then some 1 else none)).isSome = true) (h2 : holdsF (some bs) limit = true) :
    (∃ o ∈ (keptStep bs least st limit).1, o.1 = limit) ∧ (limit = botOf bs → (keptStep bs least st limit).2.isSome = true) := by
  unfold keptStep
  cases h : keptIn bs least st.1 limit (if limit = topOf bs then some 1 else none) with
  | none => rw [h] at h1; cases h1
  | some l =>
    simp only [h2, if_true]
    refine ⟨⟨(limit, l), by simp, rfl⟩, fun e => ?_⟩
    rw [if_pos e]
    exact shortF_r
theorem keptStep_grow {bs : List (Int × Int)} {least : Int} {st : List (Int × Nat) × Option Nat} {limit : Int} :
    (∀ o ∈ st.1, o ∈ (keptStep bs least st limit).1) ∧ (st.2.isSome = true → (keptStep bs least st limit).2.isSome = true) := by
  unfold keptStep
  split
  · exact ⟨fun _ h => h, fun h => h⟩
  · split
    · refine ⟨fun o h => List.mem_append_left _ h, fun h => ?_⟩
      dsimp only
      split
      · exact shortF_r
      · exact h
    · exact ⟨fun _ h => h, fun h => h⟩
theorem kept_fold {bs : List (Int × Int)} {least : Int} {row : List Int} (hs : ∀ P x m C, recs none row = P ++ [m, x] ++ C → followsF bs m x least = true) (hh : ∀ x ∈ recs none row, holdsF (some bs) x = true) (hb : ∀ P m, recs none row = P ++ [m] → m = botOf bs) :
    ∀ (rest : List Int) (st : List (Int × Nat) × Option Nat) (P : List Int) (m : Int), recs none row = P ++ [m] ++ recs (some m) rest → (∃ o ∈ st.1, o.1 = m) → (m = botOf bs → st.2.isSome = true) → (rest.foldl (keptStep bs least) st).2.isSome = true
  | [], st, P, m, he, _, h2 => h2 (hb P m (by rw [he, recs, List.append_nil]))
  | x :: r, st, P, m, he, ⟨o, ho, hm⟩, h2 => by
    rw [List.foldl_cons]
    by_cases h : x < m
    · have he : recs none row = P ++ [m] ++ [x] ++ recs (some x) r := by
        rw [he, show recs (some m) (x :: r) = if x < m then x :: recs (some x) r else recs (some m) r from rfl, if_pos h]
        simp
      have hf := hs P x m (recs (some x) r) (by rw [he]; simp)
      have hx := hh x (by rw [he]; simp)
      obtain ⟨g1, g2⟩ := keptStep_has (st := st) (keptIn_of st.1 _ ⟨o, ho, by rw [hm]; exact hf⟩) hx
      exact kept_fold hs hh hb r _ (P ++ [m]) x he g1 g2
    · have he : recs none row = P ++ [m] ++ recs (some m) r := by
        rw [he, show recs (some m) (x :: r) = if x < m then x :: recs (some x) r else recs (some m) r from rfl, if_neg h]
      obtain ⟨g1, g2⟩ := keptStep_grow (bs := bs) (least := least) (st := st) (limit := x)
      exact kept_fold hs hh hb r _ P m he ⟨o, g1 o ho, hm⟩ fun e => g2 (h2 e)
/-! ### the blocks -/
def pts (xs : List Int) : List (Int × Int) := xs.map fun x => (x, x)
theorem joinStep_last {least : Int} {acc : List (Int × Int)} {b : Int × Int} : ((joinStep least acc b).getLast?.map (·.2)) = some b.2 := by
  rcases List.eq_nil_or_concat acc with rfl | ⟨a, p, rfl⟩
  · simp [joinStep]
  · rw [List.concat_eq_append, joinStep_snoc]
    split <;> simp
theorem join_last {least : Int} {xs : List Int} {x : Int} : ((joinB least (pts (xs ++ [x]))).getLast?.map (·.2)) = some x := by
  unfold joinB pts
  rw [List.map_append, List.foldl_append]
  exact joinStep_last
theorem join_cover {least : Int} : ∀ (xs : List Int) (acc : List (Int × Int)), xs.Pairwise (· < ·) → (∀ b ∈ acc, ∀ x ∈ xs, b.2 < x) → (∀ b ∈ acc, b.1 ≤ b.2) → ∀ z, (z ∈ xs ∨ ∃ b ∈ acc, b.1 ≤ z ∧ z ≤ b.2) → ∃ b ∈ (pts xs).foldl (joinStep least) acc, b.1 ≤ z ∧ z ≤ b.2
  | [], acc, _, _, _, z, h => by
    rcases h with h | h
    · cases h
    · exact h
  | x :: xs, acc, hp, hlt, hle, z, h => by
    rw [List.pairwise_cons] at hp
    show ∃ b ∈ (pts xs).foldl (joinStep least) (joinStep least acc (x, x)), _
    rcases List.eq_nil_or_concat acc with rfl | ⟨a, p, rfl⟩
    · refine join_cover xs _ hp.2 ?_ ?_ z ?_
      · intro b hb y hy
        simp only [joinStep, List.getLast?_nil, List.nil_append, List.mem_singleton] at hb
        subst hb
        exact hp.1 y hy
      · intro b hb
        simp only [joinStep, List.getLast?_nil, List.nil_append, List.mem_singleton] at hb
        subst hb
        exact Int.le_refl _
      · rcases h with h | ⟨b, hb, _⟩
        · rcases List.mem_cons.mp h with rfl | h
          · exact .inr ⟨(z, z), by simp [joinStep], Int.le_refl _, Int.le_refl _⟩
          · exact .inl h
        · cases hb
    · rw [List.concat_eq_append] at *
      have hpx := hlt p (by simp) x (by simp)
      have hpl := hle p (by simp)
      rw [joinStep_snoc]
      split
      · refine join_cover xs _ hp.2 ?_ ?_ z ?_
        · intro b hb y hy
          rcases List.mem_append.mp hb with hb | hb
          · exact hlt b (List.mem_append_left _ hb) y (List.mem_cons_of_mem _ hy)
          · rw [List.mem_singleton] at hb
            subst hb
            exact hp.1 y hy
        · intro b hb
          rcases List.mem_append.mp hb with hb | hb
          · exact hle b (List.mem_append_left _ hb)
          · rw [List.mem_singleton] at hb
            subst hb
            show p.1 ≤ x
            omega
        · rcases h with h | ⟨b, hb, h1, h2⟩
          · rcases List.mem_cons.mp h with rfl | h
            · exact .inr ⟨(p.1, z), by simp, by show p.1 ≤ z; omega, Int.le_refl _⟩
            · exact .inl h
          · rcases List.mem_append.mp hb with hb | hb
            · exact .inr ⟨b, List.mem_append_left _ hb, h1, h2⟩
            · rw [List.mem_singleton] at hb
              subst hb
              exact .inr ⟨(b.1, x), by simp, h1, by show z ≤ x; omega⟩
      · refine join_cover xs _ hp.2 ?_ ?_ z ?_
        · intro b hb y hy
          rcases List.mem_append.mp hb with hb | hb
          · exact hlt b hb y (List.mem_cons_of_mem _ hy)
          · rw [List.mem_singleton] at hb
            subst hb
            exact hp.1 y hy
        · intro b hb
          rcases List.mem_append.mp hb with hb | hb
          · exact hle b hb
          · rw [List.mem_singleton] at hb
            subst hb
            exact Int.le_refl _
        · rcases h with h | ⟨b, hb, h1, h2⟩
          · rcases List.mem_cons.mp h with rfl | h
            · exact .inr ⟨(z, z), by simp, Int.le_refl _, Int.le_refl _⟩
            · exact .inl h
          · exact .inr ⟨b, List.mem_append_left _ hb, h1, h2⟩
theorem fill_join {row : List Int} {least : Int} {bs : List (Int × Int)} (h : fillF row least = some bs) : bs = joinB least (pts (recs none row).reverse) := by
  have l1 := lone_of_some h
  unfold fillF at h
  rw [l1, if_neg Bool.false_ne_true] at h
  exact (Option.some.inj h).symm
theorem fill_holds {row : List Int} {least : Int} {bs : List (Int × Int)} (h : fillF row least = some bs) : ∀ x ∈ recs none row, holdsF (some bs) x = true := fun x hx => by
  have e := fill_join h
  obtain ⟨b, hb, h1, h2⟩ := join_cover (least := least) (recs none row).reverse [] (recs_up row) (fun b hb => nomatch hb) (fun b hb => nomatch hb) x (.inl (List.mem_reverse.mpr hx))
  unfold holdsF blocksOf
  rw [Option.getD_some, List.any_eq_true]
  refine ⟨b, by rw [e]; exact hb, ?_⟩
  rw [decide_eq_true h1, decide_eq_true h2]; rfl
theorem fill_top {x : Int} {r : List Int} {least : Int} {bs : List (Int × Int)} (h : fillF (x :: r) least = some bs) : topOf bs = x := by
  have e := fill_join h
  have e2 : (recs none (x :: r)).reverse = (recs (some x) r).reverse ++ [x] := by
    show (x :: recs (some x) r).reverse = _
    rw [List.reverse_cons]
  rw [e2] at e
  unfold topOf
  rw [e, join_last]
  rfl
theorem fill_botOf {row : List Int} {least : Int} {bs : List (Int × Int)} (hne : row ≠ []) (h : fillF row least = some bs) : botOf bs ∈ row ∧ ∀ x ∈ row, botOf bs ≤ x := by
  obtain ⟨b, rest, rfl, h2, h3⟩ := fill_bot h hne
  exact ⟨h2, h3⟩
theorem join_pts {least : Int} (X : Int → Prop) {xs : List Int} (hp : xs.Pairwise (· < ·)) (hX : ∀ x ∈ xs, X x) : Blk (joinB least (pts xs)) ∧ ∀ b ∈ joinB least (pts xs), X b.1 ∧ X b.2 :=
  join_inv X xs [] hp hX ⟨fun b hb => (nomatch hb), List.Pairwise.nil⟩ (fun b hb => nomatch hb) (fun b hb => nomatch hb)
theorem fill_next {row : List Int} {least : Int} {bs : List (Int × Int)} (hl : 0 < least) (h : fillF row least = some bs) (P : List Int) (x m : Int) (C : List Int) (he : recs none row = P ++ [m, x] ++ C) : followsF bs m x least = true := by
  have hup := recs_up row
  have er : (recs none row).reverse = (C.reverse ++ [x]) ++ (m :: P.reverse) := by rw [he]; simp
  have e := fill_join h
  rw [er] at e hup
  obtain ⟨u1, u2, u3⟩ := List.pairwise_append.mp hup
  have hxm : x < m := u3 x (by simp) m (by simp)
  rw [follows_iff hl]
  refine ⟨hxm, ?_⟩
  by_cases hd : m - x ≤ least
  · exact .inl hd
  refine .inr ?_
  have j1 := join_pts (least := least) (fun z => z ≤ x) u1 (fun z hz => by
    rcases List.mem_append.mp hz with hz | hz
    · have := (List.pairwise_append.mp u1).2.2 z hz x (by simp); show z ≤ x; omega
    · rw [List.mem_singleton] at hz; rw [hz]; exact Int.le_refl _)
  have j2 := join_pts (least := least) (fun z => m ≤ z) u2 (fun z hz => by
    rcases List.mem_cons.mp hz with rfl | hz
    · exact Int.le_refl _
    · have := (List.pairwise_cons.mp u2).1 z hz; show m ≤ z; omega)
  have hl1 : (joinB least (pts (C.reverse ++ [x]))).getLast?.map (·.2) = some x := join_last
  have es : bs = joinB least (pts (C.reverse ++ [x])) ++ joinB least (pts (m :: P.reverse)) := by
    rw [e]
    unfold joinB
    rw [show pts ((C.reverse ++ [x]) ++ (m :: P.reverse)) = pts (C.reverse ++ [x]) ++ (m, m) :: pts P.reverse by simp [pts], List.foldl_append]
    refine join_apart (fun p hp => ?_)
    rw [show (pts (C.reverse ++ [x])).foldl (joinStep least) [] = joinB least (pts (C.reverse ++ [x])) from rfl] at hp
    rw [hp] at hl1
    have : p.2 = x := Option.some.inj hl1
    show least < m - p.2
    omega
  unfold lastHi
  rw [es, List.filter_append, List.filter_eq_self.mpr fun b hb => decide_eq_true (by have := (j1.2 b hb).1; have : b.1 ≤ x := this; omega), List.filter_eq_nil_iff.mpr fun b hb => (by have : m ≤ b.1 := (j2.2 b hb).1; simp; omega), List.append_nil, List.getLast?_map]
  exact hl1
/-- T2 -/
theorem kept_some {row : List Int} {least : Int} (hl : 0 < least) (hne : row ≠ []) : (keptN row least).isSome = true := by
  unfold keptN
  cases h : fillF row least with
  | none => rfl
  | some bs =>
    show (if bs = [] then some 0 else keptB bs least row).isSome = true
    rw [if_neg fun z => by rw [z] at h; exact fill_ne hne h]
    unfold keptB
    cases row with
    | nil => exact absurd rfl hne
    | cons x r =>
      rw [List.foldl_cons]
      have hh := fill_holds h
      obtain ⟨g1, g2⟩ := keptStep_has (bs := bs) (least := least) (st := ([], none)) (limit := x) (by rw [fill_top h, if_pos rfl]; rfl) (hh x (by simp [recs]))
      refine kept_fold (row := x :: r) (fun P y m C e => fill_next hl h P y m C e) hh (fun P m e => ?_) r _ [] x rfl g1 g2
      obtain ⟨k1, k2⟩ := fill_botOf hne h
      obtain ⟨l, l1, l2, l3⟩ := recs_min (x :: r) hne
      rw [e] at l1
      simp only [List.getLast?_append, List.getLast?_singleton, Option.some_or, Option.some.injEq] at l1
      subst l1
      have := k2 m l2
      have := l3 _ k1
      omega
end Cu
/-! Cu, maths 7: kept under scaling, kept of rows beside. -/
namespace Cu
section
variable {t : Int} (ht : 0 < t)
include ht
theorem lastHi_scale {bs : List (Int × Int)} {x : Int} : lastHi (bs.map (sc t)) (x * t) = (lastHi bs x).map (· * t) := by
  unfold lastHi
  rw [List.filter_map, List.map_map]
  rw [show ((fun b : Int × Int => decide (b.1 < x * t)) ∘ sc t) = fun b : Int × Int => decide (b.1 < x) from funext fun b => decide_eq_decide.mpr (mul_lt_iff' ht)]
  rw [← List.getLast?_map, List.map_map]
  rfl
theorem follows_scale {bs : List (Int × Int)} {a b least : Int} (hl : 0 < least) : followsF (bs.map (sc t)) (a * t) (b * t) (least * t) = followsF bs a b least := by
  rw [Bool.eq_iff_iff, follows_iff (Int.mul_pos hl ht), follows_iff hl, mul_lt_iff' ht, ← Int.sub_mul, mul_le_iff' ht, lastHi_scale ht]
  cases lastHi bs a with
  | none => simp
  | some q => simp only [Option.map_some, Option.some.injEq, mul_inj' ht]
def scW (t : Int) (o : Int × Nat) : Int × Nat := (o.1 * t, o.2)
theorem keptIn_scale {bs : List (Int × Int)} {limit least : Int} (hl : 0 < least) : ∀ (ways : List (Int × Nat)) (way : Option Nat), keptIn (bs.map (sc t)) (least * t) (ways.map (scW t)) (limit * t) way = keptIn bs least ways limit way
  | [], way => rfl
  | o :: ways, way => by
    have ih := keptIn_scale hl ways (limit := limit) (bs := bs)
    unfold keptIn at ih ⊢
    rw [List.map_cons, List.foldl_cons, List.foldl_cons]
    rw [show (scW t o).1 = o.1 * t from rfl, show (scW t o).2 = o.2 from rfl, follows_scale ht hl]
    exact ih _
theorem holds_scale {bs : List (Int × Int)} {x : Int} : holdsF (some (bs.map (sc t))) (x * t) = holdsF (some bs) x := by
  unfold holdsF blocksOf
  rw [Option.getD_some, Option.getD_some, List.any_map]
  congr 1
  funext b
  show (decide (b.1 * t ≤ x * t) && decide (x * t ≤ b.2 * t)) = _
  rw [decide_eq_decide.mpr (mul_le_iff' ht), decide_eq_decide.mpr (mul_le_iff' ht)]
theorem topOf_scale {bs : List (Int × Int)} : topOf (bs.map (sc t)) = topOf bs * t := by
  unfold topOf
  rw [List.getLast?_map]
  cases bs.getLast? with
  | none => simp
  | some q => rfl
theorem botOf_scale {bs : List (Int × Int)} : botOf (bs.map (sc t)) = botOf bs * t := by
  unfold botOf
  cases bs with
  | nil => simp
  | cons q r => rfl
theorem keptStep_scale {bs : List (Int × Int)} {limit least : Int} (hl : 0 < least) {st : List (Int × Nat) × Option Nat} : keptStep (bs.map (sc t)) (least * t) (st.1.map (scW t), st.2) (limit * t) = ((keptStep bs least st limit).1.map (scW t), (keptStep bs least st limit).2) := by
  unfold keptStep
  dsimp only
  rw [keptIn_scale ht hl, topOf_scale ht, botOf_scale ht, holds_scale ht]
  simp only [mul_inj' ht]
  cases keptIn bs least st.1 limit (if limit = topOf bs then some 1 else none) with
  | none => rfl
  | some l =>
    dsimp only
    split
    · rw [List.map_append]; rfl
    · rfl
theorem keptB_fold_scale {bs : List (Int × Int)} {least : Int} (hl : 0 < least) : ∀ (row : List Int) (st : List (Int × Nat) × Option Nat), (scale t row).foldl (keptStep (bs.map (sc t)) (least * t)) (st.1.map (scW t), st.2) = ((row.foldl (keptStep bs least) st).1.map (scW t), (row.foldl (keptStep bs least) st).2)
  | [], st => rfl
  | x :: r, st => by
    show ((x * t) :: scale t r).foldl _ _ = _
    rw [List.foldl_cons, List.foldl_cons, keptStep_scale ht hl]
    exact keptB_fold_scale hl r _
theorem kept_scale {row : List Int} {least : Int} (hl : 0 < least) : keptN (scale t row) (least * t) = keptN row least := by
  unfold keptN
  rw [fill_scale ht]
  cases fillF row least with
  | none => rfl
  | some bs =>
    show (if bs.map (sc t) = [] then some 0 else keptB (bs.map (sc t)) (least * t) (scale t row)) = (if bs = [] then some 0 else keptB bs least row)
    by_cases h : bs = []
    · rw [if_pos h, if_pos (by rw [h]; rfl)]
    · rw [if_neg h, if_neg (by rw [List.map_eq_nil_iff]; exact h)]
      unfold keptB
      rw [show ([], none) = (([] : List (Int × Nat)).map (scW t), (none : Option Nat)) from rfl, keptB_fold_scale ht hl row ([], none)]
      rfl
end
/-! ### rows beside -/
theorem lastHi_app {a b : List (Int × Int)} {x : Int} : lastHi (a ++ b) x = (lastHi b x).or (lastHi a x) := by
  unfold lastHi
  rw [List.filter_append, List.map_append, List.getLast?_append]
theorem lastHi_mem {bs : List (Int × Int)} {a q : Int} (h : lastHi bs a = some q) : ∃ b ∈ bs, b.1 < a ∧ b.2 = q := by
  unfold lastHi at h
  obtain ⟨b, hb, rfl⟩ := List.mem_map.mp (List.mem_of_getLast? h)
  obtain ⟨h1, h2⟩ := List.mem_filter.mp hb
  exact ⟨b, h1, of_decide_eq_true h2, rfl⟩
theorem lastHi_none {bs : List (Int × Int)} {a : Int} (h : ∀ b ∈ bs, a ≤ b.1) : lastHi bs a = none := by
  cases q : lastHi bs a with
  | none => rfl
  | some y =>
    obtain ⟨b, hb, h1, _⟩ := lastHi_mem q
    have := h b hb
    omega
theorem lastHi_all {bs : List (Int × Int)} {a : Int} (hne : bs ≠ []) (h : ∀ b ∈ bs, b.1 < a) : lastHi bs a = some (topOf bs) := by
  unfold lastHi topOf
  rw [List.filter_eq_self.mpr fun b hb => decide_eq_true (h b hb), List.getLast?_map]
  rcases List.eq_nil_or_concat bs with rfl | ⟨p, q, rfl⟩
  · exact absurd rfl hne
  · simp
theorem lastHi_is {bs : List (Int × Int)} {a : Int} (h : ∃ b ∈ bs, b.1 < a) : ∃ q, lastHi bs a = some q := by
  obtain ⟨b, hb, h1⟩ := h
  cases q : lastHi bs a with
  | some y => exact ⟨y, rfl⟩
  | none =>
    unfold lastHi at q
    rw [List.getLast?_eq_none_iff, List.map_eq_nil_iff, List.filter_eq_nil_iff] at q
    exact absurd (decide_eq_true h1) (q b hb)
def bestOf (bot : Int) (ways : List (Int × Nat)) : Option Nat := ways.foldl (fun b o => if o.1 = bot then shortF b (some o.2) else b) none
theorem best_step {bs : List (Int × Int)} {least limit : Int} {st : List (Int × Nat) × Option Nat} (h : st.2 = bestOf (botOf bs) st.1) : (keptStep bs least st limit).2 = bestOf (botOf bs) (keptStep bs least st limit).1 := by
  unfold keptStep
  split
  · exact h
  · split
    · unfold bestOf at h ⊢
      dsimp only
      rw [List.foldl_append, ← h]
      rfl
    · exact h
theorem best_fold {bs : List (Int × Int)} {least : Int} : ∀ (row : List Int) (st : List (Int × Nat) × Option Nat), st.2 = bestOf (botOf bs) st.1 → (row.foldl (keptStep bs least) st).2 = bestOf (botOf bs) (row.foldl (keptStep bs least) st).1
  | [], st, h => h
  | x :: r, st, h => by
    rw [List.foldl_cons]
    exact best_fold r _ (best_step h)
theorem key_step {bs : List (Int × Int)} {least limit : Int} {st : List (Int × Nat) × Option Nat} (X : Int → Prop) (hx : X limit) (h : ∀ o ∈ st.1, X o.1) : ∀ o ∈ (keptStep bs least st limit).1, X o.1 := by
  unfold keptStep
  split
  · exact h
  · split
    · intro o ho
      rcases List.mem_append.mp ho with ho | ho
      · exact h o ho
      · rw [List.mem_singleton] at ho
        rw [ho]; exact hx
    · exact h
theorem key_fold {bs : List (Int × Int)} {least : Int} (X : Int → Prop) : ∀ (row : List Int) (st : List (Int × Nat) × Option Nat), (∀ x ∈ row, X x) → (∀ o ∈ st.1, X o.1) → ∀ o ∈ (row.foldl (keptStep bs least) st).1, X o.1
  | [], st, _, h => h
  | x :: r, st, hx, h => by
    rw [List.foldl_cons]
    exact key_fold X r _ (fun y hy => hx y (List.mem_cons_of_mem _ hy)) (key_step X (hx x List.mem_cons_self) h)
theorem keptIn_cong {bs1 bs2 : List (Int × Int)} {least limit : Int} : ∀ (ways : List (Int × Nat)) (way : Option Nat), (∀ o ∈ ways, followsF bs1 o.1 limit least = followsF bs2 o.1 limit least) → keptIn bs1 least ways limit way = keptIn bs2 least ways limit way
  | [], way, _ => rfl
  | o :: ways, way, h => by
    have ih := keptIn_cong (bs1 := bs1) (bs2 := bs2) (least := least) (limit := limit) ways
    unfold keptIn at ih ⊢
    rw [List.foldl_cons, List.foldl_cons, h o List.mem_cons_self]
    exact ih _ fun p hp => h p (List.mem_cons_of_mem _ hp)
theorem kept_cong {bs1 bs2 : List (Int × Int)} {least : Int} (X : Int → Prop) (h1 : ∀ a b, X a → X b → followsF bs1 a b least = followsF bs2 a b least) (h2 : topOf bs1 = topOf bs2) (h3 : ∀ a, X a → holdsF (some bs1) a = holdsF (some bs2) a) (h4 : ∀ a, X a → a ≠ botOf bs1) :
    ∀ (row : List Int) (st : List (Int × Nat) × Option Nat), (∀ x ∈ row, X x) → (∀ o ∈ st.1, X o.1) → row.foldl (keptStep bs1 least) (st.1, none) = ((row.foldl (keptStep bs2 least) st).1, none)
  | [], st, _, _ => rfl
  | x :: r, st, hx, hk => by
    have hx0 := hx x List.mem_cons_self
    have e : keptStep bs1 least (st.1, none) x = ((keptStep bs2 least st x).1, none) := by
      unfold keptStep
      dsimp only
      rw [h2, keptIn_cong st.1 _ fun o ho => h1 o.1 x (hk o ho) hx0, h3 x hx0]
      split
      · rfl
      · split
        · rw [if_neg (h4 x hx0)]
        · rfl
    rw [List.foldl_cons, List.foldl_cons, e]
    exact kept_cong X h1 h2 h3 h4 r _ (fun y hy => hx y (List.mem_cons_of_mem _ hy)) (key_step X hx0 hk)
def sh (k : Nat) (o : Option Nat) : Option Nat := o.map (k + ·)
def shW (k : Nat) (o : Int × Nat) : Int × Nat := (o.1, k + o.2)
theorem sh_short {k : Nat} {a b : Option Nat} : shortF (sh k a) (sh k b) = sh k (shortF a b) := by
  cases a with
  | none => cases b <;> rfl
  | some a => cases b with
    | none => rfl
    | some b =>
      simp only [sh, Option.map_some, shortF, Nat.add_le_add_iff_left]
      split <;> rfl
theorem keptIn_shift {bs1 bs2 : List (Int × Int)} {least limit : Int} {k : Nat} : ∀ (ways : List (Int × Nat)) (way : Option Nat), (∀ o ∈ ways, followsF bs1 o.1 limit least = followsF bs2 o.1 limit least) → keptIn bs1 least (ways.map (shW k)) limit (sh k way) = sh k (keptIn bs2 least ways limit way)
  | [], way, _ => rfl
  | o :: ways, way, h => by
    have ih := keptIn_shift (bs1 := bs1) (bs2 := bs2) (least := least) (limit := limit) (k := k) ways
    unfold keptIn at ih ⊢
    rw [List.map_cons, List.foldl_cons, List.foldl_cons]
    rw [show (shW k o).1 = o.1 from rfl, h o List.mem_cons_self, show (shW k o).2 = k + o.2 from rfl]
    rw [show (if followsF bs2 o.1 limit least = true then shortF (sh k way) (some (k + o.2 + 1)) else sh k way) = sh k (if followsF bs2 o.1 limit least = true then shortF way (some (o.2 + 1)) else way) from by
      split
      · rw [show some (k + o.2 + 1) = sh k (some (o.2 + 1)) from rfl, sh_short]
      · rfl]
    exact ih _ fun p hp => h p (List.mem_cons_of_mem _ hp)
theorem kept_shift {bs1 bs2 : List (Int × Int)} {least : Int} {W : List (Int × Nat)} {k : Nat} (X : Int → Prop) (h1 : ∀ a b, X a → X b → followsF bs1 a b least = followsF bs2 a b least) (h3 : ∀ a, X a → holdsF (some bs1) a = holdsF (some bs2) a) (h4 : botOf bs1 = botOf bs2)
    (h5 : ∀ y, X y → keptIn bs1 least W y (if y = topOf bs1 then some 1 else none) = sh k (if y = topOf bs2 then some 1 else none)) :
    ∀ (row : List Int) (st : List (Int × Nat) × Option Nat), (∀ x ∈ row, X x) → (∀ o ∈ st.1, X o.1) →
      row.foldl (keptStep bs1 least) (W ++ st.1.map (shW k), sh k st.2) = (W ++ (row.foldl (keptStep bs2 least) st).1.map (shW k), sh k (row.foldl (keptStep bs2 least) st).2)
  | [], st, _, _ => rfl
  | x :: r, st, hx, hk => by
    have hx0 := hx x List.mem_cons_self
    have e : keptStep bs1 least (W ++ st.1.map (shW k), sh k st.2) x = (W ++ (keptStep bs2 least st x).1.map (shW k), sh k (keptStep bs2 least st x).2) := by
      have e1 : keptIn bs1 least (W ++ st.1.map (shW k)) x (if x = topOf bs1 then some 1 else none) = sh k (keptIn bs2 least st.1 x (if x = topOf bs2 then some 1 else none)) := by
        rw [← keptIn_shift (bs1 := bs1) st.1 _ fun o ho => h1 o.1 x (hk o ho) hx0, ← h5 x hx0]
        unfold keptIn
        rw [List.foldl_append]
      unfold keptStep
      dsimp only
      rw [e1, h3 x hx0, h4]
      cases keptIn bs2 least st.1 x (if x = topOf bs2 then some 1 else none) with
      | none => rfl
      | some l =>
        dsimp only [sh, Option.map_some]
        split
        · rw [List.map_append, List.append_assoc]
          congr 1
          split
          · exact sh_short (k := k) (a := st.2) (b := some l)
          · rfl
        · rfl
    rw [List.foldl_cons, List.foldl_cons, e]
    exact kept_shift X h1 h3 h4 h5 r _ (fun y hy => hx y (List.mem_cons_of_mem _ hy)) (key_step X hx0 hk)
theorem keptIn_bot {bs : List (Int × Int)} {least y bot : Int} : ∀ (W : List (Int × Nat)) (w : Option Nat), (∀ o ∈ W, followsF bs o.1 y least = decide (o.1 = bot)) → keptIn bs least W y (w.map (· + 1)) = (W.foldl (fun b o => if o.1 = bot then shortF b (some o.2) else b) w).map (· + 1)
  | [], w, _ => rfl
  | o :: W, w, h => by
    have ih := keptIn_bot (bs := bs) (least := least) (y := y) (bot := bot) W
    unfold keptIn at ih ⊢
    rw [List.foldl_cons, List.foldl_cons, h o List.mem_cons_self]
    rw [show (if decide (o.1 = bot) = true then shortF (w.map (· + 1)) (some (o.2 + 1)) else w.map (· + 1)) = (if o.1 = bot then shortF w (some o.2) else w).map (· + 1) from by
      by_cases q : o.1 = bot
      · rw [if_pos (decide_eq_true q), if_pos q]
        cases w with
        | none => rfl
        | some a =>
          simp only [Option.map_some, shortF, Nat.add_le_add_iff_right]
          split <;> rfl
      · rw [if_neg (by rw [decide_eq_false q]; decide), if_neg q]]
    exact ih _ fun p hp => h p (List.mem_cons_of_mem _ hp)
theorem keptIn_no {bs : List (Int × Int)} {least y : Int} : ∀ (W : List (Int × Nat)) (w : Option Nat), (∀ o ∈ W, followsF bs o.1 y least = false) → keptIn bs least W y w = w
  | [], w, _ => rfl
  | o :: W, w, h => by
    have ih := keptIn_no (bs := bs) (least := least) (y := y) W w
    unfold keptIn at ih ⊢
    rw [List.foldl_cons, h o List.mem_cons_self, if_neg (by decide)]
    exact ih fun p hp => h p (List.mem_cons_of_mem _ hp)
theorem kept_beside {high way : List Int} {least : Int} {bh bw : List (Int × Int)} {kh kw : Nat} (hl : 0 < least) (hne : high ≠ []) (wne : way ≠ []) (hap : Apart high way least) (h1 : fillF high least = some bh) (h2 : fillF way least = some bw)
    (k1 : keptN high least = some kh) (k2 : keptN way least = some kw) : keptN (high ++ way) least = some (kh + kw) := by
  have hfull := fill_beside hl hne hap h1 h2
  have hbh : bh ≠ [] := fun z => by rw [z] at h1; exact fill_ne hne h1
  have hbw : bw ≠ [] := fun z => by rw [z] at h2; exact fill_ne wne h2
  have mh := (fill_blk h1).2
  have mw := (fill_blk h2).2
  obtain ⟨b0, b1⟩ := fill_botOf hne h1
  have lt : ∀ x ∈ high, ∀ y ∈ way, y < x := fun x hx y hy => by have := hap x hx y hy; omega
  have top1 : topOf (bw ++ bh) = topOf bh := by
    unfold topOf
    rw [List.getLast?_append]
    rcases List.eq_nil_or_concat bh with rfl | ⟨p, q, rfl⟩
    · exact absurd rfl hbh
    · simp
  have bot1 : botOf (bw ++ bh) = botOf bw := by
    unfold botOf
    cases bw with
    | nil => exact absurd rfl hbw
    | cons a r => rfl
  have topm : topOf bh ∈ high := by
    unfold topOf
    rcases List.eq_nil_or_concat bh with rfl | ⟨p, q, rfl⟩
    · exact absurd rfl hbh
    · have := (mh q (by simp)).2
      simpa using this
  have botm := (fill_botOf wne h2).1
  unfold keptN at k1 k2 ⊢
  rw [h1] at k1
  rw [h2] at k2
  rw [hfull]
  dsimp only at k1 k2 ⊢
  rw [if_neg hbh] at k1
  rw [if_neg hbw] at k2
  rw [if_neg (fun z => hbw (List.append_eq_nil_iff.mp z).1)]
  unfold keptB at k1 k2 ⊢
  rw [List.foldl_append]
  have p1 := kept_cong (bs1 := bw ++ bh) (bs2 := bh) (least := least) (· ∈ high) (fun a b ha hb => by
      rw [Bool.eq_iff_iff, follows_iff hl, follows_iff hl, lastHi_app]
      cases q : lastHi bh a with
      | some y => simp
      | none =>
        simp only [Option.none_or]
        constructor
        · rintro ⟨g1, g2 | g2⟩
          · exact ⟨g1, .inl g2⟩
          · obtain ⟨c, hc, _, e⟩ := lastHi_mem g2
            have := lt b hb c.2 (mw c hc).2
            omega
        · rintro ⟨g1, g2 | g2⟩
          · exact ⟨g1, .inl g2⟩
          · cases g2) top1 (fun a ha => by
      unfold holdsF blocksOf
      rw [Option.getD_some, Option.getD_some, List.any_append]
      have ez : (bw.any fun b => decide (b.1 ≤ a) && decide (a ≤ b.2)) = false := List.any_eq_false.mpr fun b hb => by
        have := lt a ha b.2 (mw b hb).2
        rw [decide_eq_false (by omega : ¬ a ≤ b.2)]; simp
      rw [ez]
      rfl) (fun a ha e => by
      rw [bot1] at e
      have := lt a ha _ botm
      omega) high ([], none) (fun x hx => hx) (fun o ho => nomatch ho)
  have p2 := best_fold (bs := bh) (least := least) high ([], none) rfl
  have p3 := key_fold (bs := bh) (least := least) (· ∈ high) high ([], none) (fun x hx => hx) (fun o ho => nomatch ho)
  rw [k1] at p2
  dsimp only at p1
  rw [p1]
  generalize (high.foldl (keptStep bh least) ([], none)).1 = W at p2 p3
  have p4 := kept_shift (bs1 := bw ++ bh) (bs2 := bw) (least := least) (W := W) (k := kh) (· ∈ way) (fun a b ha hb => by
      rw [Bool.eq_iff_iff, follows_iff hl, follows_iff hl, lastHi_app, lastHi_none (bs := bh) fun c hc => by have := lt c.1 (mh c hc).1 a ha; omega]
      simp) (fun a ha => by
      unfold holdsF blocksOf
      rw [Option.getD_some, Option.getD_some, List.any_append]
      have ez : (bh.any fun b => decide (b.1 ≤ a) && decide (a ≤ b.2)) = false := List.any_eq_false.mpr fun b hb => by
        have := lt b.1 (mh b hb).1 a ha
        rw [decide_eq_false (by omega : ¬ b.1 ≤ a)]; simp
      rw [ez, Bool.or_false]) bot1 (fun y hy => by
      rw [top1, if_neg (fun e => by have := lt _ topm y hy; omega)]
      by_cases ht : y = topOf bw
      · rw [if_pos ht]
        have e := keptIn_bot (bs := bw ++ bh) (least := least) (y := y) (bot := botOf bh) W none (fun o ho => by
          have ho := p3 o ho
          have hgt := hap o.1 ho y hy
          rw [Bool.eq_iff_iff, follows_iff hl, decide_eq_true_eq, lastHi_app]
          constructor
          · rintro ⟨_, g | g⟩
            · omega
            · have hge := b1 o.1 ho
              by_cases hq : o.1 = botOf bh
              · exact hq
              · obtain ⟨c, rest, e1, e2, e3⟩ := fill_bot h1 hne
                obtain ⟨q, hq⟩ := lastHi_is (bs := bh) (a := o.1) ⟨c, by rw [e1]; exact List.mem_cons_self, by have : botOf bh = c.1 := by rw [e1]; rfl
                                                                                                               omega⟩
                rw [hq] at g
                simp only [Option.some_or, Option.some.injEq] at g
                obtain ⟨d, hd, _, e4⟩ := lastHi_mem hq
                have := lt d.2 (mh d hd).2 y hy
                omega
          · intro q
            refine ⟨by omega, .inr ?_⟩
            rw [lastHi_none (bs := bh) fun c hc => by rw [q]; exact b1 c.1 (mh c hc).1, Option.none_or, lastHi_all hbw fun c hc => lt o.1 ho c.1 (mw c hc).1, ht])
        rw [show (none : Option Nat) = (none : Option Nat).map (· + 1) from rfl, e]
        rw [show W.foldl (fun b o => if o.1 = botOf bh then shortF b (some o.2) else b) none = some kh from p2.symm]
        rfl
      · rw [if_neg ht]
        rw [keptIn_no W none fun o ho => ?_]
        · rfl
        have ho := p3 o ho
        have hgt := hap o.1 ho y hy
        rw [Bool.eq_false_iff]
        intro z
        rw [Ne, follows_iff hl, lastHi_app] at *
        obtain ⟨_, g | g⟩ := z
        · omega
        · cases q : lastHi bh o.1 with
          | some r =>
            rw [q] at g
            simp only [Option.some_or, Option.some.injEq] at g
            obtain ⟨d, hd, _, e4⟩ := lastHi_mem q
            have := lt d.2 (mh d hd).2 y hy
            omega
          | none =>
            rw [q, Option.none_or, lastHi_all hbw fun c hc => lt o.1 ho c.1 (mw c hc).1] at g
            exact ht (Option.some.inj g).symm) way ([], none) (fun x hx => hx) (fun o ho => nomatch ho)
  rw [List.map_nil, List.append_nil] at p4
  have p4 := congrArg (·.2) p4
  refine p4.trans ?_
  dsimp only
  rw [k2]
  rfl
end Cu
/-! Cu, maths 8: prices under scaling, of rows beside. -/
namespace Cu
def moreF (step t : Int) (offers : List (Int × Int)) : List (Int × Int) := offers.map fun o => ((o.1 + step) * t, o.2)
def scO (t : Int) (o : Int × Int) : Int × Int := (o.1 * t, o.2)
theorem moreF_zero {t : Int} {offers : List (Int × Int)} : moreF 0 t offers = offers.map (scO t) := by
  unfold moreF scO
  simp only [Int.add_zero]
section
variable {t : Int} (ht : 0 < t)
include ht
theorem near_scale {found : List (Int × Int)} {limit least : Int} : nearF (found.map (scO t)) (limit * t) (least * t) = nearF found limit least := by
  unfold nearF
  rw [List.filter_map, List.map_map]
  rw [show ((fun o : Int × Int => decide (limit * t - o.1 ≤ least * t)) ∘ scO t) = fun o : Int × Int => decide (limit - o.1 ≤ least) from funext fun o => by
    show decide (limit * t - o.1 * t ≤ least * t) = _
    rw [← Int.sub_mul]
    exact decide_eq_decide.mpr (mul_le_iff' ht)]
  rfl
theorem upStep_scale {low high least : Int} {found : List (Int × Int)} {o : Int × Int} : upStep (low * t) (high * t) (least * t) (found.map (scO t)) (scO t o) = (upStep low high least found o).map (scO t) := by
  unfold upStep
  rw [show (scO t o).1 = o.1 * t from rfl, show (scO t o).2 = o.2 from rfl, near_scale ht]
  simp only [mul_inj' ht, mul_lt_iff' ht, mul_le_iff' ht]
  split
  · unfold putP
    rw [List.map_append]; rfl
  · split
    · split
      · rfl
      · unfold putP
        rw [List.map_append]; rfl
    · rfl
theorem fold_up_scale {low high least : Int} : ∀ (offers found : List (Int × Int)), (offers.map (scO t)).foldl (upStep (low * t) (high * t) (least * t)) (found.map (scO t)) = (offers.foldl (upStep low high least) found).map (scO t)
  | [], found => rfl
  | o :: os, found => by
    rw [List.map_cons, List.foldl_cons, List.foldl_cons, upStep_scale ht]
    exact fold_up_scale os _
theorem findP_scale {kvs : List (Int × Int)} {k : Int} : findP (kvs.map (scO t)) (k * t) = findP kvs k := by
  unfold findP
  rw [List.find?_map]
  rw [show ((fun p : Int × Int => decide (p.1 = k * t)) ∘ scO t) = fun p : Int × Int => decide (p.1 = k) from funext fun o => decide_eq_decide.mpr (mul_inj' ht)]
  rw [Option.map_map]
  rfl
theorem priceB_scale {least : Int} {offers : List (Int × Int)} : ∀ (bs : List (Int × Int)), priceB (least * t) (offers.map (scO t)) (bs.map (sc t)) = priceB least offers bs
  | [] => rfl
  | b :: bs => by
    have e : findP (waysF (sc t b) (least * t) (offers.map (scO t))) (sc t b).2 = findP (waysF b least offers) b.2 := by
      unfold waysF
      rw [show (sc t b).1 = b.1 * t from rfl, show (sc t b).2 = b.2 * t from rfl]
      have e := fold_up_scale ht (low := b.1) (high := b.2) (least := least) offers []
      rw [List.map_nil] at e
      rw [e, findP_scale ht]
    rw [List.map_cons]
    unfold priceB
    rw [e, priceB_scale bs]
theorem cheap_scale {row : List Int} {least : Int} {offers : List (Int × Int)} : cheapF (scale t row) (least * t) (offers.map (scO t)) = cheapF row least offers := by
  unfold cheapF
  rw [fill_scale ht]
  cases fillF row least with
  | none =>
    show minL (smallF (least * t) (offers.map (scO t))) = minL (smallF least offers)
    congr 1
    unfold smallF
    rw [List.filter_map, List.map_map]
    rw [show ((fun o : Int × Int => decide (o.1 < 2 * (least * t))) ∘ scO t) = fun o : Int × Int => decide (o.1 < 2 * least) from funext fun o => by
      show decide (o.1 * t < 2 * (least * t)) = _
      rw [← Int.mul_assoc]
      exact decide_eq_decide.mpr (mul_lt_iff' ht)]
    rfl
  | some bs => exact priceB_scale ht bs
end
/-! ### rows beside -/
theorem fold_irrel {low high least : Int} (hlh : low ≤ high) : ∀ (offers acc : List (Int × Int)), (∀ o ∈ offers, o.1 < low ∨ high < o.1) → offers.foldl (upStep low high least) acc = acc
  | [], acc, _ => rfl
  | o :: os, acc, h => by
    have h0 := h o List.mem_cons_self
    have e : upStep low high least acc o = acc := by
      unfold upStep
      rw [if_neg (by omega), if_neg (by omega)]
    rw [List.foldl_cons, e]
    exact fold_irrel hlh os acc fun p hp => h p (List.mem_cons_of_mem _ hp)
theorem ways_left {b : Int × Int} {least : Int} {A B : List (Int × Int)} (hb : b.1 ≤ b.2) (h : ∀ o ∈ B, o.1 < b.1 ∨ b.2 < o.1) : waysF b least (A ++ B) = waysF b least A := by
  unfold waysF
  rw [List.foldl_append, fold_irrel hb B _ h]
theorem ways_right {b : Int × Int} {least : Int} {A B : List (Int × Int)} (hb : b.1 ≤ b.2) (h : ∀ o ∈ A, o.1 < b.1 ∨ b.2 < o.1) : waysF b least (A ++ B) = waysF b least B := by
  unfold waysF
  rw [List.foldl_append, fold_irrel hb A _ h]
theorem priceB_app {least : Int} {offers : List (Int × Int)} : ∀ (A B : List (Int × Int)), priceB least offers (A ++ B) = (priceB least offers A).bind fun a => (priceB least offers B).map (a + ·)
  | [], B => by
    simp only [List.nil_append, priceB, Option.bind_some]
    cases priceB least offers B with
    | none => rfl
    | some q => simp
  | b :: A, B => by
    rw [List.cons_append]
    have un : ∀ l, priceB least offers (b :: l) = match findP (waysF b least offers) b.2 with
      | none => none
      | some p => (priceB least offers l).map (p + ·) := fun l => rfl
    rw [un, un]
    rw [priceB_app A B]
    cases findP (waysF b least offers) b.2 with
    | none => rfl
    | some p =>
      cases priceB least offers A with
      | none => rfl
      | some q =>
        cases priceB least offers B with
        | none => rfl
        | some r =>
          show some (p + (q + r)) = some (p + q + r)
          rw [Int.add_assoc]
theorem priceB_cong {least : Int} {o1 o2 : List (Int × Int)} : ∀ (bs : List (Int × Int)), (∀ b ∈ bs, waysF b least o1 = waysF b least o2) → priceB least o1 bs = priceB least o2 bs
  | [], _ => rfl
  | b :: bs, h => by
    unfold priceB
    rw [h b List.mem_cons_self, priceB_cong bs fun c hc => h c (List.mem_cons_of_mem _ hc)]
theorem cheap_beside {high way : List Int} {least : Int} {bh bw mine more : List (Int × Int)} (hl : 0 < least) (hne : high ≠ []) (hap : Apart high way least) (h1 : fillF high least = some bh) (h2 : fillF way least = some bw)
    (hm : ∀ o ∈ mine, ∀ x ∈ high, o.1 < x) (hk : ∀ o ∈ more, ∀ y ∈ way, y < o.1) :
    cheapF (high ++ way) least (mine ++ more) = (cheapF way least mine).bind fun a => (cheapF high least more).map (a + ·) := by
  have hfull := fill_beside hl hne hap h1 h2
  obtain ⟨lh, mh⟩ := fill_blk h1
  obtain ⟨lw, mw⟩ := fill_blk h2
  unfold cheapF
  rw [hfull, h1, h2]
  show priceB least (mine ++ more) (bw ++ bh) = (priceB least mine bw).bind fun a => (priceB least more bh).map (a + ·)
  rw [priceB_app]
  rw [priceB_cong (o2 := mine) bw fun b hb => ways_left (lw.le b hb) fun o ho => .inr (hk o ho b.2 (mw b hb).2)]
  rw [priceB_cong (o2 := more) bh fun b hb => ways_right (lh.le b hb) fun o ho => .inl (hm o ho b.1 (mh b hb).1)]
theorem cheap_fill {a b : List Int} {least : Int} {offers : List (Int × Int)} (h : fillF a least = fillF b least) : cheapF a least offers = cheapF b least offers := by
  unfold cheapF
  rw [h]
/-! ### the marks: T3 -/
def inB (b o : Int × Int) : Bool := decide (b.1 ≤ o.1) && decide (o.1 ≤ b.2)
theorem inB_iff {b o : Int × Int} : inB b o = true ↔ b.1 ≤ o.1 ∧ o.1 ≤ b.2 := by
  unfold inB
  rw [Bool.and_eq_true, decide_eq_true_eq, decide_eq_true_eq]
theorem findP_mem {kvs : List (Int × Int)} {k p : Int} (h : findP kvs k = some p) : (k, p) ∈ kvs := by
  unfold findP at h
  cases q : kvs.find? (fun p => decide (p.1 = k)) with
  | none => rw [q] at h; cases h
  | some r =>
    rw [q] at h
    have h1 := List.mem_of_find?_eq_some q
    have h2 : r.1 = k := of_decide_eq_true (List.find?_some (p := fun p : Int × Int => decide (p.1 = k)) q)
    have h3 : r.2 = p := Option.some.inj h
    rw [← h2, ← h3]
    exact h1
theorem findP_of : ∀ {kvs : List (Int × Int)} {k p : Int}, (kvs.map (·.1)).Nodup → (k, p) ∈ kvs → findP kvs k = some p
  | [], _, _, _, h => nomatch h
  | q :: kvs, k, p, hn, h => by
    rw [List.map_cons, List.nodup_cons] at hn
    unfold findP
    rw [List.find?_cons]
    rcases List.mem_cons.mp h with rfl | h
    · simp
    · have : q.1 ≠ k := fun e => hn.1 (List.mem_map.mpr ⟨(k, p), h, e.symm⟩)
      rw [decide_eq_false this]
      exact findP_of hn.2 h
theorem findP_no {kvs : List (Int × Int)} {k : Int} (h : ∀ q ∈ kvs, q.1 ≠ k) : findP kvs k = none := by
  unfold findP
  rw [List.find?_eq_none.mpr fun q hq => by simpa using h q hq]
  rfl
theorem stuck_fold {low high least s : Int} : ∀ (offers acc : List (Int × Int)), (∀ k ∈ acc, least < s - k.1) → low < s → (∀ o ∈ offers, s < o.1) → offers.foldl (upStep low high least) acc = acc
  | [], acc, _, _, _ => rfl
  | o :: os, acc, h1, h2, h3 => by
    have h0 := h3 o List.mem_cons_self
    have e : upStep low high least acc o = acc := by
      unfold upStep
      rw [if_neg (by omega)]
      have : nearF acc o.1 least = [] := by
        unfold nearF
        rw [List.map_eq_nil_iff, List.filter_eq_nil_iff]
        intro k hk
        have := h1 k hk
        simp only [decide_eq_true_eq]
        omega
      rw [this]
      split <;> rfl
    rw [List.foldl_cons, e]
    exact stuck_fold os acc h1 h2 fun p hp => h3 p (List.mem_cons_of_mem _ hp)
theorem up_ext {low high least : Int} (hlh : low ≤ high) : ∀ (offers acc : List (Int × Int)), ∃ tail, offers.foldl (upStep low high least) acc = acc ++ tail ∧ ∀ m ∈ tail, ∃ o ∈ offers, o.1 = m.1 ∧ low ≤ m.1 ∧ m.1 ≤ high
  | [], acc => ⟨[], by simp, fun m hm => nomatch hm⟩
  | o :: os, acc => by
    rw [List.foldl_cons]
    obtain ⟨tail, e1, e2⟩ := up_ext hlh os (upStep low high least acc o)
    rw [e1]
    have : ∃ t0, upStep low high least acc o = acc ++ t0 ∧ ∀ m ∈ t0, o.1 = m.1 ∧ low ≤ m.1 ∧ m.1 ≤ high := by
      unfold upStep putP
      split
      · exact ⟨_, rfl, fun m hm => by rw [List.mem_singleton] at hm; subst hm; exact ⟨rfl, by dsimp only; omega, by dsimp only; omega⟩⟩
      · split
        · split
          · exact ⟨[], by simp, fun m hm => nomatch hm⟩
          · exact ⟨_, rfl, fun m hm => by rw [List.mem_singleton] at hm; subst hm; exact ⟨rfl, by dsimp only; omega, by dsimp only; omega⟩⟩
        · exact ⟨[], by simp, fun m hm => nomatch hm⟩
    obtain ⟨t0, e3, e4⟩ := this
    refine ⟨t0 ++ tail, by rw [e3, List.append_assoc], fun m hm => ?_⟩
    rcases List.mem_append.mp hm with hm | hm
    · exact ⟨o, List.mem_cons_self, e4 m hm⟩
    · obtain ⟨p, hp, g⟩ := e2 m hm
      exact ⟨p, List.mem_cons_of_mem _ hp, g⟩
def Fair (low least : Int) (F : List (Int × Int)) (o : Int × Int) : Prop := ∃ P, (o.1, P) ∈ F ∧ ((o.1 = low ∧ P = o.2) ∨ (o.1 ≠ low ∧ ∃ paid, minL (belowF o.1 least F) = some paid ∧ P = paid + o.2))
theorem ways_each {low high least : Int} (hl : 0 < least) (hlh : low ≤ high) : ∀ (offers acc : List (Int × Int)), offers.Pairwise (fun a b => a.1 < b.1) → (∀ k ∈ acc, ∀ o ∈ offers, k.1 < o.1) → (∃ o ∈ offers.foldl (upStep low high least) acc, o.1 = high) →
    (∃ tail, offers.foldl (upStep low high least) acc = acc ++ tail ∧ tail.map (·.1) = (offers.filter (inB (low, high))).map (·.1)) ∧ ∀ o ∈ offers.filter (inB (low, high)), Fair low least (offers.foldl (upStep low high least) acc) o
  | [], acc, _, _, _ => ⟨⟨[], by simp, rfl⟩, fun o ho => nomatch ho⟩
  | o :: os, acc, hp, hlt, hf => by
    rw [List.pairwise_cons] at hp
    have h0 := fun k hk => hlt k hk o List.mem_cons_self
    have hlt' : ∀ k ∈ acc, ∀ p ∈ os, k.1 < p.1 := fun k hk p hp => hlt k hk p (List.mem_cons_of_mem _ hp)
    rw [List.foldl_cons] at hf ⊢
    by_cases hin : inB (low, high) o = true
    · have hin' := inB_iff.mp hin
      dsimp only at hin'
      have hput : ∃ P, upStep low high least acc o = acc ++ [(o.1, P)] ∧ ((o.1 = low ∧ P = o.2) ∨ (o.1 ≠ low ∧ ∃ paid, minL (nearF acc o.1 least) = some paid ∧ P = paid + o.2)) := by
        by_cases hlow : o.1 = low
        · exact ⟨o.2, by unfold upStep putP; rw [if_pos hlow], .inl ⟨hlow, rfl⟩⟩
        · cases hn : minL (nearF acc o.1 least) with
          | some paid =>
            refine ⟨paid + o.2, ?_, .inr ⟨hlow, paid, rfl, rfl⟩⟩
            unfold upStep putP
            rw [if_neg hlow, if_pos (by omega), hn]
          | none =>
            exfalso
            have hnil : nearF acc o.1 least = [] := by
              cases q : nearF acc o.1 least with
              | nil => rfl
              | cons a r => rw [q] at hn; cases hn
            have hs : ∀ k ∈ acc, least < o.1 - k.1 := fun k hk => by
              unfold nearF at hnil
              rw [List.map_eq_nil_iff, List.filter_eq_nil_iff] at hnil
              have := hnil k hk
              simp only [decide_eq_true_eq] at this
              omega
            have e : upStep low high least acc o = acc := by
              unfold upStep
              rw [if_neg hlow, hn]
              split <;> rfl
            rw [e, stuck_fold os acc hs (by omega) hp.1] at hf
            obtain ⟨k, hk, e⟩ := hf
            have := hs k hk
            omega
      obtain ⟨P, e1, e2⟩ := hput
      rw [e1] at hf ⊢
      have hlt2 : ∀ k ∈ acc ++ [(o.1, P)], ∀ p ∈ os, k.1 < p.1 := fun k hk p hpm => by
        rcases List.mem_append.mp hk with hk | hk
        · exact hlt' k hk p hpm
        · rw [List.mem_singleton] at hk
          subst hk
          exact hp.1 p hpm
      obtain ⟨⟨tail, t1, t2⟩, ih2⟩ := ways_each hl hlh os (acc ++ [(o.1, P)]) hp.2 hlt2 hf
      refine ⟨⟨(o.1, P) :: tail, by rw [t1]; simp, by rw [List.filter_cons, if_pos hin, List.map_cons, List.map_cons, t2]⟩, fun p hpm => ?_⟩
      rw [List.filter_cons, if_pos hin] at hpm
      rcases List.mem_cons.mp hpm with rfl | hpm
      · refine ⟨P, by rw [t1]; simp, ?_⟩
        rcases e2 with e2 | ⟨g0, paid, g1, g2⟩
        · exact .inl e2
        · refine .inr ⟨g0, paid, ?_, g2⟩
          rw [← g1, t1]
          congr 1
          have ht : ∀ m ∈ tail, p.1 < m.1 := fun m hm => by
            have : m.1 ∈ tail.map (·.1) := List.mem_map.mpr ⟨m, hm, rfl⟩
            rw [t2] at this
            obtain ⟨q, hq, e⟩ := List.mem_map.mp this
            have := hp.1 q (List.mem_filter.mp hq).1
            omega
          unfold belowF nearF
          congr 1
          rw [List.append_assoc, List.filter_append]
          have ez : ([(p.1, P)] ++ tail).filter (fun m => decide (0 < p.1 - m.1) && decide (p.1 - m.1 ≤ least)) = [] := List.filter_eq_nil_iff.mpr fun m hm => by
            rcases List.mem_append.mp hm with hm | hm
            · rw [List.mem_singleton] at hm; subst hm; simp
            · have := ht m hm
              simp only [Bool.and_eq_true, decide_eq_true_eq]
              omega
          rw [ez, List.append_nil]
          refine List.filter_congr fun m hm => ?_
          have := h0 m hm
          rw [decide_eq_true (by omega : 0 < p.1 - m.1), Bool.true_and]
      · exact ih2 p hpm
    · have hin' : ¬ (low ≤ o.1 ∧ o.1 ≤ high) := fun z => hin (inB_iff.mpr z)
      have e : upStep low high least acc o = acc := by
        unfold upStep
        rw [if_neg (by omega), if_neg (by omega)]
      rw [e] at hf ⊢
      rw [List.filter_cons, if_neg hin]
      exact ways_each hl hlh os acc hp.2 hlt' hf
theorem self_find {F : List (Int × Int)} (h : (F.map (·.1)).Nodup) : F = (F.map (·.1)).map fun k => (k, (findP F k).getD 0) := by
  rw [List.map_map]
  refine (List.map_id F).symm.trans (List.map_congr_left fun q hq => ?_)
  show q = (q.1, (findP F q.1).getD 0)
  rw [findP_of h (p := q.2) hq]
  rfl
theorem ways_in {b : Int × Int} {least : Int} {offers : List (Int × Int)} (hb : b.1 ≤ b.2) : ∀ m ∈ waysF b least offers, b.1 ≤ m.1 ∧ m.1 ≤ b.2 := by
  obtain ⟨tail, e1, e2⟩ := up_ext (least := least) hb offers []
  intro m hm
  unfold waysF at hm
  rw [e1, List.nil_append] at hm
  obtain ⟨_, _, _, g⟩ := e2 m hm
  exact g
theorem markF_in {least : Int} {offers : List (Int × Int)} {bs : List (Int × Int)} (hB : Blk bs) {b : Int × Int} (hb : b ∈ bs) {x P : Int} (h1 : b.1 ≤ x) (h2 : x ≤ b.2) (h : findP (waysF b least offers) x = some P) : markF bs least offers x = some P := by
  obtain ⟨L, R, rfl⟩ := List.append_of_mem hb
  have hsep := hB.sep
  obtain ⟨s1, s2, s3⟩ := List.pairwise_append.mp hsep
  obtain ⟨s4, s5⟩ := List.pairwise_cons.mp s2
  have no : ∀ (l : List (Int × Int)) (o : Option Int), (∀ c ∈ l, findP (waysF c least offers) x = none) → l.foldl (fun acc b => (findP (waysF b least offers) x).or acc) o = o := by
    intro l
    induction l with
    | nil => exact fun o _ => rfl
    | cons c l ih =>
      intro o hc
      rw [List.foldl_cons, hc c List.mem_cons_self, Option.none_or]
      exact ih o fun d hd => hc d (List.mem_cons_of_mem _ hd)
  unfold markF
  rw [List.foldl_append, List.foldl_cons]
  rw [no L none fun c hc => findP_no fun q hq => by
    have := (ways_in (hB.le c (by simp [hc])) q hq).2
    have := s3 c hc b (by simp)
    omega]
  rw [h]
  rw [no R _ fun c hc => findP_no fun q hq => by
    have := (ways_in (hB.le c (by simp [hc])) q hq).1
    have := s4 c hc
    omega]
  rfl
theorem zip_self {α β : Type} {f : α → β} : ∀ (l : List α), l.zip (l.map f) = l.map fun a => (a, f a)
  | [] => rfl
  | a :: l => by
    rw [List.map_cons, List.zip_cons_cons, zip_self l]
    rfl
theorem sum_zero {α : Type} {f : α → Int} : ∀ (l : List α), (∀ a ∈ l, f a = 0) → (l.map f).sum = 0
  | [], _ => rfl
  | a :: l, h => by
    rw [List.map_cons, List.sum_cons, h a List.mem_cons_self, sum_zero l fun b hb => h b (List.mem_cons_of_mem _ hb)]
    rfl
/-- one block -/
theorem bound_one {least : Int} {offers bs : List (Int × Int)} {f : Int × Int → Int} (hl : 0 < least) (hup : offers.Pairwise fun a b => a.1 < b.1) (hB : Blk bs) (hf : ∀ o ∈ offers, f o = (markF bs least offers o.1).getD 0) {b : Int × Int} (hb : b ∈ bs) {p : Int} (hp : findP (waysF b least offers) b.2 = some p) :
    boundB least offers (offers.map f) b = p ∧ innerF b offers (offers.map f) ≠ [] ∧ ∀ x ∈ innerF b offers (offers.map f), x.1.1 = b.1 ∨ belowF x.1.1 least (markedF b offers (offers.map f)) ≠ [] := by
  have hle := hB.le b hb
  have hm := findP_mem hp
  obtain ⟨⟨tail, t1, t2⟩, hfair⟩ := ways_each (low := b.1) (high := b.2) hl hle offers [] hup (fun k hk => nomatch hk) ⟨_, hm, rfl⟩
  rw [List.nil_append] at t1
  have hnd : ((waysF b least offers).map (·.1)).Nodup := waysF_nodup hup
  have hkeys : (waysF b least offers).map (·.1) = (offers.filter (inB b)).map (·.1) := by
    unfold waysF
    rw [t1, t2]
  have hfind : ∀ o ∈ offers.filter (inB b), ∃ P, findP (waysF b least offers) o.1 = some P ∧ f o = P ∧ ((o.1 = b.1 ∧ P = o.2) ∨ (o.1 ≠ b.1 ∧ ∃ paid, minL (belowF o.1 least (waysF b least offers)) = some paid ∧ P = paid + o.2)) := fun o ho => by
    obtain ⟨P, g1, g2⟩ := hfair o ho
    have g3 : findP (waysF b least offers) o.1 = some P := findP_of hnd g1
    obtain ⟨ho1, ho2⟩ := List.mem_filter.mp ho
    obtain ⟨i1, i2⟩ := inB_iff.mp ho2
    refine ⟨P, g3, ?_, g2⟩
    rw [hf o ho1, markF_in hB hb i1 i2 g3]
    rfl
  have hinner : innerF b offers (offers.map f) = (offers.filter (inB b)).map fun o => (o, f o) := by
    unfold innerF
    rw [zip_self, List.filter_map]
    rfl
  have hmarked : markedF b offers (offers.map f) = waysF b least offers := by
    unfold markedF
    rw [hinner, List.map_map]
    rw [self_find hnd, hkeys, List.map_map]
    refine List.map_congr_left fun o ho => ?_
    obtain ⟨P, g1, g2, _⟩ := hfind o ho
    show (o.1, f o) = (o.1, (findP (waysF b least offers) o.1).getD 0)
    rw [g1, g2]
    rfl
  have hhigh : ∃ o ∈ offers.filter (inB b), o.1 = b.2 := by
    have : b.2 ∈ (waysF b least offers).map (·.1) := List.mem_map.mpr ⟨_, hm, rfl⟩
    rw [hkeys] at this
    obtain ⟨o, ho, e⟩ := List.mem_map.mp this
    exact ⟨o, ho, e⟩
  refine ⟨?_, ?_, ?_⟩
  · unfold boundB
    rw [hmarked, hinner, List.map_map]
    rw [sum_zero _ fun o ho => by
      obtain ⟨P, g1, g2, g3⟩ := hfind o ho
      show excF o.1 (f o - o.2) b.1 least (waysF b least offers) = 0
      unfold excF
      rcases g3 with ⟨e1, e2⟩ | ⟨e1, paid, e2, e3⟩
      · rw [if_pos e1]; omega
      · rw [if_neg e1, e2, Option.getD_some]; omega]
    rw [Int.sub_zero]
    unfold lastM
    have hsort : ((waysF b least offers).map (·.1)).Pairwise (· < ·) := by
      rw [hkeys, List.pairwise_map]
      exact hup.filter _
    have hin := ways_in (least := least) (offers := offers) hle
    rcases List.eq_nil_or_concat (waysF b least offers) with e | ⟨l, q, e⟩
    · rw [e] at hm; cases hm
    · rw [e, List.concat_eq_append] at hm hsort hin ⊢
      rw [List.map_append, List.pairwise_append] at hsort
      rw [List.getLast?_append, List.getLast?_singleton, Option.some_or]
      show q.2 = p
      rcases List.mem_append.mp hm with hm | hm
      · have h1 := hsort.2.2 b.2 (List.mem_map.mpr ⟨_, hm, rfl⟩) q.1 (by simp)
        have h2 := (hin q (by simp)).2
        omega
      · rw [List.mem_singleton] at hm
        rw [← hm]
  · rw [hinner]
    obtain ⟨o, ho, _⟩ := hhigh
    intro z
    rw [List.map_eq_nil_iff] at z
    rw [z] at ho
    cases ho
  · intro x hx
    rw [hmarked]
    rw [hinner] at hx
    obtain ⟨o, ho, rfl⟩ := List.mem_map.mp hx
    obtain ⟨P, g1, g2, g3⟩ := hfind o ho
    rcases g3 with ⟨e1, e2⟩ | ⟨e1, paid, e2, e3⟩
    · exact .inl e1
    · refine .inr fun z => ?_
      rw [show ((o, f o) : (Int × Int) × Int).1.1 = o.1 from rfl] at z
      rw [z] at e2
      cases e2
theorem bound_all {row : List Int} {least : Int} {offers : List (Int × Int)} (hl : 0 < least) (hup : offers.Pairwise fun a b => a.1 < b.1) {p : Int} (hp : cheapF row least offers = some p) :
    boundF row least offers (marksF row least offers) = p ∧ ∀ bs, fillF row least = some bs → ∀ b ∈ bs, innerF b offers (marksF row least offers) ≠ [] ∧ ∀ x ∈ innerF b offers (marksF row least offers), x.1.1 = b.1 ∨ belowF x.1.1 least (markedF b offers (marksF row least offers)) ≠ [] := by
  unfold boundF marksF
  cases h : fillF row least with
  | none => exact ⟨by dsimp only; rw [hp]; rfl, fun bs e => nomatch e⟩
  | some bs =>
    have hB := (fill_blk h).1
    unfold cheapF at hp
    rw [h] at hp
    rw [show blocksOf (some bs) = bs from rfl]
    dsimp only at hp ⊢
    have key : ∀ (l : List (Int × Int)) (p : Int), (∀ b ∈ l, b ∈ bs) → priceB least offers l = some p → (l.map (boundB least offers (offers.map fun o => (markF bs least offers o.1).getD 0))).sum = p ∧ ∀ b ∈ l, ∃ q, findP (waysF b least offers) b.2 = some q := by
      intro l
      induction l with
      | nil =>
        intro p _ e
        unfold priceB at e
        cases e
        exact ⟨rfl, fun b hb => nomatch hb⟩
      | cons b l ih =>
        intro p hm e
        unfold priceB at e
        cases q : findP (waysF b least offers) b.2 with
        | none => rw [q] at e; cases e
        | some r =>
          rw [q] at e
          dsimp only at e
          cases g : priceB least offers l with
          | none => rw [g] at e; cases e
          | some s =>
            rw [g] at e
            have e : r + s = p := Option.some.inj e
            obtain ⟨i1, i2⟩ := ih s (fun c hc => hm c (List.mem_cons_of_mem _ hc)) g
            refine ⟨?_, fun c hc => ?_⟩
            · rw [List.map_cons, List.sum_cons, i1, (bound_one hl hup hB (fun o ho => rfl) (hm b List.mem_cons_self) q).1, e]
            · rcases List.mem_cons.mp hc with rfl | hc
              · exact ⟨r, q⟩
              · exact i2 c hc
    obtain ⟨k1, k2⟩ := key bs p (fun b hb => hb) hp
    refine ⟨k1, fun bs' e b hb => ?_⟩
    cases e
    obtain ⟨q, hq⟩ := k2 b hb
    exact (bound_one hl hup hB (fun o ho => rfl) hb hq).2
end Cu
set_option maxRecDepth 100000
/-! Cu 1: typed readings: what a value stands for (R), what an expression's reading evaluates to (Ev). -/
namespace Cu
open PySem L2

/-! ### heaps -/
abbrev Ex (H H' : Hp) : Prop := Same H H'
def TX (H H' : Hp) : Prop := ∀ a xs, H a = some (.tup xs) → H' a = some (.tup xs)
section
variable {H H' H1 H2 : Hp} {p : Addr} {o : HO}
theorem exr : Ex H H := Same.refl H
theorem ext (a : Ex H H1) (b : Ex H1 H2) : Ex H H2 := Same.trans a b
theorem exn (h : H p = none) : Ex H (upd H p o) := fun a u e => by
  rw [upd_ne (ne_of_none e h)]
  exact e
theorem exm (e : Ex H H') (h : H p = none) : Ex H (upd H' p o) := fun a u ha => by
  rw [upd_ne (ne_of_none ha h)]
  exact e a u ha
theorem exf (e : Ex H H') (h : H' p = none) : H p = none := Same.free e h
theorem Ex.tx (e : Ex H H') : TX H H' := fun a xs h => e a _ h
theorem txr : TX H H := fun _ _ h => h
theorem txt (a : TX H H1) (b : TX H1 H2) : TX H H2 := fun x o h => b x o (a x o h)
theorem txl {xs : List V} (h : H p = some (.lst xs)) : TX H (upd H p o) := fun a ys e => by
  rw [upd_ne]
  · exact e
  · intro z
    subst z
    rw [h] at e
    cases e
theorem txd {kvs : List (Key × V)} (h : H p = some (.dK kvs)) : TX H (upd H p o) := fun a ys e => by
  rw [upd_ne]
  · exact e
  · intro z
    subst z
    rw [h] at e
    cases e
theorem txf {ob : Obj} {u : HO} (h : H p = some (.frz ob u)) : TX H (upd H p o) := fun a ys e => by
  rw [upd_ne]
  · exact e
  · intro z
    subst z
    rw [h] at e
    cases e
end

/-! ### what a value stands for -/
structure R (α : Type) where
  is : Hp → V → α → Prop
  ex : ∀ {H H' : Hp} {v : V} {a : α}, Ex H H' → is H v a → is H' v a
class TR {α : Type} (r : R α) : Prop where
  tx : ∀ {H H' : Hp} {v : V} {a : α}, TX H H' → r.is H v a → r.is H' v a
section
variable {α β : Type}
def dI : R Int := ⟨fun _ v n => v = .int n, fun _ h => h⟩
instance : TR dI := ⟨fun _ h => h⟩
def dB : R Bool := ⟨fun _ v b => v = .bl b, fun _ h => h⟩
instance : TR dB := ⟨fun _ h => h⟩
def dV : R V := ⟨fun _ v x => v = x, fun _ h => h⟩
instance : TR dV := ⟨fun _ h => h⟩
theorem pmap {F G : V → α → Prop} {xs : List V} {as : List α} (h : Paired F xs as) (f : ∀ v a, F v a → G v a) : Paired G xs as := L2.Paired.mapP h f
/-- a tuple of many | a list of many | a pair | a value or None | a tuple of so many, whatever they are -/
def dT (r : R α) : R (List α) := ⟨fun H v as => ∃ p xs, v = .ref p ∧ H p = some (.tup xs) ∧ Paired (r.is H) xs as,
  fun e ⟨p, xs, h1, h2, h3⟩ => ⟨p, xs, h1, e p _ h2, pmap h3 fun _ _ => r.ex e⟩⟩
instance (r : R α) [t : TR r] : TR (dT r) := ⟨fun e ⟨p, xs, h1, h2, h3⟩ => ⟨p, xs, h1, e p _ h2, pmap h3 fun _ _ => t.tx e⟩⟩
def dL (r : R α) : R (List α) := ⟨fun H v as => ∃ p xs, v = .ref p ∧ H p = some (.lst xs) ∧ Paired (r.is H) xs as,
  fun e ⟨p, xs, h1, h2, h3⟩ => ⟨p, xs, h1, e p _ h2, pmap h3 fun _ _ => r.ex e⟩⟩
def dP (r : R α) (s : R β) : R (α × β) := ⟨fun H v d => ∃ p x y, v = .ref p ∧ H p = some (.tup [x, y]) ∧ r.is H x d.1 ∧ s.is H y d.2,
  fun e ⟨p, x, y, h1, h2, h3, h4⟩ => ⟨p, x, y, h1, e p _ h2, r.ex e h3, s.ex e h4⟩⟩
instance (r : R α) (s : R β) [t : TR r] [u : TR s] : TR (dP r s) := ⟨fun e ⟨p, x, y, h1, h2, h3, h4⟩ => ⟨p, x, y, h1, e p _ h2, t.tx e h3, u.tx e h4⟩⟩
def dO (r : R α) : R (Option α) := ⟨fun H v o => match o with
    | none => v = .non
    | some a => v ≠ .non ∧ r.is H v a,
  fun {H H' v o} e h => match o, h with
    | none, h => h
    | some a, h => ⟨h.1, r.ex e h.2⟩⟩
instance (r : R α) [t : TR r] : TR (dO r) := ⟨fun {H H' v o} e h => match o, h with
    | none, h => h
    | some a, h => ⟨h.1, t.tx e h.2⟩⟩
def dW : R Nat := ⟨fun H v n => ∃ p xs, v = .ref p ∧ H p = some (.tup xs) ∧ xs.length = n, fun e ⟨p, xs, h1, h2, h3⟩ => ⟨p, xs, h1, e p _ h2, h3⟩⟩
instance : TR dW := ⟨fun e ⟨p, xs, h1, h2, h3⟩ => ⟨p, xs, h1, e p _ h2, h3⟩⟩
/-- a list of so many -/
def dWL : R Nat := ⟨fun H v n => ∃ p xs, v = .ref p ∧ H p = some (.lst xs) ∧ xs.length = n, fun e ⟨p, xs, h1, h2, h3⟩ => ⟨p, xs, h1, e p _ h2, h3⟩⟩
/-- a tuple or a list -/
def dQ (r : R α) : R (List α) := ⟨fun H v as => (dT r).is H v as ∨ (dL r).is H v as, fun e h => h.elim (fun h => .inl ((dT r).ex e h)) fun h => .inr ((dL r).ex e h)⟩
theorem dQ_t {r : R α} {H : Hp} {v : V} {as : List α} (h : (dT r).is H v as) : (dQ r).is H v as := .inl h
theorem dQ_l {r : R α} {H : Hp} {v : V} {as : List α} (h : (dL r).is H v as) : (dQ r).is H v as := .inr h
end

/-! ### pairs of lists -/
section
variable {α β : Type} {F : V → α → Prop}
theorem plen {xs : List V} {as : List α} (h : Paired F xs as) : xs.length = as.length := Paired.length h
theorem pget : ∀ {xs : List V} {as : List α} {i : Nat} {a : α}, Paired F xs as → as[i]? = some a → ∃ x, xs[i]? = some x ∧ F x a
  | _, _, _, _, .nil, e => by simp at e
  | _, _, 0, _, .cons r _, e => by simp at e; subst e; exact ⟨_, rfl, r⟩
  | _, _, i + 1, a, .cons _ t, e => by
    obtain ⟨u, h1, h2⟩ := pget (i := i) (a := a) t (by simpa using e)
    exact ⟨u, by simpa using h1, h2⟩
theorem pgetV : ∀ {xs : List V} {as : List α} {i : Nat} {x : V}, Paired F xs as → xs[i]? = some x → ∃ a, as[i]? = some a ∧ F x a
  | _, _, _, _, .nil, e => by simp at e
  | _, _, 0, _, .cons r _, e => by simp at e; subst e; exact ⟨_, rfl, r⟩
  | _, _, i + 1, a, .cons _ t, e => by
    obtain ⟨u, h1, h2⟩ := pgetV (i := i) (x := a) t (by simpa using e)
    exact ⟨u, by simpa using h1, h2⟩
theorem papp : ∀ {xs ys : List V} {as bs : List α}, Paired F xs as → Paired F ys bs → Paired F (xs ++ ys) (as ++ bs)
  | _, _, _, _, .nil, s => s
  | _, _, _, _, .cons r t, s => .cons r (papp t s)
theorem psnoc {xs : List V} {as : List α} {x : V} {a : α} (h : Paired F xs as) (g : F x a) : Paired F (xs ++ [x]) (as ++ [a]) := papp h (.cons g .nil)
theorem pset : ∀ {xs : List V} {as : List α} {x : V} {a : α} (i : Nat), F x a → Paired F xs as → Paired F (xs.set i x) (as.set i a)
  | _, _, _, _, _, _, .nil => .nil
  | _, _, _, _, 0, g, .cons _ t => .cons g t
  | _, _, _, _, i + 1, g, .cons r t => .cons r (pset i g t)
theorem ptake : ∀ {xs : List V} {as : List α} (n : Nat), Paired F xs as → Paired F (xs.take n) (as.take n)
  | _, _, 0, _ => .nil
  | _, _, _ + 1, .nil => .nil
  | _, _, n + 1, .cons r t => .cons r (ptake n t)
theorem pdrop : ∀ {xs : List V} {as : List α} (n : Nat), Paired F xs as → Paired F (xs.drop n) (as.drop n)
  | _, _, 0, r => r
  | _, _, _ + 1, .nil => .nil
  | _, _, n + 1, .cons _ t => pdrop n t
theorem prev : ∀ {xs : List V} {as : List α}, Paired F xs as → Paired F xs.reverse as.reverse
  | _, _, .nil => .nil
  | _, _, .cons r t => by
    rw [List.reverse_cons, List.reverse_cons]
    exact psnoc (prev t) r
theorem pints : ∀ {ns : List Int} {H : Hp} , Paired (dI.is H) (ns.map V.int) ns
  | [], _ => .nil
  | _ :: _, _ => .cons rfl pints
theorem ints_of : ∀ {xs : List V} {ns : List Int} {H : Hp}, Paired (dI.is H) xs ns → xs = ns.map V.int
  | _, _, _, .nil => rfl
  | _, _, _, .cons r t => by
    rw [List.map_cons, ← ints_of t]
    exact congrArg (· :: _) r
theorem bools_of : ∀ {xs : List V} {ns : List Bool} {H : Hp}, Paired (dB.is H) xs ns → xs = ns.map V.bl
  | _, _, _, .nil => rfl
  | _, _, _, .cons r t => by
    rw [List.map_cons, ← bools_of t]
    exact congrArg (· :: _) r
end

/-! ### what a reading evaluates to -/
section
variable {α β γ : Type}
def Ev (r : R α) (te : TE) (σ : St) (H : Hp) (a : α) : Prop := ∀ H1, Ex H H1 → ∀ Q : VK, (∀ v H2, Ex H1 H2 → r.is H2 v a → Q v H2) → te σ H1 Q
/-- .. a new object -/
def EvN (r : R α) (te : TE) (σ : St) (H : Hp) (a : α) : Prop := ∀ H1, Ex H H1 → ∀ Q : VK, (∀ p H2, H1 p = none → Ex H1 H2 → r.is H2 (.ref p) a → Q (.ref p) H2) → te σ H1 Q
def EvT (tt : TT) (σ : St) (H : Hp) (b : Bool) : Prop := ∀ H1, Ex H H1 → ∀ Q : Bool → Hp → Prop, (∀ H2, Ex H1 H2 → Q b H2) → tt σ H1 Q
/-- arguments of one kind | of any kinds -/
def EvA (r : R α) (ta : TA) (σ : St) (H : Hp) (as : List α) : Prop := ∀ H1, Ex H H1 → ∀ Q : List V → Hp → Prop, (∀ vs H2, Ex H1 H2 → Paired (r.is H2) vs as → Q vs H2) → ta σ H1 Q
def EvP (ta : TA) (σ : St) (H : Hp) (P : Hp → List V → Prop) : Prop := ∀ H1, Ex H H1 → ∀ Q : List V → Hp → Prop, (∀ vs H2, Ex H1 H2 → P H2 vs → Q vs H2) → ta σ H1 Q
def EvO (to : TO) (σ : St) (H : Hp) (o : Option Int) : Prop := ∀ H1, Ex H H1 → ∀ Q : Option Int → Hp → Prop, (∀ H2, Ex H1 H2 → Q o H2) → to σ H1 Q
variable {r : R α} {s : R β} {σ : St} {H H' : Hp} {ta tb tc te : TE} {t u : TT} {a : α} {b : β} {v x y : V} {K : PySem.W.Frag} {i j k n m : Int}
theorem Ev.mono (e : Ex H H') (h : Ev r te σ H a) : Ev r te σ H' a := fun H1 a Q q => h H1 (ext e a) Q q
theorem EvN.mono (e : Ex H H') (h : EvN r te σ H a) : EvN r te σ H' a := fun H1 a Q q => h H1 (ext e a) Q q
theorem EvT.mono {b : Bool} (e : Ex H H') (h : EvT t σ H b) : EvT t σ H' b := fun H1 a Q q => h H1 (ext e a) Q q
theorem EvN.ev (h : EvN r te σ H a) : Ev r te σ H a := fun H1 e Q q => h H1 e Q fun p H2 _ e2 hp => q _ H2 e2 hp
theorem Ev.to {a' : α} (h : Ev r te σ H a) (e : a = a') : Ev r te σ H a' := e ▸ h
theorem EvN.to {a' : α} (h : EvN r te σ H a) (e : a = a') : EvN r te σ H a' := e ▸ h
theorem EvT.to {b b' : Bool} (h : EvT t σ H b) (e : b = b') : EvT t σ H b' := e ▸ h
/-- read as another kind -/
theorem Ev.re (h : Ev r te σ H a) (f : ∀ H1 v, r.is H1 v a → s.is H1 v b) : Ev s te σ H b := fun H1 e Q q => h H1 e Q fun v H2 e2 hv => q v H2 e2 (f H2 v hv)
theorem Ev.q (h : Ev (dT r) te σ H as) : Ev (dQ r) te σ H as := h.re fun _ _ => dQ_t
theorem Ev.ql (h : Ev (dL r) te σ H as) : Ev (dQ r) te σ H as := h.re fun _ _ => dQ_l
theorem ev_var {i : Nat} (h : σ[i]? = some (some v)) (hv : r.is H v a) : Ev r (tVar i) σ H a := fun H1 e _ q => ⟨v, h, q v H1 exr (r.ex e hv)⟩
theorem ev_ref {i : Nat} (h : σ[i]? = some (some v)) : Ev dV (tVar i) σ H v := ev_var h rfl
theorem ev_int : Ev dI (tC (.int n)) σ H n := fun H1 _ _ q => q _ H1 exr rfl
theorem ev_bl {b : Bool} : Ev dB (tC (.bl b)) σ H b := fun H1 _ _ q => q _ H1 exr rfl
theorem ev_non : Ev (dO r) (tC .non) σ H none := fun H1 _ _ q => q _ H1 exr rfl
theorem ev_con : Ev dV (tC v) σ H v := fun H1 _ _ q => q _ H1 exr rfl
theorem ev_op {rr : R2} {c : γ} {w : R γ} (ha : Ev r ta σ H a) (hb : Ev s tb σ H b) (hr : ∀ x y H1, Ex H H1 → r.is H1 x a → s.is H1 y b → ∀ Q : VK, (∀ v H2, Ex H1 H2 → w.is H2 v c → Q v H2) → rr x y H1 Q) :
    Ev w (tOp rr ta tb) σ H c := fun H1 e Q q =>
  ha H1 e _ fun x H2 e2 hx => hb H2 (ext e e2) _ fun y H3 e3 hy => hr x y H3 (ext e (ext e2 e3)) (r.ex e3 hx) hy Q fun v H4 e4 hv => q v H4 (ext e2 (ext e3 e4)) hv
theorem ev_opN {rr : R2} {c : γ} {w : R γ} (ha : Ev r ta σ H a) (hb : Ev s tb σ H b) (hr : ∀ x y H1, Ex H H1 → r.is H1 x a → s.is H1 y b → ∀ Q : VK, (∀ p H2, H1 p = none → Ex H1 H2 → w.is H2 (.ref p) c → Q (.ref p) H2) → rr x y H1 Q) :
    EvN w (tOp rr ta tb) σ H c := fun H1 e Q q =>
  ha H1 e _ fun x H2 e2 hx => hb H2 (ext e e2) _ fun y H3 e3 hy => hr x y H3 (ext e (ext e2 e3)) (r.ex e3 hx) hy Q fun v H4 hn e4 hv => q v H4 (exf (ext e2 e3) hn) (ext e2 (ext e3 e4)) hv
theorem ev_I0 {g : Int → Int → Int} (ha : Ev dI ta σ H i) (hb : Ev dI tb σ H j) : Ev dI (tOp (rI0 fun i j => .int (g i j)) ta tb) σ H (g i j) :=
  ev_op ha hb fun _ _ H1 _ hx hy _ q => ⟨i, j, hx, hy, q _ H1 exr rfl⟩
theorem ev_B0 {g : Int → Int → Bool} (ha : Ev dI ta σ H i) (hb : Ev dI tb σ H j) : Ev dB (tOp (rI0 fun i j => .bl (g i j)) ta tb) σ H (g i j) :=
  ev_op ha hb fun _ _ H1 _ hx hy _ q => ⟨i, j, hx, hy, q _ H1 exr rfl⟩
theorem ev_I {C : Int → Int → Prop} {g : Int → Int → Int} (ha : Ev dI ta σ H i) (hb : Ev dI tb σ H j) (hc : C i j) : Ev dI (tOp (L2.rI C fun i j => .int (g i j)) ta tb) σ H (g i j) :=
  ev_op ha hb fun _ _ H1 _ hx hy _ q => ⟨i, j, hx, hy, hc, q _ H1 exr rfl⟩
theorem ev_eqI (ha : Ev dI ta σ H i) (hb : Ev dI tb σ H j) : Ev dB (tOp rEq ta tb) σ H (decide (i = j)) :=
  ev_op ha hb fun x y H1 _ hx hy _ q => by
    cases hx
    cases hy
    refine ⟨rfl, q _ H1 exr ?_⟩
    show V.bl _ = V.bl _
    congr 1
    by_cases h : i = j
    · subst h; simp
    · rw [decide_eq_false h, decide_eq_false (by intro z; cases z; exact h rfl)]
theorem ev_neI (ha : Ev dI ta σ H i) (hb : Ev dI tb σ H j) : Ev dB (tOp rNe ta tb) σ H (!decide (i = j)) :=
  ev_op ha hb fun x y H1 _ hx hy _ q => by
    cases hx
    cases hy
    refine ⟨rfl, q _ H1 exr ?_⟩
    show V.bl _ = V.bl _
    congr 2
    by_cases h : i = j
    · subst h; simp
    · rw [decide_eq_false h, decide_eq_false (by intro z; cases z; exact h rfl)]
/-- None or an int, against an int -/
theorem ev_eqO {o : Option Int} (ha : Ev (dO dI) ta σ H o) (hb : Ev dI tb σ H j) : Ev dB (tOp rEq ta tb) σ H (decide (o = some j)) :=
  ev_op ha hb fun x y H1 _ hx hy _ q => by
    cases hy
    cases o with
    | none =>
      cases (show x = .non from hx)
      exact ⟨rfl, q _ H1 exr rfl⟩
    | some i =>
      have hx2 : x = .int i := hx.2
      subst hx2
      refine ⟨rfl, q _ H1 exr ?_⟩
      show V.bl _ = V.bl _
      congr 1
      by_cases h : i = j
      · subst h; simp
      · rw [decide_eq_false (by intro z; cases z; exact h rfl), decide_eq_false (by intro z; cases z; exact h rfl)]
def rIsN : R2 := fun x y H Q => y = .non ∧ Q (.bl (decide (x = .non))) H
def rNotN : R2 := fun x y H Q => y = .non ∧ Q (.bl (!decide (x = .non))) H
theorem op_isN' {X : Cx} : OpR X (compareOp .Is) rIsN := op_isN
theorem op_notN' {X : Cx} : OpR X (compareOp .IsNot) rNotN := op_notN
theorem ev_isN {o : Option α} (ha : Ev (dO r) ta σ H o) : Ev dB (tOp rIsN ta (tC .non)) σ H o.isNone :=
  ev_op ha (ev_con (v := .non)) fun x y H1 _ hx hy _ q => by
    cases hy
    refine ⟨rfl, q _ H1 exr ?_⟩
    cases o with
    | none => rw [show x = .non from hx]; rfl
    | some a =>
      show V.bl (decide (x = V.non)) = V.bl false
      rw [decide_eq_false hx.1]
theorem ev_notN {o : Option α} (ha : Ev (dO r) ta σ H o) : Ev dB (tOp rNotN ta (tC .non)) σ H o.isSome :=
  ev_op ha (ev_con (v := .non)) fun x y H1 _ hx hy _ q => by
    cases hy
    refine ⟨rfl, q _ H1 exr ?_⟩
    cases o with
    | none => rw [show x = .non from hx]; rfl
    | some a =>
      show V.bl (!decide (x = V.non)) = V.bl true
      rw [decide_eq_false hx.1]; rfl

/-! tests -/
theorem et_test {b : Bool} (h : Ev dB te σ H b) : EvT (tTest te) σ H b := fun H1 e _ q => h H1 e _ fun v H2 e2 hv => ⟨b, hv, q H2 e2⟩
theorem et_B {b : Bool} (h : Ev dB te σ H b) : EvT (tB te) σ H b := fun H1 e _ q => h H1 e _ fun v H2 e2 hv => ⟨b, hv, q H2 e2⟩
theorem et_and {a b : Bool} (h1 : EvT t σ H a) (h2 : a = true → EvT u σ H b) : EvT (tAnd t u) σ H (a && b) := fun H1 e Q q => h1 H1 e _ fun H2 e2 => by
  cases a with
  | true =>
    show u σ H2 Q
    exact h2 rfl H2 (ext e e2) Q fun H3 e3 => q H3 (ext e2 e3)
  | false =>
    show Q false H2
    exact q H2 e2
theorem et_or {a b : Bool} (h1 : EvT t σ H a) (h2 : a = false → EvT u σ H b) : EvT (tOr t u) σ H (a || b) := fun H1 e Q q => h1 H1 e _ fun H2 e2 => by
  cases a with
  | true =>
    show Q true H2
    exact q H2 e2
  | false =>
    show u σ H2 Q
    exact h2 rfl H2 (ext e e2) Q fun H3 e3 => q H3 (ext e2 e3)
theorem et_not {a : Bool} (h1 : EvT t σ H a) : EvT (tNot t) σ H (!a) := fun H1 e _ q => h1 H1 e _ fun H2 e2 => q H2 e2
theorem et_yes : EvT tYes σ H true := fun H1 _ _ q => q H1 exr
theorem ev_andV {a b : Bool} (h1 : Ev dB ta σ H a) (h2 : a = true → Ev dB tb σ H b) : Ev dB (tAndV ta tb) σ H (a && b) := fun H1 e Q q => h1 H1 e _ fun v H2 e2 hv => ⟨a, hv, by
  cases a with
  | true =>
    show tb σ H2 Q
    exact h2 rfl H2 (ext e e2) Q fun w H3 e3 hw => q w H3 (ext e2 e3) hw
  | false =>
    show Q (.bl false) H2
    exact q _ H2 e2 rfl⟩
theorem ev_orV {a b : Bool} (h1 : Ev dB ta σ H a) (h2 : a = false → Ev dB tb σ H b) : Ev dB (tOrV ta tb) σ H (a || b) := fun H1 e Q q => h1 H1 e _ fun v H2 e2 hv => ⟨a, hv, by
  cases a with
  | true =>
    show Q (.bl true) H2
    exact q _ H2 e2 rfl
  | false =>
    show tb σ H2 Q
    exact h2 rfl H2 (ext e e2) Q fun w H3 e3 hw => q w H3 (ext e2 e3) hw⟩
theorem ev_if {b : Bool} (h : EvT t σ H b) (h1 : b = true → Ev r ta σ H a) (h2 : b = false → Ev r tb σ H a) : Ev r (tIf t ta tb) σ H a := fun H1 e Q q => h H1 e _ fun H2 e2 => by
  cases b with
  | true =>
    show ta σ H2 Q
    exact h1 rfl H2 (ext e e2) Q fun v H3 e3 hv => q v H3 (ext e2 e3) hv
  | false =>
    show tb σ H2 Q
    exact h2 rfl H2 (ext e e2) Q fun v H3 e3 hv => q v H3 (ext e2 e3) hv
theorem ev_chain {r1 r2 : R2} {b1 b2 : Bool} (ha : Ev r ta σ H a) (hb : Ev s tb σ H b) (h1 : ∀ x y H1, r.is H1 x a → s.is H1 y b → ∀ Q : VK, Q (.bl b1) H1 → r1 x y H1 Q)
    {w : R γ} {c : γ} (hc : b1 = true → Ev w tc σ H c) (h2 : ∀ y z H1, s.is H1 y b → w.is H1 z c → ∀ Q : VK, Q (.bl b2) H1 → r2 y z H1 Q) : Ev dB (tChain r1 r2 ta tb tc) σ H (b1 && b2) := fun H1 e Q q =>
  ha H1 e _ fun x H2 e2 hx => hb H2 (ext e e2) _ fun y H3 e3 hy => h1 x y H3 (r.ex e3 hx) hy _ ⟨b1, rfl, by
    cases b1 with
    | true =>
      show tc σ H3 _
      exact hc rfl H3 (ext e (ext e2 e3)) _ fun z H4 e4 hz => h2 y z H4 (s.ex e4 hy) hz Q (q _ H4 (ext e2 (ext e3 e4)) rfl)
    | false =>
      show Q (.bl false) H3
      exact q _ H3 (ext e2 e3) rfl⟩
theorem ev_chainI {g1 g2 : Int → Int → Bool} (ha : Ev dI ta σ H i) (hb : Ev dI tb σ H j) (hc : Ev dI tc σ H k) : Ev dB (tChain (rI0 fun i j => .bl (g1 i j)) (rI0 fun i j => .bl (g2 i j)) ta tb tc) σ H (g1 i j && g2 j k) :=
  ev_chain ha hb (fun _ _ _ hx hy _ q => ⟨i, j, hx, hy, q⟩) (fun _ => hc) fun _ _ _ hx hy _ q => ⟨j, k, hx, hy, q⟩

/-! displays -/
theorem sz_of {n : Nat} (h : n ≤ 100000) : n ≤ sizeLine := Nat.le_trans h (by decide)
theorem sz_lt {n : Nat} (h : n < 100000) : n < sizeLine := Nat.lt_of_lt_of_le h (by decide)
theorem ea_nil : EvA r tNil σ H [] := fun H1 _ _ q => q _ H1 exr .nil
theorem ea_cons {tr : TA} {as : List α} (h : Ev r te σ H a) (hr : EvA r tr σ H as) : EvA r (tCons te tr) σ H (a :: as) := fun H1 e _ q =>
  h H1 e _ fun v H2 e2 hv => hr H2 (ext e e2) _ fun vs H3 e3 hvs => q _ H3 (ext e2 e3) (.cons (r.ex e3 hv) hvs)
theorem ea_starT {tr : TA} {as bs : List α} (h : Ev (dT r) te σ H as) (hr : EvA r tr σ H bs) : EvA r (StX.tStar K te tr) σ H (as ++ bs) := fun H1 e _ q =>
  h H1 e _ fun v H2 e2 ⟨p, xs, h1, h2, h3⟩ => ⟨p, xs, h1, .inl (SqT.of h2), hr H2 (ext e e2) _ fun vs H3 e3 hvs => q _ H3 (ext e2 e3) (papp (pmap h3 fun _ _ => r.ex e3) hvs)⟩
theorem ea_starL {tr : TA} {as bs : List α} (h : Ev (dL r) te σ H as) (hr : EvA r tr σ H bs) : EvA r (StX.tStar K te tr) σ H (as ++ bs) := fun H1 e _ q =>
  h H1 e _ fun v H2 e2 ⟨p, xs, h1, h2, h3⟩ => ⟨p, xs, h1, .inr (SqL.of h2), hr H2 (ext e e2) _ fun vs H3 e3 hvs => q _ H3 (ext e2 e3) (papp (pmap h3 fun _ _ => r.ex e3) hvs)⟩
theorem ep_nil : EvP tNil σ H (fun _ vs => vs = []) := fun H1 _ _ q => q _ H1 exr rfl
theorem ep_cons {tr : TA} {P : Hp → List V → Prop} (h : Ev r te σ H a) (hr : EvP tr σ H P) : EvP (tCons te tr) σ H (fun H vs => ∃ v ws, vs = v :: ws ∧ r.is H v a ∧ P H ws) := fun H1 e _ q =>
  h H1 e _ fun v H2 e2 hv => hr H2 (ext e e2) _ fun vs H3 e3 hvs => q _ H3 (ext e2 e3) ⟨v, vs, rfl, r.ex e3 hv, hvs⟩
/-- (*way, e): a tuple of so many and one more -/
theorem ep_starW {tr : TA} {P : Hp → List V → Prop} {n : Nat} (h : Ev dW te σ H n) (hr : EvP tr σ H P) : EvP (StX.tStar K te tr) σ H (fun H vs => ∃ xs ws, vs = xs ++ ws ∧ xs.length = n ∧ P H ws) := fun H1 e _ q =>
  h H1 e _ fun v H2 e2 ⟨p, xs, h1, h2, h3⟩ => ⟨p, xs, h1, .inl (SqT.of h2), hr H2 (ext e e2) _ fun vs H3 e3 hvs => q _ H3 (ext e2 e3) ⟨xs, vs, rfl, h3, hvs⟩⟩
theorem en_tup {ta : TA} {as : List α} (h : EvA r ta σ H as) (hl : as.length ≤ 100000) : EvN (dT r) (tTup ta) σ H as := fun H1 e _ q =>
  h H1 e _ fun vs H2 e2 hv => ⟨sz_of (by rw [plen hv]; exact hl), fun p hp => q p _ (exf e2 hp) (ext e2 (exn hp)) ⟨p, vs, rfl, upd_same, pmap hv fun _ _ => r.ex (exn hp)⟩⟩
theorem en_lst {ta : TA} {as : List α} (h : EvA r ta σ H as) (hl : as.length ≤ 100000) : EvN (dL r) (tLst ta) σ H as := fun H1 e _ q =>
  h H1 e _ fun vs H2 e2 hv => ⟨sz_of (by rw [plen hv]; exact hl), fun p hp => q p _ (exf e2 hp) (ext e2 (exn hp)) ⟨p, vs, rfl, upd_same, pmap hv fun _ _ => r.ex (exn hp)⟩⟩
theorem en_pair (ha : Ev r ta σ H a) (hb : Ev s tb σ H b) : EvN (dP r s) (tTup (tCons ta (tCons tb tNil))) σ H (a, b) := fun H1 e _ q =>
  ha H1 e _ fun x H2 e2 hx => hb H2 (ext e e2) _ fun y H3 e3 hy => ⟨by show 2 ≤ sizeLine; decide, fun p hp => q p _ (exf (ext e2 e3) hp) (ext e2 (ext e3 (exn hp))) ⟨p, x, y, rfl, upd_same, r.ex (ext e3 (exn hp)) hx, s.ex (exn hp) hy⟩⟩
/-- a tuple of so many -/
theorem en_tupW {ta : TA} {P : Hp → List V → Prop} {n : Nat} (h : EvP ta σ H P) (hl : ∀ H vs, P H vs → vs.length = n) (hn : n ≤ 100000) : EvN dW (tTup ta) σ H n := fun H1 e _ q =>
  h H1 e _ fun vs H2 e2 hv => ⟨sz_of (by rw [hl _ _ hv]; exact hn), fun p hp => q p _ (exf e2 hp) (ext e2 (exn hp)) ⟨p, vs, rfl, upd_same, hl _ _ hv⟩⟩

/-! subscripts -/
theorem atI_p {F : V → α → Prop} {xs : List V} {as : List α} (h : Paired F xs as) (e : atI as k = some a) : ∃ x, atI xs k = some x ∧ F x a := by
  unfold atI at e ⊢
  rw [plen h]
  cases z : ixN as.length k with
  | none => rw [z] at e; cases e
  | some j =>
    rw [z] at e
    exact pget h e
theorem ev_ixT {as : List α} (ha : Ev (dT r) ta σ H as) (hb : Ev dI tb σ H k) (e : atI as k = some a) : Ev r (tOp (rIxT K) ta tb) σ H a :=
  ev_op ha hb fun x y H1 _ ⟨p, xs, h1, h2, h3⟩ hy _ q => by
    obtain ⟨v, hv, hr⟩ := atI_p h3 e
    exact ⟨p, xs, k, v, h1, hy, SqT.of h2, hv, q _ H1 exr hr⟩
theorem ev_ixL {as : List α} (ha : Ev (dL r) ta σ H as) (hb : Ev dI tb σ H k) (e : atI as k = some a) : Ev r (tOp (rIxL K) ta tb) σ H a :=
  ev_op ha hb fun x y H1 _ ⟨p, xs, h1, h2, h3⟩ hy _ q => by
    obtain ⟨v, hv, hr⟩ := atI_p h3 e
    exact ⟨p, xs, k, v, h1, hy, SqL.of h2, hv, q _ H1 exr hr⟩
theorem ev_ix0 {d : α × β} (ha : Ev (dP r s) ta σ H d) : Ev r (tOp (rIxT K) ta (tC (.int 0))) σ H d.1 :=
  ev_op ha ev_int fun x y H1 _ ⟨p, x0, y0, h1, h2, h3, h4⟩ hy _ q => ⟨p, _, 0, x0, h1, hy, SqT.of h2, rfl, q _ H1 exr h3⟩
theorem ev_ix1 {d : α × β} (ha : Ev (dP r s) ta σ H d) : Ev s (tOp (rIxT K) ta (tC (.int 1))) σ H d.2 :=
  ev_op ha ev_int fun x y H1 _ ⟨p, x0, y0, h1, h2, h3, h4⟩ hy _ q => ⟨p, _, 1, y0, h1, hy, SqT.of h2, rfl, q _ H1 exr h4⟩
theorem atI_last' {as : List α} : atI (as ++ [a]) (-1) = some a := by
  unfold atI ixN
  rw [if_neg (by decide), if_pos (by rw [List.length_append, List.length_singleton]; omega)]
  have e : (-1 + ((as ++ [a]).length : Nat) : Int).toNat = as.length := by rw [List.length_append, List.length_singleton]; omega
  show (some _).bind _ = _
  rw [e]
  simp
theorem eo_none : EvO tNoPart σ H none := fun H1 _ _ q => q H1 exr
theorem eo_some {i : Int} (h : Ev dI te σ H i) : EvO (tPart te) σ H (some i) := fun H1 e _ q => h H1 e _ fun v H2 e2 hv => ⟨i, hv, q H2 e2⟩
theorem pcut {F : V → α → Prop} {xs : List V} {as : List α} (h : Paired F xs as) (lo hi : Option Int) : Paired F (cutV xs lo hi) ((as.drop (HT.sIx as.length 0 lo)).take (HT.sIx as.length as.length hi - HT.sIx as.length 0 lo)) := by
  unfold cutV
  rw [plen h]
  exact ptake _ (pdrop _ h)
theorem en_slT {tl th : TO} {as : List α} {lo hi : Option Int} (h : Ev (dT r) te σ H as) (h1 : EvO tl σ H lo) (h2 : EvO th σ H hi) (hn : ¬ (HT.sIx as.length 0 lo = 0 ∧ HT.sIx as.length as.length hi = as.length)) :
    EvN (dT r) (tSl (rSlT K) te tl th) σ H ((as.drop (HT.sIx as.length 0 lo)).take (HT.sIx as.length as.length hi - HT.sIx as.length 0 lo)) := fun H1 e _ q =>
  h H1 e _ fun v H2 e2 ⟨p, xs, z1, z2, z3⟩ => h1 H2 (ext e e2) _ fun H3 e3 => h2 H3 (ext e (ext e2 e3)) _ fun H4 e4 => by
    subst z1
    exact ⟨p, xs, rfl, SqT.of (ext e3 e4 p _ z2), by rw [plen z3]; exact hn, fun l hl => q l _ (exf (ext e2 (ext e3 e4)) hl) (ext e2 (ext e3 (ext e4 (exn hl)))) ⟨l, _, rfl, upd_same, pmap (pcut z3 lo hi) fun _ _ => r.ex (ext e3 (ext e4 (exn hl)))⟩⟩
theorem en_slL {tl th : TO} {as : List α} {lo hi : Option Int} (h : Ev (dL r) te σ H as) (h1 : EvO tl σ H lo) (h2 : EvO th σ H hi) :
    EvN (dL r) (tSl (rSlL K) te tl th) σ H ((as.drop (HT.sIx as.length 0 lo)).take (HT.sIx as.length as.length hi - HT.sIx as.length 0 lo)) := fun H1 e _ q =>
  h H1 e _ fun v H2 e2 ⟨p, xs, z1, z2, z3⟩ => h1 H2 (ext e e2) _ fun H3 e3 => h2 H3 (ext e (ext e2 e3)) _ fun H4 e4 => by
    subst z1
    exact ⟨p, xs, rfl, SqL.of (ext e3 e4 p _ z2), fun l hl => q l _ (exf (ext e2 (ext e3 e4)) hl) (ext e2 (ext e3 (ext e4 (exn hl)))) ⟨l, _, rfl, upd_same, pmap (pcut z3 lo hi) fun _ _ => r.ex (ext e3 (ext e4 (exn hl)))⟩⟩

/-! calls -/
theorem ev_cb {w : R γ} {c : γ} {rr : List V → Hp → VK → Prop} {ta : TA} {P : Hp → List V → Prop} (h : EvP ta σ H P) (hr : ∀ vs H1, Ex H H1 → P H1 vs → ∀ Q : VK, (∀ v H2, Ex H1 H2 → w.is H2 v c → Q v H2) → rr vs H1 Q) : Ev w (tCB rr ta) σ H c := fun H1 e Q q =>
  h H1 e _ fun vs H2 e2 hp => hr vs H2 (ext e e2) hp Q fun v H3 e3 hv => q v H3 (ext e2 e3) hv
theorem en_cb {w : R γ} {c : γ} {rr : List V → Hp → VK → Prop} {ta : TA} {P : Hp → List V → Prop} (h : EvP ta σ H P) (hr : ∀ vs H1, Ex H H1 → P H1 vs → ∀ Q : VK, (∀ p H2, H1 p = none → Ex H1 H2 → w.is H2 (.ref p) c → Q (.ref p) H2) → rr vs H1 Q) : EvN w (tCB rr ta) σ H c := fun H1 e Q q =>
  h H1 e _ fun vs H2 e2 hp => hr vs H2 (ext e e2) hp Q fun v H3 hn e3 hv => q v H3 (exf e2 hn) (ext e2 e3) hv
/-- what a promise gives back -/
def Ret (w : R γ) (sp : Sp) (vs : List V) (H : Hp) (c : γ) : Prop := ∀ (Q : VK) (E : XK), (∀ v H2, Ex H H2 → w.is H2 v c → Q v H2) → sp vs H Q E
theorem ev_call {w : R γ} {c : γ} {sp : Sp} {E : XK} {ta : TA} {P : Hp → List V → Prop} (h : EvP ta σ H P) (hr : ∀ vs H1, Ex H H1 → P H1 vs → Ret w sp vs H1 c) : Ev w (tCall sp [] E ta) σ H c := fun H1 e Q q =>
  h H1 e _ fun vs H2 e2 hp => by
    rw [List.append_nil]
    exact hr vs H2 (ext e e2) hp Q E fun v H3 e3 hv => q v H3 (ext e2 e3) hv
def RetN (w : R γ) (sp : Sp) (vs : List V) (H : Hp) (c : γ) : Prop := ∀ (Q : VK) (E : XK), (∀ p H2, H p = none → Ex H H2 → w.is H2 (.ref p) c → Q (.ref p) H2) → sp vs H Q E
theorem en_call {w : R γ} {c : γ} {sp : Sp} {E : XK} {ta : TA} {P : Hp → List V → Prop} (h : EvP ta σ H P) (hr : ∀ vs H1, Ex H H1 → P H1 vs → RetN w sp vs H1 c) : EvN w (tCall sp [] E ta) σ H c := fun H1 e Q q =>
  h H1 e _ fun vs H2 e2 hp => by
    rw [List.append_nil]
    exact hr vs H2 (ext e e2) hp Q E fun v H3 hn e3 hv => q v H3 (exf e2 hn) (ext e2 e3) hv

/-! statements -/
variable {D : Ends} {tu tw : TS} {g : TG}
theorem sq {t u : TS} (h : t { D with nx := u D } σ H) : tSeq t u D σ H := h
theorem s_asg {i : Nat} (h : Ev r te σ H a) (k : ∀ v H1, Ex H H1 → r.is H1 v a → D.nx (σ.set i (some v)) H1) : tAsg te (gName i) D σ H := h H exr _ fun v H1 e hv => k v H1 e hv
theorem s_asgN {i : Nat} (h : EvN r te σ H a) (k : ∀ p H1, H p = none → Ex H H1 → r.is H1 (.ref p) a → D.nx (σ.set i (some (.ref p))) H1) : tAsg te (gName i) D σ H := h H exr _ fun p H1 hn e hv => k p H1 hn e hv
theorem s_ret (h : Ev r te σ H a) (k : ∀ v H1, Ex H H1 → r.is H1 v a → D.rt v H1) : tRet te D σ H := h H exr _ k
theorem s_retN (h : EvN r te σ H a) (k : ∀ p H1, H p = none → Ex H H1 → r.is H1 (.ref p) a → D.rt (.ref p) H1) : tRet te D σ H := h H exr _ k
theorem s_if {b : Bool} (h : EvT t σ H b) (h1 : b = true → ∀ H1, Ex H H1 → tu D σ H1) (h2 : b = false → ∀ H1, Ex H H1 → tw D σ H1) : tIfS t tu tw D σ H := h H exr _ fun H1 e => by
  cases b with
  | true =>
    show tu D σ H1
    exact h1 rfl H1 e
  | false =>
    show tw D σ H1
    exact h2 rfl H1 e
theorem s_drop (h : Ev r te σ H a) (k : ∀ H1, Ex H H1 → D.nx σ H1) : tDrop te D σ H := h H exr _ fun _ H1 e _ => k H1 e
theorem s_aug {i : Nat} {f : Int → Int → Int} {x y : Int} (hx : σ[i]? = some (some (.int x))) (h : Ev dI te σ H y) (k : ∀ H1, Ex H H1 → D.nx (σ.set i (some (.int (f x y)))) H1) : tAug i te (ipI f) D σ H :=
  ⟨.int x, hx, h H exr _ fun v H1 e hv => ⟨x, y, rfl, hv, k H1 e⟩⟩
theorem s_app {l : Addr} {xs : List V} (hl : H l = some (.lst xs)) (ha : Ev dV ta σ H (.ref l)) (h : Ev r te σ H a) (hz : xs.length < 100000) (k : ∀ v H1, Ex H H1 → r.is H1 v a → D.nx σ (upd H1 l (.lst (xs ++ [v])))) :
    tDrop (tBM K "list" rAppend ta (tCons te tNil)) D σ H := ha H exr _ fun x H1 e1 hx => by
  cases hx
  exact ⟨Or.inl ⟨rfl, xs, SqL.of (e1 l _ hl)⟩, h H1 e1 _ fun v H2 e2 hv => ⟨l, xs, v, rfl, rfl, e2 l _ (e1 l _ hl), sz_lt hz, k v H2 (ext e1 e2) hv⟩⟩
theorem s_extend {l : Addr} {xs : List V} {as : List α} (hl : H l = some (.lst xs)) (ha : Ev dV ta σ H (.ref l)) (h : Ev (dL r) te σ H as) (hz : xs.length + as.length ≤ 100000) (k : ∀ vs H1, Ex H H1 → Paired (r.is H1) vs as → D.nx σ (upd H1 l (.lst (xs ++ vs)))) :
    tDrop (tBM K "list" rExtend ta (tCons te tNil)) D σ H := ha H exr _ fun x H1 e1 hx => by
  cases hx
  exact ⟨Or.inl ⟨rfl, xs, SqL.of (e1 l _ hl)⟩, h H1 e1 _ fun v H2 e2 ⟨b, zs, z1, z2, z3⟩ => ⟨l, b, xs, zs, rfl, by rw [z1], e2 l _ (e1 l _ hl), z2, sz_of (by rw [plen z3]; exact hz), k zs H2 (ext e1 e2) z3⟩⟩
/-- xs[k] = e -/
theorem s_setL {l : Addr} {xs : List V} {k : Int} {j : Nat} (hl : H l = some (.lst xs)) (h : Ev r te σ H a) (ho : Ev dV ta σ H (.ref l)) (hi : Ev dI tb σ H k) (hj : ixN xs.length k = some j) (kk : ∀ v H1, Ex H H1 → r.is H1 v a → D.nx σ (upd H1 l (.lst (xs.set j v)))) :
    tAsg te (gSub ta tb rSetL) D σ H := h H exr _ fun v H1 e1 hv => ho H1 e1 _ fun o H2 e2 h2 => hi H2 (ext e1 e2) _ fun y H3 e3 h3 => by
  cases h2
  cases h3
  exact ⟨l, xs, k, j, rfl, rfl, ext e1 (ext e2 e3) l _ hl, hj, kk v H3 (ext e1 (ext e2 e3)) (r.ex (ext e2 e3) hv)⟩
/-- x, y = e1, e2 -/
theorem s_par {i j : Nat} (ha : Ev r ta σ H a) (hb : Ev s tb σ H b) (k : ∀ v w H1, Ex H H1 → r.is H1 v a → s.is H1 w b → D.nx ((σ.set i (some v)).set j (some w)) H1) : tPar i j (tCons ta (tCons tb tNil)) D σ H :=
  ha H exr _ fun v H1 e1 hv => hb H1 e1 _ fun w H2 e2 hw => ⟨v, w, rfl, k v w H2 (ext e1 e2) (r.ex e2 hv) hw⟩
/-- targets: a pair into two names -/
theorem g_pair {i j : Nat} {Q : St → Hp → Prop} {d : α × β} (h : (dP r s).is H v d) (k : ∀ x y, r.is H x d.1 → s.is H y d.2 → Q ((σ.set i (some x)).set j (some y)) H) : gTup K 2 (gCons (gName i) (gCons (gName j) gNil)) v σ H Q := by
  obtain ⟨p, x, y, h1, h2, h3, h4⟩ := h
  exact ⟨p, [x, y], h1, SqT.of h2, rfl, x, _, rfl, y, _, rfl, rfl, k x y h3 h4⟩
end
end Cu
set_option maxRecDepth 100000
/-! Cu 2: what is walked (Src, EvS), loops, comprehensions. -/
namespace Cu
open PySem L2
section
variable {α β γ : Type} {r : R α} {s : R β} {σ : L2.St} {H H' : Hp} {ta tb tc te tl : TE} {t u tt : TT} {a : α} {b : β} {v x y : V} {K : PySem.W.Frag} {i j k n m : Int} {as : List α} {bs : List β} {wi : TI} {g : TG}

/-! ### sources -/
def Src (r : R α) (J : It) (H : Hp) (as : List α) : Prop := Walk J as.length (fun H' => Ex H H') (fun i H1 x H2 => Ex H1 H2 ∧ ∃ a, as[i]? = some a ∧ r.is H2 x a)
def EvS (r : R α) (wi : TI) (σ : L2.St) (H : Hp) (as : List α) : Prop := ∀ H1, Ex H H1 → ∀ Q : It → Hp → Prop, (∀ J H2, Ex H1 H2 → Src r J H2 as → Q J H2) → wi σ H1 Q
theorem sqt_of {p : Addr} {xs : List V} (h : H p = some (.tup xs)) : SqT K H p xs := SqT.of h
theorem sql_of {p : Addr} {xs : List V} (h : H p = some (.lst xs)) : SqL K H p xs := SqL.of h
theorem src_tup {p : Addr} {xs : List V} (h : H p = some (.tup xs)) (hp : Paired (r.is H) xs as) : Src r (Itt K p) H as := by
  unfold Src
  rw [← plen hp]
  refine (walk_tup (K := K) (a := p) (xs := xs)).mono (fun H1 e => sqt_of (e p _ h)) fun i H1 x H2 _ e y => ?_
  obtain ⟨rfl, hx⟩ := y
  obtain ⟨a, ha, hr⟩ := pgetV hp hx
  exact ⟨exr, a, ha, r.ex e hr⟩
theorem src_lst {p : Addr} {xs : List V} (h : H p = some (.lst xs)) (hp : Paired (r.is H) xs as) : Src r (Itl K p) H as := by
  unfold Src
  rw [← plen hp]
  refine (walk_list (K := K) (a := p) (xs := xs)).mono (fun H1 e => sql_of (e p _ h)) fun i H1 x H2 _ e y => ?_
  obtain ⟨rfl, hx⟩ := y
  obtain ⟨a, ha, hr⟩ := pgetV hp hx
  exact ⟨exr, a, ha, r.ex e hr⟩
theorem es_tup (h : Ev (dT r) tl σ H as) : EvS r (iTup K tl) σ H as := fun H1 e Q q => h H1 e _ fun v H2 e2 ⟨p, xs, h1, h2, h3⟩ => ⟨p, h1, ⟨xs, sqt_of h2⟩, q _ H2 e2 (src_tup h2 h3)⟩
theorem es_lst (h : Ev (dL r) tl σ H as) : EvS r (iList K tl) σ H as := fun H1 e Q q => h H1 e _ fun v H2 e2 ⟨p, xs, h1, h2, h3⟩ => ⟨p, h1, ⟨xs, sql_of h2⟩, q _ H2 e2 (src_lst h2 h3)⟩
/-- a list or a tuple -/
def iSeq (K : PySem.W.Frag) (tl : TE) : TI := fun σ H Q => tl σ H fun x H1 => ∃ a, x = .ref a ∧ (((∃ xs, SqL K H1 a xs) ∧ Q (Itl K a) H1) ∨ ((∃ xs, SqT K H1 a xs) ∧ Q (Itt K a) H1))
theorem pi_seq {X : Cx} {tg l : Expr} (hl : PE X l tl) : PI X tg l (iSeq X.K tl) := by
  refine ⟨fun pins s σ H Q I h => ?_⟩
  refine thn (hl.run pins s σ H _ I h) fun v s1 ⟨x, H1, I1, r1, q1⟩ => ?_
  obtain ⟨a, e, ⟨⟨xs, hq⟩, q⟩ | ⟨⟨xs, hq⟩, q⟩⟩ := q1
  · subst e
    cases r1
    obtain ⟨its, rv, p, hz⟩ := I1.list hq
    refine wpAny_pyIter_list p.isList ?_
    refine ⟨s1.heap.objs.size, [s1.heap.objs.size], _, _, H1, rfl, I1.kept (t' := s1.toks) fun b o e => Heap.get?_push_of_some _ e, turn_list a _, ⟨_, Heap.get?_push_size _ rfl, rfl, rfl⟩, fun b hb => ?_, q⟩
    have e : b = s1.heap.objs.size := by simpa using hb
    subst e
    exact I1.fpOk (Nat.le_refl _) (I1.hok.fresh (Nat.le_refl _))
  · subst e
    cases r1
    obtain ⟨its, rv, p, hz⟩ := I1.tuple hq
    refine wpAny_pyIter_tuple (show s1.heap.IsTuple a its.toArray from p) ?_
    refine ⟨s1.heap.objs.size, [s1.heap.objs.size], _, _, H1, rfl, I1.kept (t' := s1.toks) fun b o e => Heap.get?_push_of_some _ e, turn_tuple a _, ⟨_, Heap.get?_push_size _ rfl, rfl, rfl⟩, fun b hb => ?_, q⟩
    have e : b = s1.heap.objs.size := by simpa using hb
    subst e
    exact I1.fpOk (Nat.le_refl _) (I1.hok.fresh (Nat.le_refl _))
theorem es_seq (h : Ev (dQ r) tl σ H as) : EvS r (iSeq K tl) σ H as := fun H1 e Q q => h H1 e _ fun v H2 e2 hv => by
  rcases hv with ⟨p, xs, h1, h2, h3⟩ | ⟨p, xs, h1, h2, h3⟩
  · exact ⟨p, h1, .inr ⟨⟨xs, sqt_of h2⟩, q _ H2 e2 (src_tup h2 h3)⟩⟩
  · exact ⟨p, h1, .inl ⟨⟨xs, sql_of h2⟩, q _ H2 e2 (src_lst h2 h3)⟩⟩
/-- lo, lo + c, .. -/
def rangeI (lo c : Int) (n : Nat) : List Int := (List.range n).map fun k : Nat => lo + (k : Int) * c
theorem rangeI_len {lo c : Int} {n : Nat} : (rangeI lo c n).length = n := by unfold rangeI; simp
theorem rangeI_get {lo c : Int} {n i : Nat} (h : i < n) : (rangeI lo c n)[i]? = some (lo + (i : Int) * c) := by
  unfold rangeI
  simp [h]
theorem src_range {lo : Int} {n : Nat} : Src dI (Itr lo n) H (rangeI lo 1 n) := by
  unfold Src
  rw [rangeI_len]
  refine (walk_range (lo := lo) (n := n)).mono (fun H1 e => trivial) fun i H1 x H2 hi e y => ?_
  obtain ⟨rfl, hx⟩ := y
  exact ⟨exr, _, rangeI_get hi, by rw [Int.mul_one]; exact hx⟩
theorem src_rangeC {lo c : Int} {n : Nat} : Src dI (Itc lo c n) H (rangeI lo c n) := by
  unfold Src
  rw [rangeI_len]
  refine (walk_rangeC (lo := lo) (c := c) (n := n)).mono (fun H1 e => trivial) fun i H1 x H2 hi e y => ?_
  obtain ⟨rfl, hx⟩ := y
  exact ⟨exr, _, rangeI_get hi, hx⟩
theorem es_range1 (h : Ev dI ta σ H n) (h1 : 0 ≤ n) (h2 : n ≤ 100000) : EvS dI (iRng1 (tCons ta tNil)) σ H (rangeI 0 1 n.toNat) := fun H1 e Q q => h H1 e _ fun v H2 e2 hv => by
  cases hv
  exact ⟨n, rfl, by omega, by omega, q _ H2 e2 src_range⟩
/-- the items with their places -/
def enumI (as : List α) : List (Int × α) := as.mapIdx fun i a => ((i : Int), a)
theorem enumI_len : (enumI as).length = as.length := by unfold enumI; simp
theorem enumI_get {i : Nat} : (enumI as)[i]? = as[i]?.map fun a => ((i : Int), a) := by unfold enumI; simp
theorem enumI_map : (enumI as).map (·.2) = as := by
  apply List.ext_getElem?
  intro i
  rw [List.getElem?_map, enumI_get]
  cases as[i]? <;> rfl

/-! ### comprehensions -/
/-- a target asks no more where more is wanted -/
def GM (g : TG) : Prop := ∀ v σ H (Q Q' : L2.St → Hp → Prop), (∀ σ H, Q σ H → Q' σ H) → g v σ H Q → g v σ H Q'
def GMs (g : TGs) : Prop := ∀ v σ H (Q Q' : L2.St → Hp → Prop), (∀ σ H, Q σ H → Q' σ H) → g v σ H Q → g v σ H Q'
theorem gm_name {i : Nat} : GM (gName i) := fun _ _ _ _ _ f h => f _ _ h
theorem gm_nil : GMs gNil := fun _ _ _ _ _ f h => ⟨h.1, f _ _ h.2⟩
theorem gm_cons {t : TG} {u : TGs} (h1 : GM t) (h2 : GMs u) : GMs (gCons t u) := fun _ _ _ _ _ f ⟨v, r, e, h⟩ => ⟨v, r, e, h1 _ _ _ _ _ (fun _ _ q => h2 _ _ _ _ _ f q) h⟩
theorem gm_tup {n : Nat} {t : TGs} (h : GMs t) : GM (gTup K n t) := fun _ _ _ _ _ f ⟨a, xs, e1, e2, e3, q⟩ => ⟨a, xs, e1, e2, e3, h _ _ _ _ _ f q⟩
theorem gm_pair {i j : Nat} : GM (gTup K 2 (gCons (gName i) (gCons (gName j) gNil))) := gm_tup (gm_cons gm_name (gm_cons gm_name gm_nil))
theorem ev_lc [ts : TR s] {vs : List Nat} (hg : GM g) (hs : EvS r wi σ H as) (hz : as.length < 100000) (p : α → Bool) (q : α → β)
    (hb : ∀ a x H1, a ∈ as → Ex H H1 → r.is H1 x a → g x (wipe σ vs) H1 fun σ2 H2 => H2 = H1 ∧ wipe σ2 vs = wipe σ vs ∧ EvT tt σ2 H1 (p a) ∧ (p a = true → Ev s te σ2 H1 (q a))) :
    EvN (dL s) (tLc wi g tt te vs) σ H ((as.filter p).map q) := fun H1 e Q k =>
  hs H1 e _ fun J H2 e2 w D hD => by
    refine lc_it w (fun i H' => Ex H2 H' ∧ ∃ ys, H' D = some (.lst ys) ∧ Paired (s.is H') ys (((as.take i).filter p).map q)) ⟨exn hD, [], upd_same, by simpa using .nil⟩ (fun i H' _ h => h.1) ?_ ?_
    · rintro i x H3 H4 hi ⟨e3, ys, hD3, hp3⟩ ⟨e4, a, ha, hr⟩
      have hmem : a ∈ as := List.mem_of_getElem? ha
      have etake : as.take (i + 1) = as.take i ++ [a] := by
        rw [List.take_add_one, ha]; rfl
      have ln : ((as.take i).filter p).length ≤ as.length := Nat.le_trans (List.length_filter_le _ _) (by rw [List.length_take]; omega)
      refine hg _ _ _ _ _ (fun σ2 H5 h5 => ?_) (hb a x H4 hmem (ext e (ext e2 (ext e3 e4))) hr)
      obtain ⟨rfl, hw, ht, hv⟩ := h5
      refine ⟨hw, ht _ exr _ fun H6 e6 => ?_⟩
      cases hpa : p a with
      | true =>
        refine hv hpa H6 e6 _ fun y H7 e7 hy => ⟨ys, ext e4 (ext e6 e7) D _ hD3, sz_lt (by rw [plen hp3, List.length_map]; omega), exm (ext e3 (ext e4 (ext e6 e7))) hD, _, upd_same, ?_⟩
        rw [etake, List.filter_append, List.map_append, List.filter_cons, if_pos hpa]
        have hD7 := ext e4 (ext e6 e7) D _ hD3
        exact psnoc (pmap hp3 fun v b h => ts.tx (txl hD7) (s.ex (ext e4 (ext e6 e7)) h)) (ts.tx (txl hD7) hy)
      | false =>
        refine ⟨ext e3 (ext e4 e6), ys, ext e4 e6 D _ hD3, ?_⟩
        rw [etake, List.filter_append, List.map_append, List.filter_cons, if_neg (by rw [hpa]; decide)]
        simp only [List.filter_nil, List.map_nil, List.append_nil]
        exact pmap hp3 fun _ _ => s.ex (ext e4 e6)
    · rintro H' ⟨e3, ys, hD3, hp3⟩
      rw [List.take_length] at hp3
      exact k D H' (exf e2 hD) (ext e2 e3) ⟨D, ys, rfl, hD3, hp3⟩
end
end Cu
set_option maxRecDepth 100000
set_option maxHeartbeats 2000000
/-! Cu 3: rules that the hand layer lacks: t[::-1] of a tuple, range with great numbers. -/
namespace Cu
open PySem PySem.Spec PyProof.Rows

/-! ### t[::-1] -/
section
variable {prog : Program} {w : World} {A : Around} {E : Value → Shared → Prop} {s : Shared}
theorem adjust_rev (n : Nat) : Builtin.Slice.sliceAdjust none none (-1) (n : Int) = ((n : Int) - 1, -1) := by
  unfold Builtin.Slice.sliceAdjust
  simp
theorem places_rev (n : Nat) : Builtin.Slice.slicePlaces ((n : Int) - 1) (-1) (-1) = n := by
  unfold Builtin.Slice.slicePlaces
  have h1 : ¬ ((-1 : Int) > 0) := by omega
  simp only [h1, if_false]
  split
  · rw [show (- -1 : Int) = 1 by decide, Int.ediv_one]; omega
  · omega
theorem pick_rev (xs : Array Value) : ((List.range xs.size).filterMap fun (k : Nat) => xs[(((xs.size : Int) - 1) + (k : Int) * (-1)).toNat]?).toArray = xs.toList.reverse.toArray := by
  congr 1
  have e : (List.range xs.size).filterMap (fun (k : Nat) => xs[(((xs.size : Int) - 1) + (k : Int) * (-1)).toNat]?) = ((List.range xs.size).map fun k => xs.size - 1 - k).filterMap (xs[·]?) := by
    have e1 : ((List.range xs.size).map fun k => xs.size - 1 - k) = (List.range xs.size).map fun (k : Nat) => (((xs.size : Int) - 1) + (k : Int) * (-1)).toNat := by
      apply List.map_congr_left
      intro k hk
      have := List.mem_range.mp hk
      omega
    rw [e1, List.filterMap_map]
    rfl
  rw [e, PySem.W.krv_range, List.filterMap_reverse, PySem.W.krv_all]
theorem getItem_tuple_rev {t sl : Addr} {items : Array Value} {vs : Value} {Q : Value → Shared → Prop} (ht : IsTup s.heap t items) (hs : s.heap.IsSliceOf sl .none .none vs) (ps : IsPart vs (some (-1)))
    (h : Q (.ref s.heap.objs.size) { s with heap := s.heap.push { cls := .type "tuple", data := .seq items.toList.reverse.toArray } })
    (hsz : items.size ≤ sizeLine) : wpAny (model prog w) A (getItem (.ref t) (.ref sl)) Q E s := by
  have htake : sizeOk (.seq items.toList.reverse.toArray) := by
    show items.toList.reverse.toArray.size ≤ sizeLine
    rw [List.size_toArray, List.length_reverse, Array.length_toList]
    exact hsz
  obtain ⟨os, hos, hcs, hds⟩ := id hs
  have hTs : s.TypeIs (.ref sl) "slice" := ⟨os, hos, hcs⟩
  unfold getItem
  try with_reducible refine wpAny_holding ?_
  first | refine wpAny_bind (wpAny_pure ?_) | skip
  refine wpAny_bind (wpAny_sequenceKey ht.typeIs (by decide) ?_)
  refine wpAny_bind (wpAny_callSpecial?_slot (name := Str.ofString "__getitem__") ht.typeIs PyProof.Rows.slot_tuple_getitem
    (wpAny_call_entry PyProof.Rows.slot_tuple_getitem ht.typeIs entry_tuple_getitem ?_ (args_tuple_getitem _ _)))
  show wpAny _ _ (Builtin.Tuple.tupleItemsOf (.ref t) >>= _) _ _ s
  refine wpAny_bind (tupleItemsOf_ ht ?_)
  refine wpAny_bind (wpAny_typeOf hTs ?_)
  rw [if_pos (by decide)]
  refine wpAny_bind ?_
  unfold Builtin.Slice.sliceApplied Builtin.Slice.sliceFields
  refine wpAny_bind (wpAny_bind (wpAny_field hos hds (x := .none) rfl (wpAny_bind (wpAny_field hos hds (x := .none) rfl (wpAny_bind (wpAny_field hos hds (x := vs) rfl (wpAny_pure ?_)))))))
  refine wpAny_bind (HT.slicePart_ ps ?_)
  show wpAny _ _ (if ((-1 : Int) == 0) = true then _ else _) _ _ s
  rw [if_neg (by decide)]
  refine wpAny_bind (HT.slicePart_ .none (wpAny_bind (HT.slicePart_ .none (wpAny_bind (wpAny_pure ?_)))))
  show wpAny _ _ (match Builtin.Slice.sliceAdjust none none (-1) (items.size : Int) with | (lo, hi) => pure (lo, (-1 : Int), Builtin.Slice.slicePlaces lo hi (-1))) _ _ s
  rw [adjust_rev items.size]
  show wpAny _ _ (pure (((items.size : Int) - 1), (-1 : Int), Builtin.Slice.slicePlaces ((items.size : Int) - 1) (-1) (-1))) _ _ s
  rw [places_rev]
  refine wpAny_pure ?_
  have hno : ¬ ((((items.size : Int) - 1) == 0 && (-1 : Int) == 1 && items.size == items.size) = true) := by
    intro q
    rw [Bool.and_eq_true, Bool.and_eq_true] at q
    exact absurd q.1.2 (by decide)
  show wpAny _ _ (if ((((items.size : Int) - 1) == 0 && (-1 : Int) == 1 && items.size == items.size)) = true then _ else _) _ _ s
  rw [if_neg hno, pick_rev]
  first
    | exact wpAny_bind (m := Builtin.Tuple.tupleExact _) (wpAny_newObj_type (wpAny_pure ⟨_, rfl, wpAny_pure h⟩) htake)
    | exact wpAny_bind (m := Builtin.Tuple.tupleExact _) (wpAny_newObj_type (wpAny_bind (wpAny_pure (wpAny_pure ⟨_, rfl, wpAny_pure h⟩))) htake)
    | exact wpAny_bind (wpAny_bind (m := Builtin.Tuple.tupleExact _) (wpAny_newObj_type (wpAny_pure (wpAny_pure ⟨_, rfl, wpAny_pure h⟩)) htake))
    | exact wpAny_bind (wpAny_bind (m := Builtin.Tuple.tupleExact _) (wpAny_newObj_type (wpAny_pure ⟨_, rfl, wpAny_pure h⟩) htake))
end
end Cu
namespace Cu
open PySem PySem.Spec PyProof.Rows L2
def tRevT (K : PySem.W.Frag) (te : TE) : TE := fun σ H Q => te σ H fun x H1 => ∃ a xs, x = .ref a ∧ SqT K H1 a xs ∧ ∀ p, H1 p = none → Q (.ref p) (upd H1 p (.tup xs.reverse))
section
variable {X : Cx} {α : Type} {r : R α} {te : TE} {σ : L2.St} {H : Hp} {as : List α} {K : PySem.W.Frag}
theorem pe_revT {e : Expr} {te : TE} {k : Nat} {p1 p2 p3 pos : Pos} (he : PE X e te) : PE X (.Subscript e (.Slice none none (some (.UnaryOp .USub (.Constant (.int 1) k p1) p2)) p3) pos) (tRevT X.K te) := by
  refine ⟨fun pins s σ H Q I h => ?_⟩
  refine Subscript_ (thn (he.run pins s σ H _ I h) fun v s1 ⟨x, H1, I1, r1, q1⟩ => ?_)
  obtain ⟨a, xs, ex, hx, q⟩ := q1
  subst ex
  cases r1
  have hst : PO X (some (.UnaryOp .USub (.Constant (.int 1) k p1) p2)) (tPart (tUn (rU fun i => .int (-i)) (tC (.int 1)))) := po_some (pe_un un_neg pe_int)
  refine wpAny_Slice (thn (po_none.run pins s1 σ H1 (fun o H2 => o = none ∧ H2 = H1) I1 ⟨rfl, rfl⟩) fun vl s2 ⟨l, H2, I2, pl, el, e2⟩ => ?_)
  subst el e2
  refine thn (po_none.run pins s2 σ H2 (fun o H3 => o = none ∧ H3 = H2) I2 ⟨rfl, rfl⟩) fun vu s3 ⟨u, H3, I3, pu, eu, e3⟩ => ?_
  subst eu e3
  refine thn (hst.run pins s3 σ H3 (fun o H4 => o = some (-1) ∧ H4 = H3) I3 ⟨1, rfl, -1, rfl, rfl, rfl⟩) fun vs s4 ⟨o, H4, I4, ps, eo, e4⟩ => ?_
  subst eo e4
  cases pl
  cases pu
  have I5 : Inv X pins σ H4 { s4 with heap := s4.heap.push { cls := .type "slice", data := .fields #[.none, .none, vs] } } := I4.kept (t' := s4.toks) fun b ob q => Heap.get?_push_of_some _ q
  obtain ⟨its, r, ht, hz⟩ := I5.tuple hx
  have hlen := r.length
  show wpAny (model X.prog X.w) X.A (subscriptTail e (.Slice none none (some (.UnaryOp .USub (.Constant (.int 1) k p1) p2)) p3) (.ref a) (.ref s4.heap.objs.size)) (EP X pins σ Q) X.xe { s4 with heap := s4.heap.push { cls := .type "slice", data := .fields #[.none, .none, vs] } }
  refine tail_any (ops := [.ref a, .ref s4.heap.objs.size]) ht.typeIs (PyProof.Rows.slot_tuple_getitem.lookup) ?_ (by with_unfolding_all rfl)
  refine getItem_tuple_rev ht (Heap.IsSliceOf.new _ .none .none vs) ps ?_ (by rw [List.size_toArray]; omega)
  refine ⟨.ref _, _, I5.laid (t' := s4.toks) (o := .tup xs.reverse) (fun b ob q => Heap.get?_push_of_some _ q) (Nat.le_refl _) ?_, rfl, q _ (I5.hok.fresh (Nat.le_refl _))⟩
  refine ⟨by rw [List.length_reverse]; exact hz, _, r.reverse, ?_⟩
  exact IsTup.new _ _
theorem en_revT (h : Ev (dT r) te σ H as) : EvN (dT r) (tRevT K te) σ H as.reverse := fun H1 e Q q => h H1 e _ fun v H2 e2 ⟨p, xs, h1, h2, h3⟩ =>
  ⟨p, xs, h1, SqT.of h2, fun l hl => q l _ (exf e2 hl) (ext e2 (exn hl)) ⟨l, _, rfl, upd_same, pmap (prev h3) fun _ _ => r.ex (exn hl)⟩⟩
theorem en_revL (h : Ev (dL r) te σ H as) : EvN (dL r) (tRevL K te) σ H as.reverse := fun H1 e Q q => h H1 e _ fun v H2 e2 ⟨p, xs, h1, h2, h3⟩ =>
  ⟨p, xs, h1, SqL.of h2, fun l hl => q l _ (exf e2 hl) (ext e2 (exn hl)) ⟨l, _, rfl, upd_same, pmap (prev h3) fun _ _ => r.ex (exn hl)⟩⟩

/-! ### range(a, b, c), numbers of any size -/
theorem turn_long {P : Program} {w : World} {K : PySem.W.Frag} {tg : Expr} (it : Addr) (lo c : Int) (n : Nat) : Turn P w K tg (Itc lo c n) [it] it (fun i h => IsLongIter h it (lo + (i : Nat) * c) ((n : Int) - (i : Nat)) c) where
  mem := by simp
  obj := fun i h st b hb => by
    have e : b = it := by simpa using hb
    subst e
    exact ⟨_, st, fun v z => nomatch z⟩
  keep := fun i h h' st k => k it (by simp) _ st
  item := by
    intro X hP hw hK hc i pins s σ H E I hf st hg
    subst hP hw hK
    obtain ⟨f0, f1, f2, f3, f4, f5⟩ := hf it (by simp)
    have W := Walks.longrange (prog := X.prog) (w := X.w) (I.ok.hd hc) it lo c n
    refine W.item i s _ _ hg st fun v h' tk hv st' kk => ?_
    obtain ⟨t, rfl⟩ := hv
    have I1 : Inv X pins σ H { s with heap := h', toks := tk } := I.turned (fun b o hb e => kk b o (by simpa using hb) e) f0 f1 f3 f4 f5
    exact ⟨_, rfl, go_of (s := { s with heap := h', toks := tk }) (n := "longrange_iterator") st' rfl rfl (by decide) ⟨.int (lo + (i : Nat) * c), H, I1, ⟨t, rfl⟩, ⟨rfl, rfl⟩, st', fun b hb => (hf b hb).1⟩⟩
  done := by
    intro X hP hw hK hc i pins s σ H E I hf st hg
    subst hP hw hK
    obtain ⟨f0, f1, f2, f3, f4, f5⟩ := hf it (by simp)
    exact wpAny_pyNext_long_end (I.ok.hd hc) st (by have : n ≤ i := hg; omega) fun h' eb => ⟨rfl, I.turned (t' := s.toks) (fun b o hb e => eb b o hb e) f0 f1 f3 f4 f5⟩
  self := fun A i s Q E st h => wpAny_pyIter_longiter st h
/-- range(i, j, c): n items; the step below 2 ^ 9000 -/
def RgW (i j c : Int) (n : Nat) : Prop := c ≠ 0 ∧ c.natAbs.log2 < 9000 ∧ Builtin.Range.rangeSize i j c = n
def iRng3W (ta : TA) : TI := fun σ H R => ta σ H fun vs H1 => ∃ (i j c : Int) (n : Nat), vs = [.int i, .int j, .int c] ∧ RgW i j c n ∧ R (Itc i c n) H1
theorem pi_range3W {tg a b c : Expr} {ta : TA} {p pos : Pos} (hg : Gl X "range") (hm : X.mg "range" = none) (ha : PA X [a, b, c] ta)
    (hs : starEach [a, b, c] X.env = (false, eval a X.env) :: starEach [b, c] X.env := by rfl) (hpl : (backTo pos (starEach [b, c] X.env)).any (·.1) = false := by rfl) :
    PI X tg (.Call (.Name "range" p) [a, b, c] [] pos) (iRng3W ta) := by
  refine ⟨fun pins s σ H R I h => ?_⟩
  refine Call_ (ld_blt I hg hm boot_range (PyProof.Rows.callWith_type1 (thn (ha.run pos pins s σ H _ I h) fun us s1 ⟨vs, H1, I1, r1, q1⟩ => ?_) hs hpl))
  obtain ⟨i, j, k, n, e, ⟨c0, c1, c3⟩, q⟩ := q1
  subst e
  cases r1 with
  | cons r rr =>
    cases rr with
    | cons r' rr =>
      cases rr with
      | cons r'' rr =>
        cases rr
        obtain ⟨t, rfl⟩ := r
        obtain ⟨t', rfl⟩ := r'
        obtain ⟨t'', rfl⟩ := r''
        refine call_range_3 c0 ?_ (.inl (PyProof.noPylong_of_log2 c1))
        have I2 : Inv X pins σ H1 { s1 with heap := s1.heap.push { cls := .type "range", data := .fields #[.int i t, .int j t', .int k t''] } } := I1.kept (t' := s1.toks) fun b o e => Heap.get?_push_of_some _ e
        have e1 : i + ((0 : Nat) : Int) * k = i := by simp
        have e2 : (n : Int) - ((0 : Nat) : Int) = Builtin.Range.rangeSize i j k := by rw [c3]; simp
        by_cases c2 : Builtin.Range.small i j k = true
        · refine wpAny_pyIter_range (IsRange.new ..) c2 ?_
          refine pi_one (tk := s1.toks) I2 _ (turn_rangeC _ i k n) ?_ q
          show IsRangeIter _ _ (i + ((0 : Nat) : Int) * k) ((n : Int) - ((0 : Nat) : Int)) k
          rw [e1, e2]
          exact Heap.get?_push_size _ rfl
        · refine wpAny_pyIter_longrange (IsRange.new ..) (by simpa using c2) ?_
          refine pi_one (tk := s1.toks) I2 _ (turn_long _ i k n) ?_ q
          show IsLongIter _ _ (i + ((0 : Nat) : Int) * k) ((n : Int) - ((0 : Nat) : Int)) k
          rw [e1, e2]
          exact Heap.get?_push_size _ rfl
end
end Cu
set_option maxRecDepth 100000
set_option maxHeartbeats 2000000
/-! Cu 4: enumerate(tuple). -/
namespace Cu
open PySem PySem.Spec PyProof.Rows L2
theorem meets_enum1 {v : Value} {o : Obj} {H : Heap → Prop} (B : Begins v o H) :
    Meets (Builtin.«enumerate.__new__» ⟨[.type "enumerate", v], []⟩) (fun _ R s => H s.heap ∧
      R (.ok (.ret (.ref (s.heap.push o).objs.size))) { s with heap := (s.heap.push o).push { cls := .type "enumerate", data := .fields #[.none, .bool false, .ref s.heap.objs.size, rawInt 0, .none, .none] } }) :=
  .of_wp fun prog w A R s h => by
    obtain ⟨hp, g, d, tk, os⟩ := s; obtain ⟨h1, h⟩ := h
    have hsub := sub_enumerate
    have q1 : ∀ {A' : Around} {E : Value → Shared → Prop} {Q : Value → Shared → Prop}, Q (.ref hp.objs.size) ⟨hp.push o, g, d, tk, os⟩ → wpAny (model prog w) A' (pyIter v) Q E ⟨hp, g, d, tk, os⟩ :=
      fun q => B.iter prog w _ _ ⟨hp, g, d, tk, os⟩ _ h1 q
    wp_walk using q1
    refine wpAny_stack_any fun st => wpAny_pure ?_
    split
    · rename_i c _ _ _ _ _
      cases (c == Value.type "enumerate")
      · wp_walk using q1
        exact ⟨_, rfl, h⟩
      · wp_walk using q1
        exact ⟨_, rfl, h⟩
    · wp_walk using q1
      exact ⟨_, rfl, h⟩
section
variable {prog : Program} {w : World} {A : Around} {E : Value → Shared → Prop} {s : Shared}
theorem enum_begins1 {v : Value} {o : Obj} {H : Heap → Prop} {Q : Value → Shared → Prop} (B : Begins v o H) (h1 : H s.heap)
    (h : ∀ h', IsEnum h' (s.heap.objs.size + 1) s.heap.objs.size 0 .none → h'.get? s.heap.objs.size = some o → h'.objs.size = s.heap.objs.size + 2 →
      (∀ b o, s.heap.get? b = some o → h'.get? b = some o) → Q (.ref (s.heap.objs.size + 1)) { s with heap := h' }) :
    wpAny (model prog w) A (call (.type "enumerate") [v]) Q E s := by
  refine callType_new F.called_enumerate (by decide) (F.typeCall_enumerate_1 _) (F.newCall_enumerate_1 _) (fun obj => F.args_object_init_2 obj _) F.entry_enumerate_new
    (meets_enum1 B) ⟨h1, ?_⟩
  have hz : (s.heap.push o).objs.size = s.heap.objs.size + 1 := Heap.size_push ..
  show _ ∧ _
  rw [hz]
  have he : IsEnum ((s.heap.push o).push { cls := .type "enumerate", data := .fields #[.none, .bool false, .ref s.heap.objs.size, rawInt 0, .none, .none] }) (s.heap.objs.size + 1) s.heap.objs.size 0 .none := by
    have := Heap.get?_push_size (s.heap.push o) (o := { cls := .type "enumerate", data := .fields #[.none, .bool false, .ref s.heap.objs.size, rawInt 0, .none, .none] }) rfl
    rw [hz] at this; exact this
  refine ⟨⟨_, he, rfl⟩, h _ he (Heap.get?_push_of_some _ (Heap.get?_push_size _ B.free)) (by rw [Heap.size_push, hz]) fun b o x => Heap.get?_push_of_some _ (Heap.get?_push_of_some _ x)⟩
end

section
variable {prog : Program} {w : World} {A : Around} {E : Value → Shared → Prop} {s : Shared}
theorem enum_end_tup {e it t : Addr} {i : Nat} {items : Array Value} {old : Value} {Q : Option Value → Shared → Prop} (hh : A.handled = none)
    (he : IsEnum s.heap e it i old) (hit : s.heap.IsTupleIter it t i) (hl : s.heap.IsTuple t items) (hx : items[i]? = none)
    (hQ : ∀ h', Heap.ExtBut it s.heap h' → Q none { s with heap := h' }) : wpAny (model prog w) A (pyNext (.ref e)) Q E s := by
  have hT : s.TypeIs (.ref e) "enumerate" := ⟨_, he, rfl⟩
  unfold pyNext
  refine wpAny_bind (wpAny_attempt (wpAny_callSpecial?_slot (name := Str.ofString "__next__") hT F.slot_enumerate_next
    (wpAny_call_entry F.slot_enumerate_next hT F.entry_enumerate_next ?_ (F.args_enumerate_next_1 _))))
  show wpAny _ _ (field (.ref e) 2 >>= _) _ _ _
  refine wpAny_bind (wpAny_field he rfl (x := .ref it) rfl ?_)
  refine wpAny_bind (wpAny_nextOf_tuple_end hh hit hl hx fun h' x he' hx' => ?_)
  obtain ⟨o, ho, hc⟩ := hx'
  refine wpAny_bind (wpAny_isInstance (T := "StopIteration") (b := true) ⟨o, ho, hc⟩ isSubtype_stop ?_)
  exact wpAny_pure (hQ _ he')
end

/-- the tuple at a, each item in a new pair -/
def IteT (K : PySem.W.Frag) (a : Addr) : It :=
  ⟨fun i H => ∃ (xs : List V) (x : V), SqT K H a xs ∧ xs[i]? = some x, fun i H v H' => ∃ T x, v = .ref T ∧ H T = none ∧ H' = upd H T (.tup [.int (i : Nat), x]) ∧ ∀ xs, SqT K H a xs → xs[i]? = some x, fun i H => ∃ xs : List V, SqT K H a xs ∧ xs.length ≤ i⟩
theorem turn_enumT {P : Program} {w : World} {K : PySem.W.Frag} {elts : List Expr} {kk : Nat} {tpos : Pos} (a e it : Addr) :
    Turn P w K (.Tuple elts kk tpos) (IteT K a) [e, it] e (fun i h => (∃ old, IsEnum h e it ((i : Nat) : Int) old) ∧ h.IsTupleIter it a i ∧ e ≠ it ∧ a ≠ it ∧ a ≠ e) where
  mem := by simp
  obj := fun i h st b hb => by
    obtain ⟨⟨old, he⟩, ⟨o, ho, hc, hd⟩, _⟩ := st
    have e' : b = e ∨ b = it := by simpa using hb
    rcases e' with z | z
    · rw [z]; exact ⟨_, he, fun v q => nomatch q⟩
    · rw [z]; exact ⟨o, ho, fun v q => by rw [hd] at q; cases q⟩
  keep := fun i h h' st k => let ⟨⟨old, he⟩, hi, hne⟩ := st; ⟨⟨old, k e (by simp) _ he⟩, hi.at fun o q => k it (by simp) o q, hne⟩
  item := by
    intro X hP hw hK hc i pins s σ H E I hf st hg
    subst hP hw hK
    obtain ⟨⟨old, he⟩, hit, hne, hai, hae⟩ := st
    obtain ⟨xs, x, hq, hx⟩ := hg
    obtain ⟨its, rv, p, hz⟩ := I.tuple hq
    have p' : s.heap.IsTuple a its.toArray := p
    have hlt : i < its.toArray.size := by
      have := (List.getElem?_eq_some_iff.mp hx).1
      rw [List.size_toArray, ← rv.length]
      exact this
    have hel : e < s.heap.objs.size := Heap.lt_size he
    have hil : it < s.heap.objs.size := by obtain ⟨_, q, _⟩ := hit; exact Heap.lt_size q
    have D := Draws.tuple (prog := X.prog) (w := X.w) (A := X.A.in1) (I.ok.hd hc) it a hai its.toArray
    refine wpAny_pyNext_enum_itemD D he ⟨hit, p'⟩ hlt hne (fun hm => ?_) fun u h' tk hP ho hst' hT hsz hk => ?_
    · rcases List.mem_cons.mp hm with z | hm
      · exact hne z
      · exact hae (List.mem_singleton.mp hm).symm
    have hPl : its[i]? = some u := by simpa using hP
    obtain ⟨u2, hu2, ru⟩ := rv.get hx
    rw [hPl] at hu2
    cases hu2
    refine ⟨_, rfl, wpAny_letOwnedTupleGo_enum (s := { s with heap := h', toks := tk + 1 }) ho fun h'' he' sb => ?_⟩
    have hT2 : h''.get? s.heap.objs.size = some { cls := .type "tuple", data := .seq #[.int i tk, u] } := (sb.2 _ (Nat.ne_of_gt hel)).trans hT
    have new : ObjOk X.prog X.w (upd H s.heap.objs.size (.tup [.int (i : Nat), x])) h'' s.heap.objs.size (.tup [.int (i : Nat), x]) :=
      ⟨by show 2 ≤ sizeLine; decide, [.int i tk, u], .cons ⟨_, rfl⟩ (.cons ru .nil), ⟨_, hT2, rfl, _, rfl⟩⟩
    have I1 : Inv X pins σ (upd H s.heap.objs.size (.tup [.int (i : Nat), x])) { s with heap := h'', toks := tk + 1 } :=
      I.turnedNew (ch := [e, it]) (fun b ob hb q => (sb.2 b (fun z => hb (by simp [z]))).trans (hk b ob (fun z => hb (by simp [z])) (fun z => hb (by simp [z])) q)) hf (Nat.le_refl _) new
    refine ⟨.ref s.heap.objs.size, _, I1, rfl, ⟨_, x, rfl, I.hok.fresh (Nat.le_refl _), rfl, fun ys hy => by rw [I.tuple_inj hy hq]; exact hx⟩, ⟨⟨u, ?_⟩, hst'.1.at fun o q => (sb.2 it (Ne.symm hne)).trans q, hne, hai, hae⟩, fun b hb => ?_⟩
    · have e1 : ((i + 1 : Nat) : Int) = (i : Int) + 1 := by omega
      rw [e1]; exact he'
    · have hb' : b < s.heap.objs.size := by
        have e' : b = e ∨ b = it := by simpa using hb
        rcases e' with z | z
        · rw [z]; exact hel
        · rw [z]; exact hil
      rw [upd_ne (Nat.ne_of_lt hb')]
      exact (hf b hb).1
  done := by
    intro X hP hw hK hc i pins s σ H E I hf st hg
    subst hP hw hK
    obtain ⟨⟨old, he⟩, hit, hne, hai, hae⟩ := st
    obtain ⟨xs, hq, hx⟩ := hg
    obtain ⟨its, rv, p, hz⟩ := I.tuple hq
    have p' : s.heap.IsTuple a its.toArray := p
    obtain ⟨f0, f1, f2, f3, f4, f5⟩ := hf it (by simp)
    have hl := rv.length
    exact enum_end_tup (I.ok.hd hc) he hit p' (by simp; omega) fun h' eb => ⟨rfl, I.turned (t' := s.toks) (fun b o hb q => eb b o hb q) f0 f1 f3 f4 f5⟩
  self := fun A i s Q E st h => let ⟨⟨_, he⟩, _⟩ := st; wpAny_pyIter_enum he h
def iEnumT (K : PySem.W.Frag) (ta : TA) : TI := fun σ H R => ta σ H fun vs H1 => ∃ a xs, vs = [.ref a] ∧ SqT K H1 a xs ∧ R (IteT K a) H1
theorem pi_enumT {X : Cx} {e : Expr} {ta : TA} {p pos tpos : Pos} {elts : List Expr} {kk : Nat} (hg : Gl X "enumerate") (hm : X.mg "enumerate" = none) (ha : PA X [e] ta) (hs : starEach [e] X.env = [(false, eval e X.env)] := by rfl) :
    PI X (.Tuple elts kk tpos) (.Call (.Name "enumerate" p) [e] [] pos) (iEnumT X.K ta) := by
  refine ⟨fun pins s σ H R I h => ?_⟩
  refine Call_ (ld_blt I hg hm boot_enumerate (PyProof.Rows.callWith_type1 (thn (ha.run pos pins s σ H _ I h) fun us s1 ⟨vs, H1, I1, r1, q1⟩ => ?_) hs rfl))
  obtain ⟨a, xs, ex, hq, q⟩ := q1
  subst ex
  cases r1 with
  | cons r rr =>
    cases rr
    cases r
    obtain ⟨its, rv, p', hz⟩ := I1.tuple hq
    have p2 : s1.heap.IsTuple a its.toArray := p'
    have hal : a < s1.heap.objs.size := by obtain ⟨_, q, _⟩ := p2; exact Heap.lt_size q
    refine enum_begins1 (begins_tuple a its.toArray) p2 fun h' he hit hsz hk => wpAny_pyIter_enum he ?_
    have I2 : Inv X pins σ H1 { s1 with heap := h' } := I1.kept (t' := s1.toks) hk
    refine ⟨s1.heap.objs.size + 1, [s1.heap.objs.size + 1, s1.heap.objs.size], _, _, H1, rfl, I2, turn_enumT a (s1.heap.objs.size + 1) s1.heap.objs.size, ⟨⟨.none, he⟩, ⟨_, hit, rfl, rfl⟩, Nat.succ_ne_self _, Nat.ne_of_lt hal, Nat.ne_of_lt (Nat.lt_succ_of_lt hal)⟩, fun b hb => ?_, q⟩
    have e' : b = s1.heap.objs.size + 1 ∨ b = s1.heap.objs.size := by simpa using hb
    have hle : s1.heap.objs.size ≤ b := by
      rcases e' with z | z
      · rw [z]; exact Nat.le_add_right _ _
      · rw [z]; exact Nat.le_refl _
    exact I1.fpOk hle (I1.hok.fresh hle)
section
variable {α β : Type} {r : R α} {s : R β} {σ : L2.St} {H : Hp} {te ta tb : TE} {as : List α} {bs : List β} {K : PySem.W.Frag}
theorem walk_enumT {a : Addr} {xs : List V} : Walk (IteT K a) xs.length (fun H => SqT K H a xs) (YPair (fun i => some (.int (i : Nat))) (fun i => xs[i]?)) := by
  refine ⟨fun i _ hi q => ⟨xs, xs[i], q, by simp [hi]⟩, fun _ q => ⟨xs, q, Nat.le_refl _⟩, fun i H v H' _ q y => ?_⟩
  obtain ⟨T, x, h1, h2, h3, h4⟩ := y
  exact ⟨T, .int (i : Nat), x, h1, h2, h3, rfl, h4 xs q⟩
theorem src_enumT {p : Addr} {xs : List V} (h : H p = some (.tup xs)) (hp : Paired (r.is H) xs as) : Src (dP dI r) (IteT K p) H (enumI as) := by
  unfold Src
  rw [enumI_len, ← plen hp]
  refine (walk_enumT (K := K) (a := p) (xs := xs)).mono (fun H1 e => SqT.of (e p _ h)) fun i H1 x H2 _ e y => ?_
  obtain ⟨T, x0, y0, rfl, hn, rfl, e1, e2⟩ := y
  cases e1
  obtain ⟨a, ha, hr⟩ := pgetV hp e2
  refine ⟨exn hn, ((i : Int), a), by rw [enumI_get, ha]; rfl, T, _, y0, rfl, upd_same, rfl, r.ex (ext e (exn hn)) hr⟩
theorem es_enumT (h : Ev (dT r) te σ H as) : EvS (dP dI r) (iEnumT K (tCons te tNil)) σ H (enumI as) := fun H1 e Q q => h H1 e _ fun v H2 e2 ⟨p, xs, h1, h2, h3⟩ => ⟨p, xs, by rw [h1], SqT.of h2, q _ H2 e2 (src_enumT h2 h3)⟩
/-- enumerate(list) -/
theorem src_enumL {p : Addr} {xs : List V} (h : H p = some (.lst xs)) (hp : Paired (r.is H) xs as) : Src (dP dI r) (Ite K p) H (enumI as) := by
  unfold Src
  rw [enumI_len, ← plen hp]
  refine (walk_enum (K := K) (a := p) (xs := xs)).mono (fun H1 e => SqL.of (e p _ h)) fun i H1 x H2 _ e y => ?_
  obtain ⟨T, x0, y0, rfl, hn, rfl, e1, e2⟩ := y
  cases e1
  obtain ⟨a, ha, hr⟩ := pgetV hp e2
  refine ⟨exn hn, ((i : Int), a), by rw [enumI_get, ha]; rfl, T, _, y0, rfl, upd_same, rfl, r.ex (ext e (exn hn)) hr⟩
/-- zip of two lists, of two tuples -/
theorem walk_zipT {a b : Addr} {xs ys : List V} {n : Nat} (hn : n = min xs.length ys.length) : Walk (RZ.ItzT K a b) n (fun H => SqT K H a xs ∧ SqT K H b ys) (YPair (fun i => xs[i]?) (fun i => ys[i]?)) := by
  subst hn
  refine ⟨fun i _ hi q => ?_, fun _ q => ⟨xs, ys, q.1, q.2, by omega⟩, fun i H v H' _ q y => ?_⟩
  · have h1 : i < xs.length := by omega
    have h2 : i < ys.length := by omega
    exact ⟨xs, ys, xs[i], ys[i], q.1, q.2, by simp [h1], by simp [h2]⟩
  · obtain ⟨T, x, z, h1, h2, h3, h4, h5⟩ := y
    exact ⟨T, x, z, h1, h2, h3, h4 xs q.1, h5 ys q.2⟩
theorem zip_get {i : Nat} {a : α} {b : β} (h1 : as[i]? = some a) (h2 : bs[i]? = some b) : (as.zip bs)[i]? = some (a, b) := by
  rw [List.getElem?_zip_eq_some]
  exact ⟨h1, h2⟩
theorem src_zipT {p q : Addr} {xs ys : List V} (h : H p = some (.tup xs)) (hp : Paired (r.is H) xs as) (h' : H q = some (.tup ys)) (hq : Paired (s.is H) ys bs) : Src (dP r s) (RZ.ItzT K p q) H (as.zip bs) := by
  unfold Src
  refine (walk_zipT (K := K) (a := p) (b := q) (xs := xs) (ys := ys) (by rw [List.length_zip, plen hp, plen hq])).mono (fun H1 e => ⟨SqT.of (e p _ h), SqT.of (e q _ h')⟩) fun i H1 x H2 _ e y => ?_
  obtain ⟨T, x0, y0, rfl, hn, rfl, e1, e2⟩ := y
  obtain ⟨a, ha, hr⟩ := pgetV hp e1
  obtain ⟨b, hb, hs⟩ := pgetV hq e2
  exact ⟨exn hn, (a, b), zip_get ha hb, T, x0, y0, rfl, upd_same, r.ex (ext e (exn hn)) hr, s.ex (ext e (exn hn)) hs⟩
theorem src_zipL {p q : Addr} {xs ys : List V} (h : H p = some (.lst xs)) (hp : Paired (r.is H) xs as) (h' : H q = some (.lst ys)) (hq : Paired (s.is H) ys bs) : Src (dP r s) (Itz K p q) H (as.zip bs) := by
  unfold Src
  refine (walk_zip (K := K) (a := p) (b := q) (xs := xs) (ys := ys) (by rw [List.length_zip, plen hp, plen hq])).mono (fun H1 e => ⟨SqL.of (e p _ h), SqL.of (e q _ h')⟩) fun i H1 x H2 _ e y => ?_
  obtain ⟨T, x0, y0, rfl, hn, rfl, e1, e2⟩ := y
  obtain ⟨a, ha, hr⟩ := pgetV hp e1
  obtain ⟨b, hb, hs⟩ := pgetV hq e2
  exact ⟨exn hn, (a, b), zip_get ha hb, T, x0, y0, rfl, upd_same, r.ex (ext e (exn hn)) hr, s.ex (ext e (exn hn)) hs⟩
theorem es_zipT (h : Ev (dT r) ta σ H as) (h' : Ev (dT s) tb σ H bs) : EvS (dP r s) (RZ.iZipA K (tCons ta (tCons tb tNil))) σ H (as.zip bs) := fun H1 e Q q => h H1 e _ fun v H2 e2 ⟨p, xs, h1, h2, h3⟩ =>
  h' H2 (ext e e2) _ fun w H3 e3 ⟨p', ys, h1', h2', h3'⟩ => ⟨p, p', xs, ys, by rw [h1, h1'], .inr ⟨SqT.of (e3 p _ h2), SqT.of h2', q _ H3 (ext e2 e3) (src_zipT (e3 p _ h2) (pmap h3 fun _ _ => r.ex e3) h2' h3')⟩⟩
theorem es_zipL (h : Ev (dL r) ta σ H as) (h' : Ev (dL s) tb σ H bs) : EvS (dP r s) (RZ.iZipA K (tCons ta (tCons tb tNil))) σ H (as.zip bs) := fun H1 e Q q => h H1 e _ fun v H2 e2 ⟨p, xs, h1, h2, h3⟩ =>
  h' H2 (ext e e2) _ fun w H3 e3 ⟨p', ys, h1', h2', h3'⟩ => ⟨p, p', xs, ys, by rw [h1, h1'], .inl ⟨SqL.of (e3 p _ h2), SqL.of h2', q _ H3 (ext e2 e3) (src_zipL (e3 p _ h2) (pmap h3 fun _ _ => r.ex e3) h2' h3')⟩⟩
end
end Cu
set_option maxRecDepth 100000
set_option maxHeartbeats 2000000
/-! Cu 5: min and max of data, dict.update. -/
namespace Cu
open PySem PySem.Spec PyProof.Rows PySem.W PySem.SeqAt
section
variable {prog : Program} {w : World} {A : Around} {E : Value → Shared → Prop} {s : Shared}
theorem minL_at {l : Addr} {vs : Array Value} {x : PyData} {xs : List PyData} {as : List Addr} {Q : Value → Shared → Prop} (hh : A.handled = none) (hl : s.heap.IsList l vs) (hr : ReadsAll s.heap vs.toList (x :: xs) as) (ha : AlikeAll (x :: xs)) (hu : A.units + 1 + PyData.depthAll (x :: xs) < cLine)
    (h : ∀ (i : Nat) v h' tk, vs[i]? = some v → (x :: xs).getD i .none = minD x xs → (∀ b o, s.heap.get? b = some o → h'.get? b = some o) → Q v { s with heap := h', toks := tk }) :
    wpAny (model prog w) A (call (.builtin "min") [.ref l]) Q E s := by
  have hn : vs.size = xs.length + 1 := readsAll_len hr
  refine call_min_walkH (iter_listW (A := A.in1) hh hl fun s₂ e W st hfp hw hk => ?_)
  refine ⟨_, _, _, _, _, _, _, s.heap, _, rfl, W, st, hfp, by omega, hw, hk, cmpIn_lt (A := A.in1) hr ha (by show A.units + 1 + _ < _; exact hu), fun v s' hP m => ?_⟩
  obtain ⟨h', tk, rfl, hk'⟩ := moved_old e rfl m
  have e1 : vs.size - 1 = xs.length := by omega
  have e2 := (argBest_fold dataLt PyData.none x xs xs.length (Nat.le_refl _)).2
  rw [List.take_length] at e2
  rw [e1] at hP
  exact h _ v h' tk hP (by unfold minD; rw [← e2]) hk'
theorem minT_at {l : Addr} {vs : Array Value} {x : PyData} {xs : List PyData} {as : List Addr} {Q : Value → Shared → Prop} (hh : A.handled = none) (hl : s.heap.IsTuple l vs) (hr : ReadsAll s.heap vs.toList (x :: xs) as) (ha : AlikeAll (x :: xs)) (hu : A.units + 1 + PyData.depthAll (x :: xs) < cLine)
    (h : ∀ (i : Nat) v h' tk, vs[i]? = some v → (x :: xs).getD i .none = minD x xs → (∀ b o, s.heap.get? b = some o → h'.get? b = some o) → Q v { s with heap := h', toks := tk }) :
    wpAny (model prog w) A (call (.builtin "min") [.ref l]) Q E s := by
  have hn : vs.size = xs.length + 1 := readsAll_len hr
  refine call_min_walkH (iter_tupleW (A := A.in1) hh hl fun s₂ e W st hfp hw hk => ?_)
  refine ⟨_, _, _, _, _, _, _, s.heap, _, rfl, W, st, hfp, by omega, hw, hk, cmpIn_lt (A := A.in1) hr ha (by show A.units + 1 + _ < _; exact hu), fun v s' hP m => ?_⟩
  obtain ⟨h', tk, rfl, hk'⟩ := moved_old e rfl m
  have e1 : vs.size - 1 = xs.length := by omega
  have e2 := (argBest_fold dataLt PyData.none x xs xs.length (Nat.le_refl _)).2
  rw [List.take_length] at e2
  rw [e1] at hP
  exact h _ v h' tk hP (by unfold minD; rw [← e2]) hk'
theorem maxT_at {l : Addr} {vs : Array Value} {x : PyData} {xs : List PyData} {as : List Addr} {Q : Value → Shared → Prop} (hh : A.handled = none) (hl : s.heap.IsTuple l vs) (hr : ReadsAll s.heap vs.toList (x :: xs) as) (ha : AlikeAll (x :: xs)) (hu : A.units + 1 + PyData.depthAll (x :: xs) < cLine)
    (h : ∀ (i : Nat) v h' tk, vs[i]? = some v → (x :: xs).getD i .none = maxD x xs → (∀ b o, s.heap.get? b = some o → h'.get? b = some o) → Q v { s with heap := h', toks := tk }) :
    wpAny (model prog w) A (call (.builtin "max") [.ref l]) Q E s := by
  have hn : vs.size = xs.length + 1 := readsAll_len hr
  refine call_max_walkH (iter_tupleW (A := A.in1) hh hl fun s₂ e W st hfp hw hk => ?_)
  refine ⟨_, _, _, _, _, _, _, s.heap, _, rfl, W, st, hfp, by omega, hw, hk, cmpIn_gt (A := A.in1) hr ha (by show A.units + 1 + _ < _; exact hu), fun v s' hP m => ?_⟩
  obtain ⟨h', tk, rfl, hk'⟩ := moved_old e rfl m
  have e1 : vs.size - 1 = xs.length := by omega
  have e2 := (argBest_fold (fun a b => dataLt b a) PyData.none x xs xs.length (Nat.le_refl _)).2
  rw [List.take_length] at e2
  rw [e1] at hP
  exact h _ v h' tk hP (by unfold maxD; rw [← e2]) hk'
end
end Cu
namespace Cu
open PySem PySem.Spec PyProof.Rows L2
/-! ### a kind of value as data -/
structure Py {α : Type} (r : R α) (f : α → PyData) : Prop where
  dp : ∀ (K : PySem.W.Frag) (H : Hp) (v : V) (a : α), r.is H v a → Dp K H v (f a)
section
variable {α β : Type} {r : R α} {s : R β} {f : α → PyData} {g : β → PyData} {K : PySem.W.Frag} {H : Hp}
theorem dpAll (h : Py r f) : ∀ {xs : List V} {as : List α}, Paired (r.is H) xs as → DpAll K H xs (as.map f)
  | _, _, .nil => .nil
  | _, _, .cons p t => .cons (h.dp K H _ _ p) (dpAll h t)
theorem py_I : Py dI PyData.int := ⟨fun K H v a h => by cases h; exact .int a⟩
theorem py_B : Py dB PyData.bool := ⟨fun K H v a h => by cases h; exact .bl a⟩
theorem py_T (h : Py r f) : Py (dT r) fun as => .tuple (as.map f) := ⟨fun K H v a ⟨p, xs, h1, h2, h3⟩ => by subst h1; exact .tup (SqT.of h2) (dpAll h h3)⟩
theorem py_L (h : Py r f) : Py (dL r) fun as => .list (as.map f) := ⟨fun K H v a ⟨p, xs, h1, h2, h3⟩ => by subst h1; exact .lst (SqL.of h2) (dpAll h h3)⟩
theorem py_P (h : Py r f) (h' : Py s g) : Py (dP r s) fun d => .tuple [f d.1, g d.2] := ⟨fun K H v a ⟨p, x, y, h1, h2, h3, h4⟩ => by subst h1; exact .tup (SqT.of h2) (.cons (h.dp K H _ _ h3) (.cons (h'.dp K H _ _ h4) .nil))⟩
theorem py_O (h : Py r f) : Py (dO r) fun o => match o with
    | none => PyData.none
    | some a => f a := ⟨fun K H v o hv => match o, hv with
    | none, hv => by cases (show v = .non from hv); exact .non
    | some a, hv => h.dp K H _ _ hv.2⟩

/-! ### == of data -/
variable {σ : L2.St} {ta tb te : TE} {a : α} {b : β}
theorem ev_eqD (pr : Py r f) (ps : Py s g) (ha : Ev r ta σ H a) (hb : Ev s tb σ H b) (sa : SeqAt.shaped (f a) = true) (sb : SeqAt.shaped (g b) = true) : Ev dB (tOp (rEqD K) ta tb) σ H (PyData.eqv (f a) (g b)) :=
  ev_op ha hb fun x y H1 _ hx hy _ q => ⟨f a, g b, pr.dp K H1 x a hx, ps.dp K H1 y b hy, sa, sb, q _ H1 exr rfl⟩
theorem ev_neD (pr : Py r f) (ps : Py s g) (ha : Ev r ta σ H a) (hb : Ev s tb σ H b) (sa : SeqAt.shaped (f a) = true) (sb : SeqAt.shaped (g b) = true) : Ev dB (tOp (rNeD K) ta tb) σ H (!PyData.eqv (f a) (g b)) :=
  ev_op ha hb fun x y H1 _ hx hy _ q => ⟨f a, g b, pr.dp K H1 x a hx, ps.dp K H1 y b hy, sa, sb, q _ H1 exr rfl⟩
end

/-! ### min, max of data -/
open PySem.W in
def rMinD (K : PySem.W.Frag) : List V → Hp → VK → Prop := fun vs H Q => ∃ (a : Addr) (xs : List V) (d : PyData) (ds : List PyData), vs = [.ref a] ∧ (SqL K H a xs ∨ SqT K H a xs) ∧ DpAll K H xs (d :: ds) ∧ AlikeAll (d :: ds) ∧ PyData.depthAll (d :: ds) ≤ 60 ∧
  ∀ i x, xs[i]? = some x → (d :: ds).getD i .none = minD d ds → Q x H
open PySem.W in
def rMaxD (K : PySem.W.Frag) : List V → Hp → VK → Prop := fun vs H Q => ∃ (a : Addr) (xs : List V) (d : PyData) (ds : List PyData), vs = [.ref a] ∧ SqT K H a xs ∧ DpAll K H xs (d :: ds) ∧ AlikeAll (d :: ds) ∧ PyData.depthAll (d :: ds) ≤ 60 ∧
  ∀ i x, xs[i]? = some x → (d :: ds).getD i .none = maxD d ds → Q x H
section
variable {X : Cx}
theorem vget : ∀ {xs : List V} {us : List Value} {i : Nat} {u : Value}, Vals xs us → us[i]? = some u → ∃ x, xs[i]? = some x ∧ RelV x u
  | _, _, _, _, .nil, e => by simp at e
  | _, _, 0, _, .cons r _, e => by simp at e; subst e; exact ⟨_, rfl, r⟩
  | _, _, i + 1, a, .cons _ t, e => by
    obtain ⟨u, h1, h2⟩ := vget (i := i) (u := a) t (by simpa using e)
    exact ⟨u, by simpa using h1, h2⟩
theorem cr_minD (hu : X.A.units + 64 < cLine) (hc : X.calm = true) : CallR X (.builtin "min") (rMinD X.K) := by
  intro pins s σ H vs us Q I r h
  obtain ⟨a, xs, d, ds, rfl, hs, hd, hal, hde, q⟩ := h
  rw [Vals.ref1 r]
  rcases hs with hs | hs
  · obtain ⟨its, rv, hl, _⟩ := I.list hs
    obtain ⟨as, hr⟩ := Dp.readsAll I (d :: ds) _ its hd rv
    refine minL_at (I.ok.hd hc) hl.isList (by simpa using hr) hal (by omega) fun i v h' tk hv e hk => ?_
    obtain ⟨x, hx, rx⟩ := vget rv (by simpa using hv)
    exact ⟨x, H, I.kept (t' := tk) hk, rx, q i x hx e⟩
  · obtain ⟨its, rv, hl, _⟩ := I.tuple hs
    obtain ⟨as, hr⟩ := Dp.readsAll I (d :: ds) _ its hd rv
    refine minT_at (I.ok.hd hc) (show s.heap.IsTuple a its.toArray from hl) (by simpa using hr) hal (by omega) fun i v h' tk hv e hk => ?_
    obtain ⟨x, hx, rx⟩ := vget rv (by simpa using hv)
    exact ⟨x, H, I.kept (t' := tk) hk, rx, q i x hx e⟩
theorem cr_maxD (hu : X.A.units + 64 < cLine) (hc : X.calm = true) : CallR X (.builtin "max") (rMaxD X.K) := by
  intro pins s σ H vs us Q I r h
  obtain ⟨a, xs, d, ds, rfl, hs, hd, hal, hde, q⟩ := h
  rw [Vals.ref1 r]
  obtain ⟨its, rv, hl, _⟩ := I.tuple hs
  obtain ⟨as, hr⟩ := Dp.readsAll I (d :: ds) _ its hd rv
  refine maxT_at (I.ok.hd hc) (show s.heap.IsTuple a its.toArray from hl) (by simpa using hr) hal (by omega) fun i v h' tk hv e hk => ?_
  obtain ⟨x, hx, rx⟩ := vget rv (by simpa using hv)
  exact ⟨x, H, I.kept (t' := tk) hk, rx, q i x hx e⟩
end

/-! ### d.update(another dict) -/
def rUpdate : V → List V → Hp → VK → Prop := fun x vs H Q => ∃ d o kvs more, x = .ref d ∧ vs = [.ref o] ∧ d ≠ o ∧ H d = some (.dK kvs) ∧ H o = some (.dK more) ∧ kvs.length + more.length ≤ sizeLine ∧ Q .non (upd H d (.dK (mergeK kvs more)))
theorem putK_len {kvs : List (Key × V)} {k : Key} {v : V} : (putK kvs k v).length ≤ kvs.length + 1 := by
  unfold putK
  split
  · rw [List.length_map]; omega
  · rw [List.length_append, List.length_singleton]; omega
theorem mergeK_len {more : List (Key × V)} : ∀ {kvs : List (Key × V)}, (mergeK kvs more).length ≤ kvs.length + more.length := by
  unfold mergeK
  induction more with
  | nil => intro kvs; exact Nat.le_refl _
  | cons p r ih =>
    intro kvs
    rw [List.foldl_cons]
    refine Nat.le_trans ih ?_
    have := putK_len (kvs := kvs) (k := p.1) (v := p.2)
    rw [List.length_cons]
    omega
section
variable {X : Cx}
theorem mt_update : MtR X "dict.update" rUpdate := by
  intro pins s σ H x vs v us Q I rx rv h
  obtain ⟨d, o, kvs, more, rfl, rfl, hne, hd, ho, hz, q⟩ := h
  cases rx
  obtain ⟨u, rfl, ru⟩ := rv.one
  cases ru
  obtain ⟨z1, y1, ws, r1, D1⟩ := dk_of I.hok hd
  obtain ⟨z2, y2, ws2, r2, D2⟩ := dk_of I.hok ho
  refine call_meetsIn PySem.F.slot_dict_update D1.typeIs PySem.F.entry_dict_update (PySem.F.args_dict_update_2 _ _) (meets_dict_update (mixKind X.prog X.w) d o hne y2)
    ⟨ws, ws2, D1, D2, ?_, fun h' hmm _ hs => ?_⟩
  · rw [← Paired.length r1, ← Paired.length r2]; exact hz
  · refine ⟨.non, _, I.write (t' := s.toks) (x := d) (e := d) (o := .dK (mergeK kvs more)) (by rw [hd]; exact trivial) (.inl rfl) (fun b u hb e => (hs.2 b hb).trans e) ?_ ?_, rfl, q⟩
    · obtain ⟨o, _, _, e, _⟩ := hmm
      exact ⟨o, e⟩
    · exact ⟨Nat.le_trans mergeK_len hz, y1, _, KV.merge r2 r1, hmm⟩
end
end Cu
set_option maxRecDepth 100000
set_option maxHeartbeats 2000000
/-! Cu 6: dicts with int keys, typed; loops over a locked dict; dict comprehensions; sorted(d). -/
namespace Cu
open PySem L2
section
variable {α β γ : Type}
/-! ### pairs (key, value) -/
def lookI (kvs : List (Int × α)) (k : Int) : Option α := (kvs.find? fun p => decide (p.1 = k)).map (·.2)
def putI (kvs : List (Int × α)) (k : Int) (a : α) : List (Int × α) := if (kvs.any fun p => decide (p.1 = k)) = true then kvs.map (fun p => if p.1 = k then (p.1, a) else p) else kvs ++ [(k, a)]
def mergeI (kvs more : List (Int × α)) : List (Int × α) := more.foldl (fun acc p => putI acc p.1 p.2) kvs
theorem lookI_nil {k : Int} : lookI ([] : List (Int × α)) k = none := rfl
theorem lookI_cons {p : Int × α} {l : List (Int × α)} {k : Int} : lookI (p :: l) k = if p.1 = k then some p.2 else lookI l k := by
  unfold lookI
  rw [List.find?_cons]
  by_cases h : p.1 = k
  · simp [h]
  · simp [h]
theorem lookI_app {l m : List (Int × α)} {k : Int} : lookI (l ++ m) k = (lookI l k).or (lookI m k) := by
  induction l with
  | nil => simp [lookI_nil]
  | cons p l ih =>
    rw [List.cons_append, lookI_cons, lookI_cons, ih]
    by_cases h : p.1 = k <;> simp [h]
theorem lookI_any {l : List (Int × α)} {k : Int} : (l.any fun p => decide (p.1 = k)) = (lookI l k).isSome := by
  induction l with
  | nil => rfl
  | cons p l ih =>
    rw [List.any_cons, lookI_cons, ih]
    by_cases h : p.1 = k <;> simp [h]
theorem lookI_map {l : List (Int × α)} {k j : Int} {a : α} : lookI (l.map fun p => if p.1 = k then (p.1, a) else p) j = (lookI l j).map fun x => if j = k then a else x := by
  induction l with
  | nil => rfl
  | cons p l ih =>
    rw [List.map_cons, lookI_cons, lookI_cons, ih]
    by_cases h : p.1 = k
    · simp only [h, if_true]
      by_cases h2 : k = j
      · simp [h2]
      · have h3 : ¬ j = k := fun e => h2 e.symm
        simp [h2]
    · simp only [h, if_false]
      by_cases h2 : p.1 = j
      · have h3 : ¬ j = k := fun e => h (h2.trans e)
        simp [h2, h3]
      · simp [h2]
theorem lookI_put {l : List (Int × α)} {k j : Int} {a : α} : lookI (putI l k a) j = if j = k then some a else lookI l j := by
  unfold putI
  rw [lookI_any]
  by_cases h : (lookI l k).isSome = true
  · rw [if_pos h, lookI_map]
    by_cases e : j = k
    · subst e
      obtain ⟨x, hx⟩ := Option.isSome_iff_exists.mp h
      rw [hx]
      simp
    · simp [e]
  · rw [if_neg h, lookI_app, lookI_cons, lookI_nil]
    have hn : lookI l k = none := by
      cases q : lookI l k with
      | none => rfl
      | some x => rw [q] at h; exact absurd rfl h
    by_cases e : j = k
    · subst e
      rw [hn]
      simp
    · have e2 : ¬ k = j := fun z => e z.symm
      simp [e, e2]
theorem putI_new {l : List (Int × α)} {k : Int} {a : α} (h : lookI l k = none) : putI l k a = l ++ [(k, a)] := by
  unfold putI
  rw [lookI_any, h]; exact if_neg Bool.false_ne_true
theorem lookI_mem {l : List (Int × α)} {k : Int} {a : α} (h : lookI l k = some a) : (k, a) ∈ l := by
  induction l with
  | nil => cases h
  | cons p l ih =>
    rw [lookI_cons] at h
    by_cases e : p.1 = k
    · rw [if_pos e] at h
      cases h
      rw [← e]
      exact List.mem_cons_self
    · rw [if_neg e] at h
      exact List.mem_cons_of_mem _ (ih h)
theorem lookI_none {l : List (Int × α)} {k : Int} (h : ∀ p ∈ l, p.1 ≠ k) : lookI l k = none := by
  induction l with
  | nil => rfl
  | cons p l ih =>
    rw [lookI_cons, if_neg (h p List.mem_cons_self)]
    exact ih fun q hq => h q (List.mem_cons_of_mem _ hq)
theorem lookI_of_mem {l : List (Int × α)} (hn : (l.map (·.1)).Nodup) {k : Int} {a : α} (h : (k, a) ∈ l) : lookI l k = some a := by
  induction l with
  | nil => cases h
  | cons p l ih =>
    rw [List.map_cons, List.nodup_cons] at hn
    rw [lookI_cons]
    rcases List.mem_cons.mp h with e | h
    · subst e
      rw [if_pos rfl]
    · have : ¬ p.1 = k := fun e => hn.1 (e ▸ List.mem_map_of_mem (f := (·.1)) h)
      rw [if_neg this]
      exact ih hn.2 h
theorem lookI_merge {more : List (Int × α)} : ∀ {l : List (Int × α)} {k : Int}, (more.map (·.1)).Nodup → lookI (mergeI l more) k = (lookI more k).or (lookI l k) := by
  unfold mergeI
  induction more with
  | nil => intro l k _; simp [lookI_nil]
  | cons p r ih =>
    intro l k hn
    rw [List.map_cons, List.nodup_cons] at hn
    rw [List.foldl_cons, ih hn.2, lookI_put, lookI_cons]
    by_cases e : k = p.1
    · have hnone : lookI r k = none := lookI_none fun q hq z => hn.1 (by rw [← e, ← z]; exact List.mem_map_of_mem (f := (·.1)) hq)
      rw [hnone, if_pos e, if_pos e.symm]; rfl
    · have e2 : ¬ p.1 = k := fun z => e z.symm
      rw [if_neg e, if_neg e2]

/-! ### the dict at p -/
def KR (r : R α) (H : Hp) (q : Key × V) (d : Int × α) : Prop := q.1 = .inl d.1 ∧ r.is H q.2 d.2
def DictAt (r : R α) (H : Hp) (p : Addr) (kvs : List (Int × α)) : Prop := ∃ ks, H p = some (.dK ks) ∧ Paired (KR r H) ks kvs
/-- .. that may be locked -/
def DictR (r : R α) (H : Hp) (p : Addr) (kvs : List (Int × α)) : Prop := ∃ ks, Rd H p (.dK ks) ∧ Paired (KR r H) ks kvs
variable {r : R α} {s : R β} {σ : L2.St} {H H' H1 H2 : Hp} {ta tb tc te tl td ty tx tk tv : TE} {t u tt : TT} {a : α} {b : β} {v x y : V} {K : PySem.W.Frag} {i j k n m : Int} {kvs : List (Int × α)} {ks : List (Key × V)} {p : Addr}
theorem kmap {F G : Key × V → Int × α → Prop} {ks : List (Key × V)} {kvs : List (Int × α)} (h : Paired F ks kvs) (f : ∀ q d, F q d → G q d) : Paired G ks kvs := L2.Paired.mapP h f
theorem KR.ex {q : Key × V} {d : Int × α} (e : Ex H H') (h : KR r H q d) : KR r H' q d := ⟨h.1, r.ex e h.2⟩
theorem KR.txx [tr : TR r] {q : Key × V} {d : Int × α} (e : TX H H') (h : KR r H q d) : KR r H' q d := ⟨h.1, tr.tx e h.2⟩
theorem DictAt.ex (e : Ex H H') (h : DictAt r H p kvs) : DictAt r H' p kvs := let ⟨ks, h1, h2⟩ := h; ⟨ks, e p _ h1, kmap h2 fun _ _ => KR.ex e⟩
theorem DictAt.rd (h : DictAt r H p kvs) : DictR r H p kvs := let ⟨ks, h1, h2⟩ := h; ⟨ks, .inl h1, h2⟩
theorem rd_ex {o : HO} (e : Ex H H') (h : Rd H p o) : Rd H' p o := by
  rcases h with h | ⟨u, h⟩
  · exact .inl (e p _ h)
  · exact .inr ⟨u, e p _ h⟩
theorem DictR.ex (e : Ex H H') (h : DictR r H p kvs) : DictR r H' p kvs := let ⟨ks, h1, h2⟩ := h; ⟨ks, rd_ex e h1, kmap h2 fun _ _ => KR.ex e⟩
theorem valV_look (h : Paired (KR r H) ks kvs) : ∀ k : Int, (∀ a, lookI kvs k = some a → ∃ v, valV ks (.inl k : Key) = some v ∧ r.is H v a) ∧ (lookI kvs k = none → valV ks (.inl k : Key) = none) := by
  induction h with
  | nil => exact fun k => ⟨fun a e => (nomatch e), fun _ => rfl⟩
  | @cons q d ks kvs hq ht ih =>
    intro k
    obtain ⟨h1, h2⟩ := hq
    rw [lookI_cons]
    by_cases e : d.1 = k
    · rw [if_pos e]
      exact ⟨fun a ea => by cases ea; exact ⟨q.2, valV_pos (by rw [h1, e]), h2⟩, fun z => (nomatch z)⟩
    · rw [if_neg e]
      have hn : ¬ q.1 = (.inl k : Key) := by rw [h1]; intro z; cases z; exact e rfl
      exact ⟨fun a ea => by obtain ⟨v, e1, e2⟩ := (ih k).1 a ea; exact ⟨v, by rw [valV_neg hn]; exact e1, e2⟩, fun z => by rw [valV_neg hn]; exact (ih k).2 z⟩
theorem put_pair (h : Paired (KR r H) ks kvs) (hv : r.is H v a) : Paired (KR r H) (putK ks (.inl k : Key) v) (putI kvs k a) := by
  unfold putK putI
  have hany : ∀ {ks : List (Key × V)} {kvs : List (Int × α)}, Paired (KR r H) ks kvs → (ks.any fun q => decide (q.1 = (.inl k : Key))) = (kvs.any fun d => decide (d.1 = k)) := by
    intro ks kvs h
    induction h with
    | nil => rfl
    | @cons q d ks kvs hq ht ih =>
      rw [List.any_cons, List.any_cons, ih, hq.1]
      congr 1
      by_cases e : d.1 = k
      · subst e; simp
      · rw [decide_eq_false e, decide_eq_false (by intro z; cases z; exact e rfl)]
  rw [hany h]
  split
  · rename_i hh
    clear hh hany
    induction h with
    | nil => exact .nil
    | @cons q d ks kvs hq ht ih =>
      rw [List.map_cons, List.map_cons]
      refine .cons ?_ ih
      by_cases e : d.1 = k
      · rw [if_pos e, if_pos (by rw [hq.1, e])]
        exact ⟨hq.1, hv⟩
      · rw [if_neg e, if_neg (by rw [hq.1]; intro z; cases z; exact e rfl)]
        exact hq
  · have app : ∀ {ks : List (Key × V)} {kvs : List (Int × α)}, Paired (KR r H) ks kvs → Paired (KR r H) (ks ++ [(.inl k, v)]) (kvs ++ [(k, a)]) := by
      intro ks kvs h
      induction h with
      | nil => exact .cons ⟨rfl, hv⟩ .nil
      | cons hq ht ih => exact .cons hq ih
    exact app h
theorem merge_pair {more : List (Int × α)} {mks : List (Key × V)} (hm : Paired (KR r H) mks more) : ∀ {ks : List (Key × V)} {kvs : List (Int × α)}, Paired (KR r H) ks kvs → Paired (KR r H) (mergeK ks mks) (mergeI kvs more) := by
  unfold mergeK mergeI
  induction hm with
  | nil => intro ks kvs h; exact h
  | @cons q d mks more hq ht ih =>
    intro ks kvs h
    rw [List.foldl_cons, List.foldl_cons]
    refine ih ?_
    have := put_pair (k := d.1) h hq.2
    rw [← hq.1] at this
    exact this
theorem dlen {F : Key × V → Int × α → Prop} (h : Paired F ks kvs) : ks.length = kvs.length := Paired.length h

/-! readings -/
theorem ev_dgetO (h1 : Ev dV td σ H (.ref p)) (h2 : Ev dI ty σ H k) (hd : DictR r H p kvs) (e : lookI kvs k = some a) : Ev r (tDGet td ty) σ H a := fun H1 e1 Q q =>
  h1 H1 e1 _ fun v H2 e2 hv => h2 H2 (ext e1 e2) _ fun w H3 e3 hw => by
    obtain ⟨ks, k1, k2⟩ := hd.ex (ext e1 (ext e2 e3))
    obtain ⟨z, z1, z2⟩ := (valV_look k2 k).1 a e
    cases hv
    cases hw
    exact ⟨p, z, rfl, .inl ⟨ks, .inl k, k1, rfl, z1.symm⟩, q z H3 (ext e2 e3) z2⟩
theorem dget_some (hd : DictR r H p kvs) : ∃ o : Option V, DGet H p (.int k) o ∧ o.isSome = (lookI kvs k).isSome ∧ ∀ a, lookI kvs k = some a → ∃ v, o = some v ∧ r.is H v a := by
  obtain ⟨ks, k1, k2⟩ := hd
  refine ⟨valV ks (.inl k), .inl ⟨ks, .inl k, k1, rfl, rfl⟩, ?_, (valV_look k2 k).1⟩
  cases q : lookI kvs k with
  | none => rw [(valV_look k2 k).2 q]; rfl
  | some a =>
    obtain ⟨v, e, _⟩ := (valV_look k2 k).1 a q
    rw [e]; rfl
theorem ev_din (h2 : Ev dI ty σ H k) (h1 : Ev dV td σ H (.ref p)) (hd : DictR r H p kvs) : Ev dB (tDIn ty td) σ H (lookI kvs k).isSome := fun H1 e1 Q q =>
  h2 H1 e1 _ fun v H2 e2 hv => h1 H2 (ext e1 e2) _ fun w H3 e3 hw => by
    obtain ⟨o, o1, o2, _⟩ := dget_some (k := k) (hd.ex (ext e1 (ext e2 e3)))
    cases hv
    cases hw
    exact ⟨p, o, rfl, o1, q _ H3 (ext e2 e3) (by rw [← o2]; rfl)⟩
theorem ev_dnotin (h2 : Ev dI ty σ H k) (h1 : Ev dV td σ H (.ref p)) (hd : DictR r H p kvs) : Ev dB (tDNotIn ty td) σ H (!(lookI kvs k).isSome) := fun H1 e1 Q q =>
  h2 H1 e1 _ fun v H2 e2 hv => h1 H2 (ext e1 e2) _ fun w H3 e3 hw => by
    obtain ⟨o, o1, o2, _⟩ := dget_some (k := k) (hd.ex (ext e1 (ext e2 e3)))
    cases hv
    cases hw
    exact ⟨p, o, rfl, o1, q _ H3 (ext e2 e3) (by rw [← o2]; rfl)⟩
/-- d.get(k, x) -/
theorem ev_dget2 (h1 : Ev dV td σ H (.ref p)) (h2 : Ev dI ty σ H k) (h3 : Ev r tx σ H a) (hd : DictR r H p kvs) : Ev r (tDGet2 td ty tx) σ H ((lookI kvs k).getD a) := fun H1 e1 Q q =>
  h1 H1 e1 _ fun v H2 e2 hv => by
    cases hv
    have hd2 := hd.ex (ext e1 e2)
    refine ⟨p, rfl, .inl (let ⟨ks, k1, _⟩ := hd2; ⟨ks, k1⟩), h2 H2 (ext e1 e2) _ fun w H3 e3 hw => h3 H3 (ext e1 (ext e2 e3)) _ fun z H4 e4 hz => ?_⟩
    obtain ⟨o, o1, o2, o3⟩ := dget_some (k := k) (hd2.ex (ext e3 e4))
    cases hw
    refine ⟨o, o1, q _ H4 (ext e2 (ext e3 e4)) ?_⟩
    cases ql : lookI kvs k with
    | none =>
      rw [ql] at o2
      cases o with
      | none => exact hz
      | some _ => cases o2
    | some b =>
      obtain ⟨v, rfl, hv⟩ := o3 b ql
      exact hv
/-- d[k] = e -/
theorem s_dput [tr : TR r] {D : Ends} (hv : Ev r tv σ H a) (h1 : Ev dV td σ H (.ref p)) (h2 : Ev dI ty σ H k) (hd : DictAt r H p kvs) (hz : kvs.length < 100000) (kk : ∀ H1 o, Ex H H1 → H1 p ≠ none → DictAt r (upd H1 p o) p (putI kvs k a) → TX H1 (upd H1 p o) → D.nx σ (upd H1 p o)) : sDPut td ty tv D σ H :=
  hv H exr _ fun v H1 e1 g1 => h1 H1 e1 _ fun w H2 e2 g2 => h2 H2 (ext e1 e2) _ fun z H3 e3 g3 => by
    cases g2
    cases g3
    obtain ⟨ks, k1, k2⟩ := hd.ex (ext e1 (ext e2 e3))
    have hx := txd (o := .dK (putK ks (.inl k) v)) k1
    refine ⟨p, _, rfl, .inl ⟨ks, .inl k, k1, rfl, sz_lt (by rw [dlen k2]; exact hz), rfl⟩, kk H3 _ (ext e1 (ext e2 e3)) (by rw [k1]; intro z; cases z) ⟨_, upd_same, ?_⟩ hx⟩
    exact kmap (put_pair k2 (r.ex (ext e2 e3) g1)) fun _ _ => KR.txx hx
theorem s_asgD {D : Ends} {i : Nat} (k : ∀ p H1, H p = none → Ex H H1 → H1 p = some (.dK []) → D.nx (σ.set i (some (.ref p))) H1) : tAsg tDNewK (gName i) D σ H := fun p hp => k p _ hp (exn hp) upd_same

/-! for k in d, d locked -/
theorem s_lockFor [tr : TR r] {D : Ends} {tu : TS} {jt : Nat} {p : Addr} (hd : DictAt r H p kvs) {i : Nat} (hi : σ[i]? = some (some (.ref p)))
    (Pv : Nat → L2.St → Prop) (h0 : Pv 0 σ)
    (hs : ∀ (n : Nat) (d : Int × α) σ' H1 H', kvs[n]? = some d → TX H H1 → DictR r H1 p kvs → (∀ H0, Ex H0 H → H0 p = none → Ex H0 H1) → Ex H1 H' → Pv n σ' →
      ∀ (rt : VK) (bk : L2.St → Hp → Prop), tu ⟨fun σ3 H3 => Pv (n + 1) σ3 ∧ Ex H1 H3, rt, bk, fun σ3 H3 => Pv (n + 1) σ3 ∧ Ex H1 H3⟩ (σ'.set jt (some (.int d.1))) H')
    (hk : ∀ σ' H', (∀ H0, Ex H0 H → H0 p = none → Ex H0 H') → TX H H' → DictAt r H' p kvs → Pv kvs.length σ' → D.nx σ' H') :
    tLock (tFor (iKeys (tVar i)) (gName jt) tu) D σ H := by
  obtain ⟨ks, k1, k2⟩ := hd
  refine ⟨p, .dK ks, k1, trivial, fun od => ?_⟩
  have hx : TX H (upd H p (.frz od (.dK ks))) := txd k1
  have hR : DictR r (upd H p (.frz od (.dK ks))) p kvs := ⟨ks, .inr ⟨od, upd_same⟩, kmap k2 fun _ _ => KR.txx hx⟩
  have hE : ∀ H0, Ex H0 H → H0 p = none → Ex H0 (upd H p (.frz od (.dK ks))) := fun H0 e n => exm e n
  refine ⟨.ref p, hi, p, od, rfl, .inl ⟨ks, upd_same, ?_⟩⟩
  refine for_it (walk_keys (d := p) (o := od) (kvs := ks)) (fun n σ' H' => Pv n σ' ∧ Ex (upd H p (.frz od (.dK ks))) H') ⟨h0, exr⟩ (fun n σ' H' _ h => h.2 p _ upd_same) ?_ ?_
  · rintro n x σ' H3 H4 hn ⟨hP, hE3⟩ ⟨rfl, key, v, hg, rfl⟩
    obtain ⟨d, hdn, hkr⟩ : ∃ d, kvs[n]? = some d ∧ KR r H (key, v) d := by
      have : ∀ {ks : List (Key × V)} {kvs : List (Int × α)} {n : Nat} {q : Key × V}, Paired (KR r H) ks kvs → ks[n]? = some q → ∃ d, kvs[n]? = some d ∧ KR r H q d := by
        intro ks kvs n q h
        induction h generalizing n with
        | nil => intro e; simp at e
        | cons hq ht ih =>
          intro e
          cases n with
          | zero => simp at e; subst e; exact ⟨_, rfl, hq⟩
          | succ n => simp at e; obtain ⟨d, d1, d2⟩ := ih e; exact ⟨d, by simpa using d1, d2⟩
      exact this k2 hg
    have hkey : kV key = .int d.1 := by rw [show key = .inl d.1 from hkr.1]; rfl
    show tu _ (σ'.set jt (some (kV key))) H4
    rw [hkey]
    exact hs n d σ' _ H4 hdn hx hR hE hE3 hP _ _
  · rintro σ' H' ⟨hP, hE'⟩
    have hl : H' p = some (.frz od (.dK ks)) := hE' p _ upd_same
    refine ⟨hl, ?_⟩
    have htx : TX H (upd H' p (.dK ks)) := txt hx (txt hE'.tx (txf hl))
    rw [dlen k2] at hP
    exact hk σ' _ (fun H0 e n => exm (ext (hE H0 e n) hE') n) htx ⟨ks, upd_same, kmap k2 fun _ _ => KR.txx htx⟩ hP
end
end Cu
set_option maxRecDepth 100000
set_option maxHeartbeats 2000000
/-! Cu 7: sorted(list or tuple of ints); the typed built-ins. -/
namespace SrtO
open PySem PySem.Spec PyProof.Rows
section
variable {prog : Program} {w : World} {A : Around} {E : Value → Shared → Prop} {s : Shared}
theorem sorted_seqW {l : Addr} {T : String} {o : Obj} {n : Nat} {vs : List Value} {ltv : Value → Value → Bool} {Q : Value → Shared → Prop} (O : Swo ltv) (hT : T = "list" ∨ T = "tuple") (ho : s.heap.get? l = some o) (hc : o.cls = .type T) (hd : o.data = .seq vs.toArray n) (hz : vs.length ≤ sizeLine)
    (hS : 2 ≤ vs.length → ∀ (s' : Shared) (a : Addr), SortableO prog w A.in1.in1 s' a vs ltv)
    (h : ∀ (out : List Value) (e : Nat) (h0 h' : Heap), Srtd ltv out → Stb ltv out vs → (∀ b o, s.heap.get? b = some o → h0.get? b = some o) → (∀ b o, h0.get? b = some o → h'.get? b = some o) → h'.get? h0.objs.size = some (seqObj "list" out.toArray e) → Q (.ref h0.objs.size) { s with heap := h' }) :
    wpAny (model prog w) A (call (.builtin "sorted") [.ref l]) Q E s := by
  refine Calls.call_function_entry kind_sorted plain_sorted entry_sorted (args_sorted1 _) ?_
  unfold Builtin.«sorted»
  refine wpAny_bind (m := checkCount "sorted" 1 1 _) (wpAny_pure ?_)
  refine wpAny_bind (wpAny_collect_seq l hT ho hc hd (fun h0 k0 => ?_) (by rw [List.size_toArray]; exact hz))
  show wpAny _ _ (newList vs >>= _) _ _ _
  refine wpAny_bind (wpAny_newList ?_ hz)
  have hoL : (h0.push (seqObj "list" vs.toArray 0)).get? h0.objs.size = some (seqObj "list" vs.toArray 0) := Heap.get?_push_size _ rfl
  have k1 : ∀ b o, h0.get? b = some o → b ≠ h0.objs.size ∧ (h0.push (seqObj "list" vs.toArray 0)).get? b = some o := fun b o q => by
    have hlt : b < h0.objs.size := Heap.lt_size q
    exact ⟨Nat.ne_of_lt hlt, Heap.get?_push_of_some _ q⟩
  show wpAny _ _ _ _ _ { s with heap := h0.push (seqObj "list" vs.toArray 0) }
  refine wpAny_bind (wpAny_holding (wpAny_call_entry slot_list_sort ⟨_, hoL, rfl⟩ entry_list_sort (list_sort_ord O hoL hz (fun h2 => hS h2 _ _) fun out hs hb => ⟨_, rfl, ?_⟩) (args_list_sort _)))
  obtain ⟨e, he⟩ := sortedHeap_at (vs := vs) (out := out.toArray) hoL
  refine wpAny_pure ⟨_, rfl, h out e h0 _ hs hb k0 (fun b o q => ?_) he⟩
  obtain ⟨n1, g1⟩ := k1 b o q
  rw [sortedHeap_old n1 (Heap.lt_size g1)]
  exact g1
end
end SrtO
namespace Cu
open PySem PySem.Spec PyProof.Rows L2
def rSrt (K : PySem.W.Frag) : List V → Hp → VK → Prop := fun vs H Q => ∃ (a : Addr) (ns : List Int), vs = [V.ref a] ∧ (SqL K H a (ns.map V.int) ∨ SqT K H a (ns.map V.int)) ∧
  ∀ (ns' : List Int) (p : Addr), ns'.Perm ns → ns'.Pairwise (· ≤ ·) → H p = none → Q (.ref p) (upd H p (.lst (ns'.map V.int)))
section
variable {X : Cx}
theorem cr_srt : CallR X (.builtin "sorted") (rSrt X.K) := by
  intro pins s σ H vs us Q I r h
  obtain ⟨a, ns, rfl, hs, q⟩ := h
  rw [Vals.ref1 r]
  have go : ∀ (its : List Value) (T : String) (o : Obj) (n : Nat), Vals (ns.map V.int) its → (T = "list" ∨ T = "tuple") → s.heap.get? a = some o → o.cls = .type T → o.data = .seq its.toArray n → (ns.map V.int).length ≤ sizeLine →
      wpAny (model X.prog X.w) X.A (call (.builtin "sorted") [.ref a]) (EP X pins σ Q) X.xe s := by
    intro its T o n rv hT ho hc hd hz
    have hi := rv.ints
    refine SrtO.sorted_seqW SrtO.swo_int hT ho hc hd (by rw [← rv.length]; exact hz) (fun h2 s' a' => SrtO.ints_sortable hi h2) fun out e h0 h' h1 h2 k0 k1 he => ?_
    obtain ⟨g1, g2, g3⟩ := SrtO.ints_out hi h1 h2
    have hlen : ((out.map SrtO.iv).map V.int).length ≤ sizeLine := by
      rw [List.length_map, g2.length_eq]
      rw [List.length_map] at hz
      exact hz
    have I0 : Inv X pins σ H { s with heap := h0 } := I.kept (t' := s.toks) k0
    exact ⟨.ref _, upd H h0.objs.size (.lst ((out.map SrtO.iv).map V.int)), I0.laid (t' := s.toks) k1 (Nat.le_refl _) ⟨hlen, out, e, vals_of_ints g1, he⟩, rfl, q _ _ g2 g3 (I0.hok.fresh (Nat.le_refl _))⟩
  rcases hs with hs | hs
  · obtain ⟨its, rv, hl, hz⟩ := I.list hs
    obtain ⟨o, ho, hc, n, hd⟩ := hl.isList
    exact go its "list" o n rv (.inl rfl) ho hc hd hz
  · obtain ⟨its, rv, hl, hz⟩ := I.tuple hs
    obtain ⟨o, ho, hc, n, hd⟩ := hl
    exact go its "tuple" o n rv (.inr rfl) ho hc hd hz
end

/-! ### typed built-ins -/
section
variable {α β γ : Type} {r : R α} {s : R β} {σ : L2.St} {H H' : Hp} {ta tb tc te : TE} {t u : TT} {a : α} {b : β} {v x y : V} {K : PySem.W.Frag} {i j k n m : Int} {as bs cs : List α} {X : Cx}
theorem ep1 (h : Ev r te σ H a) : EvP (tCons te tNil) σ H (fun H vs => ∃ v, vs = [v] ∧ r.is H v a) := fun H1 e Q q => h H1 e _ fun v H2 e2 hv => q [v] H2 e2 ⟨v, rfl, hv⟩
theorem ep2 (h : Ev r ta σ H a) (h' : Ev s tb σ H b) : EvP (tCons ta (tCons tb tNil)) σ H (fun H vs => ∃ v w, vs = [v, w] ∧ r.is H v a ∧ s.is H w b) := fun H1 e Q q =>
  h H1 e _ fun v H2 e2 hv => h' H2 (ext e e2) _ fun w H3 e3 hw => q [v, w] H3 (ext e2 e3) ⟨v, w, rfl, r.ex e3 hv, hw⟩
def rLen (K : PySem.W.Frag) : List V → Hp → VK → Prop := fun xs H Q => ∃ p ys, xs = [.ref p] ∧ (SqL K H p ys ∨ SqT K H p ys) ∧ Q (.int ys.length) H
theorem cr_len : CallR X (.builtin "len") (rLen X.K) := call_len_seq
theorem ev_lenT (h : Ev (dT r) te σ H as) : Ev dI (tCB (rLen K) (tCons te tNil)) σ H (as.length : Int) := ev_cb (ep1 h) fun vs H1 _ ⟨v, e, p, xs, h1, h2, h3⟩ Q q => ⟨p, xs, by rw [e, h1], .inr (SqT.of h2), q _ H1 exr (by rw [plen h3]; rfl)⟩
theorem ev_lenL (h : Ev (dL r) te σ H as) : Ev dI (tCB (rLen K) (tCons te tNil)) σ H (as.length : Int) := ev_cb (ep1 h) fun vs H1 _ ⟨v, e, p, xs, h1, h2, h3⟩ Q q => ⟨p, xs, by rw [e, h1], .inl (SqL.of h2), q _ H1 exr (by rw [plen h3]; rfl)⟩
theorem ev_lenQ (h : Ev (dQ r) te σ H as) : Ev dI (tCB (rLen K) (tCons te tNil)) σ H (as.length : Int) := ev_cb (ep1 h) fun vs H1 _ ⟨v, e, h⟩ Q q => by
  rcases h with ⟨p, xs, h1, h2, h3⟩ | ⟨p, xs, h1, h2, h3⟩
  · exact ⟨p, xs, by rw [e, h1], .inr (SqT.of h2), q _ H1 exr (by rw [plen h3]; rfl)⟩
  · exact ⟨p, xs, by rw [e, h1], .inl (SqL.of h2), q _ H1 exr (by rw [plen h3]; rfl)⟩
theorem ev_lenW {n : Nat} (h : Ev dW te σ H n) : Ev dI (tCB (rLen K) (tCons te tNil)) σ H (n : Int) := ev_cb (ep1 h) fun vs H1 _ ⟨v, e, p, xs, h1, h2, h3⟩ Q q => ⟨p, xs, by rw [e, h1], .inr (SqT.of h2), q _ H1 exr (by rw [h3]; rfl)⟩
theorem ev_lenWL {n : Nat} (h : Ev dWL te σ H n) : Ev dI (tCB (rLen K) (tCons te tNil)) σ H (n : Int) := ev_cb (ep1 h) fun vs H1 _ ⟨v, e, p, xs, h1, h2, h3⟩ Q q => ⟨p, xs, by rw [e, h1], .inl (SqL.of h2), q _ H1 exr (by rw [h3]; rfl)⟩
theorem ev_any {bs : List Bool} (h : Ev (dL dB) te σ H bs) : Ev dB (tCB (rAny K) (tCons te tNil)) σ H (bs.any id) := ev_cb (ep1 h) fun vs H1 _ ⟨v, e, p, xs, h1, h2, h3⟩ Q q => ⟨p, bs, by rw [e, h1], SqL.of (by rw [← bools_of h3]; exact h2), q _ H1 exr rfl⟩
theorem ev_all {bs : List Bool} (h : Ev (dL dB) te σ H bs) : Ev dB (tCB (rAll K) (tCons te tNil)) σ H (bs.all id) := ev_cb (ep1 h) fun vs H1 _ ⟨v, e, p, xs, h1, h2, h3⟩ Q q => ⟨p, bs, by rw [e, h1], SqL.of (by rw [← bools_of h3]; exact h2), q _ H1 exr rfl⟩
theorem ev_sum {ns : List Int} (h : Ev (dL dI) te σ H ns) : Ev dI (tCB (rSum K) (tCons te tNil)) σ H ns.sum := ev_cb (ep1 h) fun vs H1 _ ⟨v, e, p, xs, h1, h2, h3⟩ Q q => ⟨p, ns, by rw [e, h1], SqL.of (by rw [← ints_of h3]; exact h2), q _ H1 exr rfl⟩
def rMin2 : List V → Hp → VK → Prop := fun xs H Q => ∃ i j, xs = [.int i, .int j] ∧ Q (.int (if j < i then j else i)) H
def rMax2 : List V → Hp → VK → Prop := fun xs H Q => ∃ i j, xs = [.int i, .int j] ∧ Q (.int (if j > i then j else i)) H
def rAbs : List V → Hp → VK → Prop := fun xs H Q => ∃ i, xs = [.int i] ∧ Q (.int (if i < 0 then -i else i)) H
def rInt : List V → Hp → VK → Prop := fun xs H Q => (∃ i, xs = [.int i] ∧ Q (.int i) H) ∨ ∃ k, xs = [.bl k] ∧ Q (.int (if k then 1 else 0)) H
theorem cr_min2 (hc : X.calm = true) : CallR X (.builtin "min") rMin2 := call_min2 hc
theorem cr_max2 (hc : X.calm = true) : CallR X (.builtin "max") rMax2 := call_max2 hc
theorem cr_abs : CallR X (.builtin "abs") rAbs := call_abs
theorem cr_int : CallR X (.type "int") rInt := call_int1
theorem ev_min2 (ha : Ev dI ta σ H i) (hb : Ev dI tb σ H j) : Ev dI (tCB rMin2 (tCons ta (tCons tb tNil))) σ H (min i j) := ev_cb (ep2 ha hb) fun vs H1 _ ⟨v, w, e, h1, h2⟩ Q q => ⟨i, j, by rw [e]; cases h1; cases h2; rfl, q _ H1 exr (by
  show V.int _ = V.int _
  congr 1
  rw [Int.min_def]
  split <;> split <;> omega)⟩
theorem ev_max2 (ha : Ev dI ta σ H i) (hb : Ev dI tb σ H j) : Ev dI (tCB rMax2 (tCons ta (tCons tb tNil))) σ H (max i j) := ev_cb (ep2 ha hb) fun vs H1 _ ⟨v, w, e, h1, h2⟩ Q q => ⟨i, j, by rw [e]; cases h1; cases h2; rfl, q _ H1 exr (by
  show V.int _ = V.int _
  congr 1
  rw [Int.max_def]
  split <;> split <;> omega)⟩
theorem ev_abs (ha : Ev dI ta σ H i) : Ev dI (tCB rAbs (tCons ta tNil)) σ H (if i < 0 then -i else i) := ev_cb (ep1 ha) fun vs H1 _ ⟨v, e, h1⟩ Q q => ⟨i, by rw [e]; cases h1; rfl, q _ H1 exr rfl⟩
theorem ev_int1 (ha : Ev dI ta σ H i) : Ev dI (tCB rInt (tCons ta tNil)) σ H i := ev_cb (ep1 ha) fun vs H1 _ ⟨v, e, h1⟩ Q q => .inl ⟨i, by rw [e]; cases h1; rfl, q _ H1 exr rfl⟩
theorem ev_intB {b : Bool} (ha : Ev dB ta σ H b) : Ev dI (tCB rInt (tCons ta tNil)) σ H (if b then 1 else 0) := ev_cb (ep1 ha) fun vs H1 _ ⟨v, e, h1⟩ Q q => .inr ⟨b, by rw [e]; cases h1; rfl, q _ H1 exr rfl⟩
def rTupO (K : PySem.W.Frag) : List V → Hp → VK → Prop := fun xs H Q => ∃ p ys, xs = [.ref p] ∧ ((SqL K H p ys ∧ ∀ l, H l = none → Q (.ref l) (upd H l (.tup ys))) ∨ (SqT K H p ys ∧ Q (.ref p) H))
theorem cr_tupO : CallR X (.type "tuple") (rTupO X.K) := call_tuple_of
def rLstO (K : PySem.W.Frag) : List V → Hp → VK → Prop := fun xs H Q => ∃ p ys, xs = [.ref p] ∧ (SqL K H p ys ∨ SqT K H p ys) ∧ ∀ l, H l = none → Q (.ref l) (upd H l (.lst ys))
theorem cr_lstO : CallR X (.type "list") (rLstO X.K) := call_list_of
theorem en_tupleL (h : Ev (dL r) te σ H as) : EvN (dT r) (tCB (rTupO K) (tCons te tNil)) σ H as := en_cb (ep1 h) fun vs H1 _ ⟨v, e, p, xs, h1, h2, h3⟩ Q q => ⟨p, xs, by rw [e, h1], .inl ⟨SqL.of h2, fun l hl => q l _ hl (exn hl) ⟨l, xs, rfl, upd_same, pmap h3 fun _ _ => r.ex (exn hl)⟩⟩⟩
theorem en_tupleLW {n : Nat} (h : Ev dWL te σ H n) : EvN dW (tCB (rTupO K) (tCons te tNil)) σ H n := en_cb (ep1 h) fun vs H1 _ ⟨v, e, p, xs, h1, h2, h3⟩ Q q => ⟨p, xs, by rw [e, h1], .inl ⟨SqL.of h2, fun l hl => q l _ hl (exn hl) ⟨l, xs, rfl, upd_same, h3⟩⟩⟩
theorem en_listL (h : Ev (dL r) te σ H as) : EvN (dL r) (tCB (rLstO K) (tCons te tNil)) σ H as := en_cb (ep1 h) fun vs H1 _ ⟨v, e, p, xs, h1, h2, h3⟩ Q q => ⟨p, xs, by rw [e, h1], .inl (SqL.of h2), fun l hl => q l _ hl (exn hl) ⟨l, xs, rfl, upd_same, pmap h3 fun _ _ => r.ex (exn hl)⟩⟩
theorem en_listP {a b : α} (h : Ev (dP r r) te σ H (a, b)) : EvN (dL r) (tCB (rLstO K) (tCons te tNil)) σ H [a, b] := en_cb (ep1 h) fun vs H1 _ ⟨v, e, p, x, y, h1, h2, h3, h4⟩ Q q => ⟨p, [x, y], by rw [e, h1], .inr (SqT.of h2), fun l hl => q l _ hl (exn hl) ⟨l, [x, y], rfl, upd_same, .cons (r.ex (exn hl) h3) (.cons (r.ex (exn hl) h4) .nil)⟩⟩
theorem sort_uniq {a b c : List Int} (p1 : a.Perm c) (h1 : a.Pairwise (· ≤ ·)) (p2 : b.Perm c) (h2 : b.Pairwise (· ≤ ·)) : a = b :=
  List.Perm.eq_of_pairwise (fun _ _ _ _ a b => Int.le_antisymm a b) h1 h2 (p1.trans p2.symm)
theorem en_sortT {ns ms : List Int} (h : Ev (dT dI) te σ H ns) (hp : ms.Perm ns) (hm : ms.Pairwise (· ≤ ·)) : EvN (dL dI) (tCB (rSrt K) (tCons te tNil)) σ H ms := en_cb (ep1 h) fun vs H1 _ ⟨v, e, p, xs, h1, h2, h3⟩ Q q =>
  ⟨p, ns, by rw [e, h1], .inr (SqT.of (by rw [← ints_of h3]; exact h2)), fun ns' l h4 h5 hl => by
    rw [sort_uniq h4 h5 hp hm]
    exact q l _ hl (exn hl) ⟨l, _, rfl, upd_same, pints⟩⟩
/-- tuple + tuple, list + list -/
theorem ev_catT (ha : Ev (dT r) ta σ H as) (hb : Ev (dT r) tb σ H bs) (hl : as.length + bs.length ≤ 100000) : Ev (dT r) (tOp (rCatA K) ta tb) σ H (as ++ bs) :=
  ev_op ha hb fun x y H1 _ ⟨p, xs, h1, h2, h3⟩ ⟨q, ys, g1, g2, g3⟩ Q k => by
    refine ⟨p, q, xs, ys, h1, g1, SqT.of h2, SqT.of g2, sz_of (by rw [plen h3, plen g3]; exact hl), fun e => ?_, fun _ e => ?_, fun _ _ l hl => k _ _ (exn hl) ⟨l, _, rfl, upd_same, papp (pmap h3 fun _ _ => r.ex (exn hl)) (pmap g3 fun _ _ => r.ex (exn hl))⟩⟩
    · subst e
      cases h3
      exact k _ H1 exr ⟨q, ys, rfl, g2, g3⟩
    · subst e
      cases g3
      exact k _ H1 exr ⟨p, xs, rfl, h2, by rw [List.append_nil]; exact h3⟩
theorem ev_catW {n m : Nat} (ha : Ev dW ta σ H n) (hb : Ev dW tb σ H m) (hl : n + m ≤ 100000) : Ev dW (tOp (rCatA K) ta tb) σ H (n + m) :=
  ev_op ha hb fun x y H1 _ ⟨p, xs, h1, h2, h3⟩ ⟨q, ys, g1, g2, g3⟩ Q k => by
    refine ⟨p, q, xs, ys, h1, g1, SqT.of h2, SqT.of g2, sz_of (by rw [h3, g3]; exact hl), fun e => ?_, fun _ e => ?_, fun _ _ l hl => k _ _ (exn hl) ⟨l, _, rfl, upd_same, by rw [List.length_append, h3, g3]⟩⟩
    · subst e
      exact k _ H1 exr ⟨q, ys, rfl, g2, by rw [g3, ← h3]; simp⟩
    · subst e
      exact k _ H1 exr ⟨p, xs, rfl, h2, by rw [h3, ← g3]; simp⟩
theorem en_catL (ha : Ev (dL r) ta σ H as) (hb : Ev (dL r) tb σ H bs) (hl : as.length + bs.length ≤ 100000) : EvN (dL r) (tOp rCat ta tb) σ H (as ++ bs) :=
  ev_opN ha hb fun x y H1 _ ⟨p, xs, h1, h2, h3⟩ ⟨q, ys, g1, g2, g3⟩ Q k =>
    ⟨p, q, xs, ys, h1, g1, h2, g2, sz_of (by rw [plen h3, plen g3]; exact hl), fun l hl => k _ _ hl (exn hl) ⟨l, _, rfl, upd_same, papp (pmap h3 fun _ _ => r.ex (exn hl)) (pmap g3 fun _ _ => r.ex (exn hl))⟩⟩
/-- x in a list of ints -/
theorem inV_ints {ns : List Int} : inV (.int n) (ns.map V.int) = decide (n ∈ ns) := by
  unfold inV
  induction ns with
  | nil => simp
  | cons m ns ih =>
    rw [List.map_cons, List.any_cons, ih]
    have e : eqV (.int m) (.int n) = decide (m = n) := by
      show (m == n) = decide (m = n)
      by_cases h : m = n
      · subst h; simp
      · simp [h]
    rw [e]
    by_cases h : m = n
    · subst h; simp
    · have h2 : ¬ n = m := fun z => h z.symm
      simp [h, h2]
theorem flat_ints {ns : List Int} : (ns.map V.int).all flatV = true := by
  rw [List.all_map, List.all_eq_true]
  intro x _
  rfl
theorem ev_notin {ns : List Int} (ha : Ev dI ta σ H n) (hb : Ev (dL dI) tb σ H ns) : Ev dB (tOp (rIn K true) ta tb) σ H (!decide (n ∈ ns)) :=
  ev_op ha hb fun x y H1 _ hx ⟨q, ys, g1, g2, g3⟩ Q k => by
    cases hx
    have e := ints_of g3
    subst e
    exact ⟨q, _, g1, .inl (SqL.of g2), rfl, flat_ints, by rw [inV_ints]; exact k _ H1 exr rfl⟩
end
end Cu
set_option maxRecDepth 100000
set_option maxHeartbeats 2000000
/-! Cu 8: calls by name, the text by places. -/
namespace Cu
open PySem PySem.Spec PyProof.Rows L2
def top (i : Nat) : Stmt := PySem.Challenge.pw_cutsmaller_k79_whole_rows_beside_and_tim.main.body.getD i (.Pass ⟨0, 0, 0, 0⟩)
/-- the built-ins that no name of the text hides -/
structure Nb (mg : Str → Option Value) : Prop where
  len : mg "len" = none
  any : mg "any" = none
  all : mg "all" = none
  sum : mg "sum" = none
  min : mg "min" = none
  max : mg "max" = none
  sorted : mg "sorted" = none
  abs : mg "abs" = none
  isinstance : mg "isinstance" = none
  range : mg "range" = none
  enumerate : mg "enumerate" = none
  zip : mg "zip" = none
  tuple : mg "tuple" = none
  list : mg "list" = none
  int : mg "int" = none
  bool : mg "bool" = none
  str : mg "str" = none
  LookupError : mg "LookupError" = none
theorem bt_len : bootBuiltins "len" = some (.builtin "len") := by decide +kernel
theorem bt_any : bootBuiltins "any" = some (.builtin "any") := by decide +kernel
theorem bt_all : bootBuiltins "all" = some (.builtin "all") := by decide +kernel
theorem bt_sum : bootBuiltins "sum" = some (.builtin "sum") := by decide +kernel
theorem bt_min : bootBuiltins "min" = some (.builtin "min") := by decide +kernel
theorem bt_max : bootBuiltins "max" = some (.builtin "max") := by decide +kernel
theorem bt_sorted : bootBuiltins "sorted" = some (.builtin "sorted") := by decide +kernel
theorem bt_abs : bootBuiltins "abs" = some (.builtin "abs") := by decide +kernel
theorem bt_isinstance : bootBuiltins "isinstance" = some (.builtin "isinstance") := by decide +kernel
theorem bt_tuple : bootBuiltins "tuple" = some (.type "tuple") := by decide +kernel
theorem bt_list : bootBuiltins "list" = some (.type "list") := by decide +kernel
theorem bt_int : bootBuiltins "int" = some (.type "int") := by decide +kernel
theorem bt_bool : bootBuiltins "bool" = some (.type "bool") := by decide +kernel
theorem bt_str : bootBuiltins "str" = some (.type "str") := by decide +kernel
theorem bt_LookupError : bootBuiltins "LookupError" = some (.type "LookupError") := by decide +kernel
/-- a def that may be called by its name -/
structure Cal (P : Program) (w : World) (K : PySem.W.Frag) (mg : Str → Option Value) (base : Heap) (k : Nat) (x : Str) (sp : Sp) : Prop where
  ex : ∃ (f : Addr) (fd : FuncData) (ps : List Str), FnOk P w K mg base CX0 k f fd ps sp ∧ mg x = some (.ref f) ∧ PySem.W.keepIn K (.ref f) = true ∧ Binds K fd ps []
theorem pe_cal {X : Cx} {k : Nat} {x : Str} {sp : Sp} {p pos : Pos} {e : Expr} {es : List Expr} {t : TA} (c : Cal X.prog X.w X.K X.mg X.base k x sp) (hr : Room k X.A) (hg : Gl X x) (ha : PA X (e :: es) t)
    (hdb : (x == ("__debug__" : Str)) = false := by decide) (he : starEach (e :: es) X.env = (false, eval e X.env) :: starEach es X.env := by rfl) (hpl : (backTo pos (starEach es X.env)).any (·.1) = false := by rfl) :
    PE X (.Call (.Name x p) (e :: es) [] pos) (tCall sp [] E0 t) := by
  obtain ⟨f, fd, ps, F, hm, hk, hb⟩ := c.ex
  exact pe_call F hr hg hm hk hb .nil pass0 ha hdb he hpl
/-- .. that may raise, called where it does not -/
structure CalX (P : Program) (w : World) (K : PySem.W.Frag) (mg : Str → Option Value) (base : Heap) (k : Nat) (x : Str) (sp : Sp) : Prop where
  ex : ∃ (f : Addr) (fd : FuncData) (ps : List Str), FnOk P w K mg base (L2.CX P w) k f fd ps sp ∧ mg x = some (.ref f) ∧ PySem.W.keepIn K (.ref f) = true ∧ Binds K fd ps []
theorem pe_calx {X : Cx} {k : Nat} {x : Str} {sp : Sp} {p pos : Pos} {e : Expr} {es : List Expr} {t : TA} (c : CalX X.prog X.w X.K X.mg X.base k x sp) (hr : Room k X.A) (hg : Gl X x) (ha : PA X (e :: es) t)
    (hdb : (x == ("__debug__" : Str)) = false := by decide) (he : starEach (e :: es) X.env = (false, eval e X.env) :: starEach es X.env := by rfl) (hpl : (backTo pos (starEach es X.env)).any (·.1) = false := by rfl) :
    PE X (.Call (.Name x p) (e :: es) [] pos) (tCall sp [] E0 t) := by
  obtain ⟨f, fd, ps, F, hm, hk, hb⟩ := c.ex
  exact pe_call F hr hg hm hk hb .nil passL ha hdb he hpl
/-- def x of the text: where it stands, and how it binds -/
structure Df (K : PySem.W.Frag) (mg : Str → Option Value) (x : Str) (st : Stmt) (ps : List Str) : Prop where
  ex : ∃ (f : Addr) (fd : FuncData), Fun K x x st f fd ∧ mg x = some (.ref f) ∧ Binds K fd ps []
theorem Df.cal {P : Program} {w : World} {K : PySem.W.Frag} {mg : Str → Option Value} {base : Heap} {x : Str} {st : Stmt} {N ps : List Str} {k : Nat} {sp : Sp} (D : Df K mg x st ps) (S : FnScope N ps (defScope st)) (len : ∀ vs H Q E, sp vs H Q E → vs.length = ps.length)
    (hbody : ∀ (f : Addr) (cdv : Value) (A : Around) (outer : List Env) (s : Shared) (H : Hp) (vs : List V) (Q : VK) (E : XK), Room k (A.deeper (envOfC x (defScope st) s.heap.objs.size f cdv)) → sp vs H Q E →
      ∃ t, PSs (cxOf CX0 P w K mg base N x (defScope st) f cdv A outer s H E).nox (defBody st) t ∧ t { nx := fun _ H' => Q .non H', rt := Q } (start N vs) H) : Cal P w K mg base (k + 1) x sp := by
  obtain ⟨f, fd, F, hm, hb⟩ := D.ex
  exact ⟨f, fd, ps, F.ok S len (hbody f), hm, F.kp, hb⟩
end Cu
set_option maxRecDepth 100000
set_option maxHeartbeats 2000000
/-! Cu 9: loops, promises by kinds. -/
namespace Cu
open PySem L2
section
variable {α β γ δ : Type} {r : R α} {s : R β} {σ : L2.St} {H H0 H' : Hp} {ta tb tc te tl : TE} {t u tt : TT} {a : α} {b : β} {v x y : V} {K : PySem.W.Frag} {i j k n m : Int} {as : List α} {bs : List β} {wi : TI} {g : TG} {tu : TS} {D : Ends}

def LoopG (S : Hp → Prop) (r : R α) (J : It) (as : List α) : Prop := Walk J as.length S (fun i H1 x H2 => Ex H1 H2 ∧ ∃ a, as[i]? = some a ∧ r.is H2 x a)
theorem lg_tup {S : Hp → Prop} {p : Addr} {xs : List V} (hS : ∀ H, S H → H p = some (.tup xs) ∧ Paired (r.is H) xs as) (hl : xs.length = as.length) : LoopG S r (Itt K p) as := by
  unfold LoopG
  rw [← hl]
  refine (walk_tup (K := K) (a := p) (xs := xs)).mono (fun H1 e => SqT.of (hS H1 e).1) fun i H1 x H2 _ e y => ?_
  obtain ⟨rfl, hx⟩ := y
  obtain ⟨a, ha, hr⟩ := pgetV (hS H2 e).2 hx
  exact ⟨exr, a, ha, hr⟩
theorem lg_lst {S : Hp → Prop} {p : Addr} {xs : List V} (hS : ∀ H, S H → H p = some (.lst xs) ∧ Paired (r.is H) xs as) (hl : xs.length = as.length) : LoopG S r (Itl K p) as := by
  unfold LoopG
  rw [← hl]
  refine (walk_list (K := K) (a := p) (xs := xs)).mono (fun H1 e => SqL.of (hS H1 e).1) fun i H1 x H2 _ e y => ?_
  obtain ⟨rfl, hx⟩ := y
  obtain ⟨a, ha, hr⟩ := pgetV (hS H2 e).2 hx
  exact ⟨exr, a, ha, hr⟩
theorem lg_enumT {S : Hp → Prop} {p : Addr} {xs : List V} (hS : ∀ H, S H → H p = some (.tup xs) ∧ Paired (r.is H) xs as) (hl : xs.length = as.length) : LoopG S (dP dI r) (IteT K p) (enumI as) := by
  unfold LoopG
  rw [enumI_len, ← hl]
  refine (walk_enumT (K := K) (a := p) (xs := xs)).mono (fun H1 e => SqT.of (hS H1 e).1) fun i H1 x H2 _ e y => ?_
  obtain ⟨T, x0, y0, rfl, hn, rfl, e1, e2⟩ := y
  cases e1
  obtain ⟨a, ha, hr⟩ := pgetV (hS H1 e).2 e2
  exact ⟨exn hn, ((i : Int), a), by rw [enumI_get, ha]; rfl, T, _, y0, rfl, upd_same, rfl, r.ex (exn hn) hr⟩
theorem lg_enumL {S : Hp → Prop} {p : Addr} {xs : List V} (hS : ∀ H, S H → H p = some (.lst xs) ∧ Paired (r.is H) xs as) (hl : xs.length = as.length) : LoopG S (dP dI r) (Ite K p) (enumI as) := by
  unfold LoopG
  rw [enumI_len, ← hl]
  refine (walk_enum (K := K) (a := p) (xs := xs)).mono (fun H1 e => SqL.of (hS H1 e).1) fun i H1 x H2 _ e y => ?_
  obtain ⟨T, x0, y0, rfl, hn, rfl, e1, e2⟩ := y
  cases e1
  obtain ⟨a, ha, hr⟩ := pgetV (hS H1 e).2 e2
  exact ⟨exn hn, ((i : Int), a), by rw [enumI_get, ha]; rfl, T, _, y0, rfl, upd_same, rfl, r.ex (exn hn) hr⟩
theorem lg_rng {S : Hp → Prop} {lo : Int} {n : Nat} : LoopG S dI (Itr lo n) (rangeI lo 1 n) := by
  unfold LoopG
  rw [rangeI_len]
  refine (walk_range (lo := lo) (n := n)).mono (fun H1 e => trivial) fun i H1 x H2 hi e y => ?_
  obtain ⟨rfl, hx⟩ := y
  exact ⟨exr, _, rangeI_get hi, by rw [Int.mul_one]; exact hx⟩

theorem loop_it {S : Hp → Prop} {J : It} (w : LoopG S r J as) (P : Nat → L2.St → Hp → Prop) (hS : ∀ i σ' H', P i σ' H' → S H') (h0 : P 0 σ H)
    (hs : ∀ i a x σ' H1 H', as[i]? = some a → P i σ' H1 → Ex H1 H' → r.is H' x a → g x σ' H' fun σ2 H2 => tu { D with nx := P (i + 1), ct := P (i + 1), bk := D.nx } σ2 H2)
    (hd : ∀ σ' H', P as.length σ' H' → D.nx σ' H') :
    ∃ W : Nat → Nat → L2.St → Hp → Prop, (∃ m, W 0 m σ H) ∧ ∀ i m σ H, W i m σ H →
      (J.stop i H ∧ D.nx σ H) ∨ (J.go i H ∧ ∃ N : L2.St → Hp → Prop, (∀ σ' H', N σ' H' → ∃ m', m' < m ∧ W (i + 1) m' σ' H') ∧ ∀ x H', J.yld i H x H' → g x σ H' fun σ2 H2 => tu { D with nx := N, ct := N, bk := D.nx } σ2 H2) :=
  for_it w P h0 (fun i σ H _ h => hS i σ H h) (fun i x σ' H1 H' _ hp y => let ⟨e, a, ha, hr⟩ := y; hs i a x σ' H1 H' ha hp e hr) hd
/-- for x in v, v a list or tuple as it stood in the base H0 -/
theorem s_forQ {iv : Nat} (hi : σ[iv]? = some (some v)) (hv : (dQ r).is H0 v as) (P : Nat → L2.St → Hp → Prop) (hE : ∀ i σ' H', P i σ' H' → Ex H0 H') (h0 : P 0 σ H)
    (hs : ∀ i a x σ' H', as[i]? = some a → P i σ' H' → r.is H' x a → g x σ' H' fun σ2 H2 => tu { D with nx := P (i + 1), ct := P (i + 1), bk := D.nx } σ2 H2)
    (hd : ∀ σ' H', P as.length σ' H' → D.nx σ' H') : tFor (iSeq K (tVar iv)) g tu D σ H := by
  have e0 := hE _ _ _ h0
  rcases hv with ⟨p, xs, h1, h2, h3⟩ | ⟨p, xs, h1, h2, h3⟩
  · refine ⟨v, hi, p, h1, .inr ⟨⟨xs, SqT.of (e0 p _ h2)⟩, ?_⟩⟩
    refine for_it (n := as.length) (G := fun H' => Ex H0 H') (Y := fun i H1 x H2 => H2 = H1 ∧ ∃ a, as[i]? = some a ∧ r.is H2 x a) ?_ P h0 (fun i σ H _ h => hE i σ H h) (fun i x σ' H1 H' _ hp y => by
      obtain ⟨rfl, a, ha, hr⟩ := y
      exact hs i a x σ' H' ha hp hr) hd
    rw [← plen h3]
    refine (walk_tup (K := K) (a := p) (xs := xs)).mono (fun H1 e => SqT.of (e p _ h2)) fun i H1 x H2 _ e y => ?_
    obtain ⟨rfl, hx⟩ := y
    obtain ⟨a, ha, hr⟩ := pgetV h3 hx
    exact ⟨rfl, a, ha, r.ex e hr⟩
  · refine ⟨v, hi, p, h1, .inl ⟨⟨xs, SqL.of (e0 p _ h2)⟩, ?_⟩⟩
    refine for_it (n := as.length) (G := fun H' => Ex H0 H') (Y := fun i H1 x H2 => H2 = H1 ∧ ∃ a, as[i]? = some a ∧ r.is H2 x a) ?_ P h0 (fun i σ H _ h => hE i σ H h) (fun i x σ' H1 H' _ hp y => by
      obtain ⟨rfl, a, ha, hr⟩ := y
      exact hs i a x σ' H' ha hp hr) hd
    rw [← plen h3]
    refine (walk_list (K := K) (a := p) (xs := xs)).mono (fun H1 e => SqL.of (e p _ h2)) fun i H1 x H2 _ e y => ?_
    obtain ⟨rfl, hx⟩ := y
    obtain ⟨a, ha, hr⟩ := pgetV h3 hx
    exact ⟨rfl, a, ha, r.ex e hr⟩
/-- .. a list -/
theorem s_forL {iv : Nat} (hi : σ[iv]? = some (some v)) (hv : (dL r).is H0 v as) (P : Nat → L2.St → Hp → Prop) (hE : ∀ i σ' H', P i σ' H' → Ex H0 H') (h0 : P 0 σ H)
    (hs : ∀ i a x σ' H', as[i]? = some a → P i σ' H' → r.is H' x a → g x σ' H' fun σ2 H2 => tu { D with nx := P (i + 1), ct := P (i + 1), bk := D.nx } σ2 H2)
    (hd : ∀ σ' H', P as.length σ' H' → D.nx σ' H') : tFor (iList K (tVar iv)) g tu D σ H := by
  have e0 := hE _ _ _ h0
  obtain ⟨p, xs, h1, h2, h3⟩ := hv
  refine ⟨v, hi, p, h1, ⟨xs, SqL.of (e0 p _ h2)⟩, ?_⟩
  refine for_it (n := as.length) (G := fun H' => Ex H0 H') (Y := fun i H1 x H2 => H2 = H1 ∧ ∃ a, as[i]? = some a ∧ r.is H2 x a) ?_ P h0 (fun i σ H _ h => hE i σ H h) (fun i x σ' H1 H' _ hp y => by
      obtain ⟨rfl, a, ha, hr⟩ := y
      exact hs i a x σ' H' ha hp hr) hd
  rw [← plen h3]
  refine (walk_list (K := K) (a := p) (xs := xs)).mono (fun H1 e => SqL.of (e p _ h2)) fun i H1 x H2 _ e y => ?_
  obtain ⟨rfl, hx⟩ := y
  obtain ⟨a, ha, hr⟩ := pgetV h3 hx
  exact ⟨rfl, a, ha, r.ex e hr⟩
/-- for x in t, t any tuple: the body leaves tuples alone -/
theorem s_forT [tr : TR r] (h : Ev (dT r) tl σ H as) (P : Hp → Nat → L2.St → Hp → Prop) (hE : ∀ H1 i σ' H', P H1 i σ' H' → TX H1 H') (h0 : ∀ H1, Ex H H1 → P H1 0 σ H1)
    (hs : ∀ H1 i a x σ' H', Ex H H1 → as[i]? = some a → P H1 i σ' H' → r.is H' x a → g x σ' H' fun σ2 H2 => tu { D with nx := P H1 (i + 1), ct := P H1 (i + 1), bk := D.nx } σ2 H2)
    (hd : ∀ H1 σ' H', Ex H H1 → P H1 as.length σ' H' → D.nx σ' H') : tFor (iTup K tl) g tu D σ H := by
  refine h H exr _ fun v H1 e1 ⟨p, xs, h1, h2, h3⟩ => ⟨p, h1, ⟨xs, SqT.of h2⟩, ?_⟩
  refine for_it (n := as.length) (G := fun H' => TX H1 H') (Y := fun i H1 x H2 => H2 = H1 ∧ ∃ a, as[i]? = some a ∧ r.is H2 x a) ?_ (P H1) (h0 H1 e1) (fun i σ H _ h => hE H1 i σ H h) (fun i x σ' H2 H' _ hp y => ?_) fun σ' H' hp => hd H1 σ' H' e1 hp
  · rw [← plen h3]
    refine (walk_tup (K := K) (a := p) (xs := xs)).mono (fun H2 e => SqT.of (e p _ h2)) fun i H2 x H3 _ e y => ?_
    obtain ⟨rfl, hx⟩ := y
    obtain ⟨a, ha, hr⟩ := pgetV h3 hx
    exact ⟨rfl, a, ha, tr.tx e hr⟩
  · obtain ⟨rfl, a, ha, hr⟩ := y
    exact hs H1 i a x σ' H' e1 ha hp hr
/-- for i, x in enumerate(t), t a tuple as it stood in the base H0 -/
theorem s_forEnumT (h : Ev (dT r) tl σ H as) [tr : TR r] (P : Hp → Nat → L2.St → Hp → Prop) (hE : ∀ H1 i σ' H', P H1 i σ' H' → TX H1 H') (h0 : ∀ H1, Ex H H1 → P H1 0 σ H1)
    (hs : ∀ H1 i a x σ' H2 H', Ex H H1 → as[i]? = some a → P H1 i σ' H2 → Ex H2 H' → (dP dI r).is H' x ((i : Int), a) → g x σ' H' fun σ2 H2 => tu { D with nx := P H1 (i + 1), ct := P H1 (i + 1), bk := D.nx } σ2 H2)
    (hd : ∀ H1 σ' H', Ex H H1 → P H1 as.length σ' H' → D.nx σ' H') : tFor (iEnumT K (tCons tl tNil)) g tu D σ H := by
  refine h H exr _ fun v H1 e1 ⟨p, xs, h1, h2, h3⟩ => ⟨p, xs, by rw [h1], SqT.of h2, ?_⟩
  refine for_it (n := as.length) (G := fun H' => TX H1 H') (Y := fun i H1 x H2 => Ex H1 H2 ∧ ∃ a, as[i]? = some a ∧ (dP dI r).is H2 x ((i : Int), a)) ?_ (P H1) (h0 H1 e1) (fun i σ H _ h => hE H1 i σ H h) (fun i x σ' H2 H' _ hp y => ?_) fun σ' H' hp => hd H1 σ' H' e1 hp
  · rw [← plen h3]
    refine (walk_enumT (K := K) (a := p) (xs := xs)).mono (fun H2 e => SqT.of (e p _ h2)) fun i H2 x H3 _ e y => ?_
    obtain ⟨T, x0, y0, rfl, hn, rfl, e1, e2⟩ := y
    cases e1
    obtain ⟨a, ha, hr⟩ := pgetV h3 e2
    exact ⟨exn hn, a, ha, T, _, y0, rfl, upd_same, rfl, r.ex (exn hn) (tr.tx e hr)⟩
  · obtain ⟨e, a, ha, hr⟩ := y
    exact hs H1 i a x σ' H2 H' e1 ha hp e hr
/-- for x in a list of ints -/
theorem s_forLI {ns : List Int} (h : EvN (dL dI) tl σ H ns) (P : Addr → Hp → Nat → L2.St → Hp → Prop) (hE : ∀ p H1 i σ' H', P p H1 i σ' H' → H' p = some (.lst (ns.map V.int))) (h0 : ∀ p H1, H p = none → H1 p = some (.lst (ns.map V.int)) → Ex H H1 → P p H1 0 σ H1)
    (hs : ∀ p H1 i a σ' H', Ex H H1 → ns[i]? = some a → P p H1 i σ' H' → g (.int a) σ' H' fun σ2 H2 => tu { D with nx := P p H1 (i + 1), ct := P p H1 (i + 1), bk := D.nx } σ2 H2)
    (hd : ∀ p H1 σ' H', Ex H H1 → P p H1 ns.length σ' H' → D.nx σ' H') : tFor (iList K tl) g tu D σ H := by
  refine h H exr _ fun p H1 hp e1 ⟨p', xs, h1, h2, h3⟩ => ?_
  cases h1
  have e := ints_of h3
  subst e
  refine ⟨p, rfl, ⟨_, SqL.of h2⟩, ?_⟩
  refine for_it (n := ns.length) (G := fun H' => H' p = some (.lst (ns.map V.int))) (Y := fun i H1 x H2 => H2 = H1 ∧ ∃ a, ns[i]? = some a ∧ x = .int a) ?_ (P p H1) (h0 p H1 hp h2 e1) (fun i σ H _ h => hE p H1 i σ H h) (fun i x σ' H2 H' _ hp' y => ?_) fun σ' H' hp' => hd p H1 σ' H' e1 hp'
  · rw [show ns.length = (ns.map V.int).length by simp]
    refine (walk_list (K := K) (a := p) (xs := ns.map V.int)).mono (fun H2 e => SqL.of e) fun i H2 x H3 _ e y => ?_
    obtain ⟨rfl, hx⟩ := y
    rw [List.getElem?_map] at hx
    cases q : ns[i]? with
    | none => rw [q] at hx; cases hx
    | some a => rw [q] at hx; cases hx; exact ⟨rfl, a, rfl, rfl⟩
  · obtain ⟨rfl, a, ha, rfl⟩ := y
    exact hs p H1 i a σ' H' e1 ha hp' 
/-- for i in range(n) -/
theorem s_forRg (h : Ev dI ta σ H n) (h1 : 0 ≤ n) (h2 : n ≤ 100000) (P : Hp → Nat → L2.St → Hp → Prop) (h0 : ∀ H1, Ex H H1 → P H1 0 σ H1)
    (hs : ∀ H1 (i : Nat) σ' H', Ex H H1 → (i : Int) < n → P H1 i σ' H' → g (.int (i : Int)) σ' H' fun σ2 H2 => tu { D with nx := P H1 (i + 1), ct := P H1 (i + 1), bk := D.nx } σ2 H2)
    (hd : ∀ H1 σ' H', Ex H H1 → P H1 n.toNat σ' H' → D.nx σ' H') : tFor (iRng1 (tCons ta tNil)) g tu D σ H := by
  refine h H exr _ fun v H1 e1 hv => ?_
  cases hv
  refine ⟨n, rfl, by omega, by omega, ?_⟩
  refine for_it (walk_range (lo := 0) (n := n.toNat)) (P H1) (h0 H1 e1) (fun i σ H _ h => trivial) (fun i x σ' H2 H' hi hp y => ?_) fun σ' H' hp => hd H1 σ' H' e1 hp
  obtain ⟨rfl, rfl⟩ := y
  show g (.int (0 + (i : Int))) σ' H' _
  rw [Int.zero_add]
  exact hs H1 i σ' H' e1 (by omega) hp

theorem gn {i : Nat} {Q : L2.St → Hp → Prop} (h : Q (σ.set i (some v)) H) : gName i v σ H Q := h
theorem ev_neg (h : Ev dI te σ H n) : Ev dI (tUn (rU fun i => .int (-i)) te) σ H (-n) := fun H1 e Q q => h H1 e _ fun v H2 e2 hv => ⟨n, hv, q _ H2 e2 rfl⟩
theorem ev_last {m : α} (h : Ev (dL r) te σ H (as ++ [m])) : Ev r (tOp (rIxL K) te (tUn (rU fun i => .int (-i)) (tC (.int 1)))) σ H m := ev_ixL h (ev_neg ev_int) atI_last'
theorem ev_lastT {m : α} (h : Ev (dT r) te σ H (as ++ [m])) : Ev r (tOp (rIxT K) te (tUn (rU fun i => .int (-i)) (tC (.int 1)))) σ H m := ev_ixT h (ev_neg ev_int) atI_last'
theorem atI_0 {m : α} : atI (m :: as) 0 = some m := atI_nat (xs := m :: as) (j := 0) rfl
theorem ev_firstL {m : α} (h : Ev (dL r) te σ H (m :: as)) : Ev r (tOp (rIxL K) te (tC (.int 0))) σ H m := ev_ixL h ev_int atI_0
theorem ev_firstT {m : α} (h : Ev (dT r) te σ H (m :: as)) : Ev r (tOp (rIxT K) te (tC (.int 0))) σ H m := ev_ixT h ev_int atI_0
theorem drop_cons {i : Nat} (h : as[i]? = some a) : as.drop i = a :: as.drop (i + 1) := by
  rw [List.getElem?_eq_some_iff] at h
  obtain ⟨h1, rfl⟩ := h
  exact List.drop_eq_getElem_cons h1
theorem take_snoc {i : Nat} (h : as[i]? = some a) : as.take (i + 1) = as.take i ++ [a] := by
  rw [List.take_add_one, h]; rfl
theorem fold_snoc {i : Nat} {f : β → α → β} {b0 : β} (h : as[i]? = some a) : (as.take (i + 1)).foldl f b0 = f ((as.take i).foldl f b0) a := by
  rw [take_snoc h, List.foldl_append]; rfl
theorem lt_of_get {i : Nat} (h : as[i]? = some a) : i < as.length := (List.getElem?_eq_some_iff.mp h).1
theorem isL {p : Addr} {xs : List V} (h : H p = some (.lst xs)) (hp : Paired (r.is H) xs as) : (dL r).is H (.ref p) as := ⟨p, xs, rfl, h, hp⟩
theorem isLI {p : Addr} {ns : List Int} (h : H p = some (.lst (ns.map V.int))) : (dL dI).is H (.ref p) ns := ⟨p, _, rfl, h, pints⟩
theorem getLI {p : Addr} {ns : List Int} (h : (dL dI).is H (.ref p) ns) : H p = some (.lst (ns.map V.int)) := by
  obtain ⟨q, xs, e, h1, h2⟩ := h
  cases e
  rw [h1, ints_of h2]

theorem nil_snoc (l : List α) : l = [] ∨ ∃ ys m, l = ys ++ [m] := by
  rcases List.eq_nil_or_concat l with h | ⟨ys, m, h⟩
  · exact .inl h
  · exact .inr ⟨ys, m, by rw [h, List.concat_eq_append]⟩
theorem s_appI {l : Addr} {ns : List Int} (hl : H l = some (.lst (ns.map V.int))) (ha : Ev dV ta σ H (.ref l)) (h : Ev dI te σ H n) (hz : ns.length < 100000) (k : ∀ H1, Ex H H1 → upd H1 l (.lst ((ns ++ [n]).map V.int)) l = some (.lst ((ns ++ [n]).map V.int)) → D.nx σ (upd H1 l (.lst ((ns ++ [n]).map V.int)))) :
    tDrop (tBM K "list" rAppend ta (tCons te tNil)) D σ H := s_app hl ha h (by rw [List.length_map]; exact hz) fun v H1 e hv => by
  cases hv
  have e2 : ns.map V.int ++ [V.int n] = (ns ++ [n]).map V.int := by simp
  rw [e2]
  exact k H1 e upd_same

/-! ### promises by kinds -/
variable {ε ζ : Type} {rd : R γ} {re : R δ} {rf : R ε} {rz : R ζ} {c : γ} {d : δ} {e : ε}
def sp1N (r : R α) (rc : R γ) (pre : α → Prop) (f : α → γ) : Sp := fun vs H Q _ => ∃ v a, vs = [v] ∧ r.is H v a ∧ pre a ∧ ∀ p H', H p = none → Ex H H' → rc.is H' (.ref p) (f a) → Q (.ref p) H'
def sp1 (r : R α) (rc : R γ) (pre : α → Prop) (f : α → γ) : Sp := fun vs H Q _ => ∃ v a, vs = [v] ∧ r.is H v a ∧ pre a ∧ ∀ x H', Ex H H' → rc.is H' x (f a) → Q x H'
def sp2N (r : R α) (s : R β) (rc : R γ) (pre : α → β → Prop) (f : α → β → γ) : Sp := fun vs H Q _ => ∃ v w a b, vs = [v, w] ∧ r.is H v a ∧ s.is H w b ∧ pre a b ∧ ∀ p H', H p = none → Ex H H' → rc.is H' (.ref p) (f a b) → Q (.ref p) H'
def sp2 (r : R α) (s : R β) (rc : R γ) (pre : α → β → Prop) (f : α → β → γ) : Sp := fun vs H Q _ => ∃ v w a b, vs = [v, w] ∧ r.is H v a ∧ s.is H w b ∧ pre a b ∧ ∀ x H', Ex H H' → rc.is H' x (f a b) → Q x H'
def sp3N (r : R α) (s : R β) (r3 : R δ) (rc : R γ) (pre : α → β → δ → Prop) (f : α → β → δ → γ) : Sp := fun vs H Q _ => ∃ v w z a b d, vs = [v, w, z] ∧ r.is H v a ∧ s.is H w b ∧ r3.is H z d ∧ pre a b d ∧ ∀ p H', H p = none → Ex H H' → rc.is H' (.ref p) (f a b d) → Q (.ref p) H'
def sp3 (r : R α) (s : R β) (r3 : R δ) (rc : R γ) (pre : α → β → δ → Prop) (f : α → β → δ → γ) : Sp := fun vs H Q _ => ∃ v w z a b d, vs = [v, w, z] ∧ r.is H v a ∧ s.is H w b ∧ r3.is H z d ∧ pre a b d ∧ ∀ x H', Ex H H' → rc.is H' x (f a b d) → Q x H'
def sp4 (r : R α) (s : R β) (r3 : R δ) (r4 : R ε) (rc : R γ) (pre : α → β → δ → ε → Prop) (f : α → β → δ → ε → γ) : Sp := fun vs H Q _ => ∃ v w z y a b d e, vs = [v, w, z, y] ∧ r.is H v a ∧ s.is H w b ∧ r3.is H z d ∧ r4.is H y e ∧ pre a b d e ∧ ∀ x H', Ex H H' → rc.is H' x (f a b d e) → Q x H'
def sp5 (r : R α) (s : R β) (r3 : R δ) (r4 : R ε) (r5 : R ζ) (rc : R γ) (pre : α → β → δ → ε → ζ → Prop) (f : α → β → δ → ε → ζ → γ) : Sp := fun vs H Q _ => ∃ v w z y u a b d e g, vs = [v, w, z, y, u] ∧ r.is H v a ∧ s.is H w b ∧ r3.is H z d ∧ r4.is H y e ∧ r5.is H u g ∧ pre a b d e g ∧ ∀ x H', Ex H H' → rc.is H' x (f a b d e g) → Q x H'
variable {rc : R γ} {r3 : R δ} {r4 : R ε} {r5 : R ζ} {z : ζ} {t3 t4 t5 : TE}
theorem en_c1 {pre : α → Prop} {f : α → γ} (h : Ev r ta σ H a) (hp : pre a) : EvN rc (tCall (sp1N r rc pre f) [] E0 (tCons ta tNil)) σ H (f a) := en_call (ep1 h) fun vs H1 _ ⟨v, e, hv⟩ Q E q => ⟨v, a, e, hv, hp, q⟩
theorem ev_c1 {pre : α → Prop} {f : α → γ} (h : Ev r ta σ H a) (hp : pre a) : Ev rc (tCall (sp1 r rc pre f) [] E0 (tCons ta tNil)) σ H (f a) := ev_call (ep1 h) fun vs H1 _ ⟨v, e, hv⟩ Q E q => ⟨v, a, e, hv, hp, q⟩
theorem en_c2 {pre : α → β → Prop} {f : α → β → γ} (h : Ev r ta σ H a) (h' : Ev s tb σ H b) (hp : pre a b) : EvN rc (tCall (sp2N r s rc pre f) [] E0 (tCons ta (tCons tb tNil))) σ H (f a b) := en_call (ep2 h h') fun vs H1 _ ⟨v, w, e, hv, hw⟩ Q E q => ⟨v, w, a, b, e, hv, hw, hp, q⟩
theorem ev_c2 {pre : α → β → Prop} {f : α → β → γ} (h : Ev r ta σ H a) (h' : Ev s tb σ H b) (hp : pre a b) : Ev rc (tCall (sp2 r s rc pre f) [] E0 (tCons ta (tCons tb tNil))) σ H (f a b) := ev_call (ep2 h h') fun vs H1 _ ⟨v, w, e, hv, hw⟩ Q E q => ⟨v, w, a, b, e, hv, hw, hp, q⟩
theorem ep3 (h : Ev r ta σ H a) (h' : Ev s tb σ H b) (h3 : Ev r3 t3 σ H d) : EvP (tCons ta (tCons tb (tCons t3 tNil))) σ H (fun H vs => ∃ v w z, vs = [v, w, z] ∧ r.is H v a ∧ s.is H w b ∧ r3.is H z d) := fun H1 e Q q =>
  h H1 e _ fun v H2 e2 hv => h' H2 (ext e e2) _ fun w H3 e3 hw => h3 H3 (ext e (ext e2 e3)) _ fun z H4 e4 hz => q [v, w, z] H4 (ext e2 (ext e3 e4)) ⟨v, w, z, rfl, r.ex (ext e3 e4) hv, s.ex e4 hw, hz⟩
theorem en_c3 {pre : α → β → δ → Prop} {f : α → β → δ → γ} (h : Ev r ta σ H a) (h' : Ev s tb σ H b) (h3 : Ev r3 t3 σ H d) (hp : pre a b d) : EvN rc (tCall (sp3N r s r3 rc pre f) [] E0 (tCons ta (tCons tb (tCons t3 tNil)))) σ H (f a b d) :=
  en_call (ep3 h h' h3) fun vs H1 _ ⟨v, w, z, e, hv, hw, hz⟩ Q E q => ⟨v, w, z, a, b, d, e, hv, hw, hz, hp, q⟩
theorem ev_c3 {pre : α → β → δ → Prop} {f : α → β → δ → γ} (h : Ev r ta σ H a) (h' : Ev s tb σ H b) (h3 : Ev r3 t3 σ H d) (hp : pre a b d) : Ev rc (tCall (sp3 r s r3 rc pre f) [] E0 (tCons ta (tCons tb (tCons t3 tNil)))) σ H (f a b d) :=
  ev_call (ep3 h h' h3) fun vs H1 _ ⟨v, w, z, e, hv, hw, hz⟩ Q E q => ⟨v, w, z, a, b, d, e, hv, hw, hz, hp, q⟩
theorem ev_c4 {pre : α → β → δ → ε → Prop} {f : α → β → δ → ε → γ} (h : Ev r ta σ H a) (h' : Ev s tb σ H b) (h3 : Ev r3 t3 σ H d) (h4 : Ev r4 t4 σ H e) (hp : pre a b d e) : Ev rc (tCall (sp4 r s r3 r4 rc pre f) [] E0 (tCons ta (tCons tb (tCons t3 (tCons t4 tNil))))) σ H (f a b d e) := fun H1 e1 Q q =>
  h H1 e1 _ fun v H2 e2 hv => h' H2 (ext e1 e2) _ fun w H3 e3 hw => h3 H3 (ext e1 (ext e2 e3)) _ fun z H4 e4 hz => h4 H4 (ext e1 (ext e2 (ext e3 e4))) _ fun y H5 e5 hy =>
    ⟨v, w, z, y, a, b, d, e, rfl, r.ex (ext e3 (ext e4 e5)) hv, s.ex (ext e4 e5) hw, r3.ex e5 hz, hy, hp, fun x H6 e6 hx => q x H6 (ext e2 (ext e3 (ext e4 (ext e5 e6)))) hx⟩
theorem ev_c5 {pre : α → β → δ → ε → ζ → Prop} {f : α → β → δ → ε → ζ → γ} (h : Ev r ta σ H a) (h' : Ev s tb σ H b) (h3 : Ev r3 t3 σ H d) (h4 : Ev r4 t4 σ H e) (h5 : Ev r5 t5 σ H z) (hp : pre a b d e z) : Ev rc (tCall (sp5 r s r3 r4 r5 rc pre f) [] E0 (tCons ta (tCons tb (tCons t3 (tCons t4 (tCons t5 tNil)))))) σ H (f a b d e z) := fun H1 e1 Q q =>
  h H1 e1 _ fun v H2 e2 hv => h' H2 (ext e1 e2) _ fun w H3 e3 hw => h3 H3 (ext e1 (ext e2 e3)) _ fun z H4 e4 hz => h4 H4 (ext e1 (ext e2 (ext e3 e4))) _ fun y H5 e5 hy => h5 H5 (ext e1 (ext e2 (ext e3 (ext e4 e5)))) _ fun u H6 e6 hu =>
    ⟨v, w, z, y, u, a, b, d, e, _, rfl, r.ex (ext e3 (ext e4 (ext e5 e6))) hv, s.ex (ext e4 (ext e5 e6)) hw, r3.ex (ext e5 e6) hz, r4.ex e6 hy, hu, hp, fun x H7 e7 hx => q x H7 (ext e2 (ext e3 (ext e4 (ext e5 (ext e6 e7))))) hx⟩
theorem len1N {pre : α → Prop} {f : α → γ} (vs : List V) (H : Hp) (Q : VK) (E : XK) (h : sp1N r rc pre f vs H Q E) : vs.length = 1 := by obtain ⟨v, a, rfl, _⟩ := h; rfl
theorem len1 {pre : α → Prop} {f : α → γ} (vs : List V) (H : Hp) (Q : VK) (E : XK) (h : sp1 r rc pre f vs H Q E) : vs.length = 1 := by obtain ⟨v, a, rfl, _⟩ := h; rfl
theorem len2N {pre : α → β → Prop} {f : α → β → γ} (vs : List V) (H : Hp) (Q : VK) (E : XK) (h : sp2N r s rc pre f vs H Q E) : vs.length = 2 := by obtain ⟨v, w, a, b, rfl, _⟩ := h; rfl
theorem len2 {pre : α → β → Prop} {f : α → β → γ} (vs : List V) (H : Hp) (Q : VK) (E : XK) (h : sp2 r s rc pre f vs H Q E) : vs.length = 2 := by obtain ⟨v, w, a, b, rfl, _⟩ := h; rfl
theorem len3N {pre : α → β → δ → Prop} {f : α → β → δ → γ} (vs : List V) (H : Hp) (Q : VK) (E : XK) (h : sp3N r s r3 rc pre f vs H Q E) : vs.length = 3 := by obtain ⟨v, w, z, a, b, d, rfl, _⟩ := h; rfl
theorem len3 {pre : α → β → δ → Prop} {f : α → β → δ → γ} (vs : List V) (H : Hp) (Q : VK) (E : XK) (h : sp3 r s r3 rc pre f vs H Q E) : vs.length = 3 := by obtain ⟨v, w, z, a, b, d, rfl, _⟩ := h; rfl
theorem len4 {pre : α → β → δ → ε → Prop} {f : α → β → δ → ε → γ} (vs : List V) (H : Hp) (Q : VK) (E : XK) (h : sp4 r s r3 r4 rc pre f vs H Q E) : vs.length = 4 := by obtain ⟨v, w, z, y, a, b, d, e, rfl, _⟩ := h; rfl
theorem len5 {pre : α → β → δ → ε → ζ → Prop} {f : α → β → δ → ε → ζ → γ} (vs : List V) (H : Hp) (Q : VK) (E : XK) (h : sp5 r s r3 r4 r5 rc pre f vs H Q E) : vs.length = 5 := by obtain ⟨v, w, z, y, u, a, b, d, e, g, rfl, _⟩ := h; rfl
end
end Cu
set_option maxRecDepth 100000
set_option maxHeartbeats 2000000
/-! Cu 10: == of data told; lists of data; None or a value. -/
namespace Cu
open PySem PySem.Spec PyProof.Rows L2
section
variable {α β γ : Type} {r : R α} {s : R β} {f : α → PyData} {g : β → PyData} {σ : L2.St} {H H0 H' : Hp} {ta tb tc te tl : TE} {t u tt : TT} {a : α} {b : β} {v x y : V} {K : PySem.W.Frag} {i j k m : Int} {as : List α} {D : Ends}
def fO {α : Type} (f : α → PyData) : Option α → PyData
  | none => .none
  | some a => f a
structure PyE {α : Type} [DecidableEq α] (r : R α) (f : α → PyData) (n : Nat) : Prop where
  py : Py r f
  eq : ∀ a b, PyData.eqv (f a) (f b) = decide (a = b)
  lay : ∀ a, PyData.canLay0 (f a) = true
  dep : ∀ a, PyData.depth (f a) ≤ n
theorem pye_I : PyE dI PyData.int 1 := ⟨py_I, fun a b => by
  show (a == b) = decide (a = b)
  by_cases h : a = b <;> simp [h], fun a => by simp [PyData.canLay0], fun a => by simp [PyData.depth]⟩
section
variable [DecidableEq α] [DecidableEq β] {n n1 n2 : Nat}
theorem eqvAll_map (h : PyE r f n) : ∀ (as bs : List α), PyData.eqvAll (as.map f) (bs.map f) = decide (as = bs)
  | [], [] => by simp [PyData.eqvAll]
  | [], b :: bs => by simp [PyData.eqvAll]
  | a :: as, [] => by simp [PyData.eqvAll]
  | a :: as, b :: bs => by
    simp only [List.map_cons, PyData.eqvAll, eqvAll_map h as bs, h.eq a b]
    by_cases h1 : a = b <;> by_cases h2 : as = bs <;> simp [h1, h2]
theorem layAll_map (h : PyE r f n) : ∀ (as : List α), PyData.canLayAll0 (as.map f) = true
  | [] => by simp [PyData.canLayAll0]
  | a :: as => by simp [PyData.canLayAll0, h.lay a, layAll_map h as]
theorem depAll_map (h : PyE r f n) : ∀ (as : List α), PyData.depthAll (as.map f) ≤ n
  | [] => by simp [PyData.depthAll]
  | a :: as => by
    have h1 := h.dep a
    have h2 := depAll_map h as
    simp only [List.map_cons, PyData.depthAll]
    omega
theorem pye_T (h : PyE r f n) : PyE (dT r) (fun as => .tuple (as.map f)) (n + 1) := ⟨py_T h.py, fun as bs => by
  show PyData.eqvAll _ _ = _
  exact eqvAll_map h as bs, fun as => by
  show PyData.canLayAll0 _ = _
  exact layAll_map h as, fun as => by
  have := depAll_map h as
  simp only [PyData.depth]
  omega⟩
theorem pye_L (h : PyE r f n) : PyE (dL r) (fun as => .list (as.map f)) (n + 1) := ⟨py_L h.py, fun as bs => by
  show PyData.eqvAll _ _ = _
  exact eqvAll_map h as bs, fun as => by
  show PyData.canLayAll0 _ = _
  exact layAll_map h as, fun as => by
  have := depAll_map h as
  simp only [PyData.depth]
  omega⟩
theorem pye_P (h : PyE r f n) (h' : PyE s g n) : PyE (dP r s) (fun d => .tuple [f d.1, g d.2]) (n + 1) := ⟨py_P h.py h'.py, fun d e => by
  show PyData.eqvAll _ _ = _
  obtain ⟨a, b⟩ := d
  obtain ⟨c, e⟩ := e
  simp only [PyData.eqvAll, h.eq, h'.eq, Prod.mk.injEq]
  by_cases h1 : a = c <;> by_cases h2 : b = e <;> simp [h1, h2], fun d => by
  show PyData.canLayAll0 _ = _
  simp [PyData.canLayAll0, h.lay, h'.lay], fun d => by
  have h1 := h.dep d.1
  have h2 := h'.dep d.2
  simp only [PyData.depth, PyData.depthAll]
  omega⟩
/-- what is no None -/
theorem pye_O (h : PyE r f n) (h1 : 1 ≤ n) (hn : ∀ a, PyData.eqv .none (f a) = false ∧ PyData.eqv (f a) .none = false) : PyE (dO r) (fO f) n := ⟨⟨fun K H v o hv => by
  cases o with
  | none => cases (show v = .non from hv); exact .non
  | some a => exact h.py.dp K H _ _ hv.2⟩, fun a b => by
  cases a with
  | none =>
    cases b with
    | none => simp [PyData.eqv, fO]
    | some b => show PyData.eqv .none (f b) = _; rw [(hn b).1]; simp
  | some a =>
    cases b with
    | none => show PyData.eqv (f a) .none = _; rw [(hn a).2]; simp
    | some b =>
      show PyData.eqv (f a) (f b) = _
      rw [h.eq]
      by_cases e : a = b <;> simp [e], fun a => by
  cases a with
  | none => simp [PyData.canLay0, fO]
  | some a => exact h.lay a, fun a => by
  cases a with
  | none => simp [PyData.depth, fO]
  | some a => exact h.dep a⟩
theorem PyE.shaped (h : PyE r f n) (hn : n ≤ 64) (a : α) : SeqAt.shaped (f a) = true := by
  unfold SeqAt.shaped
  rw [h.lay a, decide_eq_true (Nat.le_trans (h.dep a) hn)]; rfl
theorem ev_eqE {a b : α} (h : PyE r f n) (hn : n ≤ 64) (ha : Ev r ta σ H a) (hb : Ev r tb σ H b) : Ev dB (tOp (rEqD K) ta tb) σ H (decide (a = b)) :=
  (ev_eqD h.py h.py ha hb (h.shaped hn a) (h.shaped hn b)).to (h.eq a b)
theorem ev_neE {a b : α} (h : PyE r f n) (hn : n ≤ 64) (ha : Ev r ta σ H a) (hb : Ev r tb σ H b) : Ev dB (tOp (rNeD K) ta tb) σ H (!decide (a = b)) :=
  (ev_neD h.py h.py ha hb (h.shaped hn a) (h.shaped hn b)).to (by rw [h.eq a b])
end
abbrev dPI : R (Int × Int) := dP dI dI
def fPI : Int × Int → PyData := fun d => .tuple [.int d.1, .int d.2]
def fTPI : List (Int × Int) → PyData := fun as => .tuple (as.map fPI)
theorem pye_PI : PyE dPI fPI 2 := pye_P pye_I pye_I
theorem pye_TPI : PyE (dT dPI) fTPI 3 := pye_T pye_PI
theorem pye_OTPI : PyE (dO (dT dPI)) (fO fTPI) 3 := pye_O pye_TPI (by decide) fun a => ⟨by simp [PyData.eqv, fTPI], by simp [PyData.eqv, fTPI]⟩

/-! None or a value -/
theorem EvN.some (h : EvN r te σ H a) : Ev (dO r) te σ H (some a) := fun H1 e Q q => h H1 e _ fun p H2 _ e2 hp => q _ H2 e2 ⟨fun z => (nomatch z), hp⟩
theorem Ev.someT (h : Ev (dT r) te σ H as) : Ev (dO (dT r)) te σ H (some as) := h.re fun _ _ hv => ⟨(by obtain ⟨p, xs, e, _⟩ := hv; rw [e]; intro z; cases z), hv⟩
theorem Ev.someI (h : Ev dI te σ H k) : Ev (dO dI) te σ H (some k) := h.re fun _ _ hv => ⟨(by cases hv; intro z; cases z), hv⟩
theorem Ev.someW {n : Nat} (h : Ev dW te σ H n) : Ev (dO dW) te σ H (some n) := h.re fun _ _ hv => ⟨(by obtain ⟨p, xs, e, _⟩ := hv; rw [e]; intro z; cases z), hv⟩
theorem Ev.unO (h : Ev (dO r) te σ H (Option.some a)) : Ev r te σ H a := h.re fun _ _ hv => hv.2

/-! lists of data that are written -/
theorem s_appD [tr : TR r] {l : Addr} (hl : (dL r).is H (.ref l) as) (ha : Ev dV ta σ H (.ref l)) (h : Ev r te σ H a) (hz : as.length < 100000) (k : ∀ H1 o, Ex H H1 → (dL r).is (upd H1 l o) (.ref l) (as ++ [a]) → TX H1 (upd H1 l o) → D.nx σ (upd H1 l o)) :
    tDrop (tBM K "list" rAppend ta (tCons te tNil)) D σ H := by
  obtain ⟨q, xs, e, h1, h2⟩ := hl
  cases e
  refine s_app h1 ha h (by rw [plen h2]; exact hz) fun v H1 e1 hv => ?_
  have htx : TX H1 (upd H1 l (.lst (xs ++ [v]))) := txl (e1 l _ h1)
  exact k H1 _ e1 ⟨l, _, rfl, upd_same, psnoc (pmap h2 fun _ _ h => tr.tx htx (r.ex e1 h)) (tr.tx htx hv)⟩ htx
theorem set_last {xs : List α} : ∀ {a b : α}, (xs ++ [a]).set xs.length b = xs ++ [b] := by
  intro a b
  rw [List.set_append_right _ _ (Nat.le_refl _)]
  simp
theorem s_setLast [tr : TR r] {l : Addr} {a0 : α} (hl : (dL r).is H (.ref l) (as ++ [a0])) (ho : Ev dV ta σ H (.ref l)) (h : Ev r te σ H a) (k : ∀ H1 o, Ex H H1 → (dL r).is (upd H1 l o) (.ref l) (as ++ [a]) → TX H1 (upd H1 l o) → D.nx σ (upd H1 l o)) :
    tAsg te (gSub ta (tUn (rU fun i => .int (-i)) (tC (.int 1))) rSetL) D σ H := by
  obtain ⟨q, xs, e, h1, h2⟩ := hl
  cases e
  have hn := plen h2
  rw [List.length_append, List.length_singleton] at hn
  refine s_setL h1 h ho (ev_neg ev_int) (j := as.length) ?_ fun v H1 e1 hv => ?_
  · unfold ixN
    rw [if_neg (by decide), if_pos (by omega), hn]
    congr 1
    omega
  · have htx : TX H1 (upd H1 l (.lst (xs.set as.length v))) := txl (e1 l _ h1)
    refine k H1 _ e1 ⟨l, _, rfl, upd_same, ?_⟩ htx
    have h3 := pset as.length (tr.tx htx hv) (pmap h2 fun _ _ h => tr.tx htx (r.ex e1 h))
    rw [set_last] at h3
    exact h3
theorem s_extD [tr : TR r] {l : Addr} {bs : List α} (hl : (dL r).is H (.ref l) as) (ha : Ev dV ta σ H (.ref l)) (h : Ev (dL r) te σ H bs) (hz : as.length + bs.length ≤ 100000) (k : ∀ H1 o, Ex H H1 → (dL r).is (upd H1 l o) (.ref l) (as ++ bs) → TX H1 (upd H1 l o) → D.nx σ (upd H1 l o)) :
    tDrop (tBM K "list" rExtend ta (tCons te tNil)) D σ H := by
  obtain ⟨q, xs, e, h1, h2⟩ := hl
  cases e
  refine s_extend h1 ha h (by rw [plen h2]; exact hz) fun vs H1 e1 hv => ?_
  have htx : TX H1 (upd H1 l (.lst (xs ++ vs))) := txl (e1 l _ h1)
  exact k H1 _ e1 ⟨l, _, rfl, upd_same, papp (pmap h2 fun _ _ h => tr.tx htx (r.ex e1 h)) (pmap hv fun _ _ h => tr.tx htx h)⟩ htx
/-- [e for x in xs] -/
theorem ev_lcY [ts : TR s] {wi : TI} {g : TG} {vs : List Nat} (hg : GM g) (hs : EvS r wi σ H as) (hz : as.length < 100000) (q : α → β)
    (hb : ∀ a x H1, a ∈ as → Ex H H1 → r.is H1 x a → g x (wipe σ vs) H1 fun σ2 H2 => H2 = H1 ∧ wipe σ2 vs = wipe σ vs ∧ Ev s te σ2 H1 (q a)) :
    EvN (dL s) (tLc wi g tYes te vs) σ H (as.map q) := (ev_lc hg hs hz (fun _ => true) q fun a x H1 ha e hx => hg _ _ _ _ _ (fun σ2 H2 h => ⟨h.1, h.2.1, et_yes, fun _ => h.2.2⟩) (hb a x H1 ha e hx)).to (by rw [List.filter_eq_self.mpr fun _ _ => rfl])
/-- 2 * e, small * e -/
def Sm (n : Int) : Prop := n.natAbs.log2 < 9000
theorem ev_mulW (ha : Ev dI ta σ H i) (hb : Ev dI tb σ H j) (h1 : Sm i) (h2 : Sm j) : Ev dI (tOp (L2.rI CMulW fun i j => .int (i * j)) ta tb) σ H (i * j) := ev_I ha hb (by
  unfold CMulW
  unfold Sm at h1 h2
  omega)
end
end Cu
set_option maxRecDepth 100000
set_option maxHeartbeats 2000000
/-! Cu 11: isinstance, or as a value, sorted(d), list(range(a, b)), pairs as tuples. -/
namespace Cu
open PySem PySem.Spec PyProof.Rows L2
section
variable {α β γ : Type} {r : R α} {s : R β} {σ : L2.St} {H H0 H' : Hp} {ta tb tc te tl : TE} {t u tt : TT} {a : α} {b : β} {v x y : V} {K : PySem.W.Frag} {i j k m : Int} {as : List α} {D : Ends}
theorem pair_T {a b : α} (h : (dP r r).is H v (a, b)) : (dT r).is H v [a, b] := by
  obtain ⟨p, x, y, h1, h2, h3, h4⟩ := h
  exact ⟨p, [x, y], h1, h2, .cons h3 (.cons h4 .nil)⟩
theorem T_pair {a b : α} (h : (dT r).is H v [a, b]) : (dP r r).is H v (a, b) := by
  obtain ⟨p, xs, h1, h2, h3⟩ := h
  cases h3 with
  | cons h3 t =>
    cases t with
    | cons h4 t => cases t; exact ⟨p, _, _, h1, h2, h3, h4⟩
theorem Ev.pT {a b : α} (h : Ev (dP r r) te σ H (a, b)) : Ev (dT r) te σ H [a, b] := h.re fun _ _ => pair_T
theorem Ev.Tp {a b : α} (h : Ev (dT r) te σ H [a, b]) : Ev (dP r r) te σ H (a, b) := h.re fun _ _ => T_pair

/-! isinstance -/
theorem ty_int {b : Bool} {us : List Value} (h : (PySem.W.kitAny K (.type "int") us) = some b) : ∀ H v, dI.is H v i → ∃ t, TyX K H v t ∧ PySem.W.kitAny K t us = some b := fun H v hv => by
  cases hv
  exact ⟨_, .base (.int _), h⟩
theorem ty_tup {b : Bool} {us : List Value} (h : (PySem.W.kitAny K (.type "tuple") us) = some b) : ∀ H v, (dT r).is H v as → ∃ t, TyX K H v t ∧ PySem.W.kitAny K t us = some b := fun H v hv => by
  obtain ⟨p, xs, rfl, h2, _⟩ := hv
  exact ⟨_, .base (.tup h2), h⟩
theorem ty_lst {b : Bool} {us : List Value} (h : (PySem.W.kitAny K (.type "list") us) = some b) : ∀ H v, (dL r).is H v as → ∃ t, TyX K H v t ∧ PySem.W.kitAny K t us = some b := fun H v hv => by
  obtain ⟨p, xs, rfl, h2, _⟩ := hv
  exact ⟨_, .base (.lst h2), h⟩
theorem ty_pair {d : α × β} {b : Bool} {us : List Value} (h : (PySem.W.kitAny K (.type "tuple") us) = some b) : ∀ H v, (dP r s).is H v d → ∃ t, TyX K H v t ∧ PySem.W.kitAny K t us = some b := fun H v hv => by
  obtain ⟨p, x, y, rfl, h2, _⟩ := hv
  exact ⟨_, .base (.tup h2), h⟩
theorem ty_none {b : Bool} {us : List Value} (h : (PySem.W.kitAny K (.type "NoneType") us) = some b) : ∀ H v, (dO r).is H v none → ∃ t, TyX K H v t ∧ PySem.W.kitAny K t us = some b := fun H v hv => by
  cases (show v = .non from hv)
  exact ⟨_, .base .non, h⟩
theorem kit1 {t c : String} {b : Bool} (h : kitB t c = some b) : PySem.W.kitAny K (.type t) [.type c] = some b := by
  cases b with
  | true => exact kitAny_cons (b := true) (kit_ty h) (fun z => nomatch z) (fun _ => rfl)
  | false => exact kitAny_cons (b := false) (kit_ty h) (fun _ => kitAny_nil) (fun z => nomatch z)
theorem kit2 {t c d : String} {b b' : Bool} (h : kitB t c = some b) (h' : kitB t d = some b') : PySem.W.kitAny K (.type t) [.type c, .type d] = some (b || b') := by
  cases b with
  | true => exact kitAny_cons (b := true) (kit_ty h) (fun z => nomatch z) (fun _ => by simp)
  | false => exact kitAny_cons (b := false) (kit_ty h) (fun _ => by simpa using kit1 h') (fun z => nomatch z)
theorem k_int_lt : PySem.W.kitAny K (.type "int") [.type "list", .type "tuple"] = some false := kit2 (b := false) (b' := false) (by decide +kernel) (by decide +kernel)
theorem k_tup_lt : PySem.W.kitAny K (.type "tuple") [.type "list", .type "tuple"] = some true := kit2 (b := false) (b' := true) (by decide +kernel) (by decide +kernel)
theorem k_lst_lt : PySem.W.kitAny K (.type "list") [.type "list", .type "tuple"] = some true := kit2 (b := true) (b' := false) (by decide +kernel) (by decide +kernel)
theorem k_non_lt : PySem.W.kitAny K (.type "NoneType") [.type "list", .type "tuple"] = some false := kit2 (b := false) (b' := false) (by decide +kernel) (by decide +kernel)
theorem k_int_bs : PySem.W.kitAny K (.type "int") [.type "bool", .type "str"] = some false := kit2 (b := false) (b' := false) (by decide +kernel) (by decide +kernel)
theorem k_non_bs : PySem.W.kitAny K (.type "NoneType") [.type "bool", .type "str"] = some false := kit2 (b := false) (b' := false) (by decide +kernel) (by decide +kernel)
theorem k_int_b : PySem.W.kitAny K (.type "int") [.type "bool"] = some false := kit1 (by decide +kernel)
theorem k_non_b : PySem.W.kitAny K (.type "NoneType") [.type "bool"] = some false := kit1 (by decide +kernel)
theorem k_non_i : PySem.W.kitAny K (.type "NoneType") [.type "int"] = some false := kit1 (by decide +kernel)
theorem k_int_i : PySem.W.kitAny K (.type "int") [.type "int"] = some true := kit1 (by decide +kernel)
theorem k_lst_l : PySem.W.kitAny K (.type "list") [.type "list"] = some true := kit1 (by decide +kernel)
theorem k_lst_t : PySem.W.kitAny K (.type "list") [.type "tuple"] = some false := kit1 (by decide +kernel)
theorem k_tup_l : PySem.W.kitAny K (.type "tuple") [.type "list"] = some false := kit1 (by decide +kernel)
theorem k_tup_t : PySem.W.kitAny K (.type "tuple") [.type "tuple"] = some true := kit1 (by decide +kernel)
theorem kit_one {t c : Value} {b : Bool} (h : PySem.W.kitAny K t [c] = some b) : PySem.W.kitOne K t c = some b := by
  unfold PySem.W.kitAny at h
  cases q : PySem.W.kitOne K t c with
  | none => rw [q] at h; cases h
  | some b' =>
    rw [q] at h
    cases b' with
    | true => exact h
    | false => exact h
theorem ev_isi2 {n1 n2 : String} {b : Bool} (ha : Ev r ta σ H a) (ty : ∀ H v, r.is H v a → ∃ t, TyX K H v t ∧ PySem.W.kitAny K t [.type n1, .type n2] = some b) :
    Ev dB (tCB (rIsiT K) (tCons ta (tCons (tTup (tCons (tC (.ty n1)) (tCons (tC (.ty n2)) tNil))) tNil))) σ H b := fun H1 e Q q =>
  ha H1 e _ fun v H2 e2 hv => ⟨by show 2 ≤ sizeLine; decide, fun p hp => by
    obtain ⟨t, h1, h2⟩ := ty (upd H2 p (.tup [.ty n1, .ty n2])) v (r.ex (exn hp) hv)
    exact ⟨v, p, _, t, _, b, rfl, upd_same, .cons (.ty n1) (.cons (.ty n2) .nil), h1, h2, q _ _ (ext e2 (exn hp)) rfl⟩⟩
theorem ev_isi1 {n1 : String} {b : Bool} (ha : Ev r ta σ H a) (ty : ∀ H v, r.is H v a → ∃ t, TyX K H v t ∧ PySem.W.kitAny K t [.type n1] = some b) :
    Ev dB (tCB (rIsi K) (tCons ta (tCons (tC (.ty n1)) tNil))) σ H b := fun H1 e Q q =>
  ha H1 e _ fun v H2 e2 hv => by
    obtain ⟨t, h1, h2⟩ := ty H2 v hv
    exact ⟨v, _, t, _, b, rfl, .ty n1, h1, kit_one h2, q _ _ e2 rfl⟩

/-! x or () -/
theorem ev_orO (ha : Ev (dO (dT r)) ta σ H none) (hb : Ev s tb σ H b) : Ev s (tOrT K ta tb) σ H b := fun H1 e Q q =>
  ha H1 e _ fun v H2 e2 hv => ⟨false, by cases (show v = .non from hv); rfl, by
    rw [if_neg Bool.false_ne_true]
    exact hb H2 (ext e e2) Q fun w H3 e3 hw => q w H3 (ext e2 e3) hw⟩
theorem ev_orE (ha : Ev (dO (dT r)) ta σ H (some [])) (hb : Ev s tb σ H b) : Ev s (tOrT K ta tb) σ H b := fun H1 e Q q =>
  ha H1 e _ fun v H2 e2 hv => by
    obtain ⟨_, p, xs, rfl, h2, h3⟩ := hv
    cases h3
    refine ⟨false, .inr (.inl ⟨[], SqT.of h2, rfl⟩), ?_⟩
    rw [if_neg Bool.false_ne_true]
    exact hb H2 (ext e e2) Q fun w H3 e3 hw => q w H3 (ext e2 e3) hw
theorem ev_orS {a : α} (ha : Ev (dO (dT r)) ta σ H (some (a :: as))) : Ev (dT r) (tOrT K ta tb) σ H (a :: as) := fun H1 e Q q =>
  ha H1 e _ fun v H2 e2 hv => by
    obtain ⟨_, p, xs, rfl, h2, h3⟩ := hv
    cases h3 with
    | cons h3 h4 =>
    refine ⟨true, .inr (.inl ⟨_, SqT.of h2, rfl⟩), ?_⟩
    rw [if_pos rfl]
    exact q _ H2 e2 ⟨p, _, rfl, h2, .cons h3 h4⟩
/-- .. or () -/
theorem ev_orU {o : Option (List α)} (ha : Ev (dO (dT r)) ta σ H o) : Ev (dT r) (tOrT K ta (tTup tNil)) σ H (o.getD []) := by
  have h0 : Ev (dT r) (tTup tNil) σ H [] := (en_tup ea_nil (Nat.zero_le _)).ev
  match o, ha with
  | none, ha => exact ev_orO ha h0
  | some [], ha => exact ev_orE ha h0
  | some (a :: as), ha => exact ev_orS ha

/-! list(range(a, b)) -/
theorem en_listRg2 (ha : Ev dI ta σ H i) (hb : Ev dI tb σ H j) (h0 : RgOk i j) : EvN (dL dI) (tLstRg (tRg2 ta tb)) σ H (rangeI i 1 (j - i).toNat) := fun H1 e Q q =>
  ha H1 e _ fun v H2 e2 hv => hb H2 (ext e e2) _ fun w H3 e3 hw => ⟨i, j, hv, hw, h0, fun l hl => q l _ (exf (ext e2 e3) hl) (ext e2 (ext e3 (exn hl))) (by
    have e4 : rgV i j = (rangeI i 1 (j - i).toNat).map V.int := by
      unfold rgV rangeI
      rw [List.map_map]
      apply List.map_congr_left
      intro k _
      simp
    rw [e4]
    exact isLI upd_same)⟩
/-- sorted(d) -/
def rSrtD : List V → Hp → VK → Prop := fun xs H Q => ∃ (a : Addr) (kvs : List (Key × V)) (ks : List Int), xs = [.ref a] ∧ Rd H a (.dK kvs) ∧ kvs.map (·.1) = ks.map Sum.inl ∧ ks.length < 64 ∧
    ∀ (ys : List Int) (p : Addr), ys.Perm ks → ys.Pairwise (· ≤ ·) → H p = none → Q (.ref p) (upd H p (.lst (ys.map V.int)))
theorem cr_srtD {X : Cx} (hc : X.calm = true) : CallR X (.builtin "sorted") rSrtD := call_sortedDI hc
theorem en_sortD {kvs : List (Int × α)} {p : Addr} {ms : List Int} (h : Ev dV te σ H (.ref p)) (hd : DictR r H p kvs) (hl : kvs.length < 64) (hp : ms.Perm (kvs.map (·.1))) (hm : ms.Pairwise (· ≤ ·)) : EvN (dL dI) (tCB rSrtD (tCons te tNil)) σ H ms := fun H1 e Q q =>
  h H1 e _ fun v H2 e2 hv => by
    cases hv
    obtain ⟨ks, k1, k2⟩ := hd.ex (ext e e2)
    have e3 : ∀ {ks : List (Key × V)} {kvs : List (Int × α)}, Paired (KR r H2) ks kvs → ks.map (·.1) = (kvs.map (·.1)).map Sum.inl := by
      intro ks kvs h
      induction h with
      | nil => rfl
      | cons hq ht ih => rw [List.map_cons, List.map_cons, List.map_cons, ih, hq.1]
    refine ⟨p, ks, kvs.map (·.1), rfl, k1, e3 k2, by rw [List.length_map]; exact hl, fun ys l h4 h5 hl => ?_⟩
    rw [sort_uniq h4 h5 hp hm]
    exact q l _ (exf e2 hl) (ext e2 (exn hl)) (isLI upd_same)
end
end Cu
set_option maxRecDepth 100000
set_option maxHeartbeats 2000000
/-! Cu 12: the rules that name X.K, with K told. -/
namespace Cu
open PySem PySem.Spec PyProof.Rows L2
section
variable {X : Cx} {K : PySem.W.Frag}
theorem k_ixT (h : X.K = K) : IxR X (rIxT K) := h ▸ ix_tup
theorem k_ixL (h : X.K = K) : IxR X (rIxL K) := h ▸ ix_list
theorem k_ixS (h : X.K = K) : IxR X (rIx K) := h ▸ ix_seq
theorem k_len (h : X.K = K) : CallR X (.builtin "len") (rLen K) := h ▸ cr_len
theorem k_eqD (h : X.K = K) (hu : X.A.units + 64 < cLine) : OpR X (compareOp .Eq) (rEqD K) := h ▸ op_eqD hu
theorem k_neD (h : X.K = K) (hu : X.A.units + 64 < cLine) : OpR X (compareOp .NotEq) (rNeD K) := h ▸ op_neD hu
theorem k_catA (h : X.K = K) : OpR X (binaryOp .Add) (rCatA K) := h ▸ op_catA
theorem k_any (h : X.K = K) (hc : X.calm = true) : CallR X (.builtin "any") (rAny K) := h ▸ cr_any hc
theorem k_all (h : X.K = K) (hc : X.calm = true) : CallR X (.builtin "all") (rAll K) := h ▸ cr_all hc
theorem k_sum (h : X.K = K) (hc : X.calm = true) : CallR X (.builtin "sum") (rSum K) := h ▸ cr_sum hc
theorem k_tupO (h : X.K = K) : CallR X (.type "tuple") (rTupO K) := h ▸ cr_tupO
theorem k_lstO (h : X.K = K) : CallR X (.type "list") (rLstO K) := h ▸ cr_lstO
theorem k_minD (h : X.K = K) (hu : X.A.units + 64 < cLine) (hc : X.calm = true) : CallR X (.builtin "min") (rMinD K) := h ▸ cr_minD hu hc
theorem k_maxD (h : X.K = K) (hu : X.A.units + 64 < cLine) (hc : X.calm = true) : CallR X (.builtin "max") (rMaxD K) := h ▸ cr_maxD hu hc
theorem k_srt (h : X.K = K) : CallR X (.builtin "sorted") (rSrt K) := h ▸ cr_srt
theorem k_isiT (h : X.K = K) : CallR X (.builtin "isinstance") (rIsiT K) := h ▸ call_isiT
theorem k_isi (h : X.K = K) : CallR X (.builtin "isinstance") (rIsi K) := h ▸ call_isi
theorem k_in (h : X.K = K) : OpR X (compareOp .In) (rIn K false) := h ▸ op_in_seq
theorem k_notIn (h : X.K = K) : OpR X (compareOp .NotIn) (rIn K true) := h ▸ op_notIn_seq
theorem k_noneIn (h : X.K = K) (hu : X.A.units + 64 < cLine) : OpR X (compareOp .In) (rNoneIn K false) := h ▸ op_noneIn hu
theorem k_slT (h : X.K = K) : SlR X (rSlT K) := h ▸ sl_tup
theorem k_slL (h : X.K = K) : SlR X (rSlL K) := h ▸ sl_list
variable {tg e l a b : Expr} {ta tb te tl : TE} {t : TA} {pos p : Pos} {es rest : List Expr}
theorem k_orT (h : X.K = K) (ha : PE X a ta) (hb : PE X (.BoolOp .Or (b :: rest) pos) tb) : PE X (.BoolOp .Or (a :: b :: rest) pos) (tOrT K ta tb) := h ▸ pe_orT ha hb
theorem k_pitup (h : X.K = K) (hl : PE X l tl) : PI X tg l (iTup K tl) := h ▸ pi_tup hl
theorem k_pilist (h : X.K = K) (hl : PE X l tl) : PI X tg l (iList K tl) := h ▸ pi_list hl
theorem k_piseq (h : X.K = K) (hl : PE X l tl) : PI X tg l (iSeq K tl) := h ▸ pi_seq hl
theorem k_star (h : X.K = K) (he : PE X e te) (hr : PA X es t) (hs : starEach (.Starred e p :: es) X.env = (true, eval e X.env) :: starEach es X.env := by rfl) : PA X (.Starred e p :: es) (StX.tStar K te t) := h ▸ StX.pa_star he hr hs
theorem k_gtup {es : List Expr} {k : Nat} {t : TGs} {n : Nat} (hK : X.K = K) (hc : X.calm = true) (h : PGs X es t)
    (hn : (assignEach es X.env).length = n := by rfl) (hst : (assignEach es X.env).findIdx? (·.1) = none := by rfl) : PG X (.Tuple es k pos) (gTup K n t) := hK ▸ pg_tup hc h hn hst
end
end Cu
set_option maxRecDepth 100000
set_option maxHeartbeats 2000000
/-! Cu 13: min, max of data, typed. -/
namespace Cu
open PySem PySem.Spec PyProof.Rows L2
open PySem.W (Datum DatumOrd minOf maxOf Tup)
section
variable {α β γ : Type} [DecidableEq α] [DatumOrd α] [DecidableEq β] [DatumOrd β] {r : R α} {s : R β} {σ : L2.St} {H H0 H' : Hp} {ta tb tc te tl : TE} {a : α} {v x y : V} {K : PySem.W.Frag} {as : List α}
theorem toD_inj {a b : α} (h : (Datum.toD a : PyData) = Datum.toD b) : a = b := by
  have h1 := Datum.eqv a b
  have h2 := Datum.eqv b b
  rw [h, h2] at h1
  simpa using h1.symm
theorem depAll_datum (h : Datum.depth α ≤ 60) : ∀ as : List α, PyData.depthAll (as.map Datum.toD) ≤ 60
  | [] => by simp [PyData.depthAll]
  | a :: as => by
    have h1 := Datum.depth_le a
    have h2 := depAll_datum h as
    simp only [List.map_cons, PyData.depthAll]
    omega
theorem ev_minQ (py : Py r Datum.toD) (hd : Datum.depth α ≤ 60) (h : Ev (dQ r) te σ H (a :: as)) : Ev r (tCB (rMinD K) (tCons te tNil)) σ H (minOf a as) := ev_cb (ep1 h) fun vs H1 _ ⟨v, e, hq⟩ Q q => by
  have go : ∀ (p : Addr) (xs : List V), v = .ref p → (SqL K H1 p xs ∨ SqT K H1 p xs) → Paired (r.is H1) xs (a :: as) → rMinD K vs H1 Q := fun p xs e1 hs hp => by
    refine ⟨p, xs, Datum.toD a, as.map Datum.toD, by rw [e, e1], hs, ?_, ?_, ?_, fun i x hx hi => ?_⟩
    · have := dpAll (K := K) py hp
      simpa using this
    · have := PySem.W.alikeAll_datum (a :: as)
      simpa using this
    · have := depAll_datum hd (a :: as)
      simpa using this
    · obtain ⟨b, hb, hr⟩ := pgetV hp hx
      rw [PySem.W.minD_map, ← List.map_cons, List.getD_eq_getElem?_getD, List.getElem?_map, hb] at hi
      have hi' : Datum.toD b = Datum.toD (minOf a as) := hi
      exact q x H1 exr (toD_inj hi' ▸ hr)
  rcases hq with ⟨p, xs, h1, h2, h3⟩ | ⟨p, xs, h1, h2, h3⟩
  · exact go p xs h1 (.inr (SqT.of h2)) h3
  · exact go p xs h1 (.inl (SqL.of h2)) h3
theorem ev_maxT (py : Py r Datum.toD) (hd : Datum.depth α ≤ 60) (h : Ev (dT r) te σ H (a :: as)) : Ev r (tCB (rMaxD K) (tCons te tNil)) σ H (maxOf a as) := ev_cb (ep1 h) fun vs H1 _ ⟨v, e, p, xs, h1, h2, h3⟩ Q q => by
  refine ⟨p, xs, Datum.toD a, as.map Datum.toD, by rw [e, h1], SqT.of h2, ?_, ?_, ?_, fun i x hx hi => ?_⟩
  · have := dpAll (K := K) py h3
    simpa using this
  · have := PySem.W.alikeAll_datum (a :: as)
    simpa using this
  · have := depAll_datum hd (a :: as)
    simpa using this
  · obtain ⟨b, hb, hr⟩ := pgetV h3 hx
    rw [PySem.W.maxD_map, ← List.map_cons, List.getD_eq_getElem?_getD, List.getElem?_map, hb] at hi
    have hi' : Datum.toD b = Datum.toD (maxOf a as) := hi
    exact q x H1 exr (toD_inj hi' ▸ hr)
end
theorem pyd_I : Py dI (Datum.toD : Int → PyData) := py_I
theorem pyd_PI : Py dPI (Datum.toD : Int × Int → PyData) := py_P py_I py_I
/-- a tuple, as KE names it -/
def dTp : R (Tup Int) := ⟨fun H v t => (dT dI).is H v t.items, fun e h => (dT dI).ex e h⟩
theorem pyd_Tp : Py dTp (Datum.toD : Tup Int → PyData) := ⟨fun K H v t h => (py_T py_I).dp K H v t.items h⟩
theorem pyd_PT : Py (dP dI dTp) (Datum.toD : Int × Tup Int → PyData) := py_P py_I pyd_Tp
section
variable {σ : L2.St} {H : Hp} {te : TE} {K : PySem.W.Frag} {n : Int} {ns : List Int}
theorem minOf_int : ∀ (ns : List Int) (n : Int), minOf n ns = ns.foldl min n
  | [], n => rfl
  | m :: ns, n => by
    rw [List.foldl_cons, ← minOf_int ns]
    show List.foldl _ (if decide (m < n) = true then m else n) ns = List.foldl _ (min n m) ns
    congr 1
    rw [Int.min_def]
    by_cases h : m < n
    · rw [if_pos (by simpa using h), if_neg (by omega)]
    · rw [if_neg (by simpa using h), if_pos (by omega)]
theorem maxOf_int : ∀ (ns : List Int) (n : Int), maxOf n ns = ns.foldl max n
  | [], n => rfl
  | m :: ns, n => by
    rw [List.foldl_cons, ← maxOf_int ns]
    show List.foldl _ (if decide (n < m) = true then m else n) ns = List.foldl _ (max n m) ns
    congr 1
    rw [Int.max_def]
    by_cases h : n < m
    · rw [if_pos (by simpa using h), if_pos (by omega)]
    · rw [if_neg (by simpa using h)]
      split <;> omega
theorem ev_minI (h : Ev (dQ dI) te σ H (n :: ns)) : Ev dI (tCB (rMinD K) (tCons te tNil)) σ H (ns.foldl min n) := (ev_minQ pyd_I (by decide) h).to (minOf_int ns n)
theorem ev_maxI (h : Ev (dT dI) te σ H (n :: ns)) : Ev dI (tCB (rMaxD K) (tCons te tNil)) σ H (ns.foldl max n) := (ev_maxT pyd_I (by decide) h).to (maxOf_int ns n)
/-- the least of pairs: one of them, its first the least -/
theorem minOf_fst {β : Type} [DecidableEq β] [DatumOrd β] : ∀ (as : List (Int × β)) (a : Int × β), minOf a as ∈ a :: as ∧ ∀ b ∈ a :: as, (minOf a as).1 ≤ b.1
  | [], a => ⟨List.mem_cons_self, fun b hb => by
    rcases List.mem_cons.mp hb with rfl | h
    · exact Int.le_refl _
    · cases h⟩
  | c :: as, a => by
    have e : minOf a (c :: as) = minOf (if DatumOrd.lt c a = true then c else a) as := rfl
    rw [e]
    by_cases h : DatumOrd.lt c a = true
    · rw [if_pos h]
      obtain ⟨h1, h2⟩ := minOf_fst as c
      refine ⟨List.mem_cons_of_mem _ h1, fun b hb => ?_⟩
      rcases List.mem_cons.mp hb with rfl | hb
      · have h3 := h2 c List.mem_cons_self
        have h4 : (if c.1 = b.1 then DatumOrd.lt c.2 b.2 else decide (c.1 < b.1)) = true := h
        by_cases h5 : c.1 = b.1
        · omega
        · rw [if_neg h5] at h4
          have := of_decide_eq_true h4
          omega
      · exact h2 b hb
    · rw [if_neg h]
      obtain ⟨h1, h2⟩ := minOf_fst as a
      refine ⟨?_, fun b hb => ?_⟩
      · rcases List.mem_cons.mp h1 with h1 | h1
        · rw [h1]; exact List.mem_cons_self
        · exact List.mem_cons_of_mem _ (List.mem_cons_of_mem _ h1)
      · rcases List.mem_cons.mp hb with rfl | hb
        · exact h2 _ List.mem_cons_self
        · rcases List.mem_cons.mp hb with rfl | hb
          · have h3 := h2 a List.mem_cons_self
            have h4 : ¬ (if b.1 = a.1 then DatumOrd.lt b.2 a.2 else decide (b.1 < a.1)) = true := h
            by_cases h5 : b.1 = a.1
            · omega
            · rw [if_neg h5] at h4
              have : ¬ b.1 < a.1 := fun z => h4 (decide_eq_true z)
              omega
          · exact h2 b (List.mem_cons_of_mem _ hb)
end
theorem snx {D : Ends} {σ : L2.St} {H : Hp} (h : D.nx σ H) : tNext D σ H := h
/-! lists of so many -/
section
variable {σ : L2.St} {H : Hp} {te ta : TE} {K : PySem.W.Frag} {D : Ends}
theorem s_extW {l : Addr} {n m : Nat} (hl : dWL.is H (.ref l) n) (ha : Ev dV ta σ H (.ref l)) (h : Ev dWL te σ H m) (hz : n + m ≤ 100000) (k : ∀ H1 o, Ex H H1 → dWL.is (upd H1 l o) (.ref l) (n + m) → TX H1 (upd H1 l o) → D.nx σ (upd H1 l o)) :
    tDrop (tBM K "list" rExtend ta (tCons te tNil)) D σ H := by
  obtain ⟨q, xs, e, h1, h2⟩ := hl
  cases e
  refine ha H exr _ fun x H1 e1 hx => ?_
  cases hx
  refine ⟨Or.inl ⟨rfl, xs, SqL.of (e1 l _ h1)⟩, h H1 e1 _ fun v H2 e2 ⟨b, zs, z1, z2, z3⟩ => ⟨l, b, xs, zs, rfl, by rw [z1], e2 l _ (e1 l _ h1), z2, sz_of (by rw [h2, z3]; exact hz), ?_⟩⟩
  exact k H2 _ (ext e1 e2) ⟨l, _, rfl, upd_same, by rw [List.length_append, h2, z3]⟩ (txl (e2 l _ (e1 l _ h1)))
theorem s_appW {α : Type} {r : R α} {a : α} {l : Addr} {n : Nat} (hl : dWL.is H (.ref l) n) (ha : Ev dV ta σ H (.ref l)) (h : Ev r te σ H a) (hz : n < 100000) (k : ∀ H1 o, Ex H H1 → dWL.is (upd H1 l o) (.ref l) (n + 1) → TX H1 (upd H1 l o) → D.nx σ (upd H1 l o)) :
    tDrop (tBM K "list" rAppend ta (tCons te tNil)) D σ H := by
  obtain ⟨q, xs, e, h1, h2⟩ := hl
  cases e
  refine s_app h1 ha h (by rw [h2]; exact hz) fun v H1 e1 hv => ?_
  exact k H1 _ e1 ⟨l, _, rfl, upd_same, by rw [List.length_append, h2]; rfl⟩ (txl (e1 l _ h1))
theorem lst_W {α : Type} {r : R α} {as : List α} {v : V} (h : (dL r).is H v as) : dWL.is H v as.length := by
  obtain ⟨p, xs, h1, h2, h3⟩ := h
  exact ⟨p, xs, h1, h2, plen h3⟩
theorem tup_W {α : Type} {r : R α} {as : List α} {v : V} (h : (dT r).is H v as) : dW.is H v as.length := by
  obtain ⟨p, xs, h1, h2, h3⟩ := h
  exact ⟨p, xs, h1, h2, plen h3⟩
/-- (e,) -/
theorem en_one {α : Type} {r : R α} {a : α} (h : Ev r te σ H a) : EvN dW (tTup (tCons te tNil)) σ H 1 := en_tupW (n := 1) (ep1 h) (fun H vs ⟨v, e, _⟩ => by rw [e]; rfl) (by decide)
end
end Cu
set_option maxRecDepth 100000
set_option maxHeartbeats 2000000
/-! Cu 14: loops over a locked dict with data in the slots; x, y = {}, e. -/
namespace Cu
open PySem L2
section
variable {α β γ : Type} {r : R α} {s : R β} {σ : L2.St} {H H' H1 H2 : Hp} {ta tb tc te tl td ty tx tk tv : TE} {t u tt : TT} {a : α} {b : β} {v x y : V} {K : PySem.W.Frag} {i j k n m : Int} {kvs : List (Int × α)} {ks : List (Key × V)} {p : Addr}
/-! for k in d, d locked -/
theorem s_lockForH [tr : TR r] {D : Ends} {tu : TS} {jt : Nat} {p : Addr} (hd : DictAt r H p kvs) {i : Nat} (hi : σ[i]? = some (some (.ref p)))
    (Pv : Nat → L2.St → Hp → Prop) (h0 : ∀ H1, TX H H1 → Pv 0 σ H1)
    (hs : ∀ (n : Nat) (d : Int × α) σ' H1 H', kvs[n]? = some d → TX H H1 → DictR r H1 p kvs → (∀ H0, Ex H0 H → H0 p = none → Ex H0 H1) → Ex H1 H' → Pv n σ' H' →
      ∀ (rt : VK) (bk : L2.St → Hp → Prop), tu ⟨fun σ3 H3 => Pv (n + 1) σ3 H3 ∧ Ex H1 H3, rt, bk, fun σ3 H3 => Pv (n + 1) σ3 H3 ∧ Ex H1 H3⟩ (σ'.set jt (some (.int d.1))) H')
    (hk : ∀ σ' Hm H', (∀ H0, Ex H0 H → H0 p = none → Ex H0 H') → TX H H' → DictAt r H' p kvs → TX Hm H' → Pv kvs.length σ' Hm → D.nx σ' H') :
    tLock (tFor (iKeys (tVar i)) (gName jt) tu) D σ H := by
  obtain ⟨ks, k1, k2⟩ := hd
  refine ⟨p, .dK ks, k1, trivial, fun od => ?_⟩
  have hx : TX H (upd H p (.frz od (.dK ks))) := txd k1
  have hR : DictR r (upd H p (.frz od (.dK ks))) p kvs := ⟨ks, .inr ⟨od, upd_same⟩, kmap k2 fun _ _ => KR.txx hx⟩
  have hE : ∀ H0, Ex H0 H → H0 p = none → Ex H0 (upd H p (.frz od (.dK ks))) := fun H0 e n => exm e n
  refine ⟨.ref p, hi, p, od, rfl, .inl ⟨ks, upd_same, ?_⟩⟩
  refine for_it (walk_keys (d := p) (o := od) (kvs := ks)) (fun n σ' H' => Pv n σ' H' ∧ Ex (upd H p (.frz od (.dK ks))) H') ⟨h0 _ hx, exr⟩ (fun n σ' H' _ h => h.2 p _ upd_same) ?_ ?_
  · rintro n x σ' H3 H4 hn ⟨hP, hE3⟩ ⟨rfl, key, v, hg, rfl⟩
    obtain ⟨d, hdn, hkr⟩ : ∃ d, kvs[n]? = some d ∧ KR r H (key, v) d := by
      have : ∀ {ks : List (Key × V)} {kvs : List (Int × α)} {n : Nat} {q : Key × V}, Paired (KR r H) ks kvs → ks[n]? = some q → ∃ d, kvs[n]? = some d ∧ KR r H q d := by
        intro ks kvs n q h
        induction h generalizing n with
        | nil => intro e; simp at e
        | cons hq ht ih =>
          intro e
          cases n with
          | zero => simp at e; subst e; exact ⟨_, rfl, hq⟩
          | succ n => simp at e; obtain ⟨d, d1, d2⟩ := ih e; exact ⟨d, by simpa using d1, d2⟩
      exact this k2 hg
    have hkey : kV key = .int d.1 := by rw [show key = .inl d.1 from hkr.1]; rfl
    show tu _ (σ'.set jt (some (kV key))) H4
    rw [hkey]
    exact hs n d σ' _ H4 hdn hx hR hE hE3 hP _ _
  · rintro σ' H' ⟨hP, hE'⟩
    have hl : H' p = some (.frz od (.dK ks)) := hE' p _ upd_same
    refine ⟨hl, ?_⟩
    have htx : TX H (upd H' p (.dK ks)) := txt hx (txt hE'.tx (txf hl))
    rw [dlen k2] at hP
    exact hk σ' H' _ (fun H0 e n => exm (ext (hE H0 e n) hE') n) htx ⟨ks, upd_same, kmap k2 fun _ _ => KR.txx htx⟩ (txf hl) hP
/-- x, y = {}, e -/
theorem s_parD {D : Ends} {i j : Nat} (hb : Ev s tb σ H b) (k : ∀ p w H1, H p = none → Ex H H1 → H1 p = some (.dK []) → s.is H1 w b → D.nx ((σ.set i (some (.ref p))).set j (some w)) H1) : tPar i j (tCons tDNewK (tCons tb tNil)) D σ H :=
  fun p hp => hb _ (exn hp) _ fun w H2 e2 hw => ⟨.ref p, w, rfl, k p w H2 hp (ext (exn hp) e2) (e2 p _ upd_same) hw⟩
/-- x, y = e, {} -/
theorem s_parE {D : Ends} {i j : Nat} (ha : Ev r ta σ H a) (k : ∀ v p H1 H2, Ex H H1 → r.is H1 v a → H1 p = none → H2 = upd H1 p (.dK []) → D.nx ((σ.set i (some v)).set j (some (.ref p))) H2) : tPar i j (tCons ta (tCons tDNewK tNil)) D σ H :=
  ha H exr _ fun v H1 e1 hv p hp => ⟨v, .ref p, rfl, k v p H1 _ e1 hv hp rfl⟩
theorem dict0 {p : Addr} (h : H p = some (.dK [])) : DictAt r H p [] := ⟨[], h, .nil⟩
/-- (*w, e): a tuple of one more -/
theorem en_starW1 {n : Nat} {c : β} (h : Ev dW te σ H n) (hc : Ev s tc σ H c) (hn : n < 100000) : EvN dW (tTup (StX.tStar K te (tCons tc tNil))) σ H (n + 1) :=
  en_tupW (ep_starW h (ep1 hc)) (fun H vs ⟨xs, ws, e, h1, v, h2, _⟩ => by rw [e, h2, List.length_append, h1]; rfl) (by omega)
theorem en_1starW {n : Nat} {c : β} (hc : Ev s tc σ H c) (h : Ev dW te σ H n) (hn : n < 100000) : EvN dW (tTup (tCons tc (StX.tStar K te tNil))) σ H (n + 1) :=
  en_tupW (ep_cons hc (ep_starW h ep_nil)) (fun H vs ⟨v, ws, e, _, xs, ws2, e2, h1, e3⟩ => by rw [e, e2, e3, List.append_nil, List.length_cons, h1]) (by omega)
end
end Cu
set_option maxRecDepth 100000
set_option maxHeartbeats 2000000
/-! Cu 15: dicts as values, comprehensions over a locked dict, update. -/
namespace Cu
open PySem L2
section
variable {α β γ : Type} {r : R α} {s : R β} {σ : L2.St} {H H' H1 H2 : Hp} {ta tb tc te tl td ty tx tk tv : TE} {t u tt : TT} {a : α} {b : β} {v x y : V} {K : PySem.W.Frag} {i j k n m : Int} {kvs : List (Int × α)} {ks : List (Key × V)} {p : Addr} {D : Ends} {g : TG}
def dD (r : R α) : R (List (Int × α)) := ⟨fun H v kvs => ∃ p, v = .ref p ∧ DictAt r H p kvs, fun e ⟨p, h1, h2⟩ => ⟨p, h1, h2.ex e⟩⟩
theorem Ev.ofV {a : α} {v : V} (h : Ev dV te σ H v) (hr : r.is H v a) : Ev r te σ H a := fun H1 e Q q => h H1 e _ fun w H2 e2 hw => q w H2 e2 (by cases hw; exact r.ex (ext e e2) hr)
theorem ex_unlock {o : HO} {od : Obj} (h : H p = some o) (e : Ex (upd H p (.frz od o)) H') : Ex H (upd H' p o) := fun a u ha => by
  by_cases hap : a = p
  · subst hap
    rw [upd_same, ← ha, h]
  · rw [upd_ne hap]
    exact e a u (by rw [upd_ne hap]; exact ha)
/-- what d[k] gives, as it stands -/
theorem dget_at (hd : DictR r H p kvs) {a : α} (e : lookI kvs k = some a) : ∃ v, r.is H v a ∧ ∀ (σ : L2.St) (td ty : TE), Ev dV td σ H (.ref p) → Ev dI ty σ H k → Ev dV (tDGet td ty) σ H v := by
  obtain ⟨ks, k1, k2⟩ := hd
  obtain ⟨z, z1, z2⟩ := (valV_look k2 k).1 a e
  refine ⟨z, z2, fun σ td ty h1 h2 H1 e1 Q q => h1 H1 e1 _ fun v H2 e2 hv => h2 H2 (ext e1 e2) _ fun w H3 e3 hw => ?_⟩
  cases hv
  cases hw
  exact ⟨p, z, rfl, .inl ⟨ks, .inl k, rd_ex (ext e1 (ext e2 e3)) k1, rfl, z1.symm⟩, q z H3 (ext e2 e3) rfl⟩
/-- the keys of the dict at p, as it stands locked -/
def dKey (α : Type) : R (Int × α) := ⟨fun _ v d => v = .int d.1, fun _ h => h⟩
theorem kr_get {F : Key × V → Int × α → Prop} {ks : List (Key × V)} {kvs : List (Int × α)} {n : Nat} {q : Key × V} (h : Paired F ks kvs) (e : ks[n]? = some q) : ∃ d, kvs[n]? = some d ∧ F q d := by
  induction h generalizing n with
  | nil => simp at e
  | cons hq ht ih =>
    cases n with
    | zero => simp at e; subst e; exact ⟨_, rfl, hq⟩
    | succ n => simp at e; obtain ⟨d, d1, d2⟩ := ih e; exact ⟨d, by simpa using d1, d2⟩
theorem es_keys {od : Obj} {iv : Nat} (hi : σ[iv]? = some (some (.ref p))) (hl : H p = some (.frz od (.dK ks))) (hp : Paired (KR r H') ks kvs) : EvS (dKey α) (iKeys (tVar iv)) σ H kvs := fun H1 e1 Q q => by
  refine ⟨.ref p, hi, p, od, rfl, .inl ⟨ks, e1 p _ hl, q _ H1 exr ?_⟩⟩
  unfold Src
  rw [← dlen hp]
  refine (walk_keys (d := p) (o := od) (kvs := ks)).mono (fun H2 e => e p _ (e1 p _ hl)) fun i H2 x H3 _ e y => ?_
  obtain ⟨rfl, key, v, hg, rfl⟩ := y
  obtain ⟨d, hd, hk⟩ := kr_get hp hg
  refine ⟨exr, d, hd, ?_⟩
  show kV key = V.int d.1
  rw [show key = .inl d.1 from hk.1]
  rfl
/-- ys = [e for k in d if t] -/
theorem s_lockLc [tr : TR r] [ts : TR s] {jt : Nat} {iv : Nat} {vs : List Nat} (hg : GM g) (hd : DictAt r H p kvs) (hi : σ[iv]? = some (some (.ref p))) (hz : kvs.length < 100000) (pf : Int × α → Bool) (qf : Int × α → β)
    (hb : ∀ d H1, d ∈ kvs → TX H H1 → DictR r H1 p kvs → (∀ H0, Ex H0 H → H0 p = none → Ex H0 H1) → g (.int d.1) (wipe σ vs) H1 fun σ2 H2 => H2 = H1 ∧ wipe σ2 vs = wipe σ vs ∧ EvT tt σ2 H1 (pf d) ∧ (pf d = true → Ev s te σ2 H1 (qf d)))
    (k : ∀ q H', H q = none → Ex H H' → (dL s).is H' (.ref q) ((kvs.filter pf).map qf) → D.nx (σ.set jt (some (.ref q))) H') : tLock (tAsg (tLc (iKeys (tVar iv)) g tt te vs) (gName jt)) D σ H := by
  obtain ⟨ks, k1, k2⟩ := hd
  refine ⟨p, .dK ks, k1, trivial, fun od => ?_⟩
  have hx : TX H (upd H p (.frz od (.dK ks))) := txd k1
  have hR : DictR r (upd H p (.frz od (.dK ks))) p kvs := ⟨ks, .inr ⟨od, upd_same⟩, kmap k2 fun _ _ => KR.txx hx⟩
  refine (ev_lc (r := dKey α) (s := s) hg (es_keys (od := od) hi upd_same k2) hz pf qf (fun d x H1 hm e hx1 => ?_)) _ exr _ fun q H1 hq e1 hl => ?_
  · cases hx1
    exact hb d H1 hm (txt hx e.tx) (hR.ex e) fun H0 e0 n0 => ext (exm e0 n0) e
  · have hp1 : H1 p = some (.frz od (.dK ks)) := e1 p _ upd_same
    refine ⟨hp1, k q _ ?_ (ex_unlock k1 e1) ?_⟩
    · have hqp : q ≠ p := fun z => by rw [z, upd_same] at hq; cases hq
      rw [upd_ne hqp] at hq
      exact hq
    · obtain ⟨q', xs, e, h1, h2⟩ := hl
      cases e
      have hqp : q ≠ p := fun z => by rw [z, hp1] at h1; cases h1
      have htx : TX H1 (upd H1 p (.dK ks)) := txf hp1
      exact ⟨q, xs, rfl, by rw [upd_ne hqp]; exact h1, pmap h2 fun _ _ h => ts.tx htx h⟩
/-- {k: e for k in d} as an argument -/
theorem dc_itW {J : It} {n : Nat} {G : Hp → Prop} {Y : Nat → Hp → V → Hp → Prop} (w : Walk J n G Y) {g : TG} {tt : TT} {tk tv : TE} {vs : List Nat} {σ : L2.St} {H1 : Hp} {D : Addr} {Qd : Hp → Prop} (Pv : Nat → Hp → Prop) (h0 : Pv 0 (upd H1 D (.dK []))) (hG : ∀ i H, i ≤ n → Pv i H → G H)
    (hs : ∀ i x H H', i < n → Pv i H → Y i H x H' → g x (wipe σ vs) H' fun σ2 H2 => wipe σ2 vs = wipe σ vs ∧ tt σ2 H2 fun b H3 =>
      if b = true then tk σ2 H3 fun y H4 => tv σ2 H4 fun z H5 => ∃ kvs k, y = kV k ∧ H5 D = some (.dK kvs) ∧ kvs.length < sizeLine ∧ Pv (i + 1) (upd H5 D (.dK (putK kvs k z))) else Pv (i + 1) H3) (hd : ∀ H, Pv n H → Qd H) :
    ∃ W : Nat → Nat → Hp → Prop, (∃ m, W 0 m (upd H1 D (.dK []))) ∧ ∀ i m H, W i m H →
      (J.stop i H ∧ Qd H) ∨ (J.go i H ∧ ∃ Nx : Hp → Prop, (∀ H', Nx H' → ∃ m', m' < m ∧ W (i + 1) m' H') ∧ ∀ x H', J.yld i H x H' → g x (wipe σ vs) H' fun σ2 H2 => wipe σ2 vs = wipe σ vs ∧ tt σ2 H2 fun b H3 =>
        if b = true then tk σ2 H3 fun y H4 => tv σ2 H4 fun z H5 => ∃ kvs k, y = kV k ∧ H5 D = some (.dK kvs) ∧ kvs.length < sizeLine ∧ Nx (upd H5 D (.dK (putK kvs k z))) else Nx H3) := by
  refine ⟨fun i m H => m = n - i ∧ i ≤ n ∧ Pv i H, ⟨n, by simp, Nat.zero_le _, h0⟩, ?_⟩
  rintro i m H ⟨rfl, hi, p⟩
  have q := hG i H hi p
  by_cases hlt : i < n
  · refine .inr ⟨w.goes i H hlt q, Pv (i + 1), fun H' p' => ⟨n - (i + 1), by omega, rfl, hlt, p'⟩, fun x H' y => hs i x H H' hlt p (w.yields i H x H' hlt q y)⟩
  · have e : i = n := by omega
    subst e
    exact .inl ⟨w.stops H q, hd H p⟩
theorem ev_lockDc [tr : TR r] [ts : TR s] {iv : Nat} {vs : List Nat} (hg : GM g) (hd : DictAt r H p kvs) (hi : σ[iv]? = some (some (.ref p))) (hz : kvs.length < 100000) (hnd : (kvs.map (·.1)).Nodup) (qf : Int × α → β)
    (hb : ∀ d H1, d ∈ kvs → TX H H1 → DictR r H1 p kvs → g (.int d.1) (wipe σ vs) H1 fun σ2 H2 => H2 = H1 ∧ wipe σ2 vs = wipe σ vs ∧ Ev dI tk σ2 H1 d.1 ∧ Ev s tv σ2 H1 (qf d)) :
    EvN (dD s) (tLockE (tDc (iKeys (tVar iv)) g tYes tk tv vs)) σ H (kvs.map fun d => (d.1, qf d)) := fun Hz ez Q q => by
  obtain ⟨ks, k1z, k2z⟩ := hd
  have k1 : Hz p = some (.dK ks) := ez p _ k1z
  have k2 : Paired (KR r Hz) ks kvs := kmap k2z fun _ _ => KR.ex ez
  refine ⟨p, .dK ks, k1, trivial, fun od => ?_⟩
  have hx : TX Hz (upd Hz p (.frz od (.dK ks))) := txd k1
  have hR : DictR r (upd Hz p (.frz od (.dK ks))) p kvs := ⟨ks, .inr ⟨od, upd_same⟩, kmap k2 fun _ _ => KR.txx hx⟩
  refine es_keys (σ := σ) (r := r) (od := od) hi upd_same k2 _ exr _ fun J H2 e2 w Dn hD => ?_
  have hDp : Dn ≠ p := fun z => by rw [z, e2 p _ upd_same] at hD; cases hD
  have hD0 : (upd Hz p (.frz od (.dK ks))) Dn = none := exf e2 hD
  refine dc_itW w (fun i H' => Ex H2 H' ∧ DictAt s H' Dn ((kvs.take i).map fun d => (d.1, qf d))) ⟨exn hD, [], upd_same, by simpa using .nil⟩ (fun i H' _ h => h.1) ?_ ?_
  · rintro i x H3 H4 hi4 ⟨e3, hdic⟩ ⟨e4, d, hdm, hr⟩
    cases hr
    have hmem : d ∈ kvs := List.mem_of_getElem? hdm
    have eL : Ex (upd Hz p (.frz od (.dK ks))) H4 := ext e2 (ext e3 e4)
    refine hg _ _ _ _ _ (fun σ2 H5 h5 => ?_) (hb d H4 hmem (txt ez.tx (txt hx eL.tx)) (hR.ex eL))
    obtain ⟨rfl, hw, hk, hv⟩ := h5
    refine ⟨hw, ?_⟩
    show tYes σ2 H5 _
    refine et_yes (H := H5) H5 exr _ fun H6 e6 => ?_
    rw [if_pos rfl]
    refine hk H6 e6 _ fun y H7 e7 hy => hv H7 (ext e6 e7) _ fun z H8 e8 hz8 => ?_
    cases hy
    obtain ⟨ks2, a1, a2⟩ := (hdic.ex (ext e4 (ext e6 (ext e7 e8))))
    have hlen := dlen a2
    rw [List.length_map] at hlen
    refine ⟨ks2, .inl d.1, rfl, a1, sz_lt (by rw [hlen, List.length_take]; omega), exm (ext e3 (ext e4 (ext e6 (ext e7 e8)))) hD, ?_⟩
    have htx := txd (o := .dK (putK ks2 (.inl d.1) z)) a1
    refine ⟨_, upd_same, ?_⟩
    have hnone : lookI ((kvs.take i).map fun d => (d.1, qf d)) d.1 = none := lookI_none fun qd hq ze => by
      obtain ⟨d', hd', rfl⟩ := List.mem_map.mp hq
      obtain ⟨j, hj⟩ := List.getElem?_of_mem hd'
      have hji : j < i := by
        have := lt_of_get hj
        rw [List.length_take] at this
        omega
      rw [List.getElem?_take_of_lt hji] at hj
      have h1 : (kvs.map (·.1))[j]? = some d'.1 := by rw [List.getElem?_map, hj]; rfl
      have h2 : (kvs.map (·.1))[i]? = some d.1 := by rw [List.getElem?_map, hdm]; rfl
      have h3 : d'.1 = d.1 := ze
      rw [h3] at h1
      have hjl : j < (kvs.map (·.1)).length := lt_of_get h1
      have := (List.getElem?_inj hjl hnd).mp (h1.trans h2.symm)
      omega
    have hput := kmap (put_pair (k := d.1) a2 hz8) fun _ _ => KR.txx (H' := upd H8 Dn (.dK (putK ks2 (.inl d.1) z))) htx
    rw [putI_new hnone] at hput
    rw [take_snoc hdm, List.map_append]
    exact hput
  · rintro H3 ⟨e3, hdic⟩
    rw [List.take_length] at hdic
    have e5 : Ex (upd Hz p (.frz od (.dK ks))) H3 := ext e2 e3
    have hp3 : H3 p = some (.frz od (.dK ks)) := e5 p _ upd_same
    refine ⟨hp3, q Dn _ ?_ (ex_unlock k1 e5) ?_⟩
    · rw [upd_ne hDp] at hD0
      exact hD0
    · obtain ⟨ks2, a1, a2⟩ := hdic
      have htx : TX H3 (upd H3 p (.dK ks)) := txf hp3
      exact ⟨Dn, rfl, ks2, by rw [upd_ne hDp]; exact a1, kmap a2 fun _ _ => KR.txx htx⟩
/-- d.update(e) -/
theorem s_dupd [tr : TR r] {more : List (Int × α)} (hd : DictAt r H p kvs) (ha : Ev dV ta σ H (.ref p)) (h : EvN (dD r) te σ H more) (hz : kvs.length + more.length ≤ 100000)
    (k : ∀ H1 o, Ex H H1 → H1 p ≠ none → DictAt r (upd H1 p o) p (mergeI kvs more) → TX H1 (upd H1 p o) → D.nx σ (upd H1 p o)) : tDrop (tBM K "dict" rUpdate ta (tCons te tNil)) D σ H := ha H exr _ fun x H1 e1 hx => by
  cases hx
  obtain ⟨ks, k1, k2⟩ := hd.ex e1
  refine ⟨Or.inr (Or.inr (Or.inl ⟨rfl, .inl ⟨ks, k1⟩⟩)), h H1 e1 _ fun o H2 hn e2 ⟨o', eo, ks2, a1, a2⟩ => ?_⟩
  cases eo
  have hpo : p ≠ o := fun z => by rw [z, hn] at k1; cases k1
  have k3 := e2 p _ k1
  have htx := txd (o := .dK (mergeK ks ks2)) k3
  refine ⟨p, o, ks, ks2, rfl, rfl, hpo, k3, a1, sz_of (by rw [dlen k2, dlen a2]; exact hz), k H2 _ (ext e1 e2) (by rw [k3]; intro z; cases z) ⟨_, upd_same, ?_⟩ htx⟩
  exact kmap (merge_pair (kmap a2 fun _ _ => KR.txx htx) (kmap k2 fun _ _ h => KR.txx htx (KR.ex e2 h))) fun _ _ h => h
end
end Cu
set_option maxRecDepth 100000
set_option maxHeartbeats 4000000
/-! Cu 16: NoWay(): its __init__ says super().__init__('no way'). -/
namespace Cu
open PySem PySem.Spec PyProof.Rows L2 PySem.Calls
abbrev leTail : List Value := [.type "LookupError", .type "Exception", .type "BaseException", .type "object"]
abbrev stInit : Stmt := inClass (top 1) 0
section
open PySem.W
variable {prog : Program} {w : World} {A : Around} {E : Value → Shared → Prop} {h : Heap} {g : Array GenState} {d : Drawn} {t : Nat} {os : OsState}
variable {nm q : Str} {C N : Addr} {bs bm : List Value} {hdct : Bool} {sn : List Str} {sub : List Value} {ab : Bool} {col : Option Bool} {dd : Option Addr} {k0 k1 k2 k3 k5 : Option Value}
theorem call_mw {u e t0 : Addr} {rest : List Value} {Q : Value → Shared → Prop}
    (hC : h.get? C = some (excClassObj nm q C N bs bm hdct sn sub ab col dd k0 k1 k2 k3 k5 "LookupError.__new__")) (he : h.get? e = some (HandSPX.excO C t0)) (hu : h.get? u = some (kxs_mw "LookupError.__init__" e)) (hrest : rest.length ≤ sizeLine)
    (hq : ∀ h' t1, (∀ b o, b ≠ e → h.get? b = some o → h'.get? b = some o) → h'.get? e = some (HandSPX.excO C t1) → Q .none ⟨h', g, d, t, os⟩) :
    wpAny (model prog w) A (call (.ref u) rest) Q E ⟨h, g, d, t, os⟩ := by
  refine wpAny_call (codeAny_of_tree ?_)
  show wpAny _ A.in1 (callAny (.ref u) ⟨rest, []⟩) _ _ _
  simp only [callAny]
  refine wpAny_bind (wpAny_load hu ?_)
  simp only [kxs_mw, show (Value.type "method-wrapper" == Value.type "method" || Value.type "method-wrapper" == Value.type "builtin_function_or_method" || Value.type "method-wrapper" == Value.type "method-wrapper") = true by decide, if_true]
  refine W.KFB.if_so (by decide) ?_
  refine wpAny_bind (check_bound_init F.excBase_LookupError.toExcCallFacts hC he rfl ?_)
  refine wpAny_bind (wpAny_pure (wpAny_pure ?_))
  refine ⟨Code.quiet_builtin _ (by decide +kernel), codeAny_builtin F.excBase_LookupError.initEntry ?_⟩
  rw [Around.under_plainId F.excBase_LookupError.init.plain _]
  wp_walk
  refine hq _ h.objs.size (fun b o hb ho => ?_) ?_
  · rw [Heap.get?_update_other _ _ (Ne.symm hb)]
    exact Heap.get?_push_of_some _ ho
  · rw [Heap.get?_update_self _ (Heap.get?_push_of_some _ he) rfl]
    rfl
end
/-- what the written part says of the class at C and of its __init__ at f -/
structure Nw (P : Program) (K : PySem.W.Frag) (C f cc cda : Addr) (fd : FuncData) : Prop where
  q : PySem.W.excInitIn K C leTail "LookupError.__new__" = true
  init : PySem.W.findIn K (.ref C) "__init__" = some (some (.ref f))
  fn : PySem.W.typeIn K (.ref f) = some (.type "function")
  cls : ∃ cd, PySem.W.clsIn K C = some cd
  sup : PySem.W.ks_superIn K C C "__init__" = some (some (.builtin "LookupError.__init__"))
  subL : PySem.W.subIn K (.ref C) (.type "LookupError") = some true
  third : PySem.W.nsIn K cStatics "thirdparty.any" = some none
  self : PySem.W.mroIn K C (.ref C) = some true
  cell : ∃ cl cld csl, K.lookup cc = some ⟨cl, cld, .cell (some (.ref C)), csl⟩
  code : ∃ ccl cdd vs ccs file tf, K.lookup cda = some ⟨ccl, cdd, .fields vs, ccs⟩ ∧ vs[2]? = some (.str file tf) ∧ ((P.main.file : Str) == file) = true
  lk : ∃ (oc : Value) (od : Option Addr) (dV kV doc pm : Value) (an : Option Addr) (ct : Value) (osl : Array (Option Value)),
    fd = PySem.W.ksFn "__init__" "NoWay.__init__" (defArgs stInit) (defBody stInit) (defScope stInit) dV kV doc pm an (.ref cda) ct cc ∧ K.lookup f = some ⟨oc, od, .func fd, osl⟩ ∧ PySem.W.codeIn K (.ref cda) "NoWay.__init__" = true
  top : (P.main.scope.names.lookup ("super" : Str)).isSome = false
  exC : PySem.W.subIn K (.ref C) (.type "BaseException") = some true
  tyC : PySem.W.typeIn K (.ref C) = some (.type "type")
  kC : PySem.W.keepIn K (.ref C) = true
def spNo (C : Addr) : Sp := fun vs H Q _ => ∃ a, vs = [.ref a] ∧ H a = some (exo a C none) ∧ Q .non H
theorem bt_super : bootBuiltins "super" = some (.type "super") := by first | rfl | kernel_rfl | decide +kernel
section
variable {P : Program} {w : World} {K : PySem.W.Frag} {mg : Str → Option Value} {base : Heap}
theorem ok_nwinit {C f cc cda : Addr} {fd : FuncData} (T : Nw P K C f cc cda fd) (hs : mg "super" = none) : FnOk P w K mg base CX0 1 f fd ["self"] (spNo C) := by
  obtain ⟨oc, od, dV, kV, doc, pm, an, ct, osl, rfl, lk, hcd⟩ := T.lk
  obtain ⟨cl, cld, csl, hcell⟩ := T.cell
  obtain ⟨ccl, cdd, cvs, ccs, file, tf, hcode, hvs2, hfile⟩ := T.code
  obtain ⟨cdC, hcls⟩ := T.cls
  refine ⟨fun vs H Q E h => by obtain ⟨a, rfl, _⟩ := h; rfl, fun A outer s H args us vs Q E hr e0 hb r hsp => ?_⟩
  obtain ⟨a, rfl, ha, q⟩ := hsp
  obtain rfl : us = [Value.ref a] := by
    cases r with
    | cons ra t =>
      cases t
      cases ra
      rfl
  have KX : K.In s.heap := e0.mod.kin.keeps fun b o e => (e0.bs b o e).1
  have lim : s.heap.NoLimit := e0.mod.nolimit.keeps fun b o e => (e0.bs b o e).1
  obtain ⟨t1, ho⟩ := exo_at e0.hok ha
  obtain ⟨nm, Nn, qn, bs, bm, hdct, sn, sub, ab, col, dd, k0, k1, k2, k3, k5, hC, hT⟩ := PySem.W.excInit_of KX T.q
  have hcellK : ∀ x ∈ (defScope stInit).names, x.2 ≠ .cell := by decide +kernel
  refine ks_codeAny_call_defAt (binds := [(("self" : Str), Value.ref a)]) hr.depth (KX _ _ lk) rfl lim (PySem.W.codeRec_of KX hcd) rfl hb hcellK (fun y hy => ?_) (fun h1 hns hk1 => ?_)
  · rw [List.mem_singleton] at hy
    subst hy
    rfl
  have KX1 : K.In h1 := KX.keeps hk1
  obtain ⟨mb, hb1, hb2⟩ := e0.mod.blt
  have hbk : ∀ b o, base.get? b = some o → h1.get? b = some o := fun b o e => hk1 b o (e0.bs b o e).1
  have hx1 := hk1 _ _ ho
  have hC1 := hk1 _ _ hC
  obtain ⟨oD, hD1, hD2⟩ : ∃ oD, h1.get? C = some oD ∧ oD.data = .cls cdC := by
    have hD := hcls
    unfold PySem.W.clsIn at hD
    split at hD
    · rename_i c d cd' sl ho
      cases hD
      exact ⟨_, KX1 _ _ ho, rfl⟩
    · cases hD
  obtain ⟨sh, sg, sd, st, sos⟩ := s
  show _root_.PySem.wpAt _ _ _ (execs [.Expr (.Call (.Attribute (.Call (.Name "super" _) [] [] _) "__init__" _) [.Constant (.str "no way") 0 _] [] _) _] _) _ _ _
  refine ks_wpAt_execs_cons (ks_wpAt_Expr_any (ks_wpAt_MethodCall ?_))
  refine ks_wpAt_super_base rfl rfl (by decide +kernel) rfl (KX1 _ _ lk) rfl rfl rfl (KX1 _ _ hcode) rfl hvs2 hfile T.top ?_
  refine PySem.W.ks_loadName_global rfl rfl (loadGlobal_builtin (e0.mod.glob.keeps hbk) hs (hb1.keeps hbk) ((hb2 _ (by decide)).trans bt_super) ⟨rfl, ?_⟩)
  refine wpAny_loadName_free rfl rfl rfl ⟨_, KX1 _ _ hcell, rfl⟩ ?_
  refine wpAny_loadName_local rfl rfl hns rfl ?_
  refine ks_wpAny_isType_cls hD1 hD2 ⟨rfl, ?_⟩
  refine ks_wpAny_call_super hD1 hD2 hx1 rfl (fun c e => by cases e) (PySem.W.looks_mroIn KX1 T.self) (fun h2 e2 k2 => ?_)
  have KX2 : K.In h2 := KX1.keeps k2
  have hx2 := k2 _ _ hx1
  have IA : PySem.W.InstAt h2 a _ C none := ⟨hx2, rfl, rfl, trivial⟩
  have hal : PySem.W.alongIn K "__init__" ((cdC.mro.dropWhile (· != .ref C)).drop 1) = some (some (.builtin "LookupError.__init__")) := by
    have z := T.sup
    unfold PySem.W.ks_superIn at z
    rw [hcls] at z
    exact z
  refine PySem.W.kxs_getMethod PySem.W.kxs_LookupError e2 (PySem.W.looks_opaque KX2 T.third) (l₀ := cdC.mro) (fun A Q E s k q => wpAny_bind ((PySem.W.looks_clsIn KX2 hcls) A _ E s k (wpAny_pure q))) rfl KX2 hal (IA.type.andThen (PySem.W.looks_subIn KX2 T.subL)) (PySem.W.ks_ne KX2 IA hcls) (by decide) ?_
  have k3 : ∀ b o, h2.get? b = some o → (h2.push (PySem.W.kxs_mw "LookupError.__init__" a)).get? b = some o := fun b o e => Heap.get?_push_of_some _ e
  have hmw : (h2.push (PySem.W.kxs_mw "LookupError.__init__" a)).get? h2.objs.size = some (PySem.W.kxs_mw "LookupError.__init__" a) := Heap.get?_push_at rfl rfl
  refine PySem.W.kxs_callWith (i := "LookupError.__init__") (x := a) rfl (evalArgs_plain (spliced_cons (Constant_str (k := 0) (pos := ⟨5, 25, 5, 33⟩) (spliced_nil ⟨hmw, ?_⟩))))
  refine call_mw (k3 _ _ (k2 _ _ hC1)) (k3 _ _ hx2) hmw (by show 1 ≤ sizeLine; decide) fun h4 t4 k4 hx4 => ?_
  have kk : ∀ b o, b ≠ a → sh.get? b = some o → h4.get? b = some o := fun b o hb e => k4 b o hb (k3 b o (k2 b o (hk1 b o e)))
  have mu : Mut (H a) := by rw [ha]; exact True.intro
  have eu : upd H a (exo a C none) = H := by
    funext b
    by_cases hb : b = a
    · rw [hb, upd_same, ha]
    · rw [upd_ne hb]
  have U : Un (frs outer) [] H (upd H a (exo a C none)) sh h4 := Un.write mu (.inl rfl) kk ⟨_, hx4⟩
  have O : HOk P w (upd H a (exo a C none)) h4 := e0.hok.write mu (.inl rfl) kk ⟨_, hx4⟩ (exo_ok hx4)
  rw [eu] at U O
  refine wpAt_of_wpAny (wpAny_execs_nil ?_)
  exact ⟨.non, H, rfl, e0.bare, U, O, rfl, q⟩
end
/-! ### NoWay() -/
/-- the exception is let go: it has no dict -/
theorem mk_endN {X : Cx} {pins : List (Addr × Obj)} {σ : L2.St} {H1 H2 : Hp} {Q : XK} {hp hp2 h2 : Heap} {g1 g2 : Array GenState} {d1 d2 : Drawn} {t1 t2 : Nat} {os1 os2 : OsState} {a C : Addr} (T : Raises X (.ref C)) (I1 : Inv X pins σ H1 ⟨hp, g1, d1, t1, os1⟩)
    (ha : hp.objs.size ≤ a) (k : ∀ b o, hp.get? b = some o → hp2.get? b = some o) (un : Un (frs X.stack) [] (upd H1 a (exo a C none)) H2 hp2 h2) (hok : HOk X.prog X.w H2 h2) (ho : os2 = os1) (hb : AllBare g2)
    (ea : H2 a = some (exo a C none)) (q : Q (.ref C) none (del H2 a)) : MkP X pins σ Q (.ref a) ⟨h2, g2, d2, t2, os2⟩ := by
  obtain ⟨t0, hoe⟩ := exo_at hok ea
  have hn : H1 a = none := I1.hok.fresh ha
  obtain ⟨G, g1', g2'⟩ := restrict h2 fun b => decide (b ≠ a)
  have gk : ∀ b, b ≠ a → G.get? b = h2.get? b := fun b hb => g1' b (decide_eq_true hb)
  have ge : G.get? a = none := g2' a (by simp)
  have nha : ∀ {b : Addr} {o : Obj}, hp.get? b = some o → b ≠ a := fun {b o} z => Nat.ne_of_lt (Nat.lt_of_lt_of_le (Heap.lt_size z) ha)
  have up : ∀ {b : Addr}, b ≠ a → H1 b = none → upd H1 a (exo a C none) b = none := fun {b} hb n => by rw [upd_ne hb]; exact n
  have U : Un (frs X.stack) [] H1 (del H2 a) hp G := {
    keep := fun b o z n hf hx => by
      rw [gk b (nha z)]
      exact un.keep b o (k b o z) (up (nha z) n) hf hx
    slot := fun b o z n hf hx => by
      rw [gk b (nha z)]
      exact un.slot b o (k b o z) (up (nha z) n) hf hx
    free := fun b o z n hx => by
      rw [del_ne (nha z)]
      exact un.free b o (k b o z) (up (nha z) n) hx
    there := fun b o z hx => by
      rw [gk b (nha z)]
      exact un.there b o (k b o z) hx
    tups := fun b xs z => by
      rw [del_ne (ne_of_none z hn)]
      exact un.tups b xs (by rw [upd_ne (ne_of_none z hn)]; exact z)
    frzs := fun b o v z => by
      rw [del_ne (ne_of_none z hn)]
      exact un.frzs b o v (by rw [upd_ne (ne_of_none z hn)]; exact z)
    tbls := fun b ps z => by
      rw [del_ne (ne_of_none z hn)]
      exact un.tbls b ps (by rw [upd_ne (ne_of_none z hn)]; exact z) }
  have hok3 : HOk X.prog X.w (del H2 a) G := fun b o z => by
    have hba : b ≠ a := fun e => by
      rw [e, del_same] at z
      cases z
    rw [del_ne hba] at z
    have noa : ∀ {c : Addr}, H2 c = some (.own b) → c ≠ a := fun {c} hc => at_ne ea hc exo_own
    exact (hok b o z).stay (fun c v hc y => by
        have hca : c ≠ a := by
          rcases hc with hc | hc
          · rw [hc]
            exact hba
          · exact noa hc
        rw [gk c hca]
        exact y)
      (fun c hc => by rw [del_ne (noa hc)]; exact hc) (fun c xs hc => by rw [del_ne (at_ne ea hc exo_tup)]; exact hc)
  have J : Inv X pins σ (del H2 a) ⟨G, g2, d2, t2, os2⟩ := I1.call' (ch := []) ho U hok3 hb (fun b z => absurd z (by simp))
  refine ⟨a, _, _, ⟨G, g2, d2, t2, os2⟩, _, .ref C, none, rfl, J, fun b o z => ?_, ge, hoe, ⟨rfl, rfl⟩, rfl, rfl, del_same, rfl, hb, T, q⟩
  by_cases hba : b = a
  · rw [hba, ge] at z
    cases z
  · exact (gk b hba).symm.trans z
theorem pmk_noway {X : Cx} {C f cc cda : Addr} {fd : FuncData} {p pos : Pos} (T : Nw X.prog X.K C f cc cda fd) (hs : X.mg "super" = none) (hr : Room 2 X.A) (hb : Binds X.K fd ["self"] []) (hg : Gl X "NoWay") (hm : X.mg "NoWay" = some (.ref C)) :
    PMk X (.Call (.Name "NoWay" p) [] [] pos) (fun _ H Q => Q (.ref C) none H) := by
  intro pins s σ H Q I h
  have F1 : FnOk X.prog X.w X.K X.mg X.base CX0 1 f fd ["self"] (spNo C) := ok_nwinit T hs
  refine wpAny_Call_Name_kw (ld_glob I hg hm ?_ (by decide))
  refine PySem.W.callWith_K0 I.kIn T.kC ?_
  obtain ⟨nm, Nn, qn, bs, bm, hdct, sn, sub, ab, col, dd, k0, k1, k2, k3, k5, hC, hT⟩ := PySem.W.excInit_of I.kIn T.q
  obtain ⟨hp, g, dr, tk, os⟩ := s
  have hsz : hp.objs.size ≤ hp.objs.size + 1 := Nat.le_succ _
  have hn : H (hp.objs.size + 1) = none := I.hok.fresh hsz
  have kk : ∀ b o, hp.get? b = some o → ((hp.push (PySem.W.kdv_tup [])).push (PySem.HandSPX.excO C hp.objs.size)).get? b = some o := fun b o e => Heap.get?_push_of_some _ (Heap.get?_push_of_some _ e)
  have hget : ((hp.push (PySem.W.kdv_tup [])).push (PySem.HandSPX.excO C hp.objs.size)).get? (hp.objs.size + 1) = some (PySem.HandSPX.excO C hp.objs.size) := by heap_get
  have I2 : Inv X pins σ (upd H (hp.objs.size + 1) (exo (hp.objs.size + 1) C none)) ⟨(hp.push (PySem.W.kdv_tup [])).push (PySem.HandSPX.excO C hp.objs.size), g, dr, tk, os⟩ :=
    I.laid (t' := tk) (a := hp.objs.size + 1) (o := exo (hp.objs.size + 1) C none) (h' := (hp.push (PySem.W.kdv_tup [])).push (PySem.HandSPX.excO C hp.objs.size)) kk hsz (exo_ok hget)
  have r2 : Vals [V.ref (hp.objs.size + 1)] [Value.ref (hp.objs.size + 1)] := .cons rfl .nil
  have hq : spNo C [V.ref (hp.objs.size + 1)] (upd H (hp.objs.size + 1) (exo (hp.objs.size + 1) C none)) (fun v H2 => v = .non ∧ H2 = upd H (hp.objs.size + 1) (exo (hp.objs.size + 1) C none)) (fun _ _ _ => False) := ⟨_, rfl, upd_same, rfl, rfl⟩
  have edel : del (upd H (hp.objs.size + 1) (exo (hp.objs.size + 1) C none)) (hp.objs.size + 1) = H := by
    funext b
    by_cases hb : b = hp.objs.size + 1
    · rw [hb, del_same, hn]
    · rw [del_ne hb, upd_ne hb]
  refine wpAny_call (PySem.HandSPX.call_own F.excBase_LookupError hT hC (PySem.W.looks_findIn I.kIn T.init) (fun self => PySem.W.bind_fn I.kIn self T.fn) (Nat.zero_le _)
    (codeAny_mono (F1.run _ X.stack _ _ ⟨[Value.ref (hp.objs.size + 1)], []⟩ [Value.ref (hp.objs.size + 1)] _ _ (fun _ _ _ => False) (hr.make C [] []) (I2.env0.make C [] []) (hb _ [Value.ref (hp.objs.size + 1)] I2.kIn rfl) r2 hq) fun r s' hq' => ?_))
  cases r with
  | error er => exact hq'.elim
  | ok fl =>
    cases fl with
    | ret u =>
      obtain ⟨v, H2, os2, bare2, un2, hok2, rv, ev, e2⟩ := hq'
      subst ev e2
      obtain ⟨h2, g2, d2, t2, os'⟩ := s'
      refine ⟨rv, mk_endN (raises_own T.exC T.tyC) I hsz kk un2 hok2 os2 bare2 upd_same ?_⟩
      rw [edel]
      exact h
    | next => exact False.elim hq'
    | brk => exact False.elim hq'
    | cont => exact False.elim hq'
end Cu
set_option maxRecDepth 100000
set_option maxHeartbeats 4000000
/-! Cu 17: an exception that a local keeps behind the except suite; isinstance of it. -/
namespace Cu
open PySem PySem.Spec PyProof.Rows L2
/-- at a: a caught exception of the class cls, without a dict -/
def exk (a : Addr) (cls : Value) : HO := .ext fun h => ∃ (oe : Obj) (vs : Array Value), h.get? a = some oe ∧ Zc cls none oe ∧ oe.data = .fields vs
theorem exk_ok {P : Program} {w : World} {H : Hp} {h : Heap} {a : Addr} {cls : Value} {oe : Obj} {vs : Array Value} (e : h.get? a = some oe) (z : Zc cls none oe) (d : oe.data = .fields vs) : ObjOk P w H h a (exk a cls) :=
  ⟨⟨oe, vs, e, z, d⟩, ⟨oe, e⟩, fun _ _ ⟨o, v, q, r⟩ k => ⟨o, v, k o q, r⟩⟩
theorem inv_track {X : Cx} {pins : List (Addr × Obj)} {σ : L2.St} {H : Hp} {s : Shared} {a : Addr} {cls : Value} {oe : Obj} {vs : Array Value} (I : Inv X ((a, oe) :: pins) σ H s) (n0 : X.s_0.heap.get? a = none) (np : ∀ p ∈ X.pn ++ pins, p.1 ≠ a) (z : Zc cls none oe) (d : oe.data = .fields vs) :
    Inv X pins σ (upd H a (exk a cls)) s := by
  obtain ⟨hget, hn, hloc, hfs, hcell⟩ := I.pin (a, oe) (List.mem_append_right _ List.mem_cons_self)
  have ne0 : ∀ b o, X.s_0.heap.get? b = some o → b ≠ a := fun b o e z => by
    rw [z, n0] at e
    cases e
  refine ⟨I.ok, I.os, I.bare, ⟨I.base.keep, I.base.slot, fun b o e n hx => ?_, I.base.there, fun b xs e => ?_, fun b o u e => ?_, fun b ps e => ?_⟩, I.loc, I.cell, ?_, fun x c e => ?_, fun p hp => ?_, I.hok.laidN (fun _ _ q => q) hn (exk_ok hget z d), I.len⟩
  · rw [upd_ne (ne0 b o e)]
    exact I.base.free b o e n hx
  · have q := I.base.tups b xs e
    rw [upd_ne (ne_of_none q hn)]
    exact q
  · have q := I.base.frzs b o u e
    rw [upd_ne (ne_of_none q hn)]
    exact q
  · obtain ⟨m, q⟩ := I.base.tbls b ps e
    exact ⟨m, by rw [upd_ne (ne_of_none q hn)]; exact q⟩
  · rw [upd_ne (Ne.symm hloc)]
    exact I.free
  · have hc : c ≠ a := fun zz => by
      obtain ⟨v, o, ho, hd⟩ := I.cell x c e
      rw [zz] at ho
      have : o = oe := Option.some.inj (ho.symm.trans hget)
      rw [this] at hd
      exact hcell _ hd
    rw [upd_ne hc]
    exact I.freeC x c e
  · have hpa := np p hp
    have hp' : p ∈ X.pn ++ (a, oe) :: pins := by
      rcases List.mem_append.mp hp with h | h
      · exact List.mem_append_left _ h
      · exact List.mem_append_right _ (List.mem_cons_of_mem _ h)
    obtain ⟨e, n, r⟩ := I.pin p hp'
    exact ⟨e, by rw [upd_ne hpa]; exact n, r⟩
/-- the caught exception stays behind the suite: tracked -/
def wKeep (K : PySem.W.Frag) (c : Value) (i : Nat) (ts : Addr → Value → Option Addr → TS) (Wout : WX) (D : Ends) : WX := fun cls d σ H =>
  ∃ b, PySem.W.exmOne K cls c = some b ∧ (b = true → d = none ∧ ∀ a, H a = none → ts a cls d { nx := fun σ' H' => D.nx (σ'.set i none) (upd H' a (exk a cls)), rt := fun _ _ => False } (σ.set i (some (.ref a))) H) ∧
    (b = false → Wout cls d σ H)
section
variable {X : Cx} {x n : Str} {c : Value} {i : Nat} {body suite : List Stmt} {b₀ : Stmt} {np pos pos' : Pos} {tb : WX → TS} {ts : Addr → Value → Option Addr → TS} {Wout : WX}
theorem ps_try_keep (hex : X.ex = []) (hs : X.stack = X.env :: X.outer) (hf : X.env.frame = some X.env.locals) (hN : X.N.Nodup) (hi : X.N[i]? = some n) (hln : X.env.kindOf n = some .local) (hc : Names X x c) (tk : Takes X Wout)
    (hb : ∀ (W : WX) (pn : List (Addr × Obj)) (xe : Value → Shared → Prop), Takes (X.tr pn xe) W → PassesOwn (model X.prog X.w) X.A X.env xe → PSs (X.tr pn xe) body (tb W))
    (hsu : ∀ (a : Addr) (oe : Obj) (cls : Value) (d : Option Addr) (pn : List (Addr × Obj)), Zc cls d oe → (∃ vs, oe.data = .fields vs) → PSs (X.suite a ((a, oe) :: pn)) (b₀ :: suite) (ts a cls d)) :
    PS X (.Try body [.ExceptHandler (some (.Name x np)) (some n) (b₀ :: suite) pos'] [] [] pos) (fun D σ H => tb (wKeep X.K c i ts Wout D) D σ H) := by
  refine ⟨fun pins s σ H D I h => ?_⟩
  have ok := I.ok
  have hfr : X.A.frames = some (X.env :: X.outer) := by rw [ok.frames, hs]
  have hloc : Loc X.env.scope n := .inl hln
  refine wpAny_Try_except ?_
  refine wpAny_mono ((hb (wKeep X.K c i ts Wout D) (X.pn ++ pins) (fun e s₁ => wpAny (model X.prog X.w) X.A (noteFrame e X.env) (fun _ s₂ => wpAny (model X.prog X.w) X.A (setFlight e none) (fun _ s₃ =>
    wpAny (model X.prog X.w) X.A (handleBy e X.env [.ExceptHandler (some (.Name x np)) (some n) (b₀ :: suite) pos']) (SP X pins D) X.xe s₃) X.xe s₂) X.xe s₁) (fun u s' xx => ?_) PassesOwn.looking).run [] s σ H D (I.toTry _) h) (fun f s1 hsp => ?_) (fun e s1 he => he)
  · -- the catch
    obtain ⟨a, B, sI, pins', σ', H', cls, d, rfl, J', nb, up, sky, na, os, ag, b, hb1, hyes, hno⟩ := xx
    have J : Inv X pins σ' H' sI := J'.ofTry ok
    have sky' : Sky B (X.env :: X.outer) a (Zc cls d) X.env.locals s'.heap := by rw [← hs]; exact sky
    show wpAny (model X.prog X.w) X.A (noteFrame (.ref a) X.env) _ _ _
    refine Sky.land Zc.steady hfr hf sky' fun h3 fl3 up3 => ?_
    have J3 : Inv X pins σ' H' { s' with heap := h3 } := J.landed nb fl3.1 (up.trans up3) os ag
    obtain ⟨oe3, vs3, he3, hz3, hd3⟩ := fl3.there
    have notFr : ∀ {h : Heap} {o : Obj} {vs : Array Value}, h.FunFrames B (X.env :: X.outer) → h.get? a = some o → o.data = .fields vs → a ∉ frs (X.env :: X.outer) := fun {h o vs} ff e dd hm => by
      obtain ⟨_, o', e', hnf⟩ := ff.mem hm
      rw [e] at e'; cases e'
      exact hnf _ dd
    have nfr := notFr fl3.2.2.1 he3 hd3
    have nL : a ≠ X.env.locals := fun z => nfr (List.mem_filterMap.mpr ⟨X.env, List.mem_cons_self, by rw [hf, z]⟩)
    have nF : a ∉ X.fs := fun hm => by
      obtain ⟨e, he, q⟩ := List.mem_filterMap.mp hm
      exact nfr (List.mem_filterMap.mpr ⟨e, List.mem_cons_of_mem _ he, q⟩)
    have S3 := J3.suite he3 hd3 na nL nF
    refine wpAny_handleBy_cons (codeAny_handlers_test ?_) (by intro q; cases q)
    have LT : PySem.W.Looks (model X.prog X.w) h3 (typeOf (.ref a)) cls := fun A Q E s k q => wpAny_typeOf_ref (k _ _ he3) (by rw [hz3.1]; exact q)
    have LM := PySem.W.exm_one (M := model X.prog X.w) (J3.kIn) LT hb1
    have test : ∀ {Q : Value → Shared → Prop} {E : Value → Shared → Prop}, Q c { s' with heap := h3 } → wpAny (model X.prog X.w) (X.A.mark (some (.ref a))) (eval (.Name x np) X.env) Q E { s' with heap := h3 } := fun {Q E} q => by
      obtain ⟨hg, hdbg, hm | ⟨hm, hv, hnn⟩⟩ := hc
      · exact ld_glob (X := X.suite a ((a, oe3) :: (X.pn ++ pins))) S3 hg hm q hdbg
      · exact ld_blt (X := X.suite a ((a, oe3) :: (X.pn ++ pins))) S3 hg hm hv q hnn hdbg
    refine test (LM.here ?_)
    cases b with
    | true =>
      refine codeAny_handlers_suite_as ?_
      refine HandSPX.lands_againZ fl3 fun h4 fl4 up4 => ?_
      have J4 : Inv X pins σ' H' { s' with heap := h4 } := J.landed nb fl4.1 ((up.trans up3).trans up4) os ag
      obtain ⟨oe4, vs4, he4, hz4, hd4⟩ := fl4.there
      have S4 := J4.suite he4 hd4 na nL nF
      have nA : sI.heap.get? a = none := by
        cases q : sI.heap.get? a with
        | none => rfl
        | some o =>
          have z := nb a o q (by rw [hs]; exact nfr)
          rw [fl3.2.1] at z
          cases z
      have n0 : X.s_0.heap.get? a = none := by
        cases q : X.s_0.heap.get? a with
        | none => rfl
        | some o =>
          obtain ⟨o', z⟩ := J.base.there a o q (by rw [hex]; exact fun z => nomatch z)
          rw [nA] at z
          cases z
      have nP : ∀ p ∈ X.pn ++ pins, p.1 ≠ a := fun p hp z => by
        have q := (J.pin p hp).1
        rw [z, nA] at q
        cases q
      obtain ⟨hdn, hyes⟩ := hyes rfl
      subst hdn
      refine store_ok (X := X.suite a ((a, oe4) :: (X.pn ++ pins))) (v := .ref a) S4 hN hi hloc rfl (fun s5 S5 => ?_) (.inr hln)
      refine wpAny_mono ((hsu a oe4 cls none (X.pn ++ pins) hz4 ⟨_, hd4⟩).run [] s5 _ H' _ S5 (hyes a na)) (fun f s6 hsp => ?_) (fun _ _ z => False.elim z)
      cases f with
      | next =>
        obtain ⟨σ6, H6, S6, q6⟩ := hsp
        have K6 : Inv X ((a, oe4) :: pins) σ6 H6 s6 := ⟨ok, S6.os, S6.bare, S6.base, S6.loc, S6.cell, S6.free, S6.freeC, fun p hp => S6.pin p (by
          rw [List.append_nil]
          rcases List.mem_append.mp hp with h | h
          · exact List.mem_cons_of_mem _ (List.mem_append_left _ h)
          · rcases List.mem_cons.mp h with h | h
            · rw [h]; exact List.mem_cons_self
            · exact List.mem_cons_of_mem _ (List.mem_append_right _ h)), S6.hok, S6.len⟩
        exact gone_ok K6 hN hi hln fun s7 J7 => ⟨_, _, inv_track J7 n0 nP hz4 hd4, q6⟩
      | brk =>
        obtain ⟨σ6, H6, S6, q6⟩ := hsp
        exact q6.elim
      | cont =>
        obtain ⟨σ6, H6, S6, q6⟩ := hsp
        exact q6.elim
      | ret u =>
        obtain ⟨v6, σ6, H6, S6, r6, q6⟩ := hsp
        exact q6.elim
    | false =>
      show wpAny _ X.A (handleBy (.ref a) X.env []) _ _ _
      refine wpAny_handleBy_nil ?_
      obtain ⟨k1, k2, k3, oe, vs, T, oT, ts', he, hz, hd, h1, hr⟩ := id fl3
      unfold PySem.passOn
      refine wpAny_bind (wpAny_field he hd h1 ?_)
      rw [if_neg (show ¬ ((Value.ref T == Value.none) = true) from by simp)]
      have fin : wpAny (model X.prog X.w) X.A (setFlight (.ref a) X.env.frame) (fun _ s4 => wpAny (model X.prog X.w) X.A (throw (.ref a) : Sem Flow) (SP X pins D) X.xe s4) X.xe { s' with heap := h3 } := by
        rw [hf]
        refine HandSPX.setFlight_upZ fl3 fun h4 hh4 up4 => wpAny_throw (tk _ _ ?_)
        exact ⟨a, B, sI, pins, σ', H', cls, d, rfl, J, nb, (up.trans up3).trans up4, .inr (.inr (by rw [hs]; exact hh4)), na, os, ag, hno rfl⟩
      first
        | exact wpAny_bind (wpAny_pure (wpAny_bind fin))
        | exact wpAny_bind fin
  · cases f with
    | next =>
      obtain ⟨σ', H', J', q⟩ := hsp
      exact wpAny_execs_nil ⟨σ', H', J'.ofTry ok, q⟩
    | brk =>
      obtain ⟨σ', H', J', q⟩ := hsp
      exact ⟨σ', H', J'.ofTry ok, q⟩
    | cont =>
      obtain ⟨σ', H', J', q⟩ := hsp
      exact ⟨σ', H', J'.ofTry ok, q⟩
    | ret u =>
      obtain ⟨v, σ', H', J', r, q⟩ := hsp
      exact ⟨v, σ', H', J'.ofTry ok, r, q⟩
end
/-- isinstance(e, c), e kept -/
def rIsX (K : PySem.W.Frag) : List V → Hp → VK → Prop := fun xs H Q => ∃ (a D : Addr) (c : V) (cv : Value) (b : Bool), xs = [.ref a, c] ∧ H a = some (exk a (.ref D)) ∧ ExcC K D ∧ ClsV c cv ∧ PySem.W.kitOne K (.ref D) cv = some b ∧ Q (.bl b) H
theorem call_isX {X : Cx} : CallR X (.builtin "isinstance") (rIsX X.K) := by
  intro pins s σ H xs us Q I r h
  obtain ⟨a, D, c, cv, b, rfl, ha, C, hcv, e, q⟩ := h
  obtain ⟨u1, u2, rfl, rx, rt⟩ := vals2 r
  cases (show u1 = Value.ref a from rx)
  have ec := hcv.eq rt
  subst ec
  have x : ObjOk X.prog X.w H s.heap a (exk a (.ref D)) := I.hok a _ ha
  obtain ⟨⟨oe, vs, hget, hz, hv⟩, _⟩ := x
  have J : PySem.W.InstAt s.heap a oe D none := by
    obtain ⟨oc, od, oda, osl⟩ := oe
    obtain ⟨h1, h2⟩ := hz
    dsimp only at h1 h2 hv
    subst h1 h2 hv
    exact ⟨hget, rfl, rfl, trivial⟩
  exact PySem.W.kia_one (PySem.W.handS_kitx_exc C.hg C.hk C.hs C.hd C.ha C.hn C.ht C.hm) I.kIn J e (fun z => nomatch z) fun tk => ⟨.bl b, H, I.kept (t' := tk) fun _ _ z => z, rfl, q⟩
end Cu
set_option maxRecDepth 100000
set_option maxHeartbeats 2000000
/-! Cu 18: the box that draws: all else stays. -/
namespace Cu
open PySem L2
theorem sm_le {n : Int} (h1 : -(10 ^ 70) ≤ n) (h2 : n ≤ 10 ^ 70) : Sm n := by
  unfold Sm
  exact PySem.Flt.log2_lt_of (k := 9000) (by decide) (Nat.lt_of_le_of_lt (show n.natAbs ≤ 10 ^ 70 by omega) (by decide +kernel))
def BoxAt (p : Addr) (H : Hp) (k : Nat) : Prop := ∃ a b n : Int, H p = some (.lst ([a, b, n].map V.int)) ∧ 0 ≤ a ∧ (0 ≤ b ∧ b < 2 ^ 62) ∧ 0 ≤ n ∧ n ≤ k
def EB (p : Addr) (H H' : Hp) : Prop := ∀ x o, x ≠ p → H x = some o → H' x = some o
section
variable {p : Addr} {H H1 H2 H' : Hp} {k k1 k2 k' : Nat}
theorem ebr : EB p H H := fun _ _ _ h => h
theorem ebt (a : EB p H H1) (b : EB p H1 H2) : EB p H H2 := fun x o n h => b x o n (a x o n h)
theorem Ex.eb (e : Ex H H') : EB p H H' := fun x o _ h => e x o h
theorem BoxAt.ex (b : BoxAt p H k) (e : Ex H H') : BoxAt p H' k := let ⟨a, b, n, h, r⟩ := b; ⟨a, b, n, e p _ h, r⟩
theorem BoxAt.le (b : BoxAt p H k) (h : k ≤ k') : BoxAt p H k' := let ⟨a, b, n, e, h1, h2, h3, h4⟩ := b; ⟨a, b, n, e, h1, h2, h3, by omega⟩
theorem EB.tx (e : EB p H H') (b : BoxAt p H k) : TX H H' := fun a xs h => e a _ (fun z => by
  obtain ⟨_, _, _, h2, _⟩ := b
  rw [z, h2] at h
  cases h) h
theorem eb_upd {o : HO} (e : EB p H H') : EB p H (upd H' p o) := fun x u n h => by
  rw [upd_ne n]
  exact e x u n h
theorem eb_free {a : Addr} {o : HO} (e : EB p H H') (h : H a = none) : EB p H (upd H' a o) := fun x u n hx => by
  rw [upd_ne (ne_of_none hx h)]
  exact e x u n hx
theorem eb_none {a : Addr} (e : EB p H H') (h : H' a = none) (hp : a ≠ p) : H a = none := by
  cases q : H a with
  | none => rfl
  | some o =>
    rw [e a o hp q] at h
    cases h
theorem BoxAt.ne {a : Addr} (b : BoxAt p H k) (h : H a = none) : a ≠ p := fun z => by
  obtain ⟨_, _, _, h2, _⟩ := b
  rw [z, h2] at h
  cases h
theorem BoxAt.upd {a : Addr} {o : HO} (b : BoxAt p H k) (h : a ≠ p) : BoxAt p (upd H a o) k := let ⟨a', b', n, e, r⟩ := b; ⟨a', b', n, by rw [upd_ne (Ne.symm h)]; exact e, r⟩
end
section
variable {α β : Type} {r : R α} {s : R β} {σ : L2.St} {p : Addr} {H H1 H2 H' : Hp} {k k1 k2 k' : Nat} {φ ψ χ : Int → Prop} {Φ Ψ : List Int → Prop} {te ta tb tl : TE} {as ar : TA} {D : Ends} {g : TG} {tu : TS} {n m : Int} {K : PySem.W.Frag}
/-- an int, the box drawn from | ints as arguments | a new list of ints -/
def EvBI (p : Addr) (k k' : Nat) (φ : Int → Prop) (te : TE) (σ : L2.St) : Prop := ∀ H, BoxAt p H k → ∀ Q : VK, (∀ n H', EB p H H' → BoxAt p H' k' → φ n → Q (.int n) H') → te σ H Q
def EvBA (p : Addr) (k k' : Nat) (Φ : List Int → Prop) (ta : TA) (σ : L2.St) : Prop := ∀ H, BoxAt p H k → ∀ Q : List V → Hp → Prop, (∀ ns H', EB p H H' → BoxAt p H' k' → Φ ns → Q (ns.map V.int) H') → ta σ H Q
def EvBL (p : Addr) (k k' : Nat) (Φ : List Int → Prop) (te : TE) (σ : L2.St) : Prop := ∀ H, BoxAt p H k → ∀ Q : VK, (∀ l ns H', H l = none → EB p H H' → BoxAt p H' k' → H' l = some (.lst (ns.map V.int)) → Φ ns → Q (.ref l) H') → te σ H Q
theorem bi_pure (h : ∀ H, Ev dI te σ H n) (hn : φ n) : EvBI p k k φ te σ := fun H b Q q => h H H exr Q fun v H2 e hv => by
  cases hv
  exact q n H2 e.eb (b.ex e) hn
theorem EvBI.imp (h : EvBI p k k' φ te σ) (f : ∀ n, φ n → ψ n) : EvBI p k k' ψ te σ := fun H b Q q => h H b Q fun n H' e b' hn => q n H' e b' (f n hn)
theorem bi_op {g : Int → Int → Int} (ha : EvBI p k k1 φ ta σ) (hb : EvBI p k1 k2 ψ tb σ) (hg : ∀ i j, φ i → ψ j → χ (g i j)) : EvBI p k k2 χ (tOp (rI0 fun i j => .int (g i j)) ta tb) σ := fun H b Q q =>
  ha H b _ fun i H1 e1 b1 hi => hb H1 b1 _ fun j H2 e2 b2 hj => ⟨i, j, rfl, rfl, q _ H2 (ebt e1 e2) b2 (hg i j hi hj)⟩
theorem bi_mul (ha : EvBI p k k1 φ ta σ) (hb : EvBI p k1 k2 ψ tb σ) (hc : ∀ i j, φ i → ψ j → Sm i ∧ Sm j) (hg : ∀ i j, φ i → ψ j → χ (i * j)) : EvBI p k k2 χ (tOp (L2.rI CMulW fun i j => .int (i * j)) ta tb) σ := fun H b Q q =>
  ha H b _ fun i H1 e1 b1 hi => hb H1 b1 _ fun j H2 e2 b2 hj => ⟨i, j, rfl, rfl, (by
    obtain ⟨h1, h2⟩ := hc i j hi hj
    unfold CMulW
    unfold Sm at h1 h2
    omega), q _ H2 (ebt e1 e2) b2 (hg i j hi hj)⟩
theorem ba_nil : EvBA p k k (fun ns => ns = []) tNil σ := fun H b Q q => q [] H ebr b rfl
theorem ba_cons (h : EvBI p k k1 φ te σ) (hr : EvBA p k1 k2 Φ ar σ) : EvBA p k k2 (fun ns => ∃ n ms, ns = n :: ms ∧ φ n ∧ Φ ms) (tCons te ar) σ := fun H b Q q =>
  h H b _ fun n H1 e1 b1 hn => hr H1 b1 _ fun ms H2 e2 b2 hms => q (n :: ms) H2 (ebt e1 e2) b2 ⟨n, ms, rfl, hn, hms⟩
theorem ba_all (h : EvBI p k k1 φ te σ) (hr : EvBA p k1 k2 (fun ms => ∀ m ∈ ms, φ m) ar σ) : EvBA p k k2 (fun ns => ns ≠ [] ∧ ∀ m ∈ ns, φ m) (tCons te ar) σ := fun H b Q q =>
  h H b _ fun n H1 e1 b1 hn => hr H1 b1 _ fun ms H2 e2 b2 hms => q (n :: ms) H2 (ebt e1 e2) b2 ⟨fun z => (nomatch z), fun m hm => by
    rcases List.mem_cons.mp hm with rfl | hm
    · exact hn
    · exact hms m hm⟩
theorem ba_all0 : EvBA p k k (fun ms => ∀ m ∈ ms, φ m) tNil σ := fun H b Q q => q [] H ebr b (fun m hm => nomatch hm)
theorem ba_more (h : EvBI p k k1 φ te σ) (hr : EvBA p k1 k2 (fun ms => ∀ m ∈ ms, φ m) ar σ) : EvBA p k k2 (fun ms => ∀ m ∈ ms, φ m) (tCons te ar) σ := fun H b Q q => ba_all h hr H b Q fun ns H' e b' h => q ns H' e b' h.2
theorem bl_lst (h : EvBA p k k' Φ as σ) (hl : ∀ ns, Φ ns → ns.length ≤ 100000) : EvBL p k k' Φ (tLst as) σ := fun H b Q q => h H b _ fun ns H1 e1 b1 hns => ⟨sz_of (by rw [List.length_map]; exact hl ns hns), fun l hl =>
  q l ns _ (eb_none e1 hl (b1.ne hl)) (ebt e1 (exn hl).eb) (b1.upd (b1.ne hl)) upd_same hns⟩
theorem ba0 : EvBA p k k (fun ms => ms.length = 0 ∧ ∀ m ∈ ms, φ m) tNil σ := fun H b Q q => q [] H ebr b ⟨rfl, fun m hm => nomatch hm⟩
theorem ba1 {c : Nat} (h : EvBI p k k1 φ te σ) (hr : EvBA p k1 k2 (fun ms => ms.length = c ∧ ∀ m ∈ ms, φ m) ar σ) : EvBA p k k2 (fun ms => ms.length = c + 1 ∧ ∀ m ∈ ms, φ m) (tCons te ar) σ := fun H b Q q =>
  h H b _ fun n H1 e1 b1 hn => hr H1 b1 _ fun ms H2 e2 b2 hms => q (n :: ms) H2 (ebt e1 e2) b2 ⟨by rw [List.length_cons, hms.1], fun m hm => by
    rcases List.mem_cons.mp hm with rfl | hm
    · exact hn
    · exact hms.2 m hm⟩
/-! the draws as promises -/
def spTake : Sp := fun vs H Q _ => ∃ (p : Addr) (m : Int) (k : Nat), vs = [.ref p, .int m] ∧ BoxAt p H k ∧ k ≤ 1000000 ∧ 1 ≤ m ∧ Sm m ∧ ∀ d H', 0 ≤ d → d < m → EB p H H' → BoxAt p H' (k + 1) → Q (.int d) H'
def spOf : Sp := fun vs H Q _ => ∃ (p l : Addr) (ns : List Int) (k : Nat), vs = [.ref p, .ref l] ∧ BoxAt p H k ∧ k ≤ 1000000 ∧ H l = some (.lst (ns.map V.int)) ∧ l ≠ p ∧ ns ≠ [] ∧ ns.length ≤ 1000 ∧ ∀ d H', d ∈ ns → EB p H H' → BoxAt p H' (k + 1) → Q (.int d) H'
theorem bi_take {i : Nat} (hi : σ[i]? = some (some (.ref p))) (h : EvBI p k k' φ te σ) (hk : k' ≤ 1000000) (hm : ∀ m, φ m → 1 ≤ m ∧ Sm m) : EvBI p k (k' + 1) (fun d => ∃ m, φ m ∧ 0 ≤ d ∧ d < m) (tCall spTake [] E0 (tCons (tVar i) (tCons te tNil))) σ := fun H b Q q =>
  ⟨_, hi, h H b _ fun m H1 e1 b1 hm1 => ⟨p, m, k', rfl, b1, hk, (hm m hm1).1, (hm m hm1).2, fun d H' h0 h1 e b' => q d H' (ebt e1 e) b' ⟨m, hm1, h0, h1⟩⟩⟩
theorem bi_ofL {i : Nat} {Φ : List Int → Prop} (hi : σ[i]? = some (some (.ref p))) (h : EvBL p k k' Φ te σ) (hk : k' ≤ 1000000) (hn : ∀ ns, Φ ns → ns ≠ [] ∧ ns.length ≤ 1000) : EvBI p k (k' + 1) (fun d => ∃ ns, Φ ns ∧ d ∈ ns) (tCall spOf [] E0 (tCons (tVar i) (tCons te tNil))) σ := fun H b Q q =>
  ⟨_, hi, h H b _ fun l ns H1 hl e1 b1 h1 hΦ => ⟨p, l, ns, k', rfl, b1, hk, h1, b.ne hl, (hn ns hΦ).1, (hn ns hΦ).2, fun d H' hd e b' => q d H' (ebt e1 e) b' ⟨ns, hΦ, hd⟩⟩⟩
theorem bi_ofD {i c : Nat} (hi : σ[i]? = some (some (.ref p))) (h : EvBA p k k' (fun ms => ms.length = c + 1 ∧ ∀ m ∈ ms, φ m) as σ) (hc : c < 900) (hk : k' ≤ 1000000) : EvBI p k (k' + 1) φ (tCall spOf [] E0 (tCons (tVar i) (tCons (tLst as) tNil))) σ := fun H b Q q =>
  bi_ofL hi (bl_lst h (fun ns hn => by rw [hn.1]; omega)) hk (fun ns hn => ⟨(fun z => by rw [z] at hn; exact absurd hn.1 (by simp)), by rw [hn.1]; omega⟩) H b Q fun n H' e b' ⟨ns, hn, hm⟩ => q n H' e b' (hn.2 n hm)
/-- of(box, a list that stands in a slot) -/
theorem bi_ofV {i j : Nat} {l : Addr} {ns : List Int} (hi : σ[i]? = some (some (.ref p))) (hj : σ[j]? = some (some (.ref l))) (hl : l ≠ p) (hn : ns ≠ [] ∧ ns.length ≤ 1000) (hk : k ≤ 1000000) : ∀ H, BoxAt p H k → H l = some (.lst (ns.map V.int)) → ∀ Q : VK, (∀ n H', EB p H H' → BoxAt p H' (k + 1) → n ∈ ns → Q (.int n) H') → tCall spOf [] E0 (tCons (tVar i) (tCons (tVar j) tNil)) σ H Q := fun H b h Q q =>
  ⟨_, hi, _, hj, p, l, ns, k, rfl, b, hk, h, hl, hn.1, hn.2, fun d H' hd e b' => q d H' e b' hd⟩
/-! statements -/
theorem s_asgB {i : Nat} (h : EvBI p k k' φ te σ) (b : BoxAt p H k) (kk : ∀ n H', EB p H H' → BoxAt p H' k' → φ n → D.nx (σ.set i (some (.int n))) H') : tAsg te (gName i) D σ H := h H b _ fun n H' e b' hn => kk n H' e b' hn
theorem s_asgBL {i : Nat} (h : EvBL p k k' Φ te σ) (b : BoxAt p H k) (kk : ∀ l ns H', H l = none → EB p H H' → BoxAt p H' k' → H' l = some (.lst (ns.map V.int)) → Φ ns → D.nx (σ.set i (some (.ref l))) H') : tAsg te (gName i) D σ H := h H b _ fun l ns H' hl e b' h1 hn => kk l ns H' hl e b' h1 hn
/-- for i in range(e), e drawn -/
theorem s_forRgB (h : EvBI p k k' φ ta σ) (b : BoxAt p H k) (hφ : ∀ n, φ n → 0 ≤ n ∧ n ≤ 1000) (P : Hp → Nat → L2.St → Hp → Prop) (h0 : ∀ H1, EB p H H1 → BoxAt p H1 k' → P H1 0 σ H1)
    (hs : ∀ H1 n (i : Nat) σ' H', EB p H H1 → φ n → (i : Int) < n → P H1 i σ' H' → g (.int (i : Int)) σ' H' fun σ2 H2 => tu { D with nx := P H1 (i + 1), ct := P H1 (i + 1), bk := D.nx } σ2 H2)
    (hd : ∀ H1 n σ' H', EB p H H1 → φ n → P H1 n.toNat σ' H' → D.nx σ' H') : tFor (iRng1 (tCons ta tNil)) g tu D σ H := by
  refine h H b _ fun n H1 e1 b1 hn => ?_
  obtain ⟨z1, z2⟩ := hφ n hn
  refine ⟨n, rfl, by omega, by omega, ?_⟩
  refine for_it (walk_range (lo := 0) (n := n.toNat)) (P H1) (h0 H1 e1 b1) (fun i σ H _ h => trivial) (fun i x σ' H2 H' hi hp y => ?_) fun σ' H' hp => hd H1 n σ' H' e1 hn hp
  obtain ⟨rfl, rfl⟩ := y
  show g (.int (0 + (i : Int))) σ' H' _
  rw [Int.zero_add]
  exact hs H1 n i σ' H' e1 hn (by omega) hp
/-- a test of a drawn int -/
theorem etB_op {gb : Int → Int → Bool} (ha : EvBI p k k1 φ ta σ) (hb : EvBI p k1 k2 ψ tb σ) (b : BoxAt p H k) {Q : Bool → Hp → Prop} (q : ∀ c H', EB p H H' → BoxAt p H' k2 → Q c H') : tTest (tOp (rI0 fun i j => .bl (gb i j)) ta tb) σ H Q :=
  ha H b _ fun i H1 e1 b1 hi => hb H1 b1 _ fun j H2 e2 b2 hj => ⟨i, j, rfl, rfl, _, rfl, q _ H2 (ebt e1 e2) b2⟩
theorem etB_eq (ha : EvBI p k k1 φ ta σ) (hb : EvBI p k1 k2 ψ tb σ) (b : BoxAt p H k) {Q : Bool → Hp → Prop} (q : ∀ c H', EB p H H' → BoxAt p H' k2 → Q c H') : tTest (tOp rEq ta tb) σ H Q :=
  ha H b _ fun i H1 e1 b1 hi => hb H1 b1 _ fun j H2 e2 b2 hj => ⟨rfl, _, rfl, q _ H2 (ebt e1 e2) b2⟩
theorem s_setLI {l : Addr} {ns : List Int} {j : Nat} {n k0 : Int} (hl : H l = some (.lst (ns.map V.int))) (h : Ev dI te σ H n) (ho : Ev dV ta σ H (.ref l)) (hi : Ev dI tb σ H k0) (hj : ixN ns.length k0 = some j) (kk : ∀ H1, Ex H H1 → D.nx σ (upd H1 l (.lst ((ns.set j n).map V.int)))) :
    tAsg te (gSub ta tb rSetL) D σ H := s_setL hl h ho hi (by rw [List.length_map]; exact hj) fun v H1 e hv => by
  cases hv
  have : (ns.map V.int).set j (.int n) = (ns.set j n).map V.int := by rw [List.map_set]
  rw [this]
  exact kk H1 e
theorem en_orL {ns ms : List Int} (h : EvN (dL dI) ta σ H ns) (hb : EvN (dL dI) tb σ H ms) : EvN (dL dI) (tOrT K ta tb) σ H (if ns = [] then ms else ns) := fun H1 e Q q =>
  h H1 e _ fun l H2 hl e2 hv => by
    by_cases hn : ns = []
    · obtain ⟨l', xs, el, h1, h2⟩ := hv
      cases el
      rw [hn] at h2
      cases h2
      refine ⟨false, .inl ⟨[], SqL.of h1, rfl⟩, ?_⟩
      rw [if_neg Bool.false_ne_true]
      rw [if_pos hn] at q
      exact hb H2 (ext e e2) Q fun l3 H3 hl3 e3 hv3 => q l3 H3 (exf e2 hl3) (ext e2 e3) hv3
    · obtain ⟨l', xs, el, h1, h2⟩ := id hv
      cases el
      have hx : xs ≠ [] := fun z => by
        rw [z] at h2
        cases h2
        exact hn rfl
      refine ⟨true, .inl ⟨xs, SqL.of h1, by cases xs with | nil => exact absurd rfl hx | cons _ _ => rfl⟩, ?_⟩
      rw [if_pos rfl]
      rw [if_neg hn] at q
      exact q l H2 hl e2 hv
theorem ixN_in {n : Nat} {i : Int} (h0 : 0 ≤ i) (h1 : i < n) : ixN n i = some i.toNat := by
  unfold ixN
  rw [if_pos h0, if_pos h1]
/-- for i, x in enumerate(a new list of ints) -/
theorem s_forEnumLI {ns : List Int} (h : EvN (dL dI) tl σ H ns) (P : Addr → Hp → Nat → L2.St → Hp → Prop) (hE : ∀ q H1 i σ' H', P q H1 i σ' H' → H' q = some (.lst (ns.map V.int))) (h0 : ∀ q H1, H q = none → H1 q = some (.lst (ns.map V.int)) → Ex H H1 → P q H1 0 σ H1)
    (hs : ∀ q H1 i a x σ' H2 H', H q = none → Ex H H1 → ns[i]? = some a → P q H1 i σ' H2 → Ex H2 H' → dPI.is H' x ((i : Int), a) → g x σ' H' fun σ2 H2 => tu { D with nx := P q H1 (i + 1), ct := P q H1 (i + 1), bk := D.nx } σ2 H2)
    (hd : ∀ q H1 σ' H', Ex H H1 → P q H1 ns.length σ' H' → D.nx σ' H') : tFor (iEnum K (tCons tl tNil)) g tu D σ H := by
  refine h H exr _ fun q H1 hq e1 ⟨p', xs, h1, h2, h3⟩ => ?_
  cases h1
  have e := ints_of h3
  subst e
  refine ⟨q, _, rfl, SqL.of h2, ?_⟩
  refine for_it (n := ns.length) (G := fun H' => H' q = some (.lst (ns.map V.int))) (Y := fun i H1 x H2 => Ex H1 H2 ∧ ∃ a, ns[i]? = some a ∧ dPI.is H2 x ((i : Int), a)) ?_ (P q H1) (h0 q H1 hq h2 e1) (fun i σ H _ h => hE q H1 i σ H h) (fun i x σ' H2 H' _ hp' y => ?_) fun σ' H' hp' => hd q H1 σ' H' e1 hp'
  · rw [show ns.length = (ns.map V.int).length by simp]
    refine (walk_enum (K := K) (a := q) (xs := ns.map V.int)).mono (fun H2 e => SqL.of e) fun i H2 x H3 _ e y => ?_
    obtain ⟨T, x0, y0, rfl, hn, rfl, e1, e2⟩ := y
    cases e1
    have e2 : (ns.map V.int)[i]? = some y0 := e2
    rw [List.getElem?_map] at e2
    cases qn : ns[i]? with
    | none => rw [qn] at e2; cases e2
    | some a => rw [qn] at e2; cases e2; exact ⟨exn hn, a, rfl, T, _, _, rfl, upd_same, rfl, rfl⟩
  · obtain ⟨e, a, ha, hr⟩ := y
    exact hs q H1 i a x σ' H2 H' hq e1 ha hp' e hr
end
end Cu
set_option maxRecDepth 100000
set_option maxHeartbeats 4000000
/-! Cu, walk 1: records .. alike. -/
namespace Cu
open PySem PySem.Spec PyProof.Rows L2
abbrev st_records : Stmt := top 5
abbrev N_records : List Str := ["row", "found", "limit"]
abbrev P_records : List Str := ["row"]
theorem sc_records : FnScope N_records P_records (defScope st_records) := ⟨rfl, rfl, rfl, by decide +kernel, rfl, by decide +kernel, by decide +kernel⟩
abbrev st_is_lone : Stmt := top 7
abbrev N_is_lone : List Str := ["row", "least", "limit"]
abbrev P_is_lone : List Str := ["row", "least"]
theorem sc_is_lone : FnScope N_is_lone P_is_lone (defScope st_is_lone) := ⟨rfl, rfl, rfl, by decide +kernel, rfl, by decide +kernel, by decide +kernel⟩
abbrev st_joined_blocks : Stmt := top 8
abbrev N_joined_blocks : List Str := ["blocks", "least", "found", "low", "high"]
abbrev P_joined_blocks : List Str := ["blocks", "least"]
theorem sc_joined_blocks : FnScope N_joined_blocks P_joined_blocks (defScope st_joined_blocks) := ⟨rfl, rfl, rfl, by decide +kernel, rfl, by decide +kernel, by decide +kernel⟩
abbrev st_filling : Stmt := top 9
abbrev N_filling : List Str := ["row", "least", "limit"]
abbrev P_filling : List Str := ["row", "least"]
theorem sc_filling : FnScope N_filling P_filling (defScope st_filling) := ⟨rfl, rfl, rfl, by decide +kernel, rfl, by decide +kernel, by decide +kernel⟩
abbrev st_alike : Stmt := top 10
abbrev N_alike : List Str := ["row", "other", "least"]
abbrev P_alike : List Str := ["row", "other", "least"]
theorem sc_alike : FnScope N_alike P_alike (defScope st_alike) := ⟨rfl, rfl, rfl, by decide +kernel, rfl, by decide +kernel, by decide +kernel⟩
section
variable {P : Program} {w : World} {K : PySem.W.Frag} {mg : Str → Option Value} {base : Heap}
theorem ok_records (F : Df K mg "records" st_records P_records) (T : Nb mg) : Cal P w K mg base 1 "records" (sp1N (dQ dI) (dT dI) (fun row => row.length ≤ 1000) (recs none)) := by
  refine F.cal sc_records len1N (fun f cdv A outer s H vs Q E hr h => ?_)
  obtain ⟨v, row, rfl, hv, hz, k⟩ := h
  refine ⟨_, (pss_cons (ps_set (i := 1) sc_records.nd rfl (by first | exact Or.inl rfl | exact Or.inr rfl) (pe_lst pa_nil))
    (pss_cons (ps_for PassesOwn.never (by rfl) (k_piseq (K := K) (by rfl) (pv 0)) (pg_name (i := 2) sc_records.nd rfl (by first | exact Or.inl rfl | exact Or.inr rfl))
    (pss_one (ps_if (PW.pt (pw_or (pt_cmpR op_eq (pe_callB (k_len (K := K) (by rfl)) (by rfl) T.len bt_len (pa_cons (pv 1) pa_nil)) pe_int (nomark _)) (pw_or1 (pt_cmpR op_lt (pv 2) (pe_ix (k_ixL (K := K) (by rfl)) (pv 1) (pe_un un_neg pe_int) (fun _ _ => rfl)) (nomark _))))) (pss_one (ps_expr (pe_bm PySem.F.plainAttrs_list PySem.F.slot_list_append PySem.F.type_list_append mt_append (pv 1) (pa_cons (pv 2) pa_nil)))) pss_nil)))
    (pss_one (ps_ret (pe_callTy (k_tupO (K := K) (by rfl)) (by rfl) T.tuple bt_tuple (pa_cons (pv 1) pa_nil)))))), ?_⟩
  refine sq (s_asgN (i := 1) (en_lst (r := dI) ea_nil (by decide)) fun p H1 hp e1 hl => ?_)
  refine sq (s_forQ (H0 := H) (v := v) rfl hv (P := fun i σ' H' => ∃ found x, σ' = [some v, some (.ref p), x] ∧ H' p = some (.lst (found.map V.int)) ∧ found ++ recs found.getLast? (row.drop i) = recs none row ∧ found.length ≤ i ∧ Ex H H') ?_ ?_ ?_ ?_)
  · rintro i σ' H' ⟨found, x, _, _, _, _, e⟩
    exact e
  · obtain ⟨q, xs, e2, hl, hp2⟩ := hl
    cases e2
    cases hp2
    exact ⟨[], _, rfl, hl, by simp, Nat.le_refl _, e1⟩
  · rintro i a x σ' H' ha ⟨found, x0, rfl, hl, hinv, hlen, e⟩ hx
    cases hx
    refine gn ?_
    rw [drop_cons ha] at hinv
    have hi := lt_of_get ha
    have push : ∀ H1, Ex H' H1 → found ++ [a] ++ recs (found ++ [a]).getLast? (row.drop (i + 1)) = recs none row → tDrop (tBM K "list" rAppend (tVar 1) (tCons (tVar 2) tNil)) ⟨fun σ' H' => ∃ found x, σ' = [some v, some (.ref p), x] ∧ H' p = some (.lst (found.map V.int)) ∧ found ++ recs found.getLast? (row.drop (i + 1)) = recs none row ∧ found.length ≤ i + 1 ∧ Ex H H', Q, fun _ _ => False, fun _ _ => False⟩ [some v, some (.ref p), some (.int a)] H1 := fun H1 e3 hinv2 =>
      s_appI (e3 p _ hl) (ev_ref rfl) (ev_var rfl rfl) (by omega) fun H2 e4 h4 => ⟨found ++ [a], _, rfl, h4, hinv2, by rw [List.length_append, List.length_singleton]; omega, exm (ext e (ext e3 e4)) hp⟩
    rcases nil_snoc found with rfl | ⟨ys, m, rfl⟩
    · refine s_if (b := true) (et_or (a := true) (b := false) ((et_test (ev_eqI (ev_lenL (r := dI) (ev_var rfl (isLI hl))) ev_int)).to (by simp)) (fun z => nomatch z)) (fun _ H1 e3 => ?_) (fun z => nomatch z)
      exact push H1 e3 (by simpa [recs] using hinv)
    · refine s_if (b := decide (a < m)) ((et_or (a := false) (b := decide (a < m)) ((et_test (ev_eqI (ev_lenL (r := dI) (ev_var rfl (isLI hl))) ev_int)).to (by simp <;> omega)) (fun _ => et_test (ev_B0 (ev_var rfl rfl) (ev_last (r := dI) (ev_var rfl (isLI hl))))))) (fun hb H1 e3 => ?_) (fun hb H1 e3 => ?_)
      · have hlt : a < m := of_decide_eq_true hb
        exact push H1 e3 (by simpa [recs, hlt] using hinv)
      · have hlt : ¬ a < m := of_decide_eq_false hb
        exact ⟨_, _, rfl, e3 p _ hl, by simpa [recs, hlt] using hinv, by omega, ext e e3⟩
  · rintro σ' H' ⟨found, x0, rfl, hl, hinv, hlen, e⟩
    have e5 : found = recs none row := by
      rw [List.drop_length] at hinv
      simpa [recs] using hinv
    refine s_retN (en_tupleL (r := dI) (ev_var rfl (isLI hl))) fun q H1 hq e3 hr => ?_
    rw [e5] at hr
    exact k q H1 (exf e hq) (ext e e3) hr

theorem ok_is_lone (F : Df K mg "is_lone" st_is_lone P_is_lone) (T : Nb mg) : Cal P w K mg base 1 "is_lone" (sp2 (dQ dI) dI dB (fun row least => row.length ≤ 1000 ∧ Sm least) lone) := by
  refine F.cal sc_is_lone len2 (fun f cdv A outer s H vs Q E hr h => ?_)
  obtain ⟨v, v2, row, least, rfl, hv, hv2, ⟨hz, hs⟩, k⟩ := h
  cases hv2
  refine ⟨_, (pss_one (ps_ret (pe_callB (k_any (K := K) (by rfl) (by rfl)) (by rfl) T.any bt_any (pa_cons (pe_lc (own := [("limit", 2)]) (g := (gName 2)) (tt := tYes) (by rfl) sc_is_lone.nd (k_piseq (K := K) (by rfl) (pv 0)) (blkOk_by (own := [("limit", 2)]) (N := N_is_lone) (sc := defScope st_is_lone) (by decide +kernel)) (fun _ _ _ _ _ => (pg_name (i := 2) sc_is_lone.nd rfl (by first | exact Or.inl rfl | exact Or.inr rfl))) (fun _ _ _ _ _ => pts_nil) (fun _ _ _ _ _ => (pe_cmpR op_lt (pv 2) (pe_op op_mulW pe_int (pv 1)) (nomark _)))) pa_nil)))), ?_⟩
  refine s_ret (a := lone row least) ((ev_any (ev_lcY (r := dI) (s := dB) gm_name (es_seq (ev_var rfl hv)) (by omega) (fun x => decide (x < 2 * least)) (fun a x H1 _ e hx => ⟨rfl, rfl, ev_B0 (ev_var rfl hx) (ev_mulW ev_int (ev_var rfl rfl) (by unfold Sm; decide) hs)⟩)).ev).to (by unfold lone; rw [List.any_map]; rfl)) fun x H1 e hx => k x H1 e hx
theorem ok_joined_blocks (F : Df K mg "joined_blocks" st_joined_blocks P_joined_blocks) (T : Nb mg) : Cal P w K mg base 1 "joined_blocks" (sp2N (dL dPI) dI (dT dPI) (fun bs _ => bs.length ≤ 1000) (fun bs least => joinB least bs)) := by
  refine F.cal sc_joined_blocks len2N (fun f cdv A outer s H vs Q E hr h => ?_)
  obtain ⟨v, v2, bs, least, rfl, hv, hv2, hz, k⟩ := h
  cases hv2
  refine ⟨_, (pss_cons (ps_set (i := 2) sc_joined_blocks.nd rfl (by first | exact Or.inl rfl | exact Or.inr rfl) (pe_lst pa_nil))
    (pss_cons (ps_for PassesOwn.never (by rfl) (k_pilist (K := K) (by rfl) (pv 0)) (k_gtup (K := K) (by rfl) (by rfl) (pgs_cons (pg_name (i := 3) sc_joined_blocks.nd rfl (by first | exact Or.inl rfl | exact Or.inr rfl)) (pgs_cons (pg_name (i := 4) sc_joined_blocks.nd rfl (by first | exact Or.inl rfl | exact Or.inr rfl)) pgs_nil)))
    (pss_one (ps_if (PW.pt (pw_and (pt_cmpR op_gt (pe_callB (k_len (K := K) (by rfl)) (by rfl) T.len bt_len (pa_cons (pv 2) pa_nil)) pe_int (nomark _)) (pw_and1 (pt_cmpR op_le (pe_op op_sub (pv 3) (pe_ix (k_ixT (K := K) (by rfl)) (pe_ix (k_ixL (K := K) (by rfl)) (pv 2) (pe_un un_neg pe_int) (fun _ _ => rfl)) pe_int (fun _ _ => rfl))) (pv 1) (nomark _))))) (pss_one (ps_asg (pe_tup (pa_cons (pe_ix (k_ixT (K := K) (by rfl)) (pe_ix (k_ixL (K := K) (by rfl)) (pv 2) (pe_un un_neg pe_int) (fun _ _ => rfl)) pe_int (fun _ _ => rfl)) (pa_cons (pv 4) pa_nil))) (pg_sub (pv 2) (pe_un un_neg pe_int) set_list))) (pss_one (ps_expr (pe_bm PySem.F.plainAttrs_list PySem.F.slot_list_append PySem.F.type_list_append mt_append (pv 2) (pa_cons (pe_tup (pa_cons (pv 3) (pa_cons (pv 4) pa_nil))) pa_nil)))))))
    (pss_one (ps_ret (pe_callTy (k_tupO (K := K) (by rfl)) (by rfl) T.tuple bt_tuple (pa_cons (pv 2) pa_nil)))))), ?_⟩
  refine sq (s_asgN (i := 2) (en_lst (r := dPI) ea_nil (Nat.zero_le _)) fun p H1 hp e1 hl => ?_)
  refine sq (s_forL (H0 := H) (v := v) rfl hv (P := fun i σ' H' => ∃ x y, σ' = [some v, some (.int least), some (.ref p), x, y] ∧ (dL dPI).is H' (.ref p) ((bs.take i).foldl (joinStep least) []) ∧ Ex H H') ?_ ?_ ?_ ?_)
  · rintro i σ' H' ⟨x, y, _, _, e⟩
    exact e
  · exact ⟨_, _, rfl, by simpa using hl, e1⟩
  · rintro i d x σ' H' hd ⟨x0, y0, rfl, hl, e⟩ hx
    obtain ⟨a, b⟩ := d
    refine g_pair hx fun xa xb ha hb => ?_
    cases ha
    cases hb
    rw [fold_snoc hd]
    have hbound : ((bs.take i).foldl (joinStep least) []).length < 100000 := by
      have := fold_join_len (least := least) (bs.take i) []
      rw [List.length_take] at this
      simp only [List.length_nil] at this
      omega
    generalize (bs.take i).foldl (joinStep least) [] = acc at hl hbound
    rcases nil_snoc acc with rfl | ⟨ys, m, rfl⟩
    · refine s_if (b := false) (et_and (a := false) (b := false) ((et_test (ev_B0 (ev_lenL (r := dPI) (ev_var rfl hl)) ev_int)).to (by simp)) (fun z => nomatch z)) (fun z => nomatch z) (fun _ H1 e3 => ?_)
      refine s_appD ((dL dPI).ex e3 hl) (ev_ref rfl) (en_pair (a := a) (b := b) (ev_var rfl rfl) (ev_var rfl rfl)).ev hbound fun H2 o e4 h4 _ => ⟨_, _, rfl, ?_, exm (ext e (ext e3 e4)) hp⟩
      simpa [joinStep] using h4
    · refine s_if (b := decide (a - m.2 ≤ least)) ((et_and (a := true) (b := decide (a - m.2 ≤ least)) ((et_test (ev_B0 (ev_lenL (r := dPI) (ev_var rfl hl)) ev_int)).to (by simp <;> omega)) (fun _ => et_test (ev_B0 (ev_I0 (ev_var rfl rfl) (ev_ix1 (ev_last (r := dPI) (ev_var rfl hl)))) (ev_var rfl rfl))))) (fun hb H1 e3 => ?_) (fun hb H1 e3 => ?_)
      · refine s_setLast (a := (m.1, b)) ((dL dPI).ex e3 hl) (ev_ref rfl) (en_pair (a := m.1) (b := b) (ev_ix0 (ev_last (r := dPI) (ev_var rfl ((dL dPI).ex e3 hl)))) (ev_var rfl rfl)).ev fun H2 o e4 h4 _ => ⟨_, _, rfl, ?_, exm (ext e (ext e3 e4)) hp⟩
        have hle : a - m.2 ≤ least := of_decide_eq_true hb
        simpa [joinStep, hle] using h4
      · refine s_appD ((dL dPI).ex e3 hl) (ev_ref rfl) (en_pair (a := a) (b := b) (ev_var rfl rfl) (ev_var rfl rfl)).ev hbound fun H2 o e4 h4 _ => ⟨_, _, rfl, ?_, exm (ext e (ext e3 e4)) hp⟩
        have hle : ¬ a - m.2 ≤ least := of_decide_eq_false hb
        simpa [joinStep, hle] using h4
  · rintro σ' H' ⟨x0, y0, rfl, hl, e⟩
    rw [List.take_length] at hl
    refine s_retN (en_tupleL (r := dPI) (ev_var rfl hl)) fun q H1 hq e3 hr => ?_
    exact k q H1 (exf e hq) (ext e e3) hr
abbrev fillP (row : List Int) (least : Int) : Prop := row.length ≤ 1000 ∧ Sm least
theorem ok_filling (F : Df K mg "filling" st_filling P_filling) (T : Nb mg) (c_records : Cal P w K mg base 1 "records" (sp1N (dQ dI) (dT dI) (fun row => row.length ≤ 1000) (recs none)))
    (c_is_lone : Cal P w K mg base 1 "is_lone" (sp2 (dQ dI) dI dB fillP lone)) (c_joined_blocks : Cal P w K mg base 1 "joined_blocks" (sp2N (dL dPI) dI (dT dPI) (fun bs _ => bs.length ≤ 1000) (fun bs least => joinB least bs))) :
    Cal P w K mg base 2 "filling" (sp2 (dQ dI) dI (dO (dT dPI)) fillP fillF) := by
  refine F.cal sc_filling len2 (fun f cdv A outer s H vs Q E hr h => ?_)
  obtain ⟨v, v2, row, least, rfl, hv, hv2, ⟨hz, hs⟩, k⟩ := h
  cases hv2
  refine ⟨_, (pss_cons (ps_if (pt_val (pe_cal c_is_lone (hr.mono (by decide)) (by rfl) (pa_cons (pv 0) (pa_cons (pv 1) pa_nil)))) (pss_one (ps_ret pe_non)) pss_nil)
    (pss_one (ps_ret (pe_cal c_joined_blocks (hr.mono (by decide)) (by rfl) (pa_cons (pe_lc (own := [("limit", 2)]) (g := (gName 2)) (tt := tYes) (by rfl) sc_filling.nd (k_pilist (K := K) (by rfl) (pe_callB (k_srt (K := K) (by rfl)) (by rfl) T.sorted bt_sorted (pa_cons (pe_cal c_records (hr.mono (by decide)) (by rfl) (pa_cons (pv 0) pa_nil)) pa_nil))) (blkOk_by (own := [("limit", 2)]) (N := N_filling) (sc := defScope st_filling) (by decide +kernel)) (fun _ _ _ _ _ => (pg_name (i := 2) sc_filling.nd rfl (by first | exact Or.inl rfl | exact Or.inr rfl))) (fun _ _ _ _ _ => pts_nil) (fun _ _ _ _ _ => (pe_tup (pa_cons (pv 2) (pa_cons (pv 2) pa_nil))))) (pa_cons (pv 1) pa_nil)))))), ?_⟩
  refine sq (s_if (et_B (ev_c2 (r := dQ dI) (s := dI) (rc := dB) (f := lone) (ev_var rfl hv) (ev_var rfl rfl) ⟨hz, hs⟩)) (fun hb H1 e => ?_) (fun hb H1 e => ?_))
  · refine s_ret (ev_non (r := dT dPI)) fun x H2 e2 hx => k x H2 (ext e e2) ?_
    unfold fillF
    rw [hb]
    exact hx
  · have hlen : ((recs none row).reverse.map fun x : Int => (x, x)).length ≤ 1000 := by
      rw [List.length_map, List.length_reverse]
      exact Nat.le_trans (recs_len row none) hz
    refine s_ret (EvN.some (en_c2 (r := dL dPI) (s := dI) (rc := dT dPI) (f := fun bs least => joinB least bs) (ev_lcY (r := dI) (s := dPI) gm_name (es_lst (en_sortT (ms := (recs none row).reverse) (en_c1 (ev_var rfl ((dQ dI).ex e hv)) hz).ev (List.reverse_perm _) (recs_rev_sorted row)).ev) (by rw [List.length_map] at hlen; omega)
      (fun x => (x, x)) (fun a x H1 _ e hx => ⟨rfl, rfl, (en_pair (ev_var rfl hx) (ev_var rfl hx)).ev⟩)).ev (ev_var rfl rfl) hlen)) fun x H2 e2 hx => k x H2 (ext e e2) ?_
    unfold fillF
    rw [hb]
    exact hx
theorem ok_alike (F : Df K mg "alike" st_alike P_alike) (T : Nb mg) (c_filling : Cal P w K mg base 2 "filling" (sp2 (dQ dI) dI (dO (dT dPI)) fillP fillF)) :
    Cal P w K mg base 3 "alike" (sp3 (dQ dI) (dQ dI) dI dB (fun row other least => fillP row least ∧ fillP other least) (fun row other least => decide (fillF row least = fillF other least))) := by
  refine F.cal sc_alike len3 (fun f cdv A outer s H vs Q E hr h => ?_)
  obtain ⟨v, v2, v3, row, other, least, rfl, hv, hv2, hv3, ⟨h1, h2⟩, k⟩ := h
  cases hv3
  refine ⟨_, (pss_one (ps_ret (pe_cmpR (k_eqD (K := K) (by rfl) hr.units) (pe_cal c_filling (hr.mono (by decide)) (by rfl) (pa_cons (pv 0) (pa_cons (pv 2) pa_nil))) (pe_cal c_filling (hr.mono (by decide)) (by rfl) (pa_cons (pv 1) (pa_cons (pv 2) pa_nil))) (nomark _)))), ?_⟩
  exact s_ret (ev_eqE pye_OTPI (by decide) (ev_c2 (ev_var rfl hv) (ev_var rfl rfl) h1) (ev_c2 (ev_var rfl hv2) (ev_var rfl rfl) h2)) fun x H2 e2 hx => k x H2 e2 hx
end
end Cu
set_option maxRecDepth 100000
set_option maxHeartbeats 4000000
/-! Cu, walk 2: tupled .. shorter. -/
namespace Cu
open PySem PySem.Spec PyProof.Rows L2
abbrev st_tupled : Stmt := top 3
abbrev N_tupled : List Str := ["thing", "part"]
abbrev P_tupled : List Str := ["thing"]
theorem sc_tupled : FnScope N_tupled P_tupled (defScope st_tupled) := ⟨rfl, rfl, rfl, by decide +kernel, rfl, by decide +kernel, by decide +kernel⟩
abbrev st_blocks_of : Stmt := top 11
abbrev N_blocks_of : List Str := ["blocks"]
abbrev P_blocks_of : List Str := ["blocks"]
theorem sc_blocks_of : FnScope N_blocks_of P_blocks_of (defScope st_blocks_of) := ⟨rfl, rfl, rfl, by decide +kernel, rfl, by decide +kernel, by decide +kernel⟩
abbrev st_holds : Stmt := top 12
abbrev N_holds : List Str := ["blocks", "number", "low", "high"]
abbrev P_holds : List Str := ["blocks", "number"]
theorem sc_holds : FnScope N_holds P_holds (defScope st_holds) := ⟨rfl, rfl, rfl, by decide +kernel, rfl, by decide +kernel, by decide +kernel⟩
abbrev st_next_below : Stmt := top 13
abbrev N_next_below : List Str := ["blocks", "number", "found", "low", "high"]
abbrev P_next_below : List Str := ["blocks", "number"]
theorem sc_next_below : FnScope N_next_below P_next_below (defScope st_next_below) := ⟨rfl, rfl, rfl, by decide +kernel, rfl, by decide +kernel, by decide +kernel⟩
abbrev st_few_limits : Stmt := top 15
abbrev N_few_limits : List Str := ["low", "high", "least", "found"]
abbrev P_few_limits : List Str := ["low", "high", "least"]
theorem sc_few_limits : FnScope N_few_limits P_few_limits (defScope st_few_limits) := ⟨rfl, rfl, rfl, by decide +kernel, rfl, by decide +kernel, by decide +kernel⟩
abbrev st_fewest : Stmt := top 16
abbrev N_fewest : List Str := ["row", "least", "blocks", "found", "low", "high"]
abbrev P_fewest : List Str := ["row", "least"]
theorem sc_fewest : FnScope N_fewest P_fewest (defScope st_fewest) := ⟨rfl, rfl, rfl, by decide +kernel, rfl, by decide +kernel, by decide +kernel⟩
abbrev st_block_reasons : Stmt := top 17
abbrev N_block_reasons : List Str := ["low", "high", "least", "inner", "first"]
abbrev P_block_reasons : List Str := ["low", "high", "least"]
theorem sc_block_reasons : FnScope N_block_reasons P_block_reasons (defScope st_block_reasons) := ⟨rfl, rfl, rfl, by decide +kernel, rfl, by decide +kernel, by decide +kernel⟩
abbrev st_reasons : Stmt := top 18
abbrev N_reasons : List Str := ["row", "least", "blocks", "found", "low", "high"]
abbrev P_reasons : List Str := ["row", "least"]
theorem sc_reasons : FnScope N_reasons P_reasons (defScope st_reasons) := ⟨rfl, rfl, rfl, by decide +kernel, rfl, by decide +kernel, by decide +kernel⟩
abbrev st_idle : Stmt := top 19
abbrev N_idle : List Str := ["row", "least", "hop"]
abbrev P_idle : List Str := ["row", "least"]
theorem sc_idle : FnScope N_idle P_idle (defScope st_idle) := ⟨rfl, rfl, rfl, by decide +kernel, rfl, by decide +kernel, by decide +kernel⟩
abbrev st_follows : Stmt := top 20
abbrev N_follows : List Str := ["blocks", "above", "below", "least"]
abbrev P_follows : List Str := ["blocks", "above", "below", "least"]
theorem sc_follows : FnScope N_follows P_follows (defScope st_follows) := ⟨rfl, rfl, rfl, by decide +kernel, rfl, by decide +kernel, by decide +kernel⟩
abbrev st_shorter : Stmt := top 21
abbrev N_shorter : List Str := ["one", "other"]
abbrev P_shorter : List Str := ["one", "other"]
theorem sc_shorter : FnScope N_shorter P_shorter (defScope st_shorter) := ⟨rfl, rfl, rfl, by decide +kernel, rfl, by decide +kernel, by decide +kernel⟩
section
variable {P : Program} {w : World} {K : PySem.W.Frag} {mg : Str → Option Value} {base : Heap}
theorem no_cal {x : Str} {st : Stmt} {ps : List Str} (F : Df K mg x st ps) : Cal P w K mg base 1 x (fun _ _ _ _ => False) := by
  obtain ⟨f, fd, F, hm, hb⟩ := F.ex
  exact ⟨f, fd, ps, ⟨fun _ _ _ _ h => h.elim, fun _ _ _ _ _ _ _ _ _ _ _ _ _ h => h.elim⟩, hm, F.kp, hb⟩
theorem ok_tupled0 (F : Df K mg "tupled" st_tupled P_tupled) (T : Nb mg) : Cal P w K mg base 2 "tupled" (sp1 dI dI (fun _ => True) (fun x => x)) := by
  have c_tupled : Cal P w K mg base 1 "tupled" (fun _ _ _ _ => False) := no_cal F
  refine F.cal sc_tupled len1 (fun f cdv A outer s H vs Q E hr h => ?_)
  obtain ⟨v, x, rfl, hv, _, k⟩ := h
  refine ⟨_, (pss_one (ps_ret (pe_ifExp (pt_val (pe_callB (k_isiT (K := K) (by rfl)) (by rfl) T.isinstance bt_isinstance (pa_cons (pv 0) (pa_cons (pe_tup (pa_cons (pe_bltn (v := .ty "list") (u := .type "list") (by rfl) T.list bt_list rfl) (pa_cons (pe_bltn (v := .ty "tuple") (u := .type "tuple") (by rfl) T.tuple bt_tuple rfl) pa_nil))) pa_nil)))) (pe_callTy (k_tupO (K := K) (by rfl)) (by rfl) T.tuple bt_tuple (pa_cons (pe_lc (own := [("part", 1)]) (g := (gName 1)) (tt := tYes) (by rfl) sc_tupled.nd (k_pitup (K := K) (by rfl) (pv 0)) (blkOk_by (own := [("part", 1)]) (N := N_tupled) (sc := defScope st_tupled) (by decide +kernel)) (fun _ _ _ _ _ => (pg_name (i := 1) sc_tupled.nd rfl (by first | exact Or.inl rfl | exact Or.inr rfl))) (fun _ _ _ _ _ => pts_nil) (fun _ _ _ _ _ => (pe_cal c_tupled (hr.mono (by decide)) (by rfl) (pa_cons (pv 1) pa_nil)))) pa_nil)) (pv 0)))), ?_⟩
  exact s_ret (ev_if (b := false) (et_B (ev_isi2 (ev_var rfl hv) (ty_int k_int_lt))) (fun z => nomatch z) (fun _ => ev_var rfl hv)) fun x H2 e2 hx => k x H2 e2 hx
theorem ok_tupled1 (F : Df K mg "tupled" st_tupled P_tupled) (T : Nb mg) : Cal P w K mg base 3 "tupled" (sp1 (dT dI) (dT dI) (fun as => as.length ≤ 1000) (fun x => x)) := by
  have c_tupled := ok_tupled0 (P := P) (w := w) (base := base) F T
  refine F.cal sc_tupled len1 (fun f cdv A outer s H vs Q E hr h => ?_)
  obtain ⟨v, as, rfl, hv, hz, k⟩ := h
  refine ⟨_, (pss_one (ps_ret (pe_ifExp (pt_val (pe_callB (k_isiT (K := K) (by rfl)) (by rfl) T.isinstance bt_isinstance (pa_cons (pv 0) (pa_cons (pe_tup (pa_cons (pe_bltn (v := .ty "list") (u := .type "list") (by rfl) T.list bt_list rfl) (pa_cons (pe_bltn (v := .ty "tuple") (u := .type "tuple") (by rfl) T.tuple bt_tuple rfl) pa_nil))) pa_nil)))) (pe_callTy (k_tupO (K := K) (by rfl)) (by rfl) T.tuple bt_tuple (pa_cons (pe_lc (own := [("part", 1)]) (g := (gName 1)) (tt := tYes) (by rfl) sc_tupled.nd (k_pitup (K := K) (by rfl) (pv 0)) (blkOk_by (own := [("part", 1)]) (N := N_tupled) (sc := defScope st_tupled) (by decide +kernel)) (fun _ _ _ _ _ => (pg_name (i := 1) sc_tupled.nd rfl (by first | exact Or.inl rfl | exact Or.inr rfl))) (fun _ _ _ _ _ => pts_nil) (fun _ _ _ _ _ => (pe_cal c_tupled (hr.mono (by decide)) (by rfl) (pa_cons (pv 1) pa_nil)))) pa_nil)) (pv 0)))), ?_⟩
  exact s_ret (ev_if (b := true) (et_B (ev_isi2 (ev_var rfl hv) (ty_tup k_tup_lt))) (fun _ => (en_tupleL ((ev_lcY (r := dI) (s := dI) gm_name (es_tup (ev_var rfl hv)) (by omega) (fun x => x) (fun a x H1 _ e hx => ⟨rfl, rfl, ev_c1 (ev_var rfl hx) trivial⟩)).to (List.map_id' as)).ev).ev) (fun z => nomatch z)) fun x H2 e2 hx => k x H2 e2 hx
theorem ok_tupled2 (F : Df K mg "tupled" st_tupled P_tupled) (T : Nb mg) : Cal P w K mg base 4 "tupled" (sp1 (dT dPI) (dT dPI) (fun as => as.length ≤ 1000) (fun x => x)) := by
  have c_tupled := ok_tupled1 (P := P) (w := w) (base := base) F T
  refine F.cal sc_tupled len1 (fun f cdv A outer s H vs Q E hr h => ?_)
  obtain ⟨v, as, rfl, hv, hz, k⟩ := h
  refine ⟨_, (pss_one (ps_ret (pe_ifExp (pt_val (pe_callB (k_isiT (K := K) (by rfl)) (by rfl) T.isinstance bt_isinstance (pa_cons (pv 0) (pa_cons (pe_tup (pa_cons (pe_bltn (v := .ty "list") (u := .type "list") (by rfl) T.list bt_list rfl) (pa_cons (pe_bltn (v := .ty "tuple") (u := .type "tuple") (by rfl) T.tuple bt_tuple rfl) pa_nil))) pa_nil)))) (pe_callTy (k_tupO (K := K) (by rfl)) (by rfl) T.tuple bt_tuple (pa_cons (pe_lc (own := [("part", 1)]) (g := (gName 1)) (tt := tYes) (by rfl) sc_tupled.nd (k_pitup (K := K) (by rfl) (pv 0)) (blkOk_by (own := [("part", 1)]) (N := N_tupled) (sc := defScope st_tupled) (by decide +kernel)) (fun _ _ _ _ _ => (pg_name (i := 1) sc_tupled.nd rfl (by first | exact Or.inl rfl | exact Or.inr rfl))) (fun _ _ _ _ _ => pts_nil) (fun _ _ _ _ _ => (pe_cal c_tupled (hr.mono (by decide)) (by rfl) (pa_cons (pv 1) pa_nil)))) pa_nil)) (pv 0)))), ?_⟩
  exact s_ret (ev_if (b := true) (et_B (ev_isi2 (ev_var rfl hv) (ty_tup k_tup_lt))) (fun _ => (en_tupleL ((ev_lcY (r := dPI) (s := dPI) gm_name (es_tup (ev_var rfl hv)) (by omega) (fun x => x) (fun a x H1 _ e hx => ⟨rfl, rfl, Ev.Tp (ev_c1 (f := fun x => x) (Ev.pT (ev_var rfl hx)) (by simp))⟩)).to (List.map_id' as)).ev).ev) (fun z => nomatch z)) fun x H2 e2 hx => k x H2 e2 hx
abbrev spTup : Sp := sp1 (dT dPI) (dT dPI) (fun as => as.length ≤ 1000) (fun x => x)
theorem ok_blocks_of (F : Df K mg "blocks_of" st_blocks_of P_blocks_of) (T : Nb mg) (c_tupled : Cal P w K mg base 4 "tupled" spTup) : Cal P w K mg base 5 "blocks_of" (sp1 (dO (dT dPI)) (dT dPI) (fun o => (blocksOf o).length ≤ 1000) blocksOf) := by
  refine F.cal sc_blocks_of len1 (fun f cdv A outer s H vs Q E hr h => ?_)
  obtain ⟨v, o, rfl, hv, hz, k⟩ := h
  refine ⟨_, (pss_one (ps_ret (pe_ifExp (pt_cmpR op_isN' (pv 0) pe_non (nomark _)) (pe_tup pa_nil) (pe_cal c_tupled (hr.mono (by decide)) (by rfl) (pa_cons (pv 0) pa_nil))))), ?_⟩
  refine s_ret (ev_if (b := o.isNone) (a := blocksOf o) (et_test (ev_isN (ev_var rfl hv))) (fun hb => ?_) (fun hb => ?_)) fun x H2 e2 hx => k x H2 e2 hx
  · cases o with
    | none => exact (en_tup (r := dPI) ea_nil (Nat.zero_le _)).ev
    | some a => cases hb
  · cases o with
    | none => cases hb
    | some a => exact ev_c1 (f := fun x => x) (Ev.unO (ev_var rfl hv)) hz
abbrev spBlk : Sp := sp1 (dO (dT dPI)) (dT dPI) (fun o => (blocksOf o).length ≤ 1000) blocksOf
theorem ok_holds (F : Df K mg "holds" st_holds P_holds) (T : Nb mg) (c_blocks_of : Cal P w K mg base 5 "blocks_of" spBlk) : Cal P w K mg base 6 "holds" (sp2 (dO (dT dPI)) dI dB (fun o _ => (blocksOf o).length ≤ 1000) holdsF) := by
  refine F.cal sc_holds len2 (fun f cdv A outer s H vs Q E hr h => ?_)
  obtain ⟨v, v2, o, n, rfl, hv, hv2, hz, k⟩ := h
  cases hv2
  refine ⟨_, (pss_one (ps_ret (pe_callB (k_any (K := K) (by rfl) (by rfl)) (by rfl) T.any bt_any (pa_cons (pe_lc (own := [("low", 2), ("high", 3)]) (g := (gTup K 2 (gCons (gName 2) (gCons (gName 3) gNil)))) (tt := tYes) (by rfl) sc_holds.nd (k_pitup (K := K) (by rfl) (pe_cal c_blocks_of (hr.mono (by decide)) (by rfl) (pa_cons (pv 0) pa_nil))) (blkOk_by (own := [("low", 2), ("high", 3)]) (N := N_holds) (sc := defScope st_holds) (by decide +kernel)) (fun _ _ _ _ _ => (k_gtup (K := K) (by rfl) (by rfl) (pgs_cons (pg_name (i := 2) sc_holds.nd rfl (by first | exact Or.inl rfl | exact Or.inr rfl)) (pgs_cons (pg_name (i := 3) sc_holds.nd rfl (by first | exact Or.inl rfl | exact Or.inr rfl)) pgs_nil)))) (fun _ _ _ _ _ => pts_nil) (fun _ _ _ _ _ => (pe_chain op_le op_le (pv 2) (pv 1) (pv 3)))) pa_nil)))), ?_⟩
  refine s_ret (a := holdsF o n) ((ev_any (ev_lcY (r := dPI) (s := dB) gm_pair (es_tup (ev_c1 (f := blocksOf) (ev_var rfl hv) hz)) (by omega) (fun b => decide (b.1 ≤ n) && decide (n ≤ b.2)) (fun d x H1 _ e hx => g_pair hx fun xa xb ha hb => ?_)).ev).to (by unfold holdsF; rw [List.any_map]; rfl)) fun x H2 e2 hx => k x H2 e2 hx
  exact ⟨rfl, rfl, ev_chainI (ev_var rfl ha) (ev_var rfl rfl) (ev_var rfl hb)⟩
theorem ok_next_below (F : Df K mg "next_below" st_next_below P_next_below) (T : Nb mg) (c_blocks_of : Cal P w K mg base 5 "blocks_of" spBlk) : Cal P w K mg base 6 "next_below" (sp2 (dO (dT dPI)) dI (dO dI) (fun o _ => (blocksOf o).length ≤ 1000) nextF) := by
  refine F.cal sc_next_below len2 (fun f cdv A outer s H vs Q E hr h => ?_)
  obtain ⟨v, v2, o, n, rfl, hv, hv2, hz, k⟩ := h
  cases hv2
  refine ⟨_, (pss_cons (ps_setLc (i := 2) (own := [("low", 3), ("high", 4)]) (g := (gTup K 2 (gCons (gName 3) (gCons (gName 4) gNil)))) (by rfl) sc_next_below.nd rfl rfl (sw_true rfl rfl rfl (by decide +kernel)) (k_pitup (K := K) (by rfl) (pe_cal c_blocks_of (hr.mono (by decide)) (by rfl) (pa_cons (pv 0) pa_nil))) (blkOk_by (own := [("low", 3), ("high", 4)]) (N := N_next_below) (sc := defScope st_next_below) (by decide +kernel)) (fun _ _ _ _ _ => (k_gtup (K := K) (by rfl) (by rfl) (pgs_cons (pg_name (i := 3) sc_next_below.nd rfl (by first | exact Or.inl rfl | exact Or.inr rfl)) (pgs_cons (pg_name (i := 4) sc_next_below.nd rfl (by first | exact Or.inl rfl | exact Or.inr rfl)) pgs_nil)))) (fun _ _ _ _ _ => (pts_one (pt_cmpR op_lt (pv 3) (pv 1) (nomark _)))) (fun _ _ _ _ _ => (pe_callB (cr_min2 (by rfl)) (by rfl) T.min bt_min (pa_cons (pv 4) (pa_cons (pe_op op_sub (pv 1) pe_int) pa_nil)))))
    (pss_one (ps_ret (pe_ifExp (pt_cmpR op_gt (pe_callB (k_len (K := K) (by rfl)) (by rfl) T.len bt_len (pa_cons (pv 2) pa_nil)) pe_int (nomark _)) (pe_ix (k_ixL (K := K) (by rfl)) (pv 2) (pe_un un_neg pe_int) (fun _ _ => rfl)) pe_non)))), ?_⟩
  refine sq (s_asgN (i := 2) (ev_lc (r := dPI) (s := dI) gm_pair (es_tup (ev_c1 (f := blocksOf) (ev_var rfl hv) hz)) (by omega) (fun b => decide (b.1 < n)) (fun b => min b.2 (n - 1)) (fun d x H1 _ e hx => g_pair hx fun xa xb ha hb => ?_)) fun p H1 hp e1 hl => ?_)
  · exact ⟨rfl, rfl, et_test (ev_B0 (ev_var rfl ha) (ev_var rfl rfl)), fun _ => ev_min2 (ev_var rfl hb) (ev_I0 (ev_var rfl rfl) ev_int)⟩
  · refine s_ret (ev_if (b := decide (0 < (((blocksOf o).filter fun b => decide (b.1 < n)).map fun b => min b.2 (n - 1)).length)) (a := nextF o n) ((et_test (ev_B0 (ev_lenL (r := dI) (ev_var rfl hl)) ev_int)).to (by simp)) (fun hb => ?_) (fun hb => ?_)) fun x H2 e2 hx => k x H2 (ext e1 e2) hx
    all_goals
      unfold nextF
      generalize (((blocksOf o).filter fun b => decide (b.1 < n)).map fun b => min b.2 (n - 1)) = l at hl hb
    · rcases nil_snoc l with rfl | ⟨ys, m, rfl⟩
      · simp at hb
      · rw [List.getLast?_append]
        exact Ev.someI (ev_last (r := dI) (ev_var rfl hl))
    · rcases nil_snoc l with rfl | ⟨ys, m, rfl⟩
      · exact ev_non
      · simp at hb

theorem ok_few_limits (F : Df K mg "few_limits" st_few_limits P_few_limits) (T : Nb mg) : Cal P w K mg base 1 "few_limits" (sp3N dI dI dI dWL (fun low high least => low ≤ high ∧ 0 < least ∧ high - low ≤ least * 1000) cnt) := by
  refine F.cal sc_few_limits len3N (fun f cdv A outer s H vs Q E hr h => ?_)
  obtain ⟨v, v2, v3, low, high, least, rfl, hv, hv2, hv3, ⟨h1, h2, h3⟩, k⟩ := h
  cases hv
  cases hv2
  cases hv3
  have hc := cdiv_le (n := 1000) h2 h3
  refine ⟨_, (pss_cons (ps_set (i := 3) sc_few_limits.nd rfl (by first | exact Or.inl rfl | exact Or.inr rfl) (pe_lst (pa_cons (pv 1) pa_nil)))
    (pss_cons (ps_while PassesOwn.never (pt_cmpR op_gt (pe_ix (k_ixL (K := K) (by rfl)) (pv 3) (pe_un un_neg pe_int) (fun _ _ => rfl)) (pv 0) (nomark _)) (pss_one (ps_expr (pe_bm PySem.F.plainAttrs_list PySem.F.slot_list_append PySem.F.type_list_append mt_append (pv 3) (pa_cons (pe_callB (cr_max2 (by rfl)) (by rfl) T.max bt_max (pa_cons (pv 0) (pa_cons (pe_op op_sub (pe_ix (k_ixL (K := K) (by rfl)) (pv 3) (pe_un un_neg pe_int) (fun _ _ => rfl)) (pv 2)) pa_nil))) pa_nil)))))
    (pss_one (ps_ret (pv 3))))), ?_⟩
  refine sq (s_asgN (i := 3) (en_lst (r := dI) (ea_cons (ev_var rfl rfl) ea_nil) (by simp)) fun p H1 hp e1 hl => ?_)
  show tWhile _ _ _ _ _
  refine ⟨fun m σ' H' => ∃ (ys : List Int) (cur : Int), σ' = [some (.int low), some (.int high), some (.int least), some (.ref p)] ∧ H' p = some (.lst ((ys ++ [cur]).map V.int)) ∧ low ≤ cur ∧ m = (cdiv (cur - low) least).toNat ∧ ys.length + 1 + (cdiv (cur - low) least).toNat = cnt low high least ∧ Ex H H', ⟨_, [], high, rfl, getLI hl, h1, rfl, ?_, e1⟩, ?_⟩
  · unfold cnt
    simp
  · rintro m σ' H' ⟨ys, cur, rfl, hl, hlow, rfl, hcnt, e⟩
    refine et_test (ev_B0 (g := fun i j => decide (j < i)) (ev_last (r := dI) (ev_var rfl (isLI hl))) (ev_var rfl rfl)) H' exr _ fun H2 e2 => ?_
    refine ite2 (fun hb => ?_) (fun hb => ?_)
    · have hlt : low < cur := of_decide_eq_true hb
      have hst := cdiv_step h2 hlt
      refine ⟨_, fun σ' H' h => h, ?_⟩
      have hn : cnt low high least ≤ 1001 := by
        unfold cnt
        omega
      refine s_appI (e2 p _ hl) (ev_ref rfl) (ev_max2 (ev_var rfl rfl) (ev_I0 (ev_last (r := dI) (ev_var rfl (isLI (e2 p _ hl)))) (ev_var rfl rfl))) (by simp; omega) fun H3 e3 h3 => ?_
      refine ⟨_, by omega, ys ++ [cur], max low (cur - least), rfl, h3, by omega, rfl, by simp; omega, exm (ext e (ext e2 e3)) hp⟩
    · have hlt : ¬ low < cur := fun z => hb (decide_eq_true z)
      have e5 : cur = low := by omega
      subst e5
      rw [Int.sub_self, cdiv_zero] at hcnt
      refine s_ret (ev_ref rfl) fun x H3 e3 hx => ?_
      cases hx
      exact k p H3 hp (ext e (ext e2 e3)) ⟨p, _, rfl, e3 p _ (e2 p _ hl), by simp; simpa using hcnt⟩
abbrev spFil : Sp := sp2 (dQ dI) dI (dO (dT dPI)) fillP fillF
abbrev gapP (least : Int) (bs : List (Int × Int)) : Prop := ∀ b ∈ bs, b.1 ≤ b.2 ∧ b.2 - b.1 ≤ least * 1000
theorem cnt_le {b : Int × Int} {least : Int} (h : 0 < least) (h2 : b.2 - b.1 ≤ least * 1000) : cnt b.1 b.2 least ≤ 1001 := by
  have := cdiv_le (n := 1000) h h2
  unfold cnt
  omega
theorem cntB_le {least : Int} (h : 0 < least) : ∀ {bs : List (Int × Int)}, gapP least bs → cntB bs least ≤ bs.length * 1001
  | [], _ => by simp [cntB]
  | b :: bs, g => by
    have h1 := cnt_le h (g b List.mem_cons_self).2
    have h2 := cntB_le h (bs := bs) fun c hc => g c (List.mem_cons_of_mem _ hc)
    unfold cntB at h2 ⊢
    rw [List.map_cons, List.sum_cons, List.length_cons]
    omega
theorem cntB_perm {least : Int} {as bs : List (Int × Int)} (h : as.Perm bs) : cntB as least = cntB bs least := by
  unfold cntB
  exact (h.map _).sum_nat
theorem cntB_snoc {least : Int} {as : List (Int × Int)} {b : Int × Int} : cntB (as ++ [b]) least = cntB as least + cnt b.1 b.2 least := by
  unfold cntB
  simp
/-- what fewest, reasons and kept ask of their row -/
structure RowOk (row : List Int) (least : Int) : Prop where
  ne : row ≠ []
  len : row.length ≤ 50
  pos : 0 < least
  sm : Sm least
  gap : ∀ bs, fillF row least = some bs → gapP least bs ∧ bs.length ≤ 50
theorem ok_fewest (F : Df K mg "fewest" st_fewest P_fewest) (T : Nb mg) (c_filling : Cal P w K mg base 2 "filling" spFil) (c_few_limits : Cal P w K mg base 1 "few_limits" (sp3N dI dI dI dWL (fun low high least => low ≤ high ∧ 0 < least ∧ high - low ≤ least * 1000) cnt)) :
    Cal P w K mg base 3 "fewest" (sp2 (dT dI) dI dW RowOk cntR) := by
  refine F.cal sc_fewest len2 (fun f cdv A outer s H vs Q E hr h => ?_)
  obtain ⟨v, v2, row, least, rfl, hv, hv2, hok, k⟩ := h
  cases hv2
  refine ⟨_, (pss_cons (ps_set (i := 2) sc_fewest.nd rfl (by first | exact Or.inl rfl | exact Or.inr rfl) (pe_cal c_filling (hr.mono (by decide)) (by rfl) (pa_cons (pv 0) (pa_cons (pv 1) pa_nil))))
    (pss_cons (ps_if (pt_cmpR op_isN' (pv 2) pe_non (nomark _)) (pss_one (ps_ret (pe_tup (pa_cons (pe_callB (k_minD (K := K) (by rfl) hr.units (by rfl)) (by rfl) T.min bt_min (pa_cons (pv 0) pa_nil)) pa_nil)))) pss_nil)
    (pss_cons (ps_set (i := 3) sc_fewest.nd rfl (by first | exact Or.inl rfl | exact Or.inr rfl) (pe_lst pa_nil))
    (pss_cons (ps_for PassesOwn.never (by rfl) (k_pitup (K := K) (by rfl) (pe_revT (pv 2))) (k_gtup (K := K) (by rfl) (by rfl) (pgs_cons (pg_name (i := 4) sc_fewest.nd rfl (by first | exact Or.inl rfl | exact Or.inr rfl)) (pgs_cons (pg_name (i := 5) sc_fewest.nd rfl (by first | exact Or.inl rfl | exact Or.inr rfl)) pgs_nil)))
    (pss_one (ps_expr (pe_bm PySem.F.plainAttrs_list PySem.F.slot_list_extend PySem.F.type_list_extend mt_extend (pv 3) (pa_cons (pe_cal c_few_limits (hr.mono (by decide)) (by rfl) (pa_cons (pv 4) (pa_cons (pv 5) (pa_cons (pv 1) pa_nil)))) pa_nil)))))
    (pss_one (ps_ret (pe_callTy (k_tupO (K := K) (by rfl)) (by rfl) T.tuple bt_tuple (pa_cons (pv 3) pa_nil)))))))), ?_⟩
  refine sq (s_asg (i := 2) (ev_c2 (f := fillF) (ev_var rfl (dQ_t hv)) (ev_var rfl rfl) ⟨by have := hok.len; omega, hok.sm⟩) fun vb H1 e1 hb => ?_)
  have hck : cntR row least = match fillF row least with
    | none => 1
    | some bs => cntB bs least := rfl
  have hgap := hok.gap
  generalize fillF row least = fo at hb hck hgap
  refine sq (s_if (et_test (ev_isN (ev_var rfl hb))) (fun hn H2 e2 => ?_) (fun hn H2 e2 => ?_))
  · cases fo with
    | some bs => cases hn
    | none =>
      obtain ⟨n, ns, rfl⟩ := List.exists_cons_of_ne_nil hok.ne
      refine s_ret (en_one (ev_minI (n := n) (ns := ns) (Ev.q (ev_var rfl ((dT dI).ex (ext e1 e2) hv))))).ev fun x H3 e3 hx => k x H3 (ext e1 (ext e2 e3)) ?_
      rw [hck]
      exact hx
  · cases fo with
    | none => cases hn
    | some bs =>
      obtain ⟨g1, g2⟩ := hgap bs rfl
      have hcb := cntB_le hok.pos g1
      refine sq (s_asgN (i := 3) (en_lst (r := dI) ea_nil (Nat.zero_le _)) fun p H3 hp e3 hl => ?_)
      have hp0 : H p = none := exf (ext e1 e2) hp
      refine sq (s_forT (r := dPI) (as := bs.reverse) (en_revT (ev_var rfl ((dO (dT dPI)).ex (ext e2 e3) hb).2)).ev (P := fun H1 i σ' H' => ∃ x y, σ' = [some v, some (.int least), some vb, some (.ref p), x, y] ∧ dWL.is H' (.ref p) (cntB (bs.reverse.take i) least) ∧ Ex H H' ∧ TX H1 H') ?_ ?_ ?_ ?_)
      · rintro H1 i σ' H' ⟨_, _, _, _, _, e⟩
        exact e
      · exact fun H1 e => ⟨_, _, rfl, dWL.ex e (lst_W hl), ext e1 (ext e2 (ext e3 e)), txr⟩
      · rintro H4 i ⟨a, b⟩ x σ' H' _ ha ⟨x0, y0, rfl, hl, e, tx⟩ hx
        have hmem : (a, b) ∈ bs := List.mem_reverse.mp (List.mem_of_getElem? ha)
        have hle : cntB (bs.reverse.take (i + 1)) least ≤ 50 * 1001 := by
          have g4 : gapP least (bs.reverse.take (i + 1)) := fun c hc => g1 c (List.mem_reverse.mp (List.mem_of_mem_take hc))
          have := cntB_le hok.pos g4
          rw [List.length_take, List.length_reverse] at this
          omega
        rw [take_snoc ha, cntB_snoc] at hle ⊢
        refine g_pair hx fun xa xb hxa hxb => ?_
        cases hxa
        cases hxb
        refine s_extW hl (ev_ref rfl) (en_c3 (f := cnt) (ev_var rfl rfl) (ev_var rfl rfl) (ev_var rfl rfl) ⟨(g1 _ hmem).1, hok.pos, (g1 _ hmem).2⟩).ev (Nat.le_trans (show cntB (bs.reverse.take i) least + cnt a b least ≤ 50 * 1001 from hle) (by decide)) fun H5 o e5 hl5 tx5 => ⟨_, _, rfl, hl5, exm (ext e e5) hp0, txt tx (txt e5.tx tx5)⟩
      · rintro H4 σ' H' _ ⟨x0, y0, rfl, hl, e, tx⟩
        rw [List.take_length, cntB_perm (List.reverse_perm bs)] at hl
        refine s_ret (en_tupleLW (ev_var rfl hl)).ev fun x H5 e5 hx => k x H5 (ext e e5) ?_
        rw [hck]
        exact hx
abbrev cntP (low high least : Int) : Prop := low ≤ high ∧ 0 < least ∧ high - low ≤ least * 1000 ∧ Sm least
theorem ok_block_reasons (F : Df K mg "block_reasons" st_block_reasons P_block_reasons) (T : Nb mg) : Cal P w K mg base 1 "block_reasons" (sp3N dI dI dI dWL cntP cnt) := by
  refine F.cal sc_block_reasons len3N (fun f cdv A outer s H vs Q E hr h => ?_)
  obtain ⟨v, v2, v3, low, high, least, rfl, hv, hv2, hv3, ⟨h1, h2, h3, h4⟩, k⟩ := h
  cases hv
  cases hv2
  cases hv3
  have hc := cdiv_le (n := 1000) h2 h3
  refine ⟨_, (pss_cons (ps_if (pt_cmpR op_eq (pv 0) (pv 1) (nomark _)) (pss_one (ps_ret (pe_lst (pa_cons (pe_tup (pa_cons (pv 0) (pa_cons (pv 0) pa_nil))) pa_nil)))) pss_nil)
    (pss_cons (ps_setLc (i := 3) (own := [("first", 4)]) (g := (gName 4)) (tt := tYes) (by rfl) sc_block_reasons.nd rfl rfl (sw_true rfl rfl rfl (by decide +kernel)) (pi_range3W (by rfl) T.range (pa_cons (pe_op op_add (pv 0) pe_int) (pa_cons (pe_op op_add (pe_op op_sub (pv 1) (pv 2)) pe_int) (pa_cons (pv 2) pa_nil)))) (blkOk_by (own := [("first", 4)]) (N := N_block_reasons) (sc := defScope st_block_reasons) (by decide +kernel)) (fun _ _ _ _ _ => (pg_name (i := 4) sc_block_reasons.nd rfl (by first | exact Or.inl rfl | exact Or.inr rfl))) (fun _ _ _ _ _ => pts_nil) (fun _ _ _ _ _ => (pe_tup (pa_cons (pv 4) (pa_cons (pe_op op_sub (pe_op op_add (pv 4) (pv 2)) pe_int) pa_nil)))))
    (pss_one (ps_ret (pe_lst (pa_cons (pe_tup (pa_cons (pv 0) (pa_cons (pv 0) pa_nil))) (k_star (K := K) (by rfl) (pv 3) (pa_cons (pe_tup (pa_cons (pv 1) (pa_cons (pv 1) pa_nil))) pa_nil)))))))), ?_⟩
  refine sq (s_if (et_test (ev_eqI (ev_var rfl rfl) (ev_var rfl rfl))) (fun hb H1 e1 => ?_) (fun hb H1 e1 => ?_))
  · have e : low = high := of_decide_eq_true hb
    subst e
    refine s_retN (en_lst (r := dPI) (ea_cons (en_pair (a := low) (b := low) (ev_var rfl rfl) (ev_var rfl rfl)).ev ea_nil) (by simp)) fun p H2 hp e2 hx => k p H2 (exf e1 hp) (ext e1 e2) ?_
    have := lst_W hx
    unfold cnt
    rw [Int.sub_self, cdiv_zero]
    exact this
  · have hne : ¬ low = high := of_decide_eq_false hb
    have hlt : low < high := by omega
    have hsz : Builtin.Range.rangeSize (low + 1) (high - least + 1) least = ((cdiv (high - low) least).toNat - 1 : Nat) := by
      have hp := cdiv_pos h2 (by omega : 0 < high - low)
      unfold Builtin.Range.rangeSize
      rw [if_pos h2]
      have e2 := cdiv_sub (x := high - low) (l := least) h2
      split
      · rename_i h5
        rw [cdiv_eq h2] at e2
        rw [show high - least + 1 - (low + 1) - 1 = high - low - least - 1 by omega]
        omega
      · rename_i h5
        by_cases h6 : high - low = least
        · rw [h6, cdiv_small h2 (Int.le_refl _)]; rfl
        · rw [cdiv_small (by omega) (by omega)]; rfl
    refine snx ?_
    dsimp only
    refine sq (s_asgN (i := 3) (r := dL dPI) (ev_lcY (r := dI) (s := dPI) (as := rangeI (low + 1) least ((cdiv (high - low) least).toNat - 1)) gm_name (fun H2 e2 R q => ?_) (by rw [rangeI_len]; omega) (fun x => (x, x + least - 1)) (fun a x H2 _ e hx => ?_)) fun p H2 hp e2 hl => ?_)
    rotate_left
    · exact ⟨rfl, rfl, (en_pair (ev_var rfl hx) (ev_I0 (ev_I0 (ev_var rfl hx) (ev_var rfl rfl)) ev_int)).ev⟩
    rotate_left
    · refine ev_I0 (H := H2) (ev_var rfl rfl) ev_int H2 exr _ fun v1 H3 e3 hv1 => ?_
      refine ev_I0 (H := H3) (ev_I0 (ev_var rfl rfl) (ev_var rfl rfl)) ev_int H3 exr _ fun v2 H4 e4 hv2 => ?_
      refine ⟨.int least, rfl, ?_⟩
      cases hv1
      cases hv2
      exact ⟨_, _, _, _, rfl, ⟨by omega, h4, hsz⟩, q _ H4 (ext e3 e4) src_rangeC⟩
    · refine s_retN (en_lst (r := dPI) (ea_cons (en_pair (a := low) (b := low) (ev_var rfl rfl) (ev_var rfl rfl)).ev (ea_starL (ev_var rfl hl) (ea_cons (en_pair (a := high) (b := high) (ev_var rfl rfl) (ev_var rfl rfl)).ev ea_nil))) (by simp only [List.length_cons, List.length_append, List.length_map, rangeI_len, List.length_nil]; omega)) fun q H3 hq e3 hx => k q H3 (exf (ext e1 e2) hq) (ext e1 (ext e2 e3)) ?_
      have := lst_W hx
      have hp := cdiv_pos h2 (by omega : 0 < high - low)
      have e5 : ((low, low) :: (List.map (fun x => (x, x + least - 1)) (rangeI (low + 1) least ((cdiv (high - low) least).toNat - 1)) ++ [(high, high)])).length = cnt low high least := by
        simp only [List.length_cons, List.length_append, List.length_map, rangeI_len, List.length_nil]
        unfold cnt
        omega
      rw [e5] at this
      exact this
theorem ok_reasons (F : Df K mg "reasons" st_reasons P_reasons) (T : Nb mg) (c_filling : Cal P w K mg base 2 "filling" spFil) (c_block_reasons : Cal P w K mg base 1 "block_reasons" (sp3N dI dI dI dWL cntP cnt)) :
    Cal P w K mg base 3 "reasons" (sp2 (dT dI) dI dW RowOk cntR) := by
  refine F.cal sc_reasons len2 (fun f cdv A outer s H vs Q E hr h => ?_)
  obtain ⟨v, v2, row, least, rfl, hv, hv2, hok, k⟩ := h
  cases hv2
  refine ⟨_, (pss_cons (ps_set (i := 2) sc_reasons.nd rfl (by first | exact Or.inl rfl | exact Or.inr rfl) (pe_cal c_filling (hr.mono (by decide)) (by rfl) (pa_cons (pv 0) (pa_cons (pv 1) pa_nil))))
    (pss_cons (ps_if (pt_cmpR op_isN' (pv 2) pe_non (nomark _)) (pss_one (ps_ret (pe_tup (pa_cons (pe_tup (pa_cons pe_int (pa_cons (pe_op op_sub (pe_op op_mulW pe_int (pv 1)) pe_int) pa_nil))) pa_nil)))) pss_nil)
    (pss_cons (ps_set (i := 3) sc_reasons.nd rfl (by first | exact Or.inl rfl | exact Or.inr rfl) (pe_lst pa_nil))
    (pss_cons (ps_for PassesOwn.never (by rfl) (k_pitup (K := K) (by rfl) (pv 2)) (k_gtup (K := K) (by rfl) (by rfl) (pgs_cons (pg_name (i := 4) sc_reasons.nd rfl (by first | exact Or.inl rfl | exact Or.inr rfl)) (pgs_cons (pg_name (i := 5) sc_reasons.nd rfl (by first | exact Or.inl rfl | exact Or.inr rfl)) pgs_nil)))
    (pss_one (ps_expr (pe_bm PySem.F.plainAttrs_list PySem.F.slot_list_extend PySem.F.type_list_extend mt_extend (pv 3) (pa_cons (pe_cal c_block_reasons (hr.mono (by decide)) (by rfl) (pa_cons (pv 4) (pa_cons (pv 5) (pa_cons (pv 1) pa_nil)))) pa_nil)))))
    (pss_one (ps_ret (pe_callTy (k_tupO (K := K) (by rfl)) (by rfl) T.tuple bt_tuple (pa_cons (pv 3) pa_nil)))))))), ?_⟩
  refine sq (s_asg (i := 2) (ev_c2 (f := fillF) (ev_var rfl (dQ_t hv)) (ev_var rfl rfl) ⟨by have := hok.len; omega, hok.sm⟩) fun vb H1 e1 hb => ?_)
  have hck : cntR row least = match fillF row least with
    | none => 1
    | some bs => cntB bs least := rfl
  have hgap := hok.gap
  generalize fillF row least = fo at hb hck hgap
  refine sq (s_if (et_test (ev_isN (ev_var rfl hb))) (fun hn H2 e2 => ?_) (fun hn H2 e2 => ?_))
  · cases fo with
    | some bs => cases hn
    | none =>
      refine s_ret (en_one (en_pair (r := dI) (s := dI) ev_int (ev_I0 (ev_mulW ev_int (ev_var rfl rfl) (by unfold Sm; decide) hok.sm) ev_int)).ev).ev fun x H3 e3 hx => k x H3 (ext e1 (ext e2 e3)) ?_
      rw [hck]
      exact hx
  · cases fo with
    | none => cases hn
    | some bs =>
      obtain ⟨g1, g2⟩ := hgap bs rfl
      have hcb := cntB_le hok.pos g1
      refine sq (s_asgN (i := 3) (en_lst (r := dI) ea_nil (Nat.zero_le _)) fun p H3 hp e3 hl => ?_)
      have hp0 : H p = none := exf (ext e1 e2) hp
      refine sq (s_forT (r := dPI) (as := bs) (ev_var rfl ((dO (dT dPI)).ex (ext e2 e3) hb).2) (P := fun H1 i σ' H' => ∃ x y, σ' = [some v, some (.int least), some vb, some (.ref p), x, y] ∧ dWL.is H' (.ref p) (cntB (bs.take i) least) ∧ Ex H H' ∧ TX H1 H') ?_ ?_ ?_ ?_)
      · rintro H1 i σ' H' ⟨_, _, _, _, _, e⟩
        exact e
      · exact fun H1 e => ⟨_, _, rfl, dWL.ex e (lst_W hl), ext e1 (ext e2 (ext e3 e)), txr⟩
      · rintro H4 i ⟨a, b⟩ x σ' H' _ ha ⟨x0, y0, rfl, hl, e, tx⟩ hx
        have hmem : (a, b) ∈ bs := List.mem_of_getElem? ha
        have hle : cntB (bs.take (i + 1)) least ≤ 50 * 1001 := by
          have g4 : gapP least (bs.take (i + 1)) := fun c hc => g1 c (List.mem_of_mem_take hc)
          have := cntB_le hok.pos g4
          rw [List.length_take] at this
          omega
        rw [take_snoc ha, cntB_snoc] at hle ⊢
        refine g_pair hx fun xa xb hxa hxb => ?_
        cases hxa
        cases hxb
        refine s_extW hl (ev_ref rfl) (en_c3 (f := cnt) (ev_var rfl rfl) (ev_var rfl rfl) (ev_var rfl rfl) ⟨(g1 _ hmem).1, hok.pos, (g1 _ hmem).2, hok.sm⟩).ev (Nat.le_trans (show cntB (bs.take i) least + cnt a b least ≤ 50 * 1001 from hle) (by decide)) fun H5 o e5 hl5 tx5 => ⟨_, _, rfl, hl5, exm (ext e e5) hp0, txt tx (txt e5.tx tx5)⟩
      · rintro H4 σ' H' _ ⟨x0, y0, rfl, hl, e, tx⟩
        rw [List.take_length] at hl
        refine s_ret (en_tupleLW (ev_var rfl hl)).ev fun x H5 e5 hx => k x H5 (ext e e5) ?_
        rw [hck]
        exact hx
end
end Cu
set_option maxRecDepth 100000
set_option maxHeartbeats 4000000
/-! Cu, walk 3: idle, follows, shorter. -/
namespace Cu
open PySem PySem.Spec PyProof.Rows L2
section
variable {α : Type} {r : R α} {σ : L2.St} {H : Hp} {te th : TE} {as : List α} {K : PySem.W.Frag} {k : Int}
theorem sIx_in {n d : Nat} (h0 : 0 ≤ k) (h1 : k ≤ n) : HT.sIx n d (some k) = k.toNat := by
  show (if k < 0 then (k + (n : Int)).toNat else min k.toNat n) = _
  rw [if_neg (by omega)]
  omega
theorem en_takeT (h : Ev (dT r) te σ H as) (hk : Ev dI th σ H k) (h0 : 0 ≤ k) (h1 : k < as.length) : EvN (dT r) (tSl (rSlT K) te tNoPart (tPart th)) σ H (as.take k.toNat) :=
  (en_slT h eo_none (eo_some hk) (by rw [sIx_in h0 (by omega)]; omega)).to (by rw [sIx_in h0 (by omega)]; rfl)
theorem en_dropT (h : Ev (dT r) te σ H as) (hk : Ev dI th σ H k) (h0 : 0 < k) (h1 : k ≤ as.length) : EvN (dT r) (tSl (rSlT K) te (tPart th) tNoPart) σ H (as.drop k.toNat) :=
  (en_slT h (eo_some hk) eo_none (by rw [sIx_in (by omega) h1]; omega)).to (by
    rw [sIx_in (by omega) h1]
    show (as.drop k.toNat).take (as.length - k.toNat) = _
    rw [List.take_of_length_le]
    rw [List.length_drop]; omega)
theorem upto_eq {n : Nat} : rangeI 0 1 n = upto n := by
  unfold rangeI upto
  apply List.map_congr_left
  intro k _
  simp
end
section
variable {P : Program} {w : World} {K : PySem.W.Frag} {mg : Str → Option Value} {base : Heap}
abbrev spAlike : Sp := sp3 (dQ dI) (dQ dI) dI dB (fun row other least => fillP row least ∧ fillP other least) (fun row other least => decide (fillF row least = fillF other least))
theorem ok_idle (F : Df K mg "idle" st_idle P_idle) (T : Nb mg) (c_alike : Cal P w K mg base 3 "alike" spAlike) : Cal P w K mg base 4 "idle" (sp2N (dT dI) dI (dL dI) fillP idleF) := by
  refine F.cal sc_idle len2N (fun f cdv A outer s H vs Q E hr h => ?_)
  obtain ⟨v, v2, row, least, rfl, hv, hv2, ⟨hz, hs⟩, k⟩ := h
  cases hv2
  refine ⟨_, (pss_one (ps_ret (pe_lc (own := [("hop", 2)]) (g := (gName 2)) (by rfl) sc_idle.nd (pi_range1 (by rfl) T.range (pa_cons (pe_callB (k_len (K := K) (by rfl)) (by rfl) T.len bt_len (pa_cons (pv 0) pa_nil)) pa_nil)) (blkOk_by (own := [("hop", 2)]) (N := N_idle) (sc := defScope st_idle) (by decide +kernel)) (fun _ _ _ _ _ => (pg_name (i := 2) sc_idle.nd rfl (by first | exact Or.inl rfl | exact Or.inr rfl))) (fun _ _ _ _ _ => (pts_one (pt_val (pe_cal c_alike (hr.mono (by decide)) (by rfl) (pa_cons (pe_lst (k_star (K := K) (by rfl) (pe_slice (k_slT (K := K) (by rfl)) (pv 0) po_none (po_some (pv 2))) (k_star (K := K) (by rfl) (pe_slice (k_slT (K := K) (by rfl)) (pv 0) (po_some (pe_op op_add (pv 2) pe_int)) po_none) pa_nil))) (pa_cons (pv 0) (pa_cons (pv 1) pa_nil))))))) (fun _ _ _ _ _ => (pv 2))))), ?_⟩
  refine s_retN (a := idleF row least) ((ev_lc (r := dI) (s := dI) (as := upto row.length) (p := fun h : Int => decide (fillF (without row h.toNat) least = fillF row least)) (q := fun x => x) gm_name ?_ ?_ (fun a x H1 ha e hx => ?_)).to (by unfold idleF; rw [List.map_id'])) fun p H1 hp e hx => k p H1 hp e hx
  · rw [← upto_eq]
    exact es_range1 (n := (row.length : Int)) (ev_lenT (ev_var rfl hv)) (by omega) (by omega)
  · unfold upto
    rw [List.length_map, List.length_range]
    omega
  · cases hx
    obtain ⟨n, hn, rfl⟩ : ∃ n : Nat, n < row.length ∧ a = (n : Int) := by
      unfold upto at ha
      obtain ⟨n, hn, rfl⟩ := List.mem_map.mp ha
      exact ⟨n, List.mem_range.mp hn, rfl⟩
    have hvar : Ev (dT dI) (tVar 0) [some v, some (.int least), some (.int (n : Int))] H1 row := ev_var rfl ((dT dI).ex e hv)
    refine ⟨rfl, rfl, et_B ?_, fun _ => ev_var rfl rfl⟩
    refine ev_c3 (s := dQ dI) (r3 := dI) (f := fun row other least => decide (fillF row least = fillF other least)) (a := without row n) (b := row) (d := least) ((en_lst (r := dI) (ea_starT (en_takeT hvar (ev_var rfl rfl) (by omega) (by omega)).ev (ea_starT (en_dropT hvar (ev_I0 (g := fun i j => i + j) (ev_var rfl rfl) ev_int) (by omega) (by omega)).ev ea_nil)) ?_).to ?_).ev.ql hvar.q (ev_var rfl rfl) ⟨⟨?_, hs⟩, hz, hs⟩
    · simp only [List.append_nil, List.length_append, List.length_take, List.length_drop]
      omega
    · unfold without
      rw [List.append_nil]
      congr 2
    · unfold without
      simp only [List.length_append, List.length_take, List.length_drop]
      omega
abbrev spNext : Sp := sp2 (dO (dT dPI)) dI (dO dI) (fun o _ => (blocksOf o).length ≤ 1000) nextF
theorem ok_follows (F : Df K mg "follows" st_follows P_follows) (T : Nb mg) (c_next_below : Cal P w K mg base 6 "next_below" spNext) : Cal P w K mg base 7 "follows" (sp4 (dT dPI) dI dI dI dB (fun bs _ _ _ => bs.length ≤ 1000) followsF) := by
  refine F.cal sc_follows len4 (fun f cdv A outer s H vs Q E hr h => ?_)
  obtain ⟨v, v2, v3, v4, bs, above, below, least, rfl, hv, hv2, hv3, hv4, hz, k⟩ := h
  cases hv2
  cases hv3
  cases hv4
  refine ⟨_, (pss_one (ps_ret (pe_and (pe_cmpR op_gt (pv 1) (pv 2) (nomark _)) (pe_one (pe_or (pe_cmpR op_le (pe_op op_sub (pv 1) (pv 2)) (pv 3) (nomark _)) (pe_one (pe_cmpR op_eq (pe_cal c_next_below (hr.mono (by decide)) (by rfl) (pa_cons (pv 0) (pa_cons (pv 1) pa_nil))) (pv 2) (nomark _)))))))), ?_⟩
  exact s_ret (a := followsF bs above below least) (ev_andV (ev_B0 (g := fun i j => decide (j < i)) (ev_var rfl rfl) (ev_var rfl rfl)) fun _ => ev_orV (ev_B0 (ev_I0 (ev_var rfl rfl) (ev_var rfl rfl)) (ev_var rfl rfl)) fun _ => ev_eqO (ev_c2 (f := nextF) (Ev.someT (ev_var rfl hv)) (ev_var rfl rfl) hz) (ev_var rfl rfl)) fun x H2 e2 hx => k x H2 e2 hx
theorem ok_shorter (F : Df K mg "shorter" st_shorter P_shorter) (T : Nb mg) : Cal P w K mg base 1 "shorter" (sp2 (dO dW) (dO dW) (dO dW) (fun _ _ => True) shortF) := by
  refine F.cal sc_shorter len2 (fun f cdv A outer s H vs Q E hr h => ?_)
  obtain ⟨v, v2, one, other, rfl, hv, hv2, _, k⟩ := h
  refine ⟨_, (pss_cons (ps_if (PW.pt (pw_or (pt_cmpR op_isN' (pv 0) pe_non (nomark _)) (pw_or1 (pt_cmpR op_isN' (pv 1) pe_non (nomark _))))) (pss_one (ps_ret (pe_ifExp (pt_cmpR op_isN' (pv 0) pe_non (nomark _)) (pv 1) (pv 0)))) pss_nil)
    (pss_one (ps_ret (pe_ifExp (pt_cmpR op_le (pe_callB (k_len (K := K) (by rfl)) (by rfl) T.len bt_len (pa_cons (pv 0) pa_nil)) (pe_callB (k_len (K := K) (by rfl)) (by rfl) T.len bt_len (pa_cons (pv 1) pa_nil)) (nomark _)) (pv 0) (pv 1))))), ?_⟩
  refine sq (s_if (et_or (et_test (ev_isN (ev_var rfl hv))) fun _ => et_test (ev_isN (ev_var rfl hv2))) (fun hb H1 e1 => ?_) (fun hb H1 e1 => ?_))
  · refine s_ret (a := shortF one other) (ev_if (b := one.isNone) (et_test (ev_isN (ev_var rfl ((dO dW).ex e1 hv)))) (fun hn => ?_) (fun hn => ?_)) fun x H2 e2 hx => k x H2 (ext e1 e2) hx
    · cases one with
      | none => exact ev_var rfl ((dO dW).ex e1 hv2)
      | some a => cases hn
    · cases one with
      | none => cases hn
      | some a =>
        cases other with
        | none => exact ev_var rfl ((dO dW).ex e1 hv)
        | some b => cases hb
  · cases one with
    | none => cases hb
    | some a =>
      cases other with
      | none => cases hb
      | some b =>
        refine snx ?_
        dsimp only
        have h1 := (dO dW).ex e1 hv
        have h2 := (dO dW).ex e1 hv2
        refine s_ret (a := shortF (some a) (some b)) (ev_if (b := decide (a ≤ b)) ((et_test (ev_B0 (ev_lenW (Ev.unO (ev_var rfl h1))) (ev_lenW (Ev.unO (ev_var rfl h2))))).to (by simp)) (fun hn => ?_) (fun hn => ?_)) fun x H2 e2 hx => k x H2 (ext e1 e2) hx
        · have : a ≤ b := of_decide_eq_true hn
          exact (ev_var rfl h1).to (by simp [shortF, this])
        · have : ¬ a ≤ b := of_decide_eq_false hn
          exact (ev_var rfl h2).to (by simp [shortF, this])
end
end Cu
set_option maxRecDepth 100000
set_option maxHeartbeats 4000000
/-! Cu, walk 4: kept. -/
namespace Cu
open PySem PySem.Spec PyProof.Rows L2
abbrev st_kept : Stmt := top 22
abbrev N_kept : List Str := ["row", "least", "blocks", "hop", "limit", "ways", "best", "way", "other"]
abbrev P_kept : List Str := ["row", "least"]
theorem sc_kept : FnScope N_kept P_kept (defScope st_kept) := ⟨rfl, rfl, rfl, by decide +kernel, rfl, by decide +kernel, by decide +kernel⟩
section
variable {P : Program} {w : World} {K : PySem.W.Frag} {mg : Str → Option Value} {base : Heap}
/-- the dict of kept: places and lengths; the maths sees the limits -/
def KRel (row : List Int) (kvs ways : List (Int × Nat)) : Prop := Paired (fun d o => ∃ h : Nat, d.1 = (h : Int) ∧ row[h]? = some o.1 ∧ d.2 = o.2) kvs ways
theorem ok_kept (F : Df K mg "kept" st_kept P_kept) (T : Nb mg) (c_filling : Cal P w K mg base 2 "filling" spFil) (c_follows : Cal P w K mg base 7 "follows" (sp4 (dT dPI) dI dI dI dB (fun bs _ _ _ => bs.length ≤ 1000) followsF))
    (c_shorter : Cal P w K mg base 1 "shorter" (sp2 (dO dW) (dO dW) (dO dW) (fun _ _ => True) shortF)) (c_holds : Cal P w K mg base 6 "holds" (sp2 (dO (dT dPI)) dI dB (fun o _ => (blocksOf o).length ≤ 1000) holdsF)) :
    Cal P w K mg base 8 "kept" (sp2 (dT dI) dI (dO dW) RowOk keptN) := by
  refine F.cal sc_kept len2 (fun f cdv A outer s H vs Q E hr h => ?_)
  obtain ⟨v, v2, row, least, rfl, hv, hv2, hok, k⟩ := h
  cases hv2
  refine ⟨_, (pss_cons (ps_set (i := 2) sc_kept.nd rfl (by first | exact Or.inl rfl | exact Or.inr rfl) (pe_cal c_filling (hr.mono (by decide)) (by rfl) (pa_cons (pv 0) (pa_cons (pv 1) pa_nil))))
    (pss_cons (ps_if (pt_cmpR op_isN' (pv 2) pe_non (nomark _)) (pss_one (ps_ret (pe_tup (pa_cons (pe_ix (k_ixL (K := K) (by rfl)) (pe_lc (own := [("hop", 3), ("limit", 4)]) (g := (gTup K 2 (gCons (gName 3) (gCons (gName 4) gNil)))) (by rfl) sc_kept.nd (pi_enumT (by rfl) T.enumerate (pa_cons (pv 0) pa_nil)) (blkOk_by (own := [("hop", 3), ("limit", 4)]) (N := N_kept) (sc := defScope st_kept) (by decide +kernel)) (fun _ _ _ _ _ => (k_gtup (K := K) (by rfl) (by rfl) (pgs_cons (pg_name (i := 3) sc_kept.nd rfl (by first | exact Or.inl rfl | exact Or.inr rfl)) (pgs_cons (pg_name (i := 4) sc_kept.nd rfl (by first | exact Or.inl rfl | exact Or.inr rfl)) pgs_nil)))) (fun _ _ _ _ _ => (pts_one (pt_cmpR op_lt (pv 4) (pe_op op_mulW pe_int (pv 1)) (nomark _)))) (fun _ _ _ _ _ => (pv 3))) pe_int (fun _ _ => rfl)) pa_nil)))) pss_nil)
    (pss_cons (ps_if (pt_cmpR (k_eqD (K := K) (by rfl) hr.units) (pv 2) (pe_tup pa_nil) (nomark _)) (pss_one (ps_ret (pe_tup pa_nil))) pss_nil)
    (pss_cons (ps_par (i := 5) (j := 6) (by rfl) sc_kept.nd rfl rfl (by decide) rfl rfl (pa_cons pe_dnewK (pa_cons pe_non pa_nil)) (by rfl))
    (pss_cons (ps_for PassesOwn.never (by rfl) (pi_enumT (by rfl) T.enumerate (pa_cons (pv 0) pa_nil)) (k_gtup (K := K) (by rfl) (by rfl) (pgs_cons (pg_name (i := 3) sc_kept.nd rfl (by first | exact Or.inl rfl | exact Or.inr rfl)) (pgs_cons (pg_name (i := 4) sc_kept.nd rfl (by first | exact Or.inl rfl | exact Or.inr rfl)) pgs_nil)))
    (pss_cons (ps_set (i := 7) sc_kept.nd rfl (by first | exact Or.inl rfl | exact Or.inr rfl) (pe_ifExp (pt_cmpR op_eq (pv 4) (pe_ix (k_ixT (K := K) (by rfl)) (pe_ix (k_ixT (K := K) (by rfl)) (pv 2) (pe_un un_neg pe_int) (fun _ _ => rfl)) pe_int (fun _ _ => rfl)) (nomark _)) (pe_tup (pa_cons (pv 3) pa_nil)) pe_non))
    (pss_cons (ps_lock (ps_for PassesOwn.never (by rfl) (pi_keys (pv 5)) (pg_name (i := 8) sc_kept.nd rfl (by first | exact Or.inl rfl | exact Or.inr rfl))
    (pss_one (ps_if (pt_val (pe_cal c_follows (hr.mono (by decide)) (by rfl) (pa_cons (pv 2) (pa_cons (pe_ix (k_ixT (K := K) (by rfl)) (pv 0) (pv 8) (fun _ _ => rfl)) (pa_cons (pv 4) (pa_cons (pv 1) pa_nil)))))) (pss_one (ps_set (i := 7) sc_kept.nd rfl (by first | exact Or.inl rfl | exact Or.inr rfl) (pe_cal c_shorter (hr.mono (by decide)) (by rfl) (pa_cons (pv 7) (pa_cons (pe_tup (k_star (K := K) (by rfl) (pe_dget (hu_of hr) (pv 5) (pv 8) (fun _ _ => rfl)) (pa_cons (pv 3) pa_nil))) pa_nil))))) pss_nil))))
    (pss_one (ps_if (PW.pt (pw_and (pt_cmpR op_notN' (pv 7) pe_non (nomark _)) (pw_and1 (pt_val (pe_cal c_holds (hr.mono (by decide)) (by rfl) (pa_cons (pv 2) (pa_cons (pv 4) pa_nil))))))) (pss_cons (ps_dput (hu_of hr) (pv 5) (pv 3) (pv 7) (by rfl))
    (pss_one (ps_set (i := 6) sc_kept.nd rfl (by first | exact Or.inl rfl | exact Or.inr rfl) (pe_ifExp (pt_cmpR op_eq (pv 4) (pe_ix (k_ixT (K := K) (by rfl)) (pe_ix (k_ixT (K := K) (by rfl)) (pv 2) pe_int (fun _ _ => rfl)) pe_int (fun _ _ => rfl)) (nomark _)) (pe_cal c_shorter (hr.mono (by decide)) (by rfl) (pa_cons (pv 6) (pa_cons (pv 7) pa_nil))) (pv 6))))) pss_nil)))))
    (pss_one (ps_ret (pv 6)))))))), ?_⟩
  have hlen := hok.len
  refine sq (s_asg (i := 2) (ev_c2 (f := fillF) (ev_var rfl (dQ_t hv)) (ev_var rfl rfl) ⟨by omega, hok.sm⟩) fun vb H1 e1 hb => ?_)
  have hck : keptN row least = match fillF row least with
    | none => some 1
    | some bs => if bs = [] then some 0 else keptB bs least row := rfl
  have hgap := hok.gap
  have hlone : fillF row least = none → lone row least = true := fun h => by
    unfold fillF at h
    split at h
    · assumption
    · cases h
  generalize fillF row least = fo at hb hck hgap hlone
  refine sq (s_if (et_test (ev_isN (ev_var rfl hb))) (fun hn H2 e2 => ?_) (fun hn H2 e2 => ?_))
  · cases fo with
    | some bs => cases hn
    | none =>
      have hl := hlone rfl
      have hne : ((enumI row).filter fun d : Int × Int => decide (d.2 < 2 * least)).map (fun d : Int × Int => d.1) ≠ [] := by
        unfold lone at hl
        rw [List.any_eq_true] at hl
        obtain ⟨x, hx, hx2⟩ := hl
        obtain ⟨j, hj⟩ := List.getElem?_of_mem hx
        have h1 : (enumI row)[j]? = some ((j : Int), x) := by rw [enumI_get, hj]; rfl
        intro z
        have h2 : ((j : Int), x) ∈ (enumI row).filter fun d : Int × Int => decide (d.2 < 2 * least) := List.mem_filter.mpr ⟨List.mem_of_getElem? h1, hx2⟩
        rw [List.map_eq_nil_iff] at z
        rw [z] at h2
        cases h2
      obtain ⟨m, ms, hm⟩ := List.exists_cons_of_ne_nil hne
      refine s_ret (EvN.some (en_one (ev_firstL (r := dI) ((ev_lc (r := dPI) (s := dI) (as := enumI row) (p := fun d : Int × Int => decide (d.2 < 2 * least)) (q := fun d : Int × Int => d.1) gm_pair (es_enumT (ev_var rfl ((dT dI).ex (ext e1 e2) hv))) (by rw [enumI_len]; omega) (fun d x H3 _ e3 hx => ?_)).to hm).ev))) fun x H3 e3 hx => k x H3 (ext e1 (ext e2 e3)) ?_
      · exact g_pair hx fun xa xb ha hb => ⟨rfl, rfl, et_test (ev_B0 (ev_var rfl hb) (ev_mulW ev_int (ev_var rfl rfl) (by unfold Sm; decide) hok.sm)), fun _ => ev_var rfl ha⟩
      · rw [hck]
        exact hx
  · cases fo with
    | none => cases hn
    | some bs =>
      obtain ⟨g1, g2⟩ := hgap bs rfl
      refine snx ?_
      dsimp only
      have hbs : (dT dPI).is H2 vb bs := ((dO (dT dPI)).ex e2 hb).2
      refine sq (s_if (et_test (ev_eqE pye_TPI (by decide) (ev_var rfl hbs) (en_tup (r := dPI) ea_nil (Nat.zero_le _)).ev)) (fun hn H3 e3 => ?_) (fun hn H3 e3 => ?_))
      · have e : bs = [] := of_decide_eq_true hn
        refine s_ret (EvN.some (en_tupW (n := 0) ep_nil (fun _ _ e => by rw [e]; rfl) (by decide))) fun x H4 e4 hx => k x H4 (ext e1 (ext e2 (ext e3 e4))) ?_
        rw [hck]
        show (dO dW).is H4 x (if bs = [] then some 0 else keptB bs least row)
        rw [if_pos e]
        exact hx
      · have e : ¬ bs = [] := of_decide_eq_false hn
        refine snx ?_
        dsimp only
        refine sq (s_parD (ev_non (r := dW)) fun p vbest H4 hp e4 hd hbest => ?_)
        have hp0 : H p = none := exf (ext e1 (ext e2 e3)) hp
        obtain ⟨zs, top, htop⟩ : ∃ zs m, bs = zs ++ [m] := by
          rcases nil_snoc bs with h | h
          · exact absurd h e
          · exact h
        obtain ⟨bot, qs, hbot⟩ := List.exists_cons_of_ne_nil e
        have etop : topOf bs = top.2 := by rw [htop]; simp [topOf]
        have ebot : botOf bs = bot.1 := by rw [hbot]; simp [botOf]
        have hbs4 : (dT dPI).is H4 vb bs := (dT dPI).ex (ext e3 e4) hbs
        refine sq (s_forEnumT (r := dI) (as := row) (ev_var rfl ((dT dI).ex (ext e1 (ext e2 (ext e3 e4))) hv)) (P := fun H5 i σ' H' => ∃ x3 x4 x7 x8 kvs ways best vbest, σ' = [some v, some (.int least), some vb, x3, x4, some (.ref p), some vbest, x7, x8] ∧
          (row.take i).foldl (keptStep bs least) ([], none) = (ways, best) ∧ DictAt dW H' p kvs ∧ KRel row kvs ways ∧ (dO dW).is H' vbest best ∧ Ex H H' ∧ TX H5 H' ∧ ((kvs.map (·.1)).Nodup ∧ ∀ d ∈ kvs, d.1 < (i : Int)) ∧ ways.length ≤ i ∧ KSm i (ways, best)) ?_ ?_ ?_ ?_)
        · rintro H5 i σ' H' ⟨_, _, _, _, _, _, _, _, _, _, _, _, _, _, h, _⟩
          exact h
        · intro H5 e5
          exact ⟨_, _, _, _, [], [], none, vbest, rfl, rfl, (dict0 hd).ex e5, .nil, (dO dW).ex e5 hbest, ext e1 (ext e2 (ext e3 (ext e4 e5))), txr, ⟨List.nodup_nil, fun d h => nomatch h⟩, Nat.zero_le _, fun o h => (nomatch h), fun l h => (nomatch h)⟩
        · rintro H5 i lim x σ' H6 H7 e5 hi ⟨x3, x4, x7, x8, kvs, ways, best, vbest, rfl, hfold, hd, hrel, hbest, eH, tx, ⟨hnd, hlt⟩, hwl, hsm⟩ e67 hx
          have hil := lt_of_get hi
          rw [fold_snoc hi, hfold]
          have hd7 := hd.ex e67
          have hbest7 := (dO dW).ex e67 hbest
          have eH7 := ext eH e67
          have tx7 := txt tx e67.tx
          have hbsAt : ∀ H', TX H5 H' → (dT dPI).is H' vb bs := fun H' t => TR.tx t ((dT dPI).ex e5 hbs4)
          refine g_pair hx fun xa xb hxa hxb => ?_
          cases hxa
          cases hxb
          clear hfold hd hbest eH tx
          -- way = (hop,) if ..
          refine sq (s_asg (i := 7) (r := dO dW) (a := if lim = topOf bs then some 1 else none) (ev_if (b := decide (lim = topOf bs)) ((et_test (ev_eqI (ev_var rfl rfl) (ev_ix1 (ev_lastT (r := dPI) (as := zs) (m := top) (ev_var rfl (by rw [← htop]; exact hbsAt _ tx7)))))).to (by rw [etop])) (fun hb => ?_) (fun hb => ?_)) fun vw H8 e8 hw => ?_)
          · rw [if_pos (of_decide_eq_true hb)]
            exact EvN.some (en_one (r := dI) (a := (i : Int)) (ev_var rfl rfl))
          · rw [if_neg (of_decide_eq_false hb)]
            exact ev_non
          -- for other in ways
          have klen : kvs.length = ways.length := Paired.length hrel
          refine sq (s_lockForH (r := dW) (hd7.ex e8) rfl (Pv := fun n σ' H' => ∃ x8 vway way, σ' = [some v, some (.int least), some vb, some (.int (i : Int)), some (.int lim), some (.ref p), some vbest, some vway, x8] ∧ (dO dW).is H' vway way ∧ keptIn bs least (ways.take n) lim (if lim = topOf bs then some 1 else none) = way) ?_ ?_ ?_)
          · intro H9 t9
            exact ⟨_, vw, _, rfl, TR.tx t9 hw, by simp [keptIn]⟩
          · rintro n d σ' H9 H10 hdn t9 hR hbase e910 ⟨x8', vway, way, rfl, hway, hk⟩ rt bk
            obtain ⟨o, ho, hh, h1, h2, h3⟩ : ∃ o, ways[n]? = some o ∧ ∃ h : Nat, d.1 = (h : Int) ∧ row[h]? = some o.1 ∧ d.2 = o.2 := by
              have : ∀ {kvs ways : List (Int × Nat)} {n : Nat} {d : Int × Nat}, KRel row kvs ways → kvs[n]? = some d → ∃ o, ways[n]? = some o ∧ ∃ h : Nat, d.1 = (h : Int) ∧ row[h]? = some o.1 ∧ d.2 = o.2 := by
                intro kvs ways n d h
                induction h generalizing n with
                | nil => intro e; simp at e
                | cons hq ht ih =>
                  intro e
                  cases n with
                  | zero => simp at e; subst e; exact ⟨_, rfl, hq⟩
                  | succ n => simp at e; simpa using ih e
              exact this hrel hdn
            have hstep : keptIn bs least (ways.take (n + 1)) lim (if lim = topOf bs then some 1 else none) = if followsF bs o.1 lim least then shortF way (some (o.2 + 1)) else way := by
              rw [← hk]
              unfold keptIn
              rw [fold_snoc ho]
            have tx10 : TX H5 H10 := txt tx7 (txt e8.tx (txt t9 e910.tx))
            have eH10 : Ex H H10 := ext (hbase H (ext eH7 e8) hp0) e910
            show (tIfS _ _ _) _ [some v, some (.int least), some vb, some (.int (i : Int)), some (.int lim), some (.ref p), some vbest, some vway, some (.int d.1)] H10
            refine s_if (et_B (ev_c4 (f := followsF) (ev_var rfl (hbsAt _ tx10)) (ev_ixT (r := dI) (ev_var rfl ((dT dI).ex eH10 hv)) (ev_var rfl rfl) (by rw [h1]; exact atI_nat h2)) (ev_var rfl rfl) (ev_var rfl rfl) (by omega))) (fun hb H11 e11 => ?_) (fun hb H11 e11 => ?_)
            · have hol : o.2 ≤ i := hsm.1 o (List.mem_of_getElem? ho)
              refine s_asg (i := 7) (ev_c2 (f := shortF) (ev_var rfl ((dO dW).ex e11 hway)) (EvN.some (en_starW1 (ev_dgetO (r := dW) (a := d.2) (ev_ref rfl) (ev_var rfl rfl) ((hR.ex e910).ex e11) (lookI_of_mem hnd (List.mem_of_getElem? hdn))) (ev_var (r := dI) rfl rfl) (by omega))) trivial) fun vw2 H12 e12 hw2 => ?_
              refine ⟨⟨_, vw2, _, rfl, hw2, ?_⟩, ext e910 (ext e11 e12)⟩
              rw [hstep, if_pos hb, h3]
            · refine ⟨⟨_, vway, _, rfl, (dO dW).ex e11 hway, ?_⟩, ext e910 e11⟩
              rw [hstep, if_neg (by rw [hb]; exact Bool.false_ne_true)]
          · rintro σ' Hm H9 hbase t9 hd9 tm ⟨x8', vway, way, rfl, hway, hk⟩
            rw [klen, List.take_length] at hk
            have hway9 := TR.tx tm hway
            clear hway tm
            have eH9 : Ex H H9 := hbase H (ext eH7 e8) hp0
            have tx9 : TX H5 H9 := txt tx7 (txt e8.tx t9)
            have hbest9 := TR.tx t9 ((dO dW).ex e8 hbest7)
            have hle : ∀ l, way = some l → l ≤ i + 1 := fun l hl => keptIn_le ways _ hsm.1 (fun m hm => by
              split at hm
              · simp only [Option.some.injEq] at hm; omega
              · cases hm) l (hk.trans hl)
            have hsm1 : KSm (i + 1) (ways, best) := ⟨fun o ho => Nat.le_succ_of_le (hsm.1 o ho), fun l hl => Nat.le_succ_of_le (hsm.2 l hl)⟩
            dsimp only
            cases way with
            | none =>
              have hst : keptStep bs least (ways, best) lim = (ways, best) := by
                unfold keptStep
                rw [hk]
              refine s_if (b := false) (et_and (a := false) (b := false) (et_test (ev_notN (ev_var rfl hway9))) (fun z => nomatch z)) (fun z => nomatch z) (fun _ H10 e10 => ?_)
              exact ⟨_, _, _, _, kvs, ways, best, vbest, rfl, hst, hd9.ex e10, hrel, (dO dW).ex e10 hbest9, ext eH9 e10, txt tx9 e10.tx, ⟨hnd, fun d hd => by have := hlt d hd; omega⟩, by omega, hsm1⟩
            | some l =>
              have hll := hle l rfl
              refine s_if (b := holdsF (some bs) lim) ((et_and (a := true) (et_test (ev_notN (ev_var rfl hway9))) (fun _ => et_B (ev_c2 (f := holdsF) (Ev.someT (ev_var rfl (hbsAt _ tx9))) (ev_var rfl rfl) (show bs.length ≤ 1000 by omega))))) (fun hb H10 e10 => ?_) (fun hb H10 e10 => ?_)
              · have hst : keptStep bs least (ways, best) lim = (ways ++ [(lim, l)], if lim = botOf bs then shortF best (some l) else best) := by
                  unfold keptStep
                  rw [hk]
                  simp only [hb, if_true]
                have hnone : lookI kvs (i : Int) = none := lookI_none fun q hq z => by have := hlt q hq; omega
                refine sq (s_dput (r := dW) (a := l) (Ev.unO (ev_var rfl ((dO dW).ex e10 hway9))) (ev_ref rfl) (k := (i : Int)) (ev_var rfl rfl) (hd9.ex e10) (by omega) fun H11 o e11 hn11 hd11 t11 => ?_)
                have eH11 : Ex H (upd H11 p o) := exm (ext eH9 (ext e10 e11)) hp0
                have tx11 : TX H5 (upd H11 p o) := txt tx9 (txt e10.tx (txt e11.tx t11))
                rw [putI_new hnone] at hd11
                have hbest11 : (dO dW).is (upd H11 p o) vbest best := TR.tx t11 ((dO dW).ex (ext e10 e11) hbest9)
                have hway11 : (dO dW).is (upd H11 p o) vway (some l) := TR.tx t11 ((dO dW).ex (ext e10 e11) hway9)
                refine s_asg (i := 6) (r := dO dW) (a := if lim = botOf bs then shortF best (some l) else best) (ev_if (b := decide (lim = botOf bs)) ((et_test (ev_eqI (ev_var rfl rfl) (ev_ix0 (ev_firstT (r := dPI) (as := qs) (m := bot) (ev_var rfl (by rw [← hbot]; exact hbsAt _ tx11)))))).to (by rw [ebot])) (fun hb => ?_) (fun hb => ?_)) fun vb2 H12 e12 hb2 => ?_
                · rw [if_pos (of_decide_eq_true hb)]
                  exact ev_c2 (f := shortF) (ev_var rfl hbest11) (ev_var rfl hway11) trivial
                · rw [if_neg (of_decide_eq_false hb)]
                  exact ev_var rfl hbest11
                · refine ⟨_, _, _, _, _, _, _, vb2, rfl, hst, hd11.ex e12, ?_, hb2, ext eH11 e12, txt tx11 e12.tx, ⟨?_, ?_⟩, ?_, ?_⟩
                  · have app : ∀ {kvs ways : List (Int × Nat)}, KRel row kvs ways → KRel row (kvs ++ [((i : Int), l)]) (ways ++ [(lim, l)]) := by
                      intro kvs ways h
                      induction h with
                      | nil => exact .cons ⟨i, rfl, hi, rfl⟩ .nil
                      | cons hq ht ih => exact .cons hq ih
                    exact app hrel
                  · rw [List.map_append, List.nodup_append]
                    refine ⟨hnd, by simp, ?_⟩
                    intro a ha b hb
                    obtain ⟨d, hd, rfl⟩ := List.mem_map.mp ha
                    have h6 := hlt d hd
                    simp only [List.map_cons, List.map_nil, List.mem_singleton] at hb
                    omega
                  · intro d hd
                    rcases List.mem_append.mp hd with h | h
                    · have := hlt d h; omega
                    · rw [List.mem_singleton] at h; subst h; show (i : Int) < _; omega
                  · rw [List.length_append, List.length_singleton]; omega
                  · refine ⟨fun o ho => ?_, fun m hm => ?_⟩
                    · rcases List.mem_append.mp ho with h | h
                      · exact hsm1.1 o h
                      · rw [List.mem_singleton] at h; subst h; exact hll
                    · dsimp only at hm
                      split at hm
                      · cases hq : best with
                        | none =>
                          rw [hq] at hm
                          simp only [shortF, Option.some.injEq] at hm
                          omega
                        | some c =>
                          have := hsm1.2 c hq
                          rw [hq] at hm
                          simp only [shortF] at hm
                          split at hm <;> simp only [Option.some.injEq] at hm <;> omega
                      · exact hsm1.2 m hm
              · have hst : keptStep bs least (ways, best) lim = (ways, best) := by
                  unfold keptStep
                  rw [hk]
                  simp only [hb, Bool.false_eq_true, if_false]
                exact ⟨_, _, _, _, kvs, ways, best, vbest, rfl, hst, hd9.ex e10, hrel, (dO dW).ex e10 hbest9, ext eH9 e10, txt tx9 e10.tx, ⟨hnd, fun d hd => by have := hlt d hd; omega⟩, by omega, hsm1⟩
        · rintro H5 σ' H6 e5 ⟨x3, x4, x7, x8, kvs, ways, best, vbest, rfl, hfold, hd, hrel, hbest, eH, tx, _⟩
          rw [List.take_length] at hfold
          refine s_ret (ev_var rfl hbest) fun x H7 e7 hx => k x H7 (ext eH e7) ?_
          rw [hck]
          show (dO dW).is H7 x (if bs = [] then some 0 else keptB bs least row)
          rw [if_neg e]
          unfold keptB
          rw [hfold]
          exact hx
end
end Cu
set_option maxRecDepth 100000
set_option maxHeartbeats 4000000
/-! Cu, walk 5: ways_up. -/
namespace Cu
open PySem PySem.Spec PyProof.Rows L2
abbrev st_ways_up : Stmt := top 24
abbrev N_ways_up : List Str := ["block", "least", "offers", "low", "high", "found", "limit", "price", "near", "other", "paid"]
abbrev P_ways_up : List Str := ["block", "least", "offers"]
theorem sc_ways_up : FnScope N_ways_up P_ways_up (defScope st_ways_up) := ⟨rfl, rfl, rfl, by decide +kernel, rfl, by decide +kernel, by decide +kernel⟩
/-- a price, and some tuple of not too many -/
def dPW (m : Nat) : R Int := ⟨fun H v p => ∃ n : List Int, n.length ≤ m ∧ (dP dI (dT dI)).is H v (p, n), fun e ⟨n, h1, h2⟩ => ⟨n, h1, (dP dI (dT dI)).ex e h2⟩⟩
instance {m : Nat} : TR (dPW m) := ⟨fun e ⟨n, h1, h2⟩ => ⟨n, h1, TR.tx e h2⟩⟩
theorem dPW_le {m m' : Nat} (h : m ≤ m') {H : Hp} {v : V} {p : Int} (hp : (dPW m).is H v p) : (dPW m').is H v p := let ⟨n, h1, h2⟩ := hp; ⟨n, Nat.le_trans h1 h, h2⟩
theorem dictAt_le {m m' : Nat} (h : m ≤ m') {H : Hp} {p : Addr} {kvs : List (Int × Int)} (hp : DictAt (dPW m) H p kvs) : DictAt (dPW m') H p kvs := let ⟨ks, k1, k2⟩ := hp; ⟨ks, k1, kmap k2 fun _ _ q => ⟨q.1, dPW_le h q.2⟩⟩
theorem minL_of {l : List Int} {m : Int} (h : m ∈ l) (hle : ∀ x ∈ l, m ≤ x) : minL l = some m := by
  have key : ∀ (ns : List Int) (n : Int), ns.foldl min n ∈ n :: ns ∧ ∀ x ∈ n :: ns, ns.foldl min n ≤ x := by
    intro ns
    induction ns with
    | nil => intro n; simp
    | cons c ns ih =>
      intro n
      obtain ⟨h1, h2⟩ := ih (min n c)
      rw [List.foldl_cons]
      refine ⟨?_, fun x hx => ?_⟩
      · rcases List.mem_cons.mp h1 with h1 | h1
        · rw [h1, Int.min_def]
          split <;> simp
        · exact List.mem_cons_of_mem _ (List.mem_cons_of_mem _ h1)
      · have h3 := h2 (min n c) List.mem_cons_self
        rcases List.mem_cons.mp hx with rfl | hx
        · omega
        · rcases List.mem_cons.mp hx with rfl | hx
          · omega
          · exact h2 x (List.mem_cons_of_mem _ hx)
  cases l with
  | nil => cases h
  | cons n ns =>
    obtain ⟨h1, h2⟩ := key ns n
    have h3 := hle _ h1
    have h4 := h2 m h
    show some (ns.foldl min n) = some m
    congr 1
    omega
theorem s_asgP {α β : Type} {r : R α} {s : R β} {σ : L2.St} {H : Hp} {te : TE} {d : α × β} {K : PySem.W.Frag} {D : Ends} {i j : Nat} (h : Ev (dP r s) te σ H d) (k : ∀ x y H1, Ex H H1 → r.is H1 x d.1 → s.is H1 y d.2 → D.nx ((σ.set i (some x)).set j (some y)) H1) :
    tAsg te (gTup K 2 (gCons (gName i) (gCons (gName j) gNil))) D σ H := h H exr _ fun v H1 e hv => g_pair hv fun x y hx hy => k x y H1 e hx hy
theorem take_lt {offers : List (Int × Int)} {i : Nat} {a : Int × Int} (h : offers.Pairwise fun a b => a.1 < b.1) (hi : offers[i]? = some a) : ∀ o ∈ offers.take i, o.1 < a.1 := by
  have e : offers = offers.take i ++ a :: offers.drop (i + 1) := by
    rw [← drop_cons hi, List.take_append_drop]
  rw [e, List.pairwise_append] at h
  exact fun o ho => h.2.2 o ho a List.mem_cons_self
section
variable {P : Program} {w : World} {K : PySem.W.Frag} {mg : Str → Option Value} {base : Heap}
/-- offers in strictly rising order, few -/
structure OffOk (offers : List (Int × Int)) : Prop where
  up : offers.Pairwise fun a b => a.1 < b.1
  len : offers.length ≤ 40
theorem ok_ways_up (F : Df K mg "ways_up" st_ways_up P_ways_up) (T : Nb mg) : Cal P w K mg base 1 "ways_up" (sp3N dPI dI (dT dPI) (dD (dPW 50)) (fun _ _ offers => OffOk offers) waysF) := by
  refine F.cal sc_ways_up len3N (fun f cdv A outer s H vs Q E hr h => ?_)
  obtain ⟨v, v2, v3, b, least, offers, rfl, hv, hv2, hv3, hok, k⟩ := h
  cases hv2
  obtain ⟨low, high⟩ := b
  refine ⟨_, (pss_cons (ps_asg (pv 0) (k_gtup (K := K) (by rfl) (by rfl) (pgs_cons (pg_name (i := 3) sc_ways_up.nd rfl (by first | exact Or.inl rfl | exact Or.inr rfl)) (pgs_cons (pg_name (i := 4) sc_ways_up.nd rfl (by first | exact Or.inl rfl | exact Or.inr rfl)) pgs_nil))))
    (pss_cons (ps_set (i := 5) sc_ways_up.nd rfl (by first | exact Or.inl rfl | exact Or.inr rfl) pe_dnewK)
    (pss_cons (ps_for PassesOwn.never (by rfl) (k_pitup (K := K) (by rfl) (pv 2)) (k_gtup (K := K) (by rfl) (by rfl) (pgs_cons (pg_name (i := 6) sc_ways_up.nd rfl (by first | exact Or.inl rfl | exact Or.inr rfl)) (pgs_cons (pg_name (i := 7) sc_ways_up.nd rfl (by first | exact Or.inl rfl | exact Or.inr rfl)) pgs_nil)))
    (pss_one (ps_if (pt_cmpR op_eq (pv 6) (pv 3) (nomark _)) (pss_one (ps_dput (hu_of hr) (pv 5) (pv 6) (pe_tup (pa_cons (pv 7) (pa_cons (pe_tup (pa_cons (pv 6) pa_nil)) pa_nil))) (by rfl))) (pss_one (ps_if (pt_chain op_lt op_le (pv 3) (pv 6) (pv 4)) (pss_cons (ps_lock (ps_setLc (i := 8) (own := [("other", 9)]) (g := (gName 9)) (by rfl) sc_ways_up.nd rfl rfl (sw_true rfl rfl rfl (by decide +kernel)) (pi_keys (pv 5)) (blkOk_by (own := [("other", 9)]) (N := N_ways_up) (sc := defScope st_ways_up) (by decide +kernel)) (fun _ _ _ _ _ => (pg_name (i := 9) sc_ways_up.nd rfl (by first | exact Or.inl rfl | exact Or.inr rfl))) (fun _ _ _ _ _ => (pts_one (pt_cmpR op_le (pe_op op_sub (pv 6) (pv 9)) (pv 1) (nomark _)))) (fun _ _ _ _ _ => (pe_tup (pa_cons (pe_ix (k_ixT (K := K) (by rfl)) (pe_dget (hu_of hr) (pv 5) (pv 9) (fun _ _ => rfl)) pe_int (fun _ _ => rfl)) (pa_cons (pv 9) pa_nil))))))
    (pss_one (ps_if (pt_cmpR op_gt (pe_callB (k_len (K := K) (by rfl)) (by rfl) T.len bt_len (pa_cons (pv 8) pa_nil)) pe_int (nomark _)) (pss_cons (ps_asg (pe_callB (k_minD (K := K) (by rfl) hr.units (by rfl)) (by rfl) T.min bt_min (pa_cons (pv 8) pa_nil)) (k_gtup (K := K) (by rfl) (by rfl) (pgs_cons (pg_name (i := 10) sc_ways_up.nd rfl (by first | exact Or.inl rfl | exact Or.inr rfl)) (pgs_cons (pg_name (i := 9) sc_ways_up.nd rfl (by first | exact Or.inl rfl | exact Or.inr rfl)) pgs_nil))))
    (pss_one (ps_dput (hu_of hr) (pv 5) (pv 6) (pe_tup (pa_cons (pe_op op_add (pv 10) (pv 7)) (pa_cons (pe_tup (pa_cons (pv 6) (k_star (K := K) (by rfl) (pe_ix (k_ixT (K := K) (by rfl)) (pe_dget (hu_of hr) (pv 5) (pv 9) (fun _ _ => rfl)) pe_int (fun _ _ => rfl)) pa_nil))) pa_nil))) (by rfl)))) pss_nil))) pss_nil)))))
    (pss_one (ps_ret (pv 5)))))), ?_⟩
  refine sq (s_asgP (ev_var rfl hv) fun xa xb H1 e1 hxa hxb => ?_)
  cases hxa
  cases hxb
  refine sq (s_asgD fun p H2 hp e2 hd => ?_)
  have hp0 : H p = none := exf e1 hp
  have hlen := hok.len
  refine sq (s_forT (r := dPI) (as := offers) (ev_var rfl ((dT dPI).ex (ext e1 e2) hv3)) (P := fun H5 i σ' H' => ∃ x6 x7 x8 x9 x10 found, σ' = [some v, some (.int least), some v3, some (.int low), some (.int high), some (.ref p), x6, x7, x8, x9, x10] ∧
    (offers.take i).foldl (upStep low high least) [] = found ∧ DictAt (dPW i) H' p found ∧ (∀ d ∈ found, ∃ o ∈ offers.take i, d.1 = o.1) ∧ (found.map (·.1)).Nodup ∧ found.length ≤ i ∧ Ex H H' ∧ TX H5 H') ?_ ?_ ?_ ?_)
  · rintro H5 i σ' H' ⟨_, _, _, _, _, _, _, _, _, _, _, _, _, h⟩
    exact h
  · intro H5 e5
    exact ⟨_, _, _, _, _, [], rfl, rfl, (dict0 hd).ex e5, fun d h => (nomatch h), List.nodup_nil, Nat.zero_le _, ext e1 (ext e2 e5), txr⟩
  · rintro H5 i ⟨lim, price⟩ x σ' H6 e5 hi ⟨x6, x7, x8, x9, x10, found, rfl, hfold, hd, hkeys, hnd, hfl, eH, tx⟩ hx
    have hil := lt_of_get hi
    have hlt := take_lt hok.up hi
    have hnew : ∀ d ∈ found, d.1 < lim := fun d hd => by
      obtain ⟨o, ho, e⟩ := hkeys d hd
      rw [e]; exact hlt o ho
    have hnone : lookI found lim = none := lookI_none fun q hq z => by have := hnew q hq; omega
    have hkeys1 : ∀ d ∈ found, ∃ o ∈ offers.take (i + 1), d.1 = o.1 := fun d hd => by
      obtain ⟨o, ho, e⟩ := hkeys d hd
      exact ⟨o, by rw [take_snoc hi]; exact List.mem_append_left _ ho, e⟩
    -- what stands when the dict is written
    have fin : ∀ (H9 : Hp) (o : HO) (a : Int) (y8 y9 y10 : Option V), Ex H6 H9 → DictAt (dPW (i + 1)) (upd H9 p o) p (putI found lim a) → TX H9 (upd H9 p o) → upStep low high least found (lim, price) = putP found lim a →
        ∃ x6 x7 x8 x9 x10 found', ([some v, some (.int least), some v3, some (.int low), some (.int high), some (.ref p), some (.int lim), some (.int price), y8, y9, y10] : L2.St) = [some v, some (.int least), some v3, some (.int low), some (.int high), some (.ref p), x6, x7, x8, x9, x10] ∧
        (offers.take (i + 1)).foldl (upStep low high least) [] = found' ∧ DictAt (dPW (i + 1)) (upd H9 p o) p found' ∧ (∀ d ∈ found', ∃ o ∈ offers.take (i + 1), d.1 = o.1) ∧ (found'.map (·.1)).Nodup ∧ found'.length ≤ i + 1 ∧ Ex H (upd H9 p o) ∧ TX H5 (upd H9 p o) := by
      intro H9 o a y8 y9 y10 e9 hd9 t9 hst
      rw [putI_new hnone] at hd9
      refine ⟨_, _, _, _, _, _, rfl, by rw [fold_snoc hi, hfold, hst]; rfl, hd9, ?_, ?_, ?_, exm (ext eH e9) hp0, txt tx (txt e9.tx t9)⟩
      · intro d hdm
        rcases List.mem_append.mp hdm with h | h
        · exact hkeys1 d h
        · rw [List.mem_singleton] at h
          subst h
          exact ⟨(lim, price), by rw [take_snoc hi]; exact List.mem_append_right _ (List.mem_singleton.mpr rfl), rfl⟩
      · rw [List.map_append, List.nodup_append]
        refine ⟨hnd, by simp, ?_⟩
        intro a' ha' b' hb'
        obtain ⟨d, hd, rfl⟩ := List.mem_map.mp ha'
        have h6 := hnew d hd
        simp only [List.map_cons, List.map_nil, List.mem_singleton] at hb'
        omega
      · rw [List.length_append, List.length_singleton]; omega
    have stay : ∀ (H9 : Hp) (y8 y9 y10 : Option V), Ex H6 H9 → upStep low high least found (lim, price) = found →
        ∃ x6 x7 x8 x9 x10 found', ([some v, some (.int least), some v3, some (.int low), some (.int high), some (.ref p), some (.int lim), some (.int price), y8, y9, y10] : L2.St) = [some v, some (.int least), some v3, some (.int low), some (.int high), some (.ref p), x6, x7, x8, x9, x10] ∧
        (offers.take (i + 1)).foldl (upStep low high least) [] = found' ∧ DictAt (dPW (i + 1)) H9 p found' ∧ (∀ d ∈ found', ∃ o ∈ offers.take (i + 1), d.1 = o.1) ∧ (found'.map (·.1)).Nodup ∧ found'.length ≤ i + 1 ∧ Ex H H9 ∧ TX H5 H9 := by
      intro H9 y8 y9 y10 e9 hst
      exact ⟨_, _, _, _, _, found, rfl, by rw [fold_snoc hi, hfold, hst], dictAt_le (Nat.le_succ i) (hd.ex e9), hkeys1, hnd, by omega, ext eH e9, txt tx e9.tx⟩
    refine g_pair hx fun xa xb hxa hxb => ?_
    cases hxa
    cases hxb
    refine s_if (et_test (ev_eqI (ev_var rfl rfl) (ev_var rfl rfl))) (fun hb H7 e7 => ?_) (fun hb H7 e7 => ?_)
    · have e : lim = low := of_decide_eq_true hb
      refine s_dput (r := dPW (i + 1)) (a := price) (k := lim) ((en_pair (r := dI) (s := dT dI) (a := price) (b := [lim]) (ev_var rfl rfl) (en_tup (r := dI) (ea_cons (a := lim) (ev_var rfl rfl) ea_nil) (by simp)).ev).ev.re fun _ _ h => ⟨[lim], by simp, h⟩) (ev_ref rfl) (ev_var rfl rfl) (dictAt_le (Nat.le_succ i) (hd.ex e7)) (by omega) fun H9 o e9 _ hd9 t9 => fin H9 o price _ _ _ (ext e7 e9) hd9 t9 ?_
      unfold upStep
      rw [if_pos e]
    · have e : ¬ lim = low := of_decide_eq_false hb
      refine s_if (et_test (ev_chainI (ev_var rfl rfl) (ev_var rfl rfl) (ev_var rfl rfl))) (fun hb H8 e8 => ?_) (fun hb H8 e8 => ?_)
      · rw [Bool.and_eq_true, decide_eq_true_eq, decide_eq_true_eq] at hb
        have hst : upStep low high least found (lim, price) = match minL (nearF found lim least) with
            | none => found
            | some paid => putP found lim (paid + price) := by
          unfold upStep
          rw [if_neg e, if_pos hb]
          all_goals rfl
        have eH8 := ext e7 e8
        refine sq (s_lockLc (r := dPW i) (s := dPI) (vs := [9]) gm_name (hd.ex eH8) rfl (by omega) (pf := fun o => decide (lim - o.1 ≤ least)) (qf := fun o => (o.2, o.1)) (fun d H9 hdm t9 hR _ => ?_) fun q H9 hq e9 hnear => ?_)
        · obtain ⟨vd, ⟨n, _, hpw⟩, hget⟩ := dget_at hR (lookI_of_mem hnd hdm)
          exact ⟨rfl, rfl, et_test (ev_B0 (ev_I0 (ev_var rfl rfl) (ev_var rfl rfl)) (ev_var rfl rfl)), fun _ => (en_pair (r := dI) (s := dI) (ev_ix0 (Ev.ofV (hget _ _ _ (ev_ref rfl) (ev_var rfl rfl)) hpw)) (ev_var rfl rfl)).ev⟩
        · have hnf : nearF found lim least = ((found.filter fun o : Int × Int => decide (lim - o.1 ≤ least)).map fun o : Int × Int => (o.2, o.1)).map (·.1) := by
            unfold nearF
            rw [List.map_map]
            rfl
          have hmem : ∀ z ∈ (found.filter fun o : Int × Int => decide (lim - o.1 ≤ least)).map (fun o : Int × Int => (o.2, o.1)), (z.2, z.1) ∈ found := fun z hz => by
            obtain ⟨o, ho, rfl⟩ := List.mem_map.mp hz
            exact (List.mem_filter.mp ho).1
          generalize ((found.filter fun o : Int × Int => decide (lim - o.1 ≤ least)).map fun o : Int × Int => (o.2, o.1)) = near at hnear hnf hmem
          cases near with
          | nil =>
            refine s_if (b := false) ((et_test (ev_B0 (g := fun i j => decide (j < i)) (ev_lenL (r := dPI) (ev_var rfl hnear)) ev_int)).to (by simp)) (fun z => nomatch z) (fun _ H10 e10 => stay H10 _ _ _ (ext eH8 (ext e9 e10)) ?_)
            rw [hst, hnf]
            rfl
          | cons z zs =>
            refine s_if (b := true) ((et_test (ev_B0 (g := fun i j => decide (j < i)) (ev_lenL (r := dPI) (ev_var rfl hnear)) ev_int)).to (by simp <;> omega)) (fun _ H10 e10 => ?_) (fun z => nomatch z)
            obtain ⟨m1, m2⟩ := minOf_fst zs z
            have hmin := minL_of (l := (z :: zs).map (·.1)) (m := (PySem.W.minOf z zs).1) (List.mem_map_of_mem (f := (·.1)) m1) fun x hx => by
              obtain ⟨y, hy, rfl⟩ := List.mem_map.mp hx
              exact m2 y hy
            refine sq (s_asgP (d := PySem.W.minOf z zs) (ev_minQ (r := dPI) pyd_PI (by decide) (Ev.ql (ev_var rfl ((dL dPI).ex e10 hnear)))) fun xp xo H11 e11 hxp hxo => ?_)
            cases hxp
            cases hxo
            have hd11 := hd.ex (ext eH8 (ext e9 (ext e10 e11)))
            obtain ⟨vd, ⟨n, hn, hpw⟩, hget⟩ := dget_at hd11.rd (lookI_of_mem hnd (hmem _ m1))
            refine s_dput (r := dPW (i + 1)) (a := (PySem.W.minOf z zs).1 + price) (k := lim) ((en_pair (r := dI) (s := dT dI) (a := (PySem.W.minOf z zs).1 + price) (b := lim :: (n ++ [])) (ev_I0 (ev_var rfl rfl) (ev_var rfl rfl)) (en_tup (r := dI) (ea_cons (a := lim) (ev_var rfl rfl) (ea_starT (ev_ix1 (Ev.ofV (hget _ _ _ (ev_ref rfl) (ev_var rfl rfl)) hpw)) ea_nil)) (by simp; omega)).ev).ev.re fun _ _ h => ⟨lim :: (n ++ []), by simp; omega, h⟩) (ev_ref rfl) (ev_var rfl rfl) (dictAt_le (Nat.le_succ i) hd11) (by omega) fun H12 o e12 _ hd12 t12 => fin H12 o _ _ _ _ (ext eH8 (ext e9 (ext e10 (ext e11 e12)))) hd12 t12 ?_
            rw [hst, hnf, hmin]
      · refine stay H8 _ _ _ (ext e7 e8) ?_
        unfold upStep
        rw [if_neg e, if_neg]
        intro z
        rw [Bool.and_eq_false_iff, decide_eq_false_iff_not, decide_eq_false_iff_not] at hb
        rcases hb with h | h
        · exact h z.1
        · exact h z.2
  · rintro H5 σ' H6 e5 ⟨x6, x7, x8, x9, x10, found, rfl, hfold, hd, hkeys, hnd, hfl, eH, tx⟩
    rw [List.take_length] at hfold
    refine s_ret (ev_ref rfl) fun x H7 e7 hx => ?_
    cases hx
    refine k p H7 hp0 (ext eH e7) ⟨p, rfl, ?_⟩
    unfold waysF
    rw [hfold]
    exact dictAt_le (by omega) (hd.ex e7)
end
end Cu
set_option maxRecDepth 100000
set_option maxHeartbeats 4000000
/-! Cu, walk 6: excess, bound, best_marks. -/
namespace Cu
open PySem PySem.Spec PyProof.Rows L2
abbrev st_excess : Stmt := top 26
abbrev N_excess : List Str := ["limit", "own", "low", "least", "marked", "below", "other", "mark"]
abbrev P_excess : List Str := ["limit", "own", "low", "least", "marked"]
theorem sc_excess : FnScope N_excess P_excess (defScope st_excess) := ⟨rfl, rfl, rfl, by decide +kernel, rfl, by decide +kernel, by decide +kernel⟩
abbrev st_bound : Stmt := top 27
abbrev N_bound : List Str := ["row", "least", "offers", "marks", "price", "told", "blocks", "total", "low", "high", "inner", "mark", "limit", "cost", "marked"]
abbrev P_bound : List Str := ["row", "least", "offers", "marks"]
theorem sc_bound : FnScope N_bound P_bound (defScope st_bound) := ⟨rfl, rfl, rfl, by decide +kernel, rfl, by decide +kernel, by decide +kernel⟩
abbrev st_best_marks : Stmt := top 28
abbrev N_best_marks : List Str := ["row", "least", "offers", "told", "found", "block", "ways", "limit", "price"]
abbrev P_best_marks : List Str := ["row", "least", "offers"]
theorem sc_best_marks : FnScope N_best_marks P_best_marks (defScope st_best_marks) := ⟨rfl, rfl, rfl, by decide +kernel, rfl, by decide +kernel, by decide +kernel⟩
section
variable {α β γ : Type} {r : R α} {s : R β} {u : R γ} {σ : L2.St} {H : Hp} {te ta tb tc : TE} {a : α} {b : β} {c : γ} {v : V} {K : PySem.W.Frag} {D : Ends} {i j k : Nat}
/-- a tuple of three -/
def d3 (r : R α) (s : R β) (u : R γ) : R (α × β × γ) := ⟨fun H v d => ∃ p x y z, v = .ref p ∧ H p = some (.tup [x, y, z]) ∧ r.is H x d.1 ∧ s.is H y d.2.1 ∧ u.is H z d.2.2,
  fun e ⟨p, x, y, z, h1, h2, h3, h4, h5⟩ => ⟨p, x, y, z, h1, e p _ h2, r.ex e h3, s.ex e h4, u.ex e h5⟩⟩
instance [t : TR r] [t2 : TR s] [t3 : TR u] : TR (d3 r s u) := ⟨fun e ⟨p, x, y, z, h1, h2, h3, h4, h5⟩ => ⟨p, x, y, z, h1, e p _ h2, t.tx e h3, t2.tx e h4, t3.tx e h5⟩⟩
theorem en_tri (ha : Ev r ta σ H a) (hb : Ev s tb σ H b) (hc : Ev u tc σ H c) : EvN (d3 r s u) (tTup (tCons ta (tCons tb (tCons tc tNil)))) σ H (a, b, c) := fun H1 e _ q =>
  ha H1 e _ fun x H2 e2 hx => hb H2 (ext e e2) _ fun y H3 e3 hy => hc H3 (ext e (ext e2 e3)) _ fun z H4 e4 hz => ⟨by show 3 ≤ sizeLine; decide, fun p hp => q p _ (exf (ext e2 (ext e3 e4)) hp) (ext e2 (ext e3 (ext e4 (exn hp)))) ⟨p, x, y, z, rfl, upd_same, r.ex (ext e3 (ext e4 (exn hp))) hx, s.ex (ext e4 (exn hp)) hy, u.ex (exn hp) hz⟩⟩
theorem g_tri {Q : L2.St → Hp → Prop} {d : α × β × γ} (h : (d3 r s u).is H v d) (kk : ∀ x y z, r.is H x d.1 → s.is H y d.2.1 → u.is H z d.2.2 → Q (((σ.set i (some x)).set j (some y)).set k (some z)) H) : gTup K 3 (gCons (gName i) (gCons (gName j) (gCons (gName k) gNil))) v σ H Q := by
  obtain ⟨p, x, y, z, h1, h2, h3, h4, h5⟩ := h
  exact ⟨p, [x, y, z], h1, SqT.of h2, rfl, x, _, rfl, y, _, rfl, z, _, rfl, rfl, kk x y z h3 h4 h5⟩
theorem gm_tri : GM (gTup K 3 (gCons (gName i) (gCons (gName j) (gCons (gName k) gNil)))) := gm_tup (gm_cons gm_name (gm_cons gm_name (gm_cons gm_name gm_nil)))
theorem g_pp {Q : L2.St → Hp → Prop} {d : (α × β) × γ} (h : (dP (dP r s) u).is H v d) (kk : ∀ x y z, r.is H x d.1.1 → s.is H y d.1.2 → u.is H z d.2 → Q (((σ.set i (some x)).set j (some y)).set k (some z)) H) : gTup K 2 (gCons (gTup K 2 (gCons (gName i) (gCons (gName j) gNil))) (gCons (gName k) gNil)) v σ H Q := by
  obtain ⟨p, xy, z, h1, h2, ⟨q, x, y, h3, h4, h5, h6⟩, h7⟩ := h
  exact ⟨p, [xy, z], h1, SqT.of h2, rfl, xy, _, rfl, q, [x, y], h3, SqT.of h4, rfl, x, _, rfl, y, _, rfl, rfl, z, _, rfl, rfl, kk x y z h5 h6 h7⟩
theorem gm_pp : GM (gTup K 2 (gCons (gTup K 2 (gCons (gName i) (gCons (gName j) gNil))) (gCons (gName k) gNil))) := gm_tup (gm_cons (gm_tup (gm_cons gm_name (gm_cons gm_name gm_nil))) (gm_cons gm_name gm_nil))
theorem minL_some : ∀ {l : List Int}, l ≠ [] → ∃ n ns, l = n :: ns ∧ minL l = some (ns.foldl min n)
  | [], h => absurd rfl h
  | n :: ns, _ => ⟨n, ns, rfl, rfl⟩
theorem s_ppar3 {i j l : Nat} (ha : Ev r ta σ H a) (hb : Ev s tb σ H b) (hc : Ev u tc σ H c) (kk : ∀ x y z H1, Ex H H1 → r.is H1 x a → s.is H1 y b → u.is H1 z c → D.nx (((σ.set i (some x)).set j (some y)).set l (some z)) H1) : tPar3 i j l (tCons ta (tCons tb (tCons tc tNil))) D σ H :=
  ha H exr _ fun x H2 e2 hx => hb H2 e2 _ fun y H3 e3 hy => hc H3 (ext e2 e3) _ fun z H4 e4 hz => ⟨x, y, z, rfl, kk x y z H4 (ext e2 (ext e3 e4)) (r.ex (ext e3 e4) hx) (s.ex e4 hy) hz⟩
end
section
variable {P : Program} {w : World} {K : PySem.W.Frag} {mg : Str → Option Value} {base : Heap}
theorem ok_excess (F : Df K mg "excess" st_excess P_excess) (T : Nb mg) : Cal P w K mg base 1 "excess" (sp5 dI dI dI dI (dL dPI) dI (fun limit _ low least marked => marked.length ≤ 1000 ∧ (limit = low ∨ belowF limit least marked ≠ [])) excF) := by
  refine F.cal sc_excess len5 (fun f cdv A outer s H vs Q E hr h => ?_)
  obtain ⟨v, v2, v3, v4, v5, limit, own, low, least, marked, rfl, hv, hv2, hv3, hv4, hv5, ⟨hz, hok⟩, k⟩ := h
  cases hv
  cases hv2
  cases hv3
  cases hv4
  refine ⟨_, (pss_cons (ps_setLc (i := 5) (own := [("other", 6), ("mark", 7)]) (g := (gTup K 2 (gCons (gName 6) (gCons (gName 7) gNil)))) (by rfl) sc_excess.nd rfl rfl (sw_true rfl rfl rfl (by decide +kernel)) (k_pilist (K := K) (by rfl) (pv 4)) (blkOk_by (own := [("other", 6), ("mark", 7)]) (N := N_excess) (sc := defScope st_excess) (by decide +kernel)) (fun _ _ _ _ _ => (k_gtup (K := K) (by rfl) (by rfl) (pgs_cons (pg_name (i := 6) sc_excess.nd rfl (by first | exact Or.inl rfl | exact Or.inr rfl)) (pgs_cons (pg_name (i := 7) sc_excess.nd rfl (by first | exact Or.inl rfl | exact Or.inr rfl)) pgs_nil)))) (fun _ _ _ _ _ => (pts_one (pt_chain op_lt op_le pe_int (pe_op op_sub (pv 0) (pv 6)) (pv 3)))) (fun _ _ _ _ _ => (pv 7)))
    (pss_one (ps_ret (pe_callB (cr_max2 (by rfl)) (by rfl) T.max bt_max (pa_cons pe_int (pa_cons (pe_op op_sub (pv 1) (pe_ifExp (pt_cmpR op_eq (pv 0) (pv 2) (nomark _)) pe_int (pe_callB (k_minD (K := K) (by rfl) hr.units (by rfl)) (by rfl) T.min bt_min (pa_cons (pv 5) pa_nil)))) pa_nil)))))), ?_⟩
  refine sq (s_asgN (i := 5) (ev_lc (r := dPI) (s := dI) gm_pair (es_lst (ev_var rfl hv5)) (by omega) (fun m : Int × Int => decide (0 < limit - m.1) && decide (limit - m.1 ≤ least)) (fun m : Int × Int => m.2) (fun d x H1 _ e hx => g_pair hx fun xa xb ha hb => ?_)) fun p H1 hp e1 hl => ?_)
  · exact ⟨rfl, rfl, et_test (ev_chainI ev_int (ev_I0 (ev_var rfl rfl) (ev_var rfl ha)) (ev_var rfl rfl)), fun _ => ev_var rfl hb⟩
  · refine s_ret (a := excF limit own low least marked) (ev_max2 ev_int (ev_I0 (ev_var rfl rfl) (ev_if (b := decide (limit = low)) (et_test (ev_eqI (ev_var rfl rfl) (ev_var rfl rfl))) (fun hb => ?_) (fun hb => ?_)))) fun x H2 e2 hx => k x H2 (ext e1 e2) hx
    · rw [if_pos (of_decide_eq_true hb)]
      exact ev_int
    · have hne : ¬ limit = low := of_decide_eq_false hb
      rw [if_neg hne]
      obtain ⟨n, ns, e3, e4⟩ := minL_some (hok.resolve_left hne)
      rw [e4]
      refine ev_minI (n := n) (ns := ns) (Ev.ql (ev_var rfl ?_))
      rw [← e3]
      exact hl
/-- cheapest: what it gives, or NoWay -/
def spCheap (C : Addr) : Sp := fun vs H Q E => ∃ v1 v2 v3 row least offers, vs = [v1, v2, v3] ∧ (dT dI).is H v1 row ∧ dI.is H v2 least ∧ (dT dPI).is H v3 offers ∧ (RowOk row least ∧ OffOk offers) ∧
  match cheapF row least offers with
  | some p => ∀ x H', Ex H H' → (dPW 5000).is H' x p → Q x H'
  | none => ∀ H', Ex H H' → E (.ref C) none H'
theorem ev_cheap {C : Addr} {σ : L2.St} {H : Hp} {ta tb tc : TE} {row : List Int} {least p : Int} {offers : List (Int × Int)} (ha : Ev (dT dI) ta σ H row) (hb : Ev dI tb σ H least) (hc : Ev (dT dPI) tc σ H offers) (h1 : RowOk row least) (h2 : OffOk offers) (hp : cheapF row least offers = some p) :
    Ev (dPW 5000) (tCall (spCheap C) [] E0 (tCons ta (tCons tb (tCons tc tNil)))) σ H p := ev_call (ep3 ha hb hc) fun vs H1 _ ⟨v, w, z, e, hv, hw, hz⟩ Q E q => ⟨v, w, z, row, least, offers, e, hv, hw, hz, ⟨h1, h2⟩, by
  rw [hp]
  exact q⟩
/-- cheapest(..)[0] -/
theorem ev_cheap0 {C : Addr} {σ : L2.St} {H : Hp} {ta tb tc : TE} {row : List Int} {least p : Int} {offers : List (Int × Int)} (ha : Ev (dT dI) ta σ H row) (hb : Ev dI tb σ H least) (hc : Ev (dT dPI) tc σ H offers) (h1 : RowOk row least) (h2 : OffOk offers) (hp : cheapF row least offers = some p) :
    Ev dI (tOp (rIxT K) (tCall (spCheap C) [] E0 (tCons ta (tCons tb (tCons tc tNil)))) (tC (.int 0))) σ H p := fun H1 e Q q =>
  ev_cheap ha hb hc h1 h2 hp H1 e _ fun v H2 e2 ⟨n, _, hv⟩ => (ev_ix0 (K := K) (Ev.ofV (ev_con (σ := σ) (v := v) (H := H2)) hv)) H2 exr Q fun w H3 e3 hw => q w H3 (ext e2 e3) hw
structure BoundOk (row : List Int) (least : Int) (offers : List (Int × Int)) (marks : List Int) : Prop where
  hrow : RowOk row least
  off : OffOk offers
  price : ∃ p, cheapF row least offers = some p
  len : marks.length ≤ 1000
  good : ∀ bs, fillF row least = some bs → ∀ b ∈ bs, innerF b offers marks ≠ [] ∧ ∀ x ∈ innerF b offers marks, x.1.1 = b.1 ∨ belowF x.1.1 least (markedF b offers marks) ≠ []
theorem ok_bound (F : Df K mg "bound" st_bound P_bound) (T : Nb mg) {C : Addr} (c_cheapest : CalX P w K mg base 10 "cheapest" (spCheap C)) (c_tupled : Cal P w K mg base 4 "tupled" spTup) (c_filling : Cal P w K mg base 2 "filling" spFil)
    (c_excess : Cal P w K mg base 1 "excess" (sp5 dI dI dI dI (dL dPI) dI (fun limit _ low least marked => marked.length ≤ 1000 ∧ (limit = low ∨ belowF limit least marked ≠ [])) excF)) :
    Cal P w K mg base 11 "bound" (sp4 (dT dI) dI (dT dPI) (dT dI) dI BoundOk boundF) := by
  refine F.cal sc_bound len4 (fun f cdv A outer s H vs Q E hr h => ?_)
  obtain ⟨v, v2, v3, v4, row, least, offers, marks, rfl, hv, hv2, hv3, hv4, hok, k⟩ := h
  cases hv2
  refine ⟨_, (pss_cons (ps_par3 (i := 4) (j := 5) (l := 6) (by rfl) sc_bound.nd rfl rfl rfl (by decide) (by decide) (by decide) rfl rfl rfl (pa_cons (pe_ix (k_ixT (K := K) (by rfl)) (pe_calx c_cheapest (hr.mono (by decide)) (by rfl) (pa_cons (pv 0) (pa_cons (pv 1) (pa_cons (pv 2) pa_nil)))) pe_int (fun _ _ => rfl)) (pa_cons (pe_cal c_tupled (hr.mono (by decide)) (by rfl) (pa_cons (pv 2) pa_nil)) (pa_cons (pe_cal c_filling (hr.mono (by decide)) (by rfl) (pa_cons (pv 0) (pa_cons (pv 1) pa_nil))) pa_nil))) (by rfl))
    (pss_cons (ps_if (pt_cmpR op_isN' (pv 6) pe_non (nomark _)) (pss_one (ps_ret (pv 4))) pss_nil)
    (pss_cons (ps_set (i := 7) sc_bound.nd rfl (by first | exact Or.inl rfl | exact Or.inr rfl) pe_int)
    (pss_cons (ps_for PassesOwn.never (by rfl) (k_pitup (K := K) (by rfl) (pv 6)) (k_gtup (K := K) (by rfl) (by rfl) (pgs_cons (pg_name (i := 8) sc_bound.nd rfl (by first | exact Or.inl rfl | exact Or.inr rfl)) (pgs_cons (pg_name (i := 9) sc_bound.nd rfl (by first | exact Or.inl rfl | exact Or.inr rfl)) pgs_nil)))
    (pss_cons (ps_setLc (i := 10) (own := [("mark", 11), ("limit", 12), ("cost", 13)]) (g := (gTup K 2 (gCons (gTup K 2 (gCons (gName 12) (gCons (gName 13) gNil))) (gCons (gName 11) gNil)))) (by rfl) sc_bound.nd rfl rfl (sw_true rfl rfl rfl (by decide +kernel)) (RZ.pi_zipA (by rfl) T.zip (pa_cons (pv 5) (pa_cons (pv 3) pa_nil))) (blkOk_by (own := [("mark", 11), ("limit", 12), ("cost", 13)]) (N := N_bound) (sc := defScope st_bound) (by decide +kernel)) (fun _ _ _ _ _ => (k_gtup (K := K) (by rfl) (by rfl) (pgs_cons (k_gtup (K := K) (by rfl) (by rfl) (pgs_cons (pg_name (i := 12) sc_bound.nd rfl (by first | exact Or.inl rfl | exact Or.inr rfl)) (pgs_cons (pg_name (i := 13) sc_bound.nd rfl (by first | exact Or.inl rfl | exact Or.inr rfl)) pgs_nil))) (pgs_cons (pg_name (i := 11) sc_bound.nd rfl (by first | exact Or.inl rfl | exact Or.inr rfl)) pgs_nil)))) (fun _ _ _ _ _ => (pts_one (pt_chain op_le op_le (pv 8) (pv 12) (pv 9)))) (fun _ _ _ _ _ => (pe_tup (pa_cons (pv 12) (pa_cons (pv 13) (pa_cons (pv 11) pa_nil))))))
    (pss_cons (ps_set (i := 14) sc_bound.nd rfl (by first | exact Or.inl rfl | exact Or.inr rfl) (pe_lc (own := [("limit", 12), ("cost", 13), ("mark", 11)]) (g := (gTup K 3 (gCons (gName 12) (gCons (gName 13) (gCons (gName 11) gNil))))) (tt := tYes) (by rfl) sc_bound.nd (k_pilist (K := K) (by rfl) (pv 10)) (blkOk_by (own := [("limit", 12), ("cost", 13), ("mark", 11)]) (N := N_bound) (sc := defScope st_bound) (by decide +kernel)) (fun _ _ _ _ _ => (k_gtup (K := K) (by rfl) (by rfl) (pgs_cons (pg_name (i := 12) sc_bound.nd rfl (by first | exact Or.inl rfl | exact Or.inr rfl)) (pgs_cons (pg_name (i := 13) sc_bound.nd rfl (by first | exact Or.inl rfl | exact Or.inr rfl)) (pgs_cons (pg_name (i := 11) sc_bound.nd rfl (by first | exact Or.inl rfl | exact Or.inr rfl)) pgs_nil))))) (fun _ _ _ _ _ => pts_nil) (fun _ _ _ _ _ => (pe_tup (pa_cons (pv 12) (pa_cons (pv 11) pa_nil))))))
    (pss_one (ps_aug (i := 7) sc_bound.nd rfl (by first | exact Or.inl rfl | exact Or.inr rfl) (pe_op op_sub (pe_ix (k_ixT (K := K) (by rfl)) (pe_ix (k_ixL (K := K) (by rfl)) (pv 14) (pe_un un_neg pe_int) (fun _ _ => rfl)) pe_int (fun _ _ => rfl)) (pe_callB (k_sum (K := K) (by rfl) (by rfl)) (by rfl) T.sum bt_sum (pa_cons (pe_lc (own := [("limit", 12), ("cost", 13), ("mark", 11)]) (g := (gTup K 3 (gCons (gName 12) (gCons (gName 13) (gCons (gName 11) gNil))))) (tt := tYes) (by rfl) sc_bound.nd (k_pilist (K := K) (by rfl) (pv 10)) (blkOk_by (own := [("limit", 12), ("cost", 13), ("mark", 11)]) (N := N_bound) (sc := defScope st_bound) (by decide +kernel)) (fun _ _ _ _ _ => (k_gtup (K := K) (by rfl) (by rfl) (pgs_cons (pg_name (i := 12) sc_bound.nd rfl (by first | exact Or.inl rfl | exact Or.inr rfl)) (pgs_cons (pg_name (i := 13) sc_bound.nd rfl (by first | exact Or.inl rfl | exact Or.inr rfl)) (pgs_cons (pg_name (i := 11) sc_bound.nd rfl (by first | exact Or.inl rfl | exact Or.inr rfl)) pgs_nil))))) (fun _ _ _ _ _ => pts_nil) (fun _ _ _ _ _ => (pe_cal c_excess (hr.mono (by decide)) (by rfl) (pa_cons (pv 12) (pa_cons (pe_op op_sub (pv 11) (pv 13)) (pa_cons (pv 8) (pa_cons (pv 1) (pa_cons (pv 14) pa_nil)))))))) pa_nil))) ip_add)))))
    (pss_one (ps_ret (pv 7))))))), ?_⟩
  obtain ⟨pr, hpr⟩ := hok.price
  have hrl := hok.hrow.len
  have hol := hok.off.len
  refine sq (s_ppar3 (ev_cheap0 (ev_var rfl hv) (ev_var rfl rfl) (ev_var rfl hv3) hok.hrow hok.off hpr) (ev_c1 (f := fun x => x) (ev_var rfl hv3) (by omega)) (ev_c2 (f := fillF) (ev_var rfl (dQ_t hv)) (ev_var rfl rfl) ⟨by omega, hok.hrow.sm⟩) fun vp vt vb H1 e1 hvp hvt hvb => ?_)
  cases hvp
  have hck : boundF row least offers marks = match fillF row least with
    | none => (cheapF row least offers).getD 0
    | some bs => (bs.map (boundB least offers marks)).sum := rfl
  rw [hpr] at hck
  have hgood := hok.good
  generalize fillF row least = fo at hvb hck hgood
  refine sq (s_if (et_test (ev_isN (ev_var rfl hvb))) (fun hn H2 e2 => ?_) (fun hn H2 e2 => ?_))
  · cases fo with
    | some bs => cases hn
    | none =>
      refine s_ret (ev_var (r := dI) rfl rfl) fun x H3 e3 hx => k x H3 (ext e1 (ext e2 e3)) ?_
      rw [hck]
      exact hx
  · cases fo with
    | none => cases hn
    | some bs =>
      refine snx ?_
      dsimp only
      refine sq (s_asg (i := 7) (ev_int (n := 0)) fun v0 H3 e3 hv0 => ?_)
      cases hv0
      have hbs : (dT dPI).is H3 vb bs := (dT dPI).ex (ext e2 e3) hvb.2
      refine sq (s_forT (r := dPI) (as := bs) (ev_var rfl hbs) (P := fun H5 i σ' H' => ∃ x8 x9 x10 x11 x12 x13 x14, σ' = [some v, some (.int least), some v3, some v4, some (.int pr), some vt, some vb, some (.int ((bs.take i).map (boundB least offers marks)).sum), x8, x9, x10, x11, x12, x13, x14] ∧ Ex H5 H') ?_ ?_ ?_ ?_)
      · rintro H5 i σ' H' ⟨_, _, _, _, _, _, _, _, e⟩
        exact e.tx
      · exact fun H5 e5 => ⟨_, _, _, _, _, _, _, rfl, exr⟩
      · rintro H5 i ⟨low, high⟩ x σ' H6 e5 hi ⟨x8, x9, x10, x11, x12, x13, x14, rfl, e56⟩ hx
        have e6 : Ex H1 H6 := ext e2 (ext e3 (ext e5 e56))
        have hmem : (low, high) ∈ bs := List.mem_of_getElem? hi
        obtain ⟨g1, g2⟩ := hgood bs rfl (low, high) hmem
        refine g_pair hx fun xa xb hxa hxb => ?_
        cases hxa
        cases hxb
        have hzl : (offers.zip marks).length < 1000 := by
          rw [List.length_zip]
          omega
        have hil : (innerF (low, high) offers marks).length < 1000 := Nat.lt_of_le_of_lt (List.length_filter_le _ _) hzl
        refine sq (s_asgN (i := 10) (ev_lc (r := dP dPI dI) (s := d3 dI dI dI) gm_pp (es_zipT (ev_var rfl ((dT dPI).ex e6 hvt)) (ev_var rfl ((dT dI).ex (ext e1 e6) hv4))) (by omega) (fun x : (Int × Int) × Int => decide (low ≤ x.1.1) && decide (x.1.1 ≤ high)) (fun x : (Int × Int) × Int => (x.1.1, x.1.2, x.2)) (fun d y H7 _ e hy => g_pp hy fun xa xb xc ha hb hc => ?_)) fun p H7 hp e7 hin => ?_)
        · exact ⟨rfl, rfl, et_test (ev_chainI (ev_var rfl rfl) (ev_var rfl ha) (ev_var rfl rfl)), fun _ => (en_tri (ev_var rfl ha) (ev_var rfl hb) (ev_var rfl hc)).ev⟩
        have hin2 : (dL (d3 dI dI dI)).is H7 (.ref p) ((innerF (low, high) offers marks).map fun x => (x.1.1, x.1.2, x.2)) := hin
        refine sq (s_asgN (i := 14) (ev_lcY (r := d3 dI dI dI) (s := dPI) gm_tri (es_lst (ev_var rfl hin2)) (by rw [List.length_map]; omega) (fun t : Int × Int × Int => (t.1, t.2.2)) (fun d y H8 _ e hy => g_tri hy fun xa xb xc ha hb hc => ?_)) fun q H8 hq e8 hmk => ?_)
        · exact ⟨rfl, rfl, (en_pair (ev_var rfl ha) (ev_var rfl hc)).ev⟩
        have hmk2 : (dL dPI).is H8 (.ref q) (markedF (low, high) offers marks) := by
          rw [List.map_map] at hmk
          exact hmk
        have hml : (markedF (low, high) offers marks).length < 1000 := by
          unfold markedF
          rw [List.length_map]; exact hil
        have hmne : markedF (low, high) offers marks ≠ [] := fun z => g1 (List.map_eq_nil_iff.mp z)
        obtain ⟨zs, m, hzm⟩ : ∃ zs m, markedF (low, high) offers marks = zs ++ [m] := by
          rcases nil_snoc (markedF (low, high) offers marks) with h | h
          · exact absurd h hmne
          · exact h
        have hlast : lastM (markedF (low, high) offers marks) = m.2 := by
          rw [hzm]
          simp [lastM]
        refine s_aug (x := ((bs.take i).map (boundB least offers marks)).sum) rfl (ev_I0 (ev_ix1 (ev_last (r := dPI) (as := zs) (m := m) (ev_var rfl (by rw [← hzm]; exact hmk2)))) (ev_sum (ev_lcY (r := d3 dI dI dI) (s := dI) gm_tri (es_lst (ev_var (i := 10) rfl ((dL (d3 dI dI dI)).ex e8 hin2))) (by rw [List.length_map]; omega) (fun t : Int × Int × Int => excF t.1 (t.2.2 - t.2.1) low least (markedF (low, high) offers marks)) (fun d y H9 hd e hy => ?_)).ev)) fun H9 e9 => ?_
        · refine g_tri hy fun xa xb xc ha hb hc => ⟨rfl, rfl, ?_⟩
          obtain ⟨z, hz, rfl⟩ := List.mem_map.mp hd
          exact ev_c5 (r := dI) (s := dI) (r3 := dI) (r4 := dI) (r5 := dL dPI) (f := excF) (ev_var rfl ha) (ev_I0 (ev_var rfl hc) (ev_var rfl hb)) (ev_var rfl rfl) (ev_var rfl rfl) (ev_var rfl ((dL dPI).ex e hmk2)) ⟨by omega, g2 z hz⟩
        refine ⟨some (.int low), some (.int high), some (.ref p), x11, x12, x13, some (.ref q), ?_, ext e56 (ext e7 (ext e8 e9))⟩
        have hb : boundB least offers marks (low, high) = m.2 - (((innerF (low, high) offers marks).map fun x => (x.1.1, x.1.2, x.2)).map (fun t : Int × Int × Int => excF t.1 (t.2.2 - t.2.1) low least (markedF (low, high) offers marks))).sum := by
          rw [List.map_map, ← hlast]
          rfl
        rw [take_snoc hi, List.map_append, List.sum_append, List.map_singleton, List.sum_singleton, hb]
        rfl
      · rintro H5 σ' H6 e5 ⟨x8, x9, x10, x11, x12, x13, x14, rfl, e56⟩
        rw [List.take_length]
        refine s_ret (ev_var (r := dI) rfl rfl) fun x H7 e7 hx => k x H7 (ext e1 (ext e2 (ext e3 (ext e5 (ext e56 e7))))) ?_
        rw [hck]
        exact hx
end
end Cu
set_option maxRecDepth 100000
set_option maxHeartbeats 4000000
/-! Cu, walk 7: best_marks. -/
namespace Cu
open PySem PySem.Spec PyProof.Rows L2
section
variable {α : Type}
theorem putI_len {l : List (Int × α)} {k : Int} {a : α} : (putI l k a).length ≤ l.length + 1 := by
  unfold putI
  split
  · rw [List.length_map]; omega
  · rw [List.length_append, List.length_singleton]; omega
theorem mergeI_len {more : List (Int × α)} : ∀ {l : List (Int × α)}, (mergeI l more).length ≤ l.length + more.length := by
  unfold mergeI
  induction more with
  | nil => intro l; exact Nat.le_refl _
  | cons p r ih =>
    intro l
    rw [List.foldl_cons]
    refine Nat.le_trans ih ?_
    have := putI_len (l := l) (k := p.1) (a := p.2)
    rw [List.length_cons]
    omega
end
def foundF (least : Int) (offers : List (Int × Int)) (bs : List (Int × Int)) : List (Int × Int) := bs.foldl (fun acc b => mergeI acc (waysF b least offers)) []
theorem foundF_len {least : Int} {offers : List (Int × Int)} (ho : offers.length ≤ 40) : ∀ {bs : List (Int × Int)} {acc : List (Int × Int)}, (bs.foldl (fun acc b => mergeI acc (waysF b least offers)) acc).length ≤ acc.length + bs.length * 40
  | [], acc => by simp
  | b :: bs, acc => by
    have h1 := foundF_len (least := least) ho (bs := bs) (acc := mergeI acc (waysF b least offers))
    have h2 := mergeI_len (l := acc) (more := waysF b least offers)
    have h3 := waysF_len (b := b) (least := least) (offers := offers)
    rw [List.foldl_cons, List.length_cons]
    omega
theorem foundF_look {least : Int} {offers : List (Int × Int)} (h : offers.Pairwise fun a b => a.1 < b.1) {x : Int} : ∀ {bs : List (Int × Int)} {acc : List (Int × Int)} {o : Option Int}, lookI acc x = o → lookI (bs.foldl (fun acc b => mergeI acc (waysF b least offers)) acc) x = bs.foldl (fun acc b => (findP (waysF b least offers) x).or acc) o
  | [], acc, o, e => e
  | b :: bs, acc, o, e => by
    rw [List.foldl_cons, List.foldl_cons]
    refine foundF_look h ?_
    rw [lookI_merge (waysF_nodup h), e]
    rfl
/-- {} made behind the heap H0 -/
def dFresh (H0 : Hp) : R Unit := ⟨fun H v _ => ∃ p, v = .ref p ∧ H0 p = none ∧ H p = some (.dK []), fun e ⟨p, h1, h2, h3⟩ => ⟨p, h1, h2, e p _ h3⟩⟩
theorem ev_dnew {σ : L2.St} {H H0 : Hp} (h : Ex H0 H) : Ev (dFresh H0) tDNewK σ H () := fun H1 e _ q p hp => q _ _ (exn hp) ⟨p, rfl, exf (ext h e) hp, upd_same⟩
section
variable {P : Program} {w : World} {K : PySem.W.Frag} {mg : Str → Option Value} {base : Heap}
theorem ok_best_marks (F : Df K mg "best_marks" st_best_marks P_best_marks) (T : Nb mg) {C : Addr} (c_cheapest : CalX P w K mg base 10 "cheapest" (spCheap C)) (c_tupled : Cal P w K mg base 4 "tupled" spTup) (c_filling : Cal P w K mg base 2 "filling" spFil)
    (c_ways_up : Cal P w K mg base 1 "ways_up" (sp3N dPI dI (dT dPI) (dD (dPW 50)) (fun _ _ offers => OffOk offers) waysF)) :
    Cal P w K mg base 11 "best_marks" (sp3 (dT dI) dI (dT dPI) (dT dI) (fun row least offers => RowOk row least ∧ OffOk offers ∧ ∃ p, cheapF row least offers = some p) marksF) := by
  refine F.cal sc_best_marks len3 (fun f cdv A outer s H vs Q E hr h => ?_)
  obtain ⟨v, v2, v3, row, least, offers, rfl, hv, hv2, hv3, ⟨hrow, hoff, pr, hpr⟩, k⟩ := h
  cases hv2
  refine ⟨_, (pss_cons (ps_expr (pe_calx c_cheapest (hr.mono (by decide)) (by rfl) (pa_cons (pv 0) (pa_cons (pv 1) (pa_cons (pv 2) pa_nil)))))
    (pss_cons (ps_asg (pe_tup (pa_cons (pe_cal c_tupled (hr.mono (by decide)) (by rfl) (pa_cons (pv 2) pa_nil)) (pa_cons pe_dnewK pa_nil))) (k_gtup (K := K) (by rfl) (by rfl) (pgs_cons (pg_name (i := 3) sc_best_marks.nd rfl (by first | exact Or.inl rfl | exact Or.inr rfl)) (pgs_cons (pg_name (i := 4) sc_best_marks.nd rfl (by first | exact Or.inl rfl | exact Or.inr rfl)) pgs_nil))))
    (pss_cons (ps_for PassesOwn.never (by rfl) (k_pitup (K := K) (by rfl) (k_orT (K := K) (by rfl) (pe_cal c_filling (hr.mono (by decide)) (by rfl) (pa_cons (pv 0) (pa_cons (pv 1) pa_nil))) (pe_one (pe_tup pa_nil)))) (pg_name (i := 5) sc_best_marks.nd rfl (by first | exact Or.inl rfl | exact Or.inr rfl))
    (pss_cons (ps_set (i := 6) sc_best_marks.nd rfl (by first | exact Or.inl rfl | exact Or.inr rfl) (pe_cal c_ways_up (hr.mono (by decide)) (by rfl) (pa_cons (pv 5) (pa_cons (pv 1) (pa_cons (pv 3) pa_nil)))))
    (pss_one (ps_expr (pe_bm PySem.F.plainAttrs_dict PySem.F.slot_dict_update PySem.F.type_dict_update mt_update (pv 4) (pa_cons (pe_lock (pe_dc (own := [("limit", 7)]) (g := (gName 7)) (tt := tYes) (by rfl) sc_best_marks.nd (pi_keys (pv 6)) (blkOk_by (own := [("limit", 7)]) (N := N_best_marks) (sc := defScope st_best_marks) (by decide +kernel)) (fun _ _ _ _ _ => (pg_name (i := 7) sc_best_marks.nd rfl (by first | exact Or.inl rfl | exact Or.inr rfl))) (fun _ _ _ _ _ => pts_nil) (fun _ _ _ _ _ => (pv 7)) (fun _ _ _ _ _ => (pe_ix (k_ixT (K := K) (by rfl)) (pe_dget (hu_of hr) (pv 6) (pv 7) (fun _ _ => rfl)) pe_int (fun _ _ => rfl))))) pa_nil))))))
    (pss_one (ps_ret (pe_callTy (k_tupO (K := K) (by rfl)) (by rfl) T.tuple bt_tuple (pa_cons (pe_lc (own := [("limit", 7), ("price", 8)]) (g := (gTup K 2 (gCons (gName 7) (gCons (gName 8) gNil)))) (tt := tYes) (by rfl) sc_best_marks.nd (k_pitup (K := K) (by rfl) (pv 3)) (blkOk_by (own := [("limit", 7), ("price", 8)]) (N := N_best_marks) (sc := defScope st_best_marks) (by decide +kernel)) (fun _ _ _ _ _ => (k_gtup (K := K) (by rfl) (by rfl) (pgs_cons (pg_name (i := 7) sc_best_marks.nd rfl (by first | exact Or.inl rfl | exact Or.inr rfl)) (pgs_cons (pg_name (i := 8) sc_best_marks.nd rfl (by first | exact Or.inl rfl | exact Or.inr rfl)) pgs_nil)))) (fun _ _ _ _ _ => pts_nil) (fun _ _ _ _ _ => (pe_dget2 (hu_of hr) (pv 4) (pv 7) pe_int ⟨by rfl, by rfl, by rfl, by rfl⟩))) pa_nil))))))), ?_⟩
  have hrl := hrow.len
  have hol := hoff.len
  refine sq (s_drop (ev_cheap (ev_var rfl hv) (ev_var rfl rfl) (ev_var rfl hv3) hrow hoff hpr) fun H1 e1 => ?_)
  refine sq (s_asgP (en_pair (r := dT dPI) (s := dFresh H) (b := ()) (ev_c1 (f := fun x => x) (ev_var rfl ((dT dPI).ex e1 hv3)) (by omega)) (ev_dnew e1)).ev fun vt vd H2 e2 hvt hvd => ?_)
  obtain ⟨p, rfl, hp0, hd⟩ := hvd
  have hbl : (blocksOf (fillF row least)).length ≤ 50 := by
    have := hrow.gap
    cases q : fillF row least with
    | none => simp [blocksOf]
    | some bs => exact (this bs q).2
  refine sq (s_forT (r := dPI) (as := blocksOf (fillF row least)) (ev_orU (ev_c2 (f := fillF) (ev_var rfl (dQ_t ((dT dI).ex (ext e1 e2) hv))) (ev_var rfl rfl) ⟨by omega, hrow.sm⟩)) (P := fun H5 i σ' H' => ∃ x5 x6 x7 x8, σ' = [some v, some (.int least), some v3, some vt, some (.ref p), x5, x6, x7, x8] ∧
    DictAt dI H' p (foundF least offers ((blocksOf (fillF row least)).take i)) ∧ Ex H H' ∧ TX H5 H') ?_ ?_ ?_ ?_)
  · rintro H5 i σ' H' ⟨_, _, _, _, _, _, _, e⟩
    exact e
  · intro H5 e5
    exact ⟨_, _, _, _, rfl, (dict0 hd).ex e5, ext e1 (ext e2 e5), txr⟩
  · rintro H5 i b x σ' H6 e5 hi ⟨x5, x6, x7, x8, rfl, hd, eH, tx⟩ hx
    have hil := lt_of_get hi
    have hvt6 : (dT dPI).is H6 vt offers := TR.tx tx ((dT dPI).ex e5 hvt)
    refine gn ?_
    refine sq (s_asgN (i := 6) (en_c3 (f := waysF) (ev_var rfl hx) (ev_var rfl rfl) (ev_var rfl hvt6) hoff) fun q H7 hq e7 hw => ?_)
    obtain ⟨q', eq', hw⟩ := hw
    cases eq'
    have hwl := waysF_len (b := b) (least := least) (offers := offers)
    have hfl : (foundF least offers ((blocksOf (fillF row least)).take i)).length ≤ i * 40 := by
      have h1 := foundF_len (least := least) (offers := offers) hol (bs := (blocksOf (fillF row least)).take i) (acc := [])
      rw [List.length_take] at h1
      unfold foundF
      simp only [List.length_nil] at h1
      omega
    refine s_dupd (r := dI) (hd.ex e7) (ev_ref rfl) ((ev_lockDc (r := dPW 50) (s := dI) gm_name hw rfl (by omega) (waysF_nodup hoff.up) (fun d => d.2) (fun d H8 hdm t8 hR => ?_)).to (List.map_id' _)) (by omega) fun H8 o e8 _ hd8 t8 => ?_
    · obtain ⟨vd, ⟨n, _, hpw⟩, hget⟩ := dget_at hR (lookI_of_mem (waysF_nodup hoff.up) hdm)
      exact ⟨rfl, rfl, ev_var rfl rfl, ev_ix0 (Ev.ofV (hget _ _ _ (ev_ref rfl) (ev_var rfl rfl)) hpw)⟩
    · refine ⟨_, _, _, _, rfl, ?_, exm (ext eH (ext e7 e8)) hp0, txt tx (txt e7.tx (txt e8.tx t8))⟩
      unfold foundF
      rw [fold_snoc hi]
      exact hd8
  · rintro H5 σ' H6 e5 ⟨x5, x6, x7, x8, rfl, hd, eH, tx⟩
    rw [List.take_length] at hd
    have hvt6 : (dT dPI).is H6 vt offers := TR.tx tx ((dT dPI).ex e5 hvt)
    refine s_ret (a := marksF row least offers) (en_tupleL ((ev_lcY (r := dPI) (s := dI) gm_pair (es_tup (ev_var rfl hvt6)) (by omega) (fun o : Int × Int => (lookI (foundF least offers (blocksOf (fillF row least))) o.1).getD 0) (fun d x H7 _ e hx => g_pair hx fun xa xb ha hb => ?_)).to ?_).ev).ev fun x H7 e7 hx => k x H7 (ext eH e7) hx
    · exact ⟨rfl, rfl, ev_dget2 (r := dI) (ev_ref rfl) (ev_var rfl ha) ev_int (hd.ex e).rd⟩
    · unfold marksF
      apply List.map_congr_left
      intro o _
      unfold foundF
      rw [foundF_look hoff.up (o := none) rfl]
      rfl
end
end Cu
set_option maxRecDepth 100000
set_option maxHeartbeats 4000000
/-! Cu, walk 8: cheapest. -/
namespace Cu
open PySem PySem.Spec PyProof.Rows L2
abbrev st_cheapest : Stmt := top 25
abbrev N_cheapest : List Str := ["row", "least", "offers", "told", "blocks", "small", "limit", "price", "total", "bought", "block", "ways", "limits"]
abbrev P_cheapest : List Str := ["row", "least", "offers"]
theorem sc_cheapest : FnScope N_cheapest P_cheapest (defScope st_cheapest) := ⟨rfl, rfl, rfl, by decide +kernel, rfl, by decide +kernel, by decide +kernel⟩
section
variable {P : Program} {w : World} {K : PySem.W.Frag} {mg : Str → Option Value} {base : Heap}
theorem Df.calX {x : Str} {st : Stmt} {N ps : List Str} {k : Nat} {sp : Sp} (D : Df K mg x st ps) (S : FnScope N ps (defScope st)) (len : ∀ vs H Q E, sp vs H Q E → vs.length = ps.length)
    (hbody : ∀ (f : Addr) (cdv : Value) (A : Around) (outer : List Env) (s : Shared) (H : Hp) (vs : List V) (Q : VK) (E : XK), Room k (A.deeper (envOfC x (defScope st) s.heap.objs.size f cdv)) → sp vs H Q E →
      ∃ t, PSs (cxOf (L2.CX P w) P w K mg base N x (defScope st) f cdv A outer s H E) (defBody st) t ∧ t { nx := fun _ H' => Q .non H', rt := Q } (start N vs) H) : CalX P w K mg base (k + 1) x sp := by
  obtain ⟨f, fd, F, hm, hb⟩ := D.ex
  exact ⟨f, fd, ps, F.okX S len (hbody f), hm, F.kp, hb⟩
instance : TR dTp := ⟨fun e h => TR.tx (r := dT dI) e h⟩
theorem lenCheap {C : Addr} (vs : List V) (H : Hp) (Q : VK) (E : XK) (h : spCheap C vs H Q E) : vs.length = 3 := by obtain ⟨v1, v2, v3, row, least, offers, rfl, _⟩ := h; rfl
theorem ok_cheapest (F : Df K mg "cheapest" st_cheapest P_cheapest) (T : Nb mg) {C fN cc cda : Addr} {fd : FuncData} (TN : Nw P K C fN cc cda fd) (hsup : mg "super" = none) (bN : Binds K fd ["self"] []) (mgN : mg "NoWay" = some (.ref C))
    (c_tupled : Cal P w K mg base 4 "tupled" spTup) (c_filling : Cal P w K mg base 2 "filling" spFil)
    (c_ways_up : Cal P w K mg base 1 "ways_up" (sp3N dPI dI (dT dPI) (dD (dPW 50)) (fun _ _ offers => OffOk offers) waysF)) :
    CalX P w K mg base 10 "cheapest" (spCheap C) := by
  refine F.calX sc_cheapest lenCheap (fun f cdv A outer s H vs Q E hr h => ?_)
  obtain ⟨v, v2, v3, row, least, offers, rfl, hv, hv2, hv3, ⟨hrow, hoff⟩, k⟩ := h
  cases hv2
  refine ⟨_, (pss_cons (ps_par (i := 3) (j := 4) (by rfl) sc_cheapest.nd rfl rfl (by decide) rfl rfl (pa_cons (pe_cal c_tupled (hr.mono (by decide)) (by rfl) (pa_cons (pv 2) pa_nil)) (pa_cons (pe_cal c_filling (hr.mono (by decide)) (by rfl) (pa_cons (pv 0) (pa_cons (pv 1) pa_nil))) pa_nil)) (by rfl))
    (pss_cons (ps_if (pt_cmpR op_isN' (pv 4) pe_non (nomark _)) (pss_cons (ps_setLc (i := 5) (own := [("limit", 6), ("price", 7)]) (g := (gTup K 2 (gCons (gName 6) (gCons (gName 7) gNil)))) (by rfl) sc_cheapest.nd rfl rfl (sw_true rfl rfl rfl (by decide +kernel)) (k_pitup (K := K) (by rfl) (pv 3)) (blkOk_by (own := [("limit", 6), ("price", 7)]) (N := N_cheapest) (sc := defScope st_cheapest) (by decide +kernel)) (fun _ _ _ _ _ => (k_gtup (K := K) (by rfl) (by rfl) (pgs_cons (pg_name (i := 6) sc_cheapest.nd rfl (by first | exact Or.inl rfl | exact Or.inr rfl)) (pgs_cons (pg_name (i := 7) sc_cheapest.nd rfl (by first | exact Or.inl rfl | exact Or.inr rfl)) pgs_nil)))) (fun _ _ _ _ _ => (pts_one (pt_cmpR op_lt (pv 6) (pe_op op_mulW pe_int (pv 1)) (nomark _)))) (fun _ _ _ _ _ => (pe_tup (pa_cons (pv 7) (pa_cons (pe_tup (pa_cons (pv 6) pa_nil)) pa_nil)))))
    (pss_cons (ps_if (pt_cmpR op_eq (pe_callB (k_len (K := K) (by rfl)) (by rfl) T.len bt_len (pa_cons (pv 5) pa_nil)) pe_int (nomark _)) (pss_one (ps_raise (by rfl) (takes_of rfl rfl rfl rfl) (pmk_noway TN hsup (hr.mono (by decide)) bN (by rfl) mgN))) pss_nil)
    (pss_one (ps_ret (pe_callB (k_minD (K := K) (by rfl) hr.units (by rfl)) (by rfl) T.min bt_min (pa_cons (pv 5) pa_nil)))))) pss_nil)
    (pss_cons (ps_asg (pe_tup (pa_cons pe_int (pa_cons (pe_tup pa_nil) pa_nil))) (k_gtup (K := K) (by rfl) (by rfl) (pgs_cons (pg_name (i := 8) sc_cheapest.nd rfl (by first | exact Or.inl rfl | exact Or.inr rfl)) (pgs_cons (pg_name (i := 9) sc_cheapest.nd rfl (by first | exact Or.inl rfl | exact Or.inr rfl)) pgs_nil))))
    (pss_cons (ps_for (passes_of rfl) (by rfl) (k_pitup (K := K) (by rfl) (pv 4)) (pg_name (i := 10) sc_cheapest.nd rfl (by first | exact Or.inl rfl | exact Or.inr rfl))
    (pss_cons (ps_set (i := 11) sc_cheapest.nd rfl (by first | exact Or.inl rfl | exact Or.inr rfl) (pe_cal c_ways_up (hr.mono (by decide)) (by rfl) (pa_cons (pv 10) (pa_cons (pv 1) (pa_cons (pv 3) pa_nil)))))
    (pss_cons (ps_if (pt_cmp (pc_dnotin (hu_of hr) (pe_ix (k_ixT (K := K) (by rfl)) (pv 10) pe_int (fun _ _ => rfl)) (pv 11)) (by rfl)) (pss_one (ps_raise (by rfl) (takes_of rfl rfl rfl rfl) (pmk_noway TN hsup (hr.mono (by decide)) bN (by rfl) mgN))) pss_nil)
    (pss_cons (ps_asg (pe_dget (hu_of hr) (pv 11) (pe_ix (k_ixT (K := K) (by rfl)) (pv 10) pe_int (fun _ _ => rfl)) (fun _ _ => rfl)) (k_gtup (K := K) (by rfl) (by rfl) (pgs_cons (pg_name (i := 7) sc_cheapest.nd rfl (by first | exact Or.inl rfl | exact Or.inr rfl)) (pgs_cons (pg_name (i := 12) sc_cheapest.nd rfl (by first | exact Or.inl rfl | exact Or.inr rfl)) pgs_nil))))
    (pss_one (ps_par (i := 8) (j := 9) (by rfl) sc_cheapest.nd rfl rfl (by decide) rfl rfl (pa_cons (pe_op op_add (pv 8) (pv 7)) (pa_cons (pe_op (k_catA (K := K) (by rfl)) (pv 12) (pv 9)) pa_nil)) (by rfl)))))))
    (pss_one (ps_ret (pe_tup (pa_cons (pv 8) (pa_cons (pv 9) pa_nil))))))))), ?_⟩
  have hrl := hrow.len
  have hol := hoff.len
  refine sq (s_par (ev_c1 (f := fun x => x) (ev_var rfl hv3) (by omega)) (ev_c2 (f := fillF) (ev_var rfl (dQ_t hv)) (ev_var rfl rfl) ⟨by omega, hrow.sm⟩) fun vt vb H1 e1 hvt hvb => ?_)
  have hck : cheapF row least offers = match fillF row least with
    | none => minL (smallF least offers)
    | some bs => priceB least offers bs := rfl
  have hgap := hrow.gap
  rw [hck] at k
  clear hck
  generalize fillF row least = fo at hvb k hgap
  refine sq (s_if (et_test (ev_isN (ev_var rfl hvb))) (fun hn H2 e2 => ?_) (fun hn H2 e2 => ?_))
  · cases fo with
    | some bs => cases hn
    | none =>
      have hvt2 := (dT dPI).ex e2 hvt
      refine sq (s_asgN (i := 5) (ev_lc (r := dPI) (s := dP dI dTp) gm_pair (es_tup (ev_var rfl hvt2)) (by omega) (fun o : Int × Int => decide (o.1 < 2 * least)) (fun o : Int × Int => ((o.2, ⟨[o.1]⟩) : Int × PySem.W.Tup Int)) (fun d x H3 _ e hx => g_pair hx fun xa xb ha hb => ?_)) fun p H3 hp e3 hl => ?_)
      · exact ⟨rfl, rfl, et_test (ev_B0 (ev_var rfl ha) (ev_mulW ev_int (ev_var rfl rfl) (by unfold Sm; decide) hrow.sm)), fun _ => (en_pair (ev_var rfl hb) (((en_tup (r := dI) (ea_cons (ev_var rfl ha) ea_nil) (by simp)).ev).re fun _ _ h => h)).ev⟩
      · have hsm : smallF least offers = ((offers.filter fun o : Int × Int => decide (o.1 < 2 * least)).map fun o : Int × Int => ((o.2, ⟨[o.1]⟩) : Int × PySem.W.Tup Int)).map (·.1) := by
          unfold smallF
          rw [List.map_map]
          rfl
        have hone : ∀ z ∈ (offers.filter fun o : Int × Int => decide (o.1 < 2 * least)).map (fun o : Int × Int => ((o.2, ⟨[o.1]⟩) : Int × PySem.W.Tup Int)), z.2.items.length = 1 := fun z hz => by
          obtain ⟨o, _, rfl⟩ := List.mem_map.mp hz
          rfl
        dsimp only at k
        generalize ((offers.filter fun o : Int × Int => decide (o.1 < 2 * least)).map fun o : Int × Int => ((o.2, ⟨[o.1]⟩) : Int × PySem.W.Tup Int)) = small at hl hsm hone
        cases small with
        | nil =>
          rw [hsm] at k
          dsimp only
          refine sq (s_if (b := true) ((et_test (ev_eqI (ev_lenL (r := dP dI dTp) (ev_var rfl hl)) ev_int)).to (by simp)) (fun _ H4 e4 => ?_) (fun z => nomatch z))
          exact k H4 (ext e1 (ext e2 (ext e3 e4)))
        | cons z zs =>
          dsimp only
          refine sq (s_if (b := false) ((et_test (ev_eqI (ev_lenL (r := dP dI dTp) (ev_var rfl hl)) ev_int)).to (by simp <;> omega)) (fun z => nomatch z) (fun _ H4 e4 => ?_))
          obtain ⟨m1, m2⟩ := minOf_fst zs z
          have hmin := minL_of (l := (z :: zs).map (·.1)) (m := (PySem.W.minOf z zs).1) (List.mem_map_of_mem (f := (·.1)) m1) fun x hx => by
            obtain ⟨y, hy, rfl⟩ := List.mem_map.mp hx
            exact m2 y hy
          rw [hsm, hmin] at k
          refine snx ?_
          dsimp only
          refine s_ret (a := (PySem.W.minOf z zs)) (r := dP dI dTp) (ev_minQ (r := dP dI dTp) pyd_PT (by decide) (Ev.ql (ev_var rfl ((dL (dP dI dTp)).ex e4 hl)))) fun x H5 e5 hx => k x H5 (ext e1 (ext e2 (ext e3 (ext e4 e5)))) ?_
          obtain ⟨q, xa, xb, h1, h2, h3, h4⟩ := hx
          exact ⟨_, by rw [hone _ m1]; decide, q, xa, xb, h1, h2, h3, h4⟩
  · cases fo with
    | none => cases hn
    | some bs =>
      obtain ⟨g1, g2⟩ := hgap bs rfl
      dsimp only at k
      refine snx ?_
      dsimp only
      have hbs : (dT dPI).is H2 vb bs := ((dO (dT dPI)).ex e2 hvb).2
      refine sq (s_asgP (en_pair (r := dI) (s := dT dI) (a := 0) (b := []) ev_int (en_tup (r := dI) ea_nil (Nat.zero_le _)).ev).ev fun xt xb H3 e3 ht hbt => ?_)
      cases ht
      have e03 : Ex H H3 := ext e1 (ext e2 e3)
      refine sq (s_forT (r := dPI) (as := bs) (ev_var rfl ((dT dPI).ex e3 hbs)) (P := fun H5 i σ' H' => ∃ (x6 x7 x10 x11 x12 : Option V) (total : Int) (bought : List Int) (vbt : V), σ' = [some v, some (.int least), some v3, some vt, some vb, none, x6, x7, some (.int total), some vbt, x10, x11, x12] ∧
        (dT dI).is H' vbt bought ∧ bought.length ≤ i * 50 ∧ priceB least offers bs = (priceB least offers (bs.drop i)).map (total + ·) ∧ Ex H5 H') ?_ ?_ ?_ ?_)
      · rintro H5 i σ' H' ⟨_, _, _, _, _, _, _, _, _, _, _, _, e⟩
        exact e.tx
      · intro H5 e5
        refine ⟨_, _, _, _, _, 0, [], xb, rfl, (dT dI).ex e5 hbt, Nat.zero_le _, ?_, exr⟩
        rw [List.drop_zero]
        cases priceB least offers bs <;> simp
      · rintro H5 i b x σ' H6 e5 hi ⟨x6, x7, x10, x11, x12, total, bought, vbt, rfl, hbt6, hbl, hinv, e56⟩ hx
        have hil := lt_of_get hi
        have e06 : Ex H H6 := ext e03 (ext e5 e56)
        have hvt6 : (dT dPI).is H6 vt offers := (dT dPI).ex (ext e2 (ext e3 (ext e5 e56))) hvt
        rw [drop_cons hi] at hinv
        have hpb : priceB least offers (b :: bs.drop (i + 1)) = match findP (waysF b least offers) b.2 with
          | none => none
          | some p => (priceB least offers (bs.drop (i + 1))).map (p + ·) := rfl
        refine gn ?_
        refine sq (s_asgN (i := 11) (en_c3 (f := waysF) (ev_var rfl hx) (ev_var rfl rfl) (ev_var rfl hvt6) hoff) fun q H7 hq e7 hw => ?_)
        obtain ⟨q', eq', hw⟩ := hw
        cases eq'
        have hb2 : ∀ {σ : L2.St} {H : Hp} {te : TE}, Ev dPI te σ H b → Ev dI (tOp (rIxT K) te (tC (.int 1))) σ H b.2 := fun h => ev_ix1 h
        have hlk : lookI (waysF b least offers) b.2 = findP (waysF b least offers) b.2 := rfl
        cases hfp : findP (waysF b least offers) b.2 with
        | none =>
          rw [hpb, hfp] at hinv
          rw [hinv] at k
          dsimp only
          refine sq (s_if (b := true) ((et_B (ev_dnotin (r := dPW 50) (k := b.2) (hb2 (ev_var rfl (dPI.ex e7 hx))) (ev_ref rfl) hw.rd)).to (by rw [hlk, hfp]; rfl)) (fun _ H8 e8 => ?_) (fun z => nomatch z))
          exact k H8 (ext e06 (ext e7 e8))
        | some p =>
          rw [hpb, hfp] at hinv
          dsimp only at hinv
          dsimp only
          refine sq (s_if (b := false) ((et_B (ev_dnotin (r := dPW 50) (k := b.2) (hb2 (ev_var rfl (dPI.ex e7 hx))) (ev_ref rfl) hw.rd)).to (by rw [hlk, hfp]; rfl)) (fun z => nomatch z) (fun _ H8 e8 => ?_))
          refine snx ?_
          dsimp only
          obtain ⟨vd, ⟨n, hn50, hpw⟩, hget⟩ := dget_at (k := b.2) (hw.ex e8).rd (hlk.trans hfp)
          refine sq (s_asgP (Ev.ofV (r := dP dI (dT dI)) (a := (p, n)) (hget _ _ _ (ev_ref rfl) (hb2 (ev_var rfl (dPI.ex (ext e7 e8) hx)))) hpw) fun xp xl H9 e9 hxp hxl => ?_)
          cases hxp
          have e69 : Ex H6 H9 := ext e7 (ext e8 e9)
          refine s_par (ev_I0 (g := fun i j => i + j) (ev_var rfl rfl) (ev_var rfl rfl)) (ev_catT (as := n) (bs := bought) (ev_var rfl hxl) (ev_var rfl ((dT dI).ex e69 hbt6)) (by omega)) fun y z H10 e10 hy hz => ?_
          cases hy
          refine ⟨x6, some (.int p), some x, some (.ref q), some xl, total + p, n ++ bought, z, rfl, hz, by rw [List.length_append]; omega, ?_, ext e56 (ext e69 e10)⟩
          rw [hinv]
          cases priceB least offers (bs.drop (i + 1)) with
          | none => rfl
          | some y =>
            show some (total + (p + y)) = some (total + p + y)
            congr 1
            omega
      · rintro H5 σ' H6 e5 ⟨x6, x7, x10, x11, x12, total, bought, vbt, rfl, hbt6, hbl, hinv, e56⟩
        rw [List.drop_length] at hinv
        have e9 : priceB least offers bs = some (total + 0) := hinv
        rw [e9] at k
        refine s_ret (en_pair (r := dI) (s := dT dI) (a := total) (b := bought) (ev_var rfl rfl) (ev_var rfl hbt6)).ev fun x H7 e7 hx => k x H7 (ext e03 (ext e5 (ext e56 e7))) ⟨bought, by omega, ?_⟩
        rw [Int.add_zero]
        exact hx
end
end Cu
set_option maxRecDepth 100000
set_option maxHeartbeats 4000000
/-! Cu, walk 9: _law_heard. -/
namespace Cu
open PySem PySem.Spec PyProof.Rows L2
abbrev st__law_heard : Stmt := top 39
abbrev N__law_heard : List Str := ["_law_way", "_law_low", "_law_deals_here", "error", "_law_got", "_law_caught"]
abbrev P__law_heard : List Str := ["_law_way", "_law_low", "_law_deals_here"]
theorem sc__law_heard : FnScope N__law_heard P__law_heard (defScope st__law_heard) := ⟨rfl, rfl, rfl, by decide +kernel, rfl, by decide +kernel, by decide +kernel⟩
/-- f(..), what it lets out taken with the slots as they stand -/
def tCallS (sp : Sp) (W : WX) (t : TA) : TE := fun σ H Q => t σ H fun vs H1 => sp vs H1 Q (fun cls d H' => W cls d σ H')
theorem pe_calS {X : Cx} {W : WX} {k : Nat} {x : Str} {sp : Sp} {p pos : Pos} {e : Expr} {es : List Expr} {t : TA} (c : CalX X.prog X.w X.K X.mg X.base k x sp) (tk : Takes X W) (hr : Room k X.A) (hg : Gl X x) (ha : PA X (e :: es) t)
    (hdb : (x == ("__debug__" : Str)) = false := by decide) (he : starEach (e :: es) X.env = (false, eval e X.env) :: starEach es X.env := by rfl) (hpl : (backTo pos (starEach es X.env)).any (·.1) = false := by rfl) :
    PE X (.Call (.Name x p) (e :: es) [] pos) (tCallS sp W t) := by
  obtain ⟨f, fd, ps, F, hm, hk, hb⟩ := c.ex
  refine ⟨fun pins s σ H Q I h => ?_⟩
  refine wpAny_Call_Name_kw (ld_glob I hg hm ?_ hdb)
  refine PySem.W.callWith_K (h₀ := X.base) I.ok.mod.kin hk (thn (ha.run pos pins s σ H _ I h) fun us s1 ⟨vs, H1, I1, r, q⟩ => ⟨I1.kIn, ?_⟩) he hpl
  have hl : us.length = ps.length := by rw [← r.length]; exact F.len _ _ _ _ q
  refine wpAny_call (codeAny_mono (F.run X.A X.stack s1 H1 ⟨us, []⟩ us vs Q (fun cls d H' => W cls d σ H') hr I1.env0 (by have := hb s1 us I1.kIn (by rw [List.append_nil]; exact hl); rw [List.append_nil] at this; exact this) r q) fun r s' hq => ?_)
  cases r with
  | error e => exact tk e s' (XE.of_call I1 (fun cls d H' h => h) hq)
  | ok fl =>
    cases fl with
    | ret u => exact I1.after hq
    | next => exact False.elim hq
    | brk => exact False.elim hq
    | cont => exact False.elim hq
theorem s_asgS {σ : L2.St} {H : Hp} {D : Ends} {sp : Sp} {W : WX} {ta : TA} {P : Hp → List V → Prop} {i : Nat} (h : EvP ta σ H P) (k : ∀ vs H1, Ex H H1 → P H1 vs → sp vs H1 (fun x H2 => D.nx (σ.set i (some x)) H2) (fun cls d H' => W cls d σ H')) : tAsg (tCallS sp W ta) (gName i) D σ H :=
  h H exr _ fun vs H1 e hp => k vs H1 e hp
/-- what _law_heard gives: a price (with its tuple), or 'no way' -/
def dHd : R (Option Int) := ⟨fun H v o => match o with
    | none => v = .str "no way"
    | some p => (dPW 5000).is H v p,
  fun {H H' v o} e h => match o, h with
    | none, h => h
    | some p, h => (dPW 5000).ex e h⟩
section
variable {P : Program} {w : World} {K : PySem.W.Frag} {mg : Str → Option Value} {base : Heap}
theorem ok_law_heard (F : Df K mg "_law_heard" st__law_heard P__law_heard) (T : Nb mg) {C : Addr} (mgN : mg "NoWay" = some (.ref C)) (EC : ExcC K C) (hx : PySem.W.exmOne K (.ref C) (.ref C) = some true) (hL : PySem.W.kitOne K (.ref C) (.type "LookupError") = some true)
    (c_cheapest : CalX P w K mg base 10 "cheapest" (spCheap C)) : Cal P w K mg base 11 "_law_heard" (sp3 (dT dI) dI (dT dPI) dHd (fun row least offers => RowOk row least ∧ OffOk offers) cheapF) := by
  refine F.cal sc__law_heard len3 (fun f cdv A outer s H vs Q E hr h => ?_)
  obtain ⟨v, v2, v3, row, least, offers, rfl, hv, hv2, hv3, ⟨hrow, hoff⟩, k⟩ := h
  cases hv2
  refine ⟨_, (pss_cons (ps_asg (pe_tup (pa_cons pe_non (pa_cons pe_non pa_nil))) (k_gtup (K := K) (by rfl) (by rfl) (pgs_cons (pg_name (i := 4) sc__law_heard.nd rfl (by first | exact Or.inl rfl | exact Or.inr rfl)) (pgs_cons (pg_name (i := 5) sc__law_heard.nd rfl (by first | exact Or.inl rfl | exact Or.inr rfl)) pgs_nil))))
    (pss_cons (ps_try_keep (i := 3) rfl rfl rfl sc__law_heard.nd rfl rfl ⟨by rfl, by decide, .inl mgN⟩ takes0 (fun W pn xe tkW _ => (pss_one (ps_set (i := 4) sc__law_heard.nd rfl (by first | exact Or.inl rfl | exact Or.inr rfl) (pe_calS c_cheapest tkW (hr.mono (by decide)) (by rfl) (pa_cons (pv 0) (pa_cons (pv 1) (pa_cons (pv 2) pa_nil))))))) (fun a oe cls d pn _ _ => (pss_one (ps_set (i := 5) sc__law_heard.nd rfl (by first | exact Or.inl rfl | exact Or.inr rfl) (pv 3)))))
    (pss_cons (ps_if (pt_cmpR op_isN' (pv 5) pe_non (nomark _)) (pss_one (ps_ret (pv 4))) pss_nil)
    (pss_one (ps_ret (pe_ifExp (pt_val (pe_callB call_isX (by rfl) T.isinstance bt_isinstance (pa_cons (pv 5) (pa_cons (pe_bltn (v := .ty "LookupError") (u := .type "LookupError") (by rfl) T.LookupError bt_LookupError rfl) pa_nil)))) pe_str pe_str)))))), ?_⟩
  refine sq (s_asgP (en_pair (r := dV) (s := dV) (ev_con (v := .non)) (ev_con (v := .non))).ev fun x y H1 e1 hx1 hy1 => ?_)
  cases hx1
  cases hy1
  dsimp only
  refine sq ?_
  dsimp only
  have h3a := ep3 (σ := [some v, some (.int least), some v3, none, some .non, some .non]) (H := H1) (ta := tVar 0) (tb := tVar 1) (t3 := tVar 2) (ev_var (i := 0) rfl ((dT dI).ex e1 hv)) (ev_var (r := dI) (a := least) (i := 1) rfl rfl) (ev_var (i := 2) rfl ((dT dPI).ex e1 hv3))
  refine s_asgS h3a fun vs H2 e2 hvs => ?_
  obtain ⟨w1, w2, w3, ew, h1, h2, h3⟩ := hvs
  refine ⟨w1, w2, w3, row, least, offers, ew, h1, h2, h3, ⟨hrow, hoff⟩, ?_⟩
  cases hc : cheapF row least offers with
  | some p =>
    rw [hc] at k
    intro x H3 e3 hp
    refine gn ?_
    dsimp only
    refine sq (s_if (b := true) (et_test (ev_isN (r := dV) (o := none) (ev_var rfl rfl))) (fun _ H4 e4 => ?_) (fun z => nomatch z))
    exact s_ret (ev_var (r := dPW 5000) (a := p) rfl ((dPW 5000).ex e4 hp)) fun x H5 e5 hx5 => k x H5 (ext e1 (ext e2 (ext e3 (ext e4 e5)))) hx5
  | none =>
    rw [hc] at k
    intro H3 e3
    refine ⟨true, hx, fun _ => ⟨rfl, fun a na => ?_⟩, fun z => nomatch z⟩
    refine (ev_ref (σ := [some v, some (.int least), some v3, some (.ref a), some .non, some .non]) (i := 3) (v := .ref a) rfl : Ev dV _ _ H3 _) H3 exr _ fun y H4 e4 hy => ?_
    cases hy
    refine gn ?_
    dsimp only
    have hak : upd H4 a (exk a (.ref C)) a = some (exk a (.ref C)) := upd_same
    have eH : Ex H3 (upd H4 a (exk a (.ref C))) := exm e4 na
    refine sq (s_if (b := false) (et_test (ev_isN (r := dV) (o := some (.ref a)) (ev_var rfl ⟨fun z => (nomatch z), rfl⟩))) (fun z => nomatch z) (fun _ H5 e5 => ?_))
    refine snx ?_
    dsimp only
    have hisx : Ev dB (tCB (rIsX K) (tCons (tVar 5) (tCons (tC (.ty "LookupError")) tNil))) [some v, some (.int least), some v3, none, some .non, some (.ref a)] H5 true := ev_cb (ep2 (ev_ref (i := 5) (v := .ref a) rfl) (ev_con (v := .ty "LookupError"))) fun vs H6 e6 ⟨x1, x2, evs, hx1, hx2⟩ Q' q => by
      cases hx1
      cases hx2
      exact ⟨a, C, _, _, true, evs, e6 a _ (e5 a _ hak), EC, .ty "LookupError", hL, q _ H6 exr rfl⟩
    have hno : ∀ σ H, Ev dHd (tC (.str "no way")) σ H none := fun σ H H1 e Q q => q _ H1 exr rfl
    refine s_ret (r := dHd) (a := none) (ev_if (b := true) (et_B hisx) (fun _ => hno _ _) (fun z => nomatch z)) fun x H6 e6 hx6 => ?_
    exact k x H6 (ext e1 (ext e2 (ext e3 (ext eH (ext e5 e6))))) hx6
end
end Cu
set_option maxRecDepth 100000
set_option maxHeartbeats 4000000
/-! Cu, walk 10: the draws. -/
namespace Cu
open PySem PySem.Spec PyProof.Rows L2
abbrev st__law_box : Stmt := top 30
abbrev N__law_box : List Str := ["_law_script", "_law_k", "_law_cell"]
abbrev P__law_box : List Str := ["_law_script", "_law_k"]
theorem sc__law_box : FnScope N__law_box P__law_box (defScope st__law_box) := ⟨rfl, rfl, rfl, by decide +kernel, rfl, by decide +kernel, by decide +kernel⟩
abbrev st__law_take : Stmt := top 31
abbrev N__law_take : List Str := ["_law_box_here", "_law_below", "_law_drawn", "_law_once", "_law_far", "_law_twice"]
abbrev P__law_take : List Str := ["_law_box_here", "_law_below"]
theorem sc__law_take : FnScope N__law_take P__law_take (defScope st__law_take) := ⟨rfl, rfl, rfl, by decide +kernel, rfl, by decide +kernel, by decide +kernel⟩
abbrev st__law_of : Stmt := top 33
abbrev N__law_of : List Str := ["_law_box_here", "_law_some"]
abbrev P__law_of : List Str := ["_law_box_here", "_law_some"]
theorem sc__law_of : FnScope N__law_of P__law_of (defScope st__law_of) := ⟨rfl, rfl, rfl, by decide +kernel, rfl, by decide +kernel, by decide +kernel⟩
abbrev st__law_cells : Stmt := top 32
abbrev N__law_cells : List Str := ["_law_script", "_law_most_so", "_law_cells_here", "_law_k", "_law_cell", "_law_at_so"]
abbrev P__law_cells : List Str := ["_law_script", "_law_most_so"]
theorem sc__law_cells : FnScope N__law_cells P__law_cells (defScope st__law_cells) := ⟨rfl, rfl, rfl, by decide +kernel, rfl, by decide +kernel, by decide +kernel⟩
section
variable {P : Program} {w : World} {K : PySem.W.Frag} {mg : Str → Option Value} {base : Heap}
theorem lenTake (vs : List V) (H : Hp) (Q : VK) (E : XK) (h : spTake vs H Q E) : vs.length = 2 := by obtain ⟨p, m, k, rfl, _⟩ := h; rfl
theorem lenOf (vs : List V) (H : Hp) (Q : VK) (E : XK) (h : spOf vs H Q E) : vs.length = 2 := by obtain ⟨p, l, ns, k, rfl, _⟩ := h; rfl
theorem ok_law_take (F : Df K mg "_law_take" st__law_take P__law_take) (T : Nb mg) : Cal P w K mg base 1 "_law_take" spTake := by
  refine F.cal sc__law_take lenTake (fun f cdv A outer s H vs Q E hr h => ?_)
  obtain ⟨p, m, k, rfl, ⟨a, b, n, hp, ha, ⟨hb0, hb1⟩, hn0, hn1⟩, hk, hm, hs, kq⟩ := h
  refine ⟨_, (pss_cons (ps_if (pt_cmpR op_gt (pe_ix (k_ixL (K := K) (by rfl)) (pv 0) pe_int (fun _ _ => rfl)) pe_int (nomark _)) (pss_cons (ps_set (i := 2) sc__law_take.nd rfl (by first | exact Or.inl rfl | exact Or.inr rfl) (pe_op op_mod (pe_callTy cr_int (by rfl) T.int bt_int (pa_cons (pe_ix (k_ixL (K := K) (by rfl)) (pv 0) pe_int (fun _ _ => rfl)) pa_nil)) (pv 1)))
    (pss_cons (ps_asg (pe_op op_fdivW (pe_ix (k_ixL (K := K) (by rfl)) (pv 0) pe_int (fun _ _ => rfl)) (pv 1)) (pg_sub (pv 0) pe_int set_list))
    (pss_one (ps_ret (pv 2))))) pss_nil)
    (pss_cons (ps_asg (pe_op op_add (pe_ix (k_ixL (K := K) (by rfl)) (pv 0) pe_int (fun _ _ => rfl)) pe_int) (pg_sub (pv 0) pe_int set_list))
    (pss_cons (ps_set (i := 3) sc__law_take.nd rfl (by first | exact Or.inl rfl | exact Or.inr rfl) (pe_op op_mod (pe_callTy cr_int (by rfl) T.int bt_int (pa_cons (pe_op op_mulW (pe_op op_add (pe_ix (k_ixL (K := K) (by rfl)) (pv 0) pe_int (fun _ _ => rfl)) (pe_op op_mulW pe_int (pe_ix (k_ixL (K := K) (by rfl)) (pv 0) pe_int (fun _ _ => rfl)))) (pe_op op_add pe_int (pe_ix (k_ixL (K := K) (by rfl)) (pv 0) pe_int (fun _ _ => rfl)))) pa_nil)) pe_int))
    (pss_cons (ps_set (i := 4) sc__law_take.nd rfl (by first | exact Or.inl rfl | exact Or.inr rfl) (pe_op op_add (pe_op op_mod (pe_callTy cr_int (by rfl) T.int bt_int (pa_cons (pv 3) pa_nil)) pe_int) pe_int))
    (pss_cons (ps_set (i := 5) sc__law_take.nd rfl (by first | exact Or.inl rfl | exact Or.inr rfl) (pe_op op_mod (pe_callTy cr_int (by rfl) T.int bt_int (pa_cons (pe_op op_mulW (pe_op op_add (pe_op op_add (pv 3) (pe_ix (k_ixL (K := K) (by rfl)) (pv 0) pe_int (fun _ _ => rfl))) (pe_op op_fdivW (pe_ix (k_ixL (K := K) (by rfl)) (pv 0) pe_int (fun _ _ => rfl)) pe_int)) (pv 4)) pa_nil)) pe_int))
    (pss_one (ps_ret (pe_op op_mod (pe_callTy cr_int (by rfl) T.int bt_int (pa_cons (pe_op op_fdivW (pe_op op_mod (pe_callTy cr_int (by rfl) T.int bt_int (pa_cons (pe_op op_add (pe_op op_mulW (pv 5) pe_int) (pv 3)) pa_nil)) pe_int) pe_int) pa_nil)) (pv 1))))))))), ?_⟩
  have hv : ∀ {H' : Hp} {x y z : Int} {i : Nat} {σ : L2.St}, H' p = some (.lst ([x, y, z].map V.int)) → σ[0]? = some (some (.ref p)) → Ev dI (tOp (rIxL K) (tVar 0) (tC (.int 0))) σ H' x ∧ Ev dI (tOp (rIxL K) (tVar 0) (tC (.int 1))) σ H' y ∧ Ev dI (tOp (rIxL K) (tVar 0) (tC (.int 2))) σ H' z := fun {H' x y z i σ} h h0 =>
    ⟨ev_ixL (r := dI) (ev_var h0 (isLI h)) ev_int (atI_nat (j := 0) rfl), ev_ixL (r := dI) (ev_var h0 (isLI h)) ev_int (atI_nat (j := 1) rfl), ev_ixL (r := dI) (ev_var h0 (isLI h)) ev_int (atI_nat (j := 2) rfl)⟩
  refine sq (s_if (b := decide (0 < a)) (et_test (ev_B0 (g := fun i j => decide (j < i)) (hv (i := 0) hp rfl).1 ev_int)) (fun hb H1 e1 => ?_) (fun hb H1 e1 => ?_))
  · have ha1 : 0 < a := of_decide_eq_true hb
    refine sq (s_asg (i := 2) (ev_I (C := fun _ j => 0 < j) (g := fun i j => i % j) (ev_int1 (hv (i := 0) (e1 p _ hp) rfl).1) (ev_var rfl rfl) (by omega)) fun v H2 e2 hv2 => ?_)
    cases hv2
    have e02 := ext e1 e2
    refine sq (s_setLI (e02 p _ hp) (ev_I (C := CDivW) (g := fun i j => i / j) (hv (i := 0) (e02 p _ hp) rfl).1 (ev_var rfl rfl) ⟨by omega, hs⟩) (ev_ref rfl) ev_int (j := 0) rfl fun H3 e3 => ?_)
    refine s_ret (ev_var (r := dI) (a := a % m) rfl rfl) fun x H4 e4 hx => ?_
    cases hx
    have hd0 := Int.emod_nonneg a (by omega : m ≠ 0)
    have hd1 := Int.emod_lt_of_pos a (by omega : 0 < m)
    refine kq _ H4 hd0 hd1 (ebt (eb_upd (ext e02 e3).eb) e4.eb) ⟨a / m, b, n, e4 p _ upd_same, Int.ediv_nonneg ha (by omega), ⟨hb0, hb1⟩, hn0, by omega⟩
  · refine snx ?_
    dsimp only
    have md : ∀ {x m : Int}, 0 < m → 0 ≤ x % m ∧ x % m < m := fun {x m} h => ⟨Int.emod_nonneg x (by omega), Int.emod_lt_of_pos x h⟩
    refine sq (s_setLI (e1 p _ hp) (ev_I0 (g := fun i j => i + j) (hv (i := 0) (e1 p _ hp) rfl).2.2 ev_int) (ev_ref rfl) ev_int (j := 2) rfl fun H2 e2 => ?_)
    have h2 : upd H2 p (.lst (([a, b, n].set 2 (n + 1)).map V.int)) p = some (.lst ([a, b, n + 1].map V.int)) := upd_same
    have eb2 : EB p H (upd H2 p (.lst (([a, b, n].set 2 (n + 1)).map V.int))) := eb_upd (ext e1 e2).eb
    generalize upd H2 p (.lst (([a, b, n].set 2 (n + 1)).map V.int)) = H3 at h2 eb2
    have s1 : Sm (48271 * (n + 1)) := sm_le (by omega) (by omega)
    refine sq (s_asg (i := 3) (ev_I (C := fun _ j => 0 < j) (g := fun i j => i % j) (ev_int1 (ev_mulW (ev_I0 (g := fun i j => i + j) (hv (i := 0) h2 rfl).2.1 (ev_mulW ev_int (hv (i := 0) h2 rfl).2.2 (sm_le (by omega) (by omega)) (sm_le (by omega) (by omega)))) (ev_I0 (g := fun i j => i + j) ev_int (hv (i := 0) h2 rfl).2.2) (sm_le (by omega) (by omega)) (sm_le (by omega) (by omega)))) ev_int (by decide)) fun v H4 e4 hv4 => ?_)
    cases hv4
    obtain ⟨o0, o1⟩ := md (x := (b + 48271 * (n + 1)) * (39373 + (n + 1))) (m := 2147483647) (by decide)
    generalize (b + 48271 * (n + 1)) * (39373 + (n + 1)) % 2147483647 = once at o0 o1
    refine sq (s_asg (i := 4) (ev_I0 (g := fun i j => i + j) (ev_I (C := fun _ j => 0 < j) (g := fun i j => i % j) (ev_int1 (ev_var (a := once) rfl rfl)) ev_int (by decide)) ev_int) fun v H5 e5 hv5 => ?_)
    cases hv5
    obtain ⟨f0, f1⟩ := md (x := once) (m := 40009) (by decide)
    have h5 := e5 p _ (e4 p _ h2)
    have hb3 : 0 ≤ b / 1000003 ∧ b / 1000003 ≤ b := ⟨Int.ediv_nonneg hb0 (by decide), Int.ediv_le_self _ hb0⟩
    refine sq (s_asg (i := 5) (ev_I (C := fun _ j => 0 < j) (g := fun i j => i % j) (ev_int1 (ev_mulW (ev_I0 (g := fun i j => i + j) (ev_I0 (g := fun i j => i + j) (ev_var (a := once) rfl rfl) (hv (i := 0) h5 rfl).2.2) (ev_I (C := CDivW) (g := fun i j => i / j) (hv (i := 0) h5 rfl).2.1 ev_int ⟨by decide, (sm_le (by decide) (by decide) : Sm 1000003)⟩)) (ev_var (a := once % 40009 + 7) rfl rfl) (sm_le (by omega) (by omega)) (sm_le (by omega) (by omega)))) ev_int (by decide)) fun v H6 e6 hv6 => ?_)
    cases hv6
    obtain ⟨t0, t1⟩ := md (x := (once + (n + 1) + b / 1000003) * (once % 40009 + 7)) (m := 2147483629) (by decide)
    generalize (once + (n + 1) + b / 1000003) * (once % 40009 + 7) % 2147483629 = twice at t0 t1
    refine s_ret (ev_I (C := fun _ j => 0 < j) (g := fun i j => i % j) (ev_int1 (ev_I (C := CDivW) (g := fun i j => i / j) (ev_I (C := fun _ j => 0 < j) (g := fun i j => i % j) (ev_int1 (ev_I0 (g := fun i j => i + j) (ev_mulW (ev_var (a := twice) rfl rfl) ev_int (sm_le (by omega) (by omega)) (sm_le (by decide) (by decide))) (ev_var (a := once) rfl rfl))) ev_int (by decide)) ev_int ⟨by decide, (sm_le (by decide) (by decide) : Sm 64)⟩)) (ev_var (a := m) rfl rfl) (by omega)) fun x H7 e7 hx => ?_
    cases hx
    obtain ⟨d0, d1⟩ := md (x := (twice * 48271 + once) % 2147483587 / 64) (m := m) (by omega)
    exact kq _ H7 d0 d1 (ebt eb2 (ext e4 (ext e5 (ext e6 e7))).eb) ⟨a, b, n + 1, e7 p _ (e6 p _ h5), ha, ⟨hb0, hb1⟩, by omega, by omega⟩
theorem ok_law_of (F : Df K mg "_law_of" st__law_of P__law_of) (T : Nb mg) (c__law_take : Cal P w K mg base 1 "_law_take" spTake) : Cal P w K mg base 2 "_law_of" spOf := by
  refine F.cal sc__law_of lenOf (fun f cdv A outer s H vs Q E hr h => ?_)
  obtain ⟨p, l, ns, k, rfl, hbox, hk, hl, hlp, hne, hz, kq⟩ := h
  refine ⟨_, (pss_one (ps_ret (pe_ix (k_ixL (K := K) (by rfl)) (pv 1) (pe_cal c__law_take (hr.mono (by decide)) (by rfl) (pa_cons (pv 0) (pa_cons (pe_callB (k_len (K := K) (by rfl)) (by rfl) T.len bt_len (pa_cons (pv 1) pa_nil)) pa_nil))) (fun _ _ => rfl)))), ?_⟩
  have hnl : 0 < ns.length := List.length_pos_iff.mpr hne
  refine ⟨.ref l, rfl, .ref p, rfl, .ref l, rfl, l, _, rfl, .inl (SqL.of hl), p, (ns.length : Int), k, ?_, hbox, hk, by omega, sm_le (by omega) (by omega), fun d H' h0 h1 e b' => ?_⟩
  · rw [List.length_map]; rfl
  · have hd : d.toNat < ns.length := by omega
    refine ⟨l, ns.map V.int, d, .int ns[d.toNat], rfl, rfl, SqL.of (e l _ hlp hl), ?_, ?_⟩
    · have h2 : (ns.map V.int)[d.toNat]? = some (.int ns[d.toNat]) := by rw [List.getElem?_map, List.getElem?_eq_getElem hd]; rfl
      have h3 := atI_nat h2
      rw [show ((d.toNat : Nat) : Int) = d by omega] at h3
      exact h3
    · exact kq _ H' (List.getElem_mem hd) e b'
/-- the script: a list of ints, not long -/
theorem ok_law_box (F : Df K mg "_law_box" st__law_box P__law_box) (T : Nb mg) : Cal P w K mg base 1 "_law_box" (fun vs H Q _ => ∃ (v : V) (ns : List Int) (j : Int), vs = [v, .int j] ∧ (dL dI).is H v ns ∧ (0 ≤ j ∧ j < ns.length) ∧ ns.length ≤ 1000 ∧ ∀ p H', H p = none → Ex H H' → BoxAt p H' 0 → Q (.ref p) H') := by
  refine F.cal sc__law_box (fun vs H Q E h => by obtain ⟨v, ns, j, rfl, _⟩ := h; rfl) (fun f cdv A outer s H vs Q E hr h => ?_)
  obtain ⟨v, ns, j, rfl, hv, ⟨hj0, hj1⟩, hz, kq⟩ := h
  refine ⟨_, (pss_cons (ps_set (i := 2) sc__law_box.nd rfl (by first | exact Or.inl rfl | exact Or.inr rfl) (pe_ifExp (pt_cmpR op_lt (pv 1) (pe_callB (k_len (K := K) (by rfl)) (by rfl) T.len bt_len (pa_cons (pv 0) pa_nil)) (nomark _)) (pe_ix (k_ixL (K := K) (by rfl)) (pv 0) (pv 1) (fun _ _ => rfl)) pe_int))
    (pss_one (ps_ret (pe_lst (pa_cons (pe_op op_mul (pe_callB cr_abs (by rfl) T.abs bt_abs (pa_cons (pv 2) pa_nil)) (pe_callTy cr_int (by rfl) T.int bt_int (pa_cons (pe_cmpR op_ge (pe_callB cr_abs (by rfl) T.abs bt_abs (pa_cons (pv 2) pa_nil)) (pe_op op_pow pe_int pe_int) (nomark _)) pa_nil))) (pa_cons (pe_op op_add (pe_op op_add (pe_op op_mod (pe_callTy cr_int (by rfl) T.int bt_int (pa_cons (pv 2) pa_nil)) pe_int) (pe_op op_mul pe_int (pv 1))) pe_int) (pa_cons pe_int pa_nil))))))), ?_⟩
  have hd : j.toNat < ns.length := by omega
  have hat : atI ns j = some ns[j.toNat] := by
    have h3 := atI_nat (xs := ns) (j := j.toNat) (List.getElem?_eq_getElem hd)
    rw [show ((j.toNat : Nat) : Int) = j by omega] at h3
    exact h3
  generalize ns[j.toNat] = c at hat
  refine sq (s_asg (i := 2) (ev_if (b := true) (a := c) ((et_test (ev_B0 (ev_var (a := j) rfl rfl) (ev_lenL (r := dI) (ev_var rfl hv)))).to (decide_eq_true (by omega))) (fun _ => ev_ixL (r := dI) (ev_var rfl hv) (ev_var rfl rfl) hat) (fun z => nomatch z)) fun x H1 e1 hx => ?_)
  cases hx
  have hab : 0 ≤ (if c < 0 then -c else c) := by split <;> omega
  have hpow : Ev dI (tOp (L2.rI CPow fun i j => .int (i ^ j.toNat)) (tC (.int 10)) (tC (.int 18))) [some v, some (.int j), some (.int c)] H1 (10 ^ (18 : Int).toNat) := ev_I (C := CPow) (g := fun i j => i ^ j.toNat) ev_int ev_int ⟨by decide, by decide, by decide⟩
  have h0 : ∀ b : Bool, 0 ≤ (if c < 0 then -c else c) * (if b = true then (1 : Int) else 0) := fun b => by
    cases b
    · simp
    · simpa using hab
  have hm0 := Int.emod_nonneg c (by decide : (2305843009213693951 : Int) ≠ 0)
  have hm1 := Int.emod_lt_of_pos c (by decide : (0 : Int) < 2305843009213693951)
  refine s_retN (en_lst (r := dI) (as := [(if c < 0 then -c else c) * (if decide ((10 : Int) ^ (18 : Int).toNat ≤ (if c < 0 then -c else c)) = true then 1 else 0), c % 2305843009213693951 + 39373 * j + 979, 0]) (ea_cons (ev_I (C := CMul) (g := fun i j => i * j) (ev_abs (ev_var rfl rfl)) (ev_intB (ev_B0 (g := fun i j => decide (j ≤ i)) (ev_abs (ev_var (a := c) rfl rfl)) hpow)) (.inr ?_)) (ea_cons (ev_I0 (g := fun i j => i + j) (ev_I0 (g := fun i j => i + j) (ev_I (C := fun _ j => 0 < j) (g := fun i j => i % j) (ev_int1 (ev_var rfl rfl)) ev_int (by decide)) (ev_I (C := CMul) (g := fun i j => i * j) ev_int (ev_var rfl rfl) (.inl (by decide)))) ev_int) (ea_cons ev_int ea_nil))) (by simp)) fun p H2 hp e2 hl => ?_
  · generalize decide ((10 : Int) ^ (18 : Int).toNat ≤ (if c < 0 then -c else c)) = bb
    cases bb <;> decide
  · exact kq p H2 (exf e1 hp) (ext e1 e2) ⟨_, _, _, getLI hl, h0 _, ⟨by omega, by omega⟩, Int.le_refl _, by decide⟩
theorem ok_law_cells (F : Df K mg "_law_cells" st__law_cells P__law_cells) (T : Nb mg) : Cal P w K mg base 1 "_law_cells" (fun vs H Q _ => ∃ (v : V) (ns : List Int), vs = [v, .int 3] ∧ (dL dI).is H v ns ∧ ns.length ≤ 63 ∧ ∀ p H' (ms : List Int), H p = none → Ex H H' → H' p = some (.lst (ms.map V.int)) → ms ≠ [] → ms.length ≤ 3 → Q (.ref p) H') := by
  refine F.cal sc__law_cells (fun vs H Q E h => by obtain ⟨v, ns, rfl, _⟩ := h; rfl) (fun f cdv A outer s H vs Q E hr h => ?_)
  obtain ⟨v, ns, rfl, hv, hz, kq⟩ := h
  refine ⟨_, (pss_cons (ps_set (i := 2) sc__law_cells.nd rfl (by first | exact Or.inl rfl | exact Or.inr rfl) (k_orT (K := K) (by rfl) (pe_callTy (k_lstO (K := K) (by rfl)) (by rfl) T.list bt_list (pa_cons (pe_slice (k_slL (K := K) (by rfl)) (pv 0) po_none (po_some (pv 1))) pa_nil)) (pe_one (pe_lst (pa_cons pe_int pa_nil)))))
    (pss_cons (ps_for PassesOwn.never (by rfl) (pi_enum (by rfl) T.enumerate (pa_cons (pe_slice (k_slL (K := K) (by rfl)) (pv 0) (po_some (pv 1)) (po_some pe_int)) pa_nil)) (k_gtup (K := K) (by rfl) (by rfl) (pgs_cons (pg_name (i := 3) sc__law_cells.nd rfl (by first | exact Or.inl rfl | exact Or.inr rfl)) (pgs_cons (pg_name (i := 4) sc__law_cells.nd rfl (by first | exact Or.inl rfl | exact Or.inr rfl)) pgs_nil)))
    (pss_cons (ps_set (i := 5) sc__law_cells.nd rfl (by first | exact Or.inl rfl | exact Or.inr rfl) (pe_op op_mod (pe_callTy cr_int (by rfl) T.int bt_int (pa_cons (pv 3) pa_nil)) (pv 1)))
    (pss_one (ps_asg (pe_op op_add (pe_ix (k_ixL (K := K) (by rfl)) (pv 2) (pv 5) (fun _ _ => rfl)) (pe_op op_mul (pv 4) (pe_op op_add (pv 3) pe_int))) (pg_sub (pv 2) (pv 5) set_list)))))
    (pss_one (ps_ret (pv 2))))), ?_⟩
  have hsl1 : EvN (dL dI) (tSl (rSlL K) (tVar 0) tNoPart (tPart (tVar 1))) [some v, some (.int 3), none, none, none, none] H (ns.take 3) := (en_slL (K := K) (ev_var (i := 0) rfl hv) eo_none (eo_some (ev_var (r := dI) (i := 1) rfl rfl))).to (by
    show (ns.drop 0).take (min 3 ns.length - 0) = ns.take 3
    rw [List.drop_zero, Nat.sub_zero, ← List.take_take, List.take_length])
  refine sq (s_asgN (i := 2) (en_orL (en_listL hsl1.ev) (en_lst (r := dI) (as := [0]) (ea_cons ev_int ea_nil) (by simp))) fun p H1 hp e1 hl => ?_)
  have hms : (if ns.take 3 = [] then [0] else ns.take 3) ≠ [] ∧ (if ns.take 3 = [] then [0] else ns.take 3).length ≤ 3 ∧ (3 < ns.length → (if ns.take 3 = [] then [0] else ns.take 3).length = 3) := by
    by_cases h : ns.take 3 = []
    · rw [if_pos h]
      refine ⟨by simp, by simp, fun h3 => ?_⟩
      have := congrArg List.length h
      rw [List.length_take] at this
      simp only [List.length_nil] at this
      omega
    · rw [if_neg h]
      refine ⟨h, by rw [List.length_take]; omega, fun h3 => by rw [List.length_take]; omega⟩
  generalize (if ns.take 3 = [] then [0] else ns.take 3) = ms0 at hl hms
  have hl0 := getLI hl
  have hsl2 : EvN (dL dI) (tSl (rSlL K) (tVar 0) (tPart (tVar 1)) (tPart (tC (.int 63)))) [some v, some (.int 3), some (.ref p), none, none, none] H1 (ns.drop 3) := (en_slL (K := K) (ev_var (i := 0) rfl ((dL dI).ex e1 hv)) (eo_some (ev_var (r := dI) (i := 1) rfl rfl)) (eo_some ev_int)).to (by
    show (ns.drop (min 3 ns.length)).take (min 63 ns.length - min 3 ns.length) = ns.drop 3
    by_cases h : ns.length ≤ 3
    · rw [List.drop_of_length_le (by omega), List.drop_of_length_le (by omega)]; simp
    · rw [show min 3 ns.length = 3 by omega, List.take_of_length_le]
      rw [List.length_drop]; omega)
  refine sq (s_forEnumLI hsl2 (P := fun q H2 i σ' H' => ∃ (x3 x4 x5 : Option V) (ms : List Int), σ' = [some v, some (.int 3), some (.ref p), x3, x4, x5] ∧ H' p = some (.lst (ms.map V.int)) ∧ ms.length = ms0.length ∧ q ≠ p ∧ H' q = some (.lst ((ns.drop 3).map V.int)) ∧ Ex H H') ?_ ?_ ?_ ?_)
  · rintro q H2 i σ' H' ⟨_, _, _, _, _, _, _, _, h, _⟩
    exact h
  · intro q H2 hq h2 e2
    exact ⟨_, _, _, ms0, rfl, e2 p _ hl0, rfl, ne_of_none hl0 hq |>.symm, h2, ext e1 e2⟩
  · rintro q H2 i a x σ' H3 H4 hq e2 hi ⟨x3, x4, x5, ms, rfl, h3, hlen, hqp, hq3, eH⟩ e34 hx
    have hil := lt_of_get hi
    rw [List.length_drop] at hil
    have hm3 : ms.length = 3 := by rw [hlen, hms.2.2 (by omega)]
    refine g_pair hx fun xa xb hxa hxb => ?_
    cases hxa
    cases hxb
    have d0 := Int.emod_nonneg (i : Int) (by decide : (3 : Int) ≠ 0)
    have d1 := Int.emod_lt_of_pos (i : Int) (by decide : (0 : Int) < 3)
    refine sq (s_asg (i := 5) (ev_I (C := fun _ j => 0 < j) (g := fun i j => i % j) (ev_int1 (ev_var (a := (i : Int)) rfl rfl)) (ev_var (a := 3) rfl rfl) (by decide)) fun v5 H5 e5 hv5 => ?_)
    cases hv5
    have hat : ∃ y, atI ms ((i : Int) % 3) = some y := by
      have hd : ((i : Int) % 3).toNat < ms.length := by omega
      have h3 := atI_nat (xs := ms) (j := ((i : Int) % 3).toNat) (List.getElem?_eq_getElem hd)
      rw [show ((((i : Int) % 3).toNat : Nat) : Int) = (i : Int) % 3 by omega] at h3
      exact ⟨_, h3⟩
    obtain ⟨y, hy⟩ := hat
    have e35 := ext e34 e5
    refine s_setLI (e35 p _ h3) (ev_I0 (g := fun i j => i + j) (ev_ixL (r := dI) (ev_var rfl (isLI (e35 p _ h3))) (ev_var rfl rfl) hy) (ev_I (C := CMul) (g := fun i j => i * j) (ev_var (a := a) rfl rfl) (ev_I0 (g := fun i j => i + j) (ev_var (a := (i : Int)) rfl rfl) ev_int) (.inr (by omega)))) (ev_ref rfl) (ev_var (a := (i : Int) % 3) rfl rfl) (ixN_in d0 (by omega)) fun H6 e6 => ?_
    exact ⟨_, _, _, _, rfl, upd_same, by rw [List.length_set, hlen], hqp, by rw [upd_ne hqp]; exact e6 q _ (e35 q _ hq3), exm (ext eH (ext e35 e6)) hp⟩
  · rintro q H2 σ' H3 e2 ⟨x3, x4, x5, ms, rfl, h3, hlen, hqp, hq3, eH⟩
    refine s_ret (ev_ref rfl) fun x H4 e4 hx => ?_
    cases hx
    exact kq p H4 ms hp (ext eH e4) (e4 p _ h3) (fun z => hms.1 (List.length_eq_zero_iff.mp (by rw [← hlen, z]; rfl))) (by omega)
end
end Cu
set_option maxRecDepth 100000
set_option maxHeartbeats 4000000
/-! Cu, walk 11: _law_tops .. _law_short. -/
namespace Cu
open PySem PySem.Spec PyProof.Rows L2
abbrev st__law_tops : Stmt := top 35
abbrev N__law_tops : List Str := ["_law_way", "_law_found", "_law_limit_so"]
abbrev P__law_tops : List Str := ["_law_way"]
theorem sc__law_tops : FnScope N__law_tops P__law_tops (defScope st__law_tops) := ⟨rfl, rfl, rfl, by decide +kernel, rfl, by decide +kernel, by decide +kernel⟩
abbrev st__law_blocks : Stmt := top 36
abbrev N__law_blocks : List Str := ["_law_way", "_law_low", "_law_tops_here", "_law_found", "_law_limit_so"]
abbrev P__law_blocks : List Str := ["_law_way", "_law_low"]
theorem sc__law_blocks : FnScope N__law_blocks P__law_blocks (defScope st__law_blocks) := ⟨rfl, rfl, rfl, by decide +kernel, rfl, by decide +kernel, by decide +kernel⟩
abbrev st__law_rising : Stmt := top 37
abbrev N__law_rising : List Str := ["_law_box_here", "_law_low", "_law_most", "_law_found", "_law_turn", "_law_gap"]
abbrev P__law_rising : List Str := ["_law_box_here", "_law_low", "_law_most"]
theorem sc__law_rising : FnScope N__law_rising P__law_rising (defScope st__law_rising) := ⟨rfl, rfl, rfl, by decide +kernel, rfl, by decide +kernel, by decide +kernel⟩
abbrev st__law_short : Stmt := top 40
abbrev N__law_short : List Str := ["_law_box_here", "_law_low", "_law_way"]
abbrev P__law_short : List Str := ["_law_box_here", "_law_low"]
theorem sc__law_short : FnScope N__law_short P__law_short (defScope st__law_short) := ⟨rfl, rfl, rfl, by decide +kernel, rfl, by decide +kernel, by decide +kernel⟩
structure LowOk (low : Int) : Prop where
  pos : 1 ≤ low
  le : low ≤ 10 ^ 60
theorem LowOk.sm {low : Int} (h : LowOk low) {n : Int} (h0 : 0 ≤ n) (h1 : n ≤ 100000 * low) : Sm n := by
  have := h.le
  exact sm_le (by omega) (by omega)
structure WayOk (ws : List Int) (low : Int) : Prop where
  ne : ws ≠ []
  len : ws.length ≤ 5
  lim : ∀ x ∈ ws, 1 ≤ x ∧ x ≤ 20 * low
section
variable {P : Program} {w : World} {K : PySem.W.Frag} {mg : Str → Option Value} {base : Heap}
theorem ok_law_tops (F : Df K mg "_law_tops" st__law_tops P__law_tops) (T : Nb mg) : Cal P w K mg base 1 "_law_tops" (sp1N (dT dI) (dT dI) (fun row => row.length ≤ 1000) (recs none)) := by
  refine F.cal sc__law_tops len1N (fun f cdv A outer s H vs Q E hr h => ?_)
  obtain ⟨v, row, rfl, hv, hz, k⟩ := h
  refine ⟨_, (pss_cons (ps_set (i := 1) sc__law_tops.nd rfl (by first | exact Or.inl rfl | exact Or.inr rfl) (pe_lst pa_nil))
    (pss_cons (ps_for PassesOwn.never (by rfl) (k_pitup (K := K) (by rfl) (pv 0)) (pg_name (i := 2) sc__law_tops.nd rfl (by first | exact Or.inl rfl | exact Or.inr rfl))
    (pss_one (ps_if (PW.pt (pw_or (pt_cmpR (k_eqD (K := K) (by rfl) hr.units) (pv 1) (pe_lst pa_nil) (nomark _)) (pw_or1 (pt_cmpR op_lt (pv 2) (pe_ix (k_ixL (K := K) (by rfl)) (pv 1) (pe_un un_neg pe_int) (fun _ _ => rfl)) (nomark _))))) (pss_one (ps_expr (pe_bm PySem.F.plainAttrs_list PySem.F.slot_list_append PySem.F.type_list_append mt_append (pv 1) (pa_cons (pv 2) pa_nil)))) pss_nil)))
    (pss_one (ps_ret (pe_callTy (k_tupO (K := K) (by rfl)) (by rfl) T.tuple bt_tuple (pa_cons (pv 1) pa_nil)))))), ?_⟩
  refine sq (s_asgN (i := 1) (en_lst (r := dI) ea_nil (by decide)) fun p H1 hp e1 hl => ?_)
  refine sq (s_forT (r := dI) (as := row) (ev_var rfl ((dT dI).ex e1 hv)) (P := fun H5 i σ' H' => ∃ found x, σ' = [some v, some (.ref p), x] ∧ H' p = some (.lst (found.map V.int)) ∧ found ++ recs found.getLast? (row.drop i) = recs none row ∧ found.length ≤ i ∧ Ex H H' ∧ TX H5 H') ?_ ?_ ?_ ?_)
  · rintro H5 i σ' H' ⟨found, x, _, _, _, _, _, e⟩
    exact e
  · intro H5 e5
    have := getLI hl
    exact ⟨[], _, rfl, e5 p _ this, by simp, Nat.zero_le _, ext e1 e5, txr⟩
  · rintro H5 i a x σ' H' e5 ha ⟨found, x0, rfl, hl, hinv, hlen, e, tx⟩ hx
    cases hx
    refine gn ?_
    rw [drop_cons ha] at hinv
    have hi := lt_of_get ha
    have push : ∀ H1, Ex H' H1 → found ++ [a] ++ recs (found ++ [a]).getLast? (row.drop (i + 1)) = recs none row → tDrop (tBM K "list" rAppend (tVar 1) (tCons (tVar 2) tNil)) ⟨fun σ' H' => ∃ found x, σ' = [some v, some (.ref p), x] ∧ H' p = some (.lst (found.map V.int)) ∧ found ++ recs found.getLast? (row.drop (i + 1)) = recs none row ∧ found.length ≤ i + 1 ∧ Ex H H' ∧ TX H5 H', Q, fun _ _ => False, fun _ _ => False⟩ [some v, some (.ref p), some (.int a)] H1 := fun H1 e3 hinv2 =>
      s_appI (e3 p _ hl) (ev_ref rfl) (ev_var rfl rfl) (by omega) fun H2 e4 h4 => ⟨found ++ [a], _, rfl, h4, hinv2, by rw [List.length_append, List.length_singleton]; omega, exm (ext e (ext e3 e4)) hp, txt tx (txt e3.tx (txt e4.tx (txl (e4 p _ (e3 p _ hl)))))⟩
    rcases nil_snoc found with rfl | ⟨ys, m, rfl⟩
    · refine s_if (b := true) (et_or (a := true) (b := false) ((et_test (ev_eqE (pye_L pye_I) (by decide) (ev_var rfl (isLI hl)) (en_lst (r := dI) ea_nil (Nat.zero_le _)).ev)).to (by simp)) (fun z => nomatch z)) (fun _ H1 e3 => ?_) (fun z => nomatch z)
      exact push H1 e3 (by simpa [recs] using hinv)
    · refine s_if (b := decide (a < m)) ((et_or (a := false) (b := decide (a < m)) ((et_test (ev_eqE (pye_L pye_I) (by decide) (ev_var rfl (isLI hl)) (en_lst (r := dI) ea_nil (Nat.zero_le _)).ev)).to (by simp)) (fun _ => et_test (ev_B0 (ev_var rfl rfl) (ev_last (r := dI) (ev_var rfl (isLI hl))))))) (fun hb H1 e3 => ?_) (fun hb H1 e3 => ?_)
      · have hlt : a < m := of_decide_eq_true hb
        exact push H1 e3 (by simpa [recs, hlt] using hinv)
      · have hlt : ¬ a < m := of_decide_eq_false hb
        exact ⟨_, _, rfl, e3 p _ hl, by simpa [recs, hlt] using hinv, by omega, ext e e3, txt tx e3.tx⟩
  · rintro H5 σ' H' e5 ⟨found, x0, rfl, hl, hinv, hlen, e, tx⟩
    have e5 : found = recs none row := by
      rw [List.drop_length] at hinv
      simpa [recs] using hinv
    refine s_retN (en_tupleL (r := dI) (ev_var rfl (isLI hl))) fun q H1 hq e3 hr => ?_
    rw [e5] at hr
    exact k q H1 (exf e hq) (ext e e3) hr
theorem ok_law_blocks (F : Df K mg "_law_blocks" st__law_blocks P__law_blocks) (T : Nb mg) (c__law_tops : Cal P w K mg base 1 "_law_tops" (sp1N (dT dI) (dT dI) (fun row => row.length ≤ 1000) (recs none))) :
    Cal P w K mg base 2 "_law_blocks" (sp2 (dT dI) dI (dO (dT dPI)) fillP fillF) := by
  refine F.cal sc__law_blocks len2 (fun f cdv A outer s H vs Q E hr h => ?_)
  obtain ⟨v, v2, way, low, rfl, hv, hv2, ⟨hz, hs⟩, k⟩ := h
  cases hv2
  refine ⟨_, (pss_cons (ps_set (i := 2) sc__law_blocks.nd rfl (by first | exact Or.inl rfl | exact Or.inr rfl) (pe_cal c__law_tops (hr.mono (by decide)) (by rfl) (pa_cons (pv 0) pa_nil)))
    (pss_cons (ps_if (PW.pt (pw_and (pt_cmpR (k_neD (K := K) (by rfl) hr.units) (pv 2) (pe_tup pa_nil) (nomark _)) (pw_and1 (pt_cmpR op_lt (pe_ix (k_ixT (K := K) (by rfl)) (pv 2) (pe_un un_neg pe_int) (fun _ _ => rfl)) (pe_op op_mulW pe_int (pv 1)) (nomark _))))) (pss_one (ps_ret pe_non)) pss_nil)
    (pss_cons (ps_set (i := 3) sc__law_blocks.nd rfl (by first | exact Or.inl rfl | exact Or.inr rfl) (pe_lst pa_nil))
    (pss_cons (ps_for PassesOwn.never (by rfl) (k_pitup (K := K) (by rfl) (pe_revT (pv 2))) (pg_name (i := 4) sc__law_blocks.nd rfl (by first | exact Or.inl rfl | exact Or.inr rfl))
    (pss_one (ps_if (PW.pt (pw_and (pt_cmpR (k_neD (K := K) (by rfl) hr.units) (pv 3) (pe_lst pa_nil) (nomark _)) (pw_and1 (pt_cmpR op_le (pe_op op_sub (pv 4) (pe_ix (k_ixT (K := K) (by rfl)) (pe_ix (k_ixL (K := K) (by rfl)) (pv 3) (pe_un un_neg pe_int) (fun _ _ => rfl)) pe_int (fun _ _ => rfl))) (pv 1) (nomark _))))) (pss_one (ps_asg (pe_tup (pa_cons (pe_ix (k_ixT (K := K) (by rfl)) (pe_ix (k_ixL (K := K) (by rfl)) (pv 3) (pe_un un_neg pe_int) (fun _ _ => rfl)) pe_int (fun _ _ => rfl)) (pa_cons (pv 4) pa_nil))) (pg_sub (pv 3) (pe_un un_neg pe_int) set_list))) (pss_one (ps_expr (pe_bm PySem.F.plainAttrs_list PySem.F.slot_list_append PySem.F.type_list_append mt_append (pv 3) (pa_cons (pe_tup (pa_cons (pv 4) (pa_cons (pv 4) pa_nil))) pa_nil)))))))
    (pss_one (ps_ret (pe_callTy (k_tupO (K := K) (by rfl)) (by rfl) T.tuple bt_tuple (pa_cons (pv 3) pa_nil)))))))), ?_⟩
  refine sq (s_asgN (i := 2) (en_c1 (f := recs none) (ev_var rfl hv) hz) fun pt H1 hpt e1 htops => ?_)
  have hlt := recs_len way none
  have hck := lawBlk_eq way low
  unfold lawBlk at hck
  rw [← hck] at k
  clear hck
  generalize recs none way = tops at htops hlt k
  have hcond : EvT (tAnd (tTest (tOp (rNeD K) (tVar 2) (tTup tNil))) (tTest (tOp (rI0 fun i j => .bl (decide (i < j))) (tOp (rIxT K) (tVar 2) (tUn (rU fun i => .int (-i)) (tC (.int 1)))) (tOp (L2.rI CMulW fun i j => .int (i * j)) (tC (.int 2)) (tVar 1))))) [some v, some (.int low), some (.ref pt), none, none] H1 (lowLast tops (2 * low)) := by
    unfold lowLast
    rcases nil_snoc tops with rfl | ⟨ys, m, rfl⟩
    · exact et_and (a := false) (b := false) ((et_test (ev_neE (pye_T pye_I) (by decide) (ev_var rfl htops) (en_tup (r := dI) ea_nil (Nat.zero_le _)).ev)).to (by simp)) (fun z => nomatch z)
    · rw [List.getLast?_append]
      exact et_and (a := true) (b := decide (m < 2 * low)) ((et_test (ev_neE (pye_T pye_I) (by decide) (ev_var rfl htops) (en_tup (r := dI) ea_nil (Nat.zero_le _)).ev)).to (by simp)) (fun _ => et_test (ev_B0 (ev_lastT (r := dI) (ev_var rfl htops)) (ev_mulW ev_int (ev_var rfl rfl) (by unfold Sm; decide) hs)))
  generalize lowLast tops (2 * low) = bb at hcond k
  refine sq (s_if hcond (fun hb H2 e2 => ?_) (fun hb H2 e2 => ?_))
  · rw [if_pos hb] at k
    exact s_ret (ev_non (r := dT dPI)) fun x H3 e3 hx => k x H3 (ext e1 (ext e2 e3)) hx
  · rw [if_neg (by rw [hb]; exact Bool.false_ne_true)] at k
    refine snx ?_
    dsimp only
    refine sq (s_asgN (i := 3) (en_lst (r := dPI) ea_nil (Nat.zero_le _)) fun p H3 hp e3 hl => ?_)
    have hp0 : H p = none := exf (ext e1 e2) hp
    have hlen2 : (tops.reverse.map fun x : Int => (x, x)).length ≤ 1000 := by
      rw [List.length_map, List.length_reverse]; omega
    refine sq (s_forT (r := dI) (as := tops.reverse) (en_revT (ev_var rfl ((dT dI).ex (ext e2 e3) htops))).ev (P := fun H5 i σ' H' => ∃ x, σ' = [some v, some (.int low), some (.ref pt), some (.ref p), x] ∧ (dL dPI).is H' (.ref p) (((tops.reverse.map fun x : Int => (x, x)).take i).foldl (joinStep low) []) ∧ Ex H H' ∧ TX H5 H') ?_ ?_ ?_ ?_)
    · rintro H5 i σ' H' ⟨_, _, _, _, e⟩
      exact e
    · exact fun H5 e5 => ⟨_, rfl, by simpa using (dL dPI).ex e5 hl, ext e1 (ext e2 (ext e3 e5)), txr⟩
    · rintro H5 i a x σ' H' e5 hi ⟨x0, rfl, hl, e, tx⟩ hx
      cases hx
      refine gn ?_
      have hd : (tops.reverse.map fun x : Int => (x, x))[i]? = some (a, a) := by rw [List.getElem?_map, hi]; rfl
      rw [fold_snoc hd]
      have hbound : (((tops.reverse.map fun x : Int => (x, x)).take i).foldl (joinStep low) []).length < 100000 := by
        have := fold_join_len (least := low) ((tops.reverse.map fun x : Int => (x, x)).take i) []
        rw [List.length_take] at this
        simp only [List.length_nil] at this
        omega
      generalize ((tops.reverse.map fun x : Int => (x, x)).take i).foldl (joinStep low) [] = acc at hl hbound
      rcases nil_snoc acc with rfl | ⟨ys, m, rfl⟩
      · refine s_if (b := false) (et_and (a := false) (b := false) ((et_test (ev_neE (pye_L pye_PI) (by decide) (ev_var rfl hl) (en_lst (r := dPI) ea_nil (Nat.zero_le _)).ev)).to (by simp)) (fun z => nomatch z)) (fun z => nomatch z) (fun _ H1 e3 => ?_)
        refine s_appD ((dL dPI).ex e3 hl) (ev_ref rfl) (en_pair (a := a) (b := a) (ev_var rfl rfl) (ev_var rfl rfl)).ev hbound fun H2 o e4 h4 t4 => ⟨_, rfl, ?_, exm (ext e (ext e3 e4)) hp0, txt tx (txt e3.tx (txt e4.tx t4))⟩
        simpa [joinStep] using h4
      · refine s_if (b := decide (a - m.2 ≤ low)) ((et_and (a := true) (b := decide (a - m.2 ≤ low)) ((et_test (ev_neE (pye_L pye_PI) (by decide) (ev_var rfl hl) (en_lst (r := dPI) ea_nil (Nat.zero_le _)).ev)).to (by simp)) (fun _ => et_test (ev_B0 (ev_I0 (ev_var rfl rfl) (ev_ix1 (ev_last (r := dPI) (ev_var rfl hl)))) (ev_var rfl rfl))))) (fun hb H1 e3 => ?_) (fun hb H1 e3 => ?_)
        · refine s_setLast (a := (m.1, a)) ((dL dPI).ex e3 hl) (ev_ref rfl) (en_pair (a := m.1) (b := a) (ev_ix0 (ev_last (r := dPI) (ev_var rfl ((dL dPI).ex e3 hl)))) (ev_var rfl rfl)).ev fun H2 o e4 h4 t4 => ⟨_, rfl, ?_, exm (ext e (ext e3 e4)) hp0, txt tx (txt e3.tx (txt e4.tx t4))⟩
          have hle : a - m.2 ≤ low := of_decide_eq_true hb
          simpa [joinStep, hle] using h4
        · refine s_appD ((dL dPI).ex e3 hl) (ev_ref rfl) (en_pair (a := a) (b := a) (ev_var rfl rfl) (ev_var rfl rfl)).ev hbound fun H2 o e4 h4 t4 => ⟨_, rfl, ?_, exm (ext e (ext e3 e4)) hp0, txt tx (txt e3.tx (txt e4.tx t4))⟩
          have hle : ¬ a - m.2 ≤ low := of_decide_eq_false hb
          simpa [joinStep, hle] using h4
    · rintro H5 σ' H' e5 ⟨x0, rfl, hl, e, tx⟩
      rw [show tops.reverse.length = (tops.reverse.map fun x : Int => (x, x)).length by simp, List.take_length] at hl
      exact s_ret (EvN.some (en_tupleL (r := dPI) (ev_var rfl hl))) fun x H6 e6 hx => k x H6 (ext e e6) hx
end
end Cu
set_option maxRecDepth 100000
set_option maxHeartbeats 4000000
/-! Cu, walk 12: _law_rising, _law_short. -/
namespace Cu
open PySem PySem.Spec PyProof.Rows L2
structure RiseOk (ns : List Int) (low : Int) : Prop where
  ne : ns ≠ []
  len : ns.length ≤ 4
  lim : ∀ x ∈ ns, 1 ≤ x ∧ x ≤ 16 * low
def spRising : Sp := fun vs H Q _ => ∃ (p : Addr) (low : Int) (k : Nat), vs = [.ref p, .int low, .int 4] ∧ BoxAt p H k ∧ k ≤ 900000 ∧ LowOk low ∧ ∀ l ns H', H l = none → EB p H H' → BoxAt p H' (k + 10) → H' l = some (.lst (ns.map V.int)) → RiseOk ns low → Q (.ref l) H'
def spShort : Sp := fun vs H Q _ => ∃ (p : Addr) (low : Int) (k : Nat), vs = [.ref p, .int low] ∧ BoxAt p H k ∧ k ≤ 800000 ∧ LowOk low ∧ ∀ v ws H', EB p H H' → BoxAt p H' (k + 20) → (dT dI).is H' v ws → WayOk ws low → Q v H'
section
variable {P : Program} {w : World} {K : PySem.W.Frag} {mg : Str → Option Value} {base : Heap}
theorem ok_law_rising (F : Df K mg "_law_rising" st__law_rising P__law_rising) (T : Nb mg) (c__law_take : Cal P w K mg base 1 "_law_take" spTake) (c__law_of : Cal P w K mg base 2 "_law_of" spOf) : Cal P w K mg base 3 "_law_rising" spRising := by
  refine F.cal sc__law_rising (fun vs H Q E h => by obtain ⟨p, low, k, rfl, _⟩ := h; rfl) (fun f cdv A outer s H vs Q E hr h => ?_)
  obtain ⟨p, low, k, rfl, hbox, hk, hlow, kq⟩ := h
  refine ⟨_, (pss_cons (ps_set (i := 3) sc__law_rising.nd rfl (by first | exact Or.inl rfl | exact Or.inr rfl) (pe_lst (pa_cons (pe_cal c__law_of (hr.mono (by decide)) (by rfl) (pa_cons (pv 0) (pa_cons (pe_lst (pa_cons (pe_op op_mulW pe_int (pv 1)) (pa_cons (pe_op op_mulW pe_int (pv 1)) (pa_cons (pe_op op_add (pe_op op_mulW pe_int (pv 1)) pe_int) (pa_cons (pe_op op_mulW pe_int (pv 1)) (pa_cons (pe_op op_add (pe_op op_mulW pe_int (pv 1)) pe_int) (pa_cons (pe_op op_add pe_int (pe_cal c__law_take (hr.mono (by decide)) (by rfl) (pa_cons (pv 0) (pa_cons (pe_op op_mulW pe_int (pv 1)) pa_nil)))) pa_nil))))))) pa_nil))) pa_nil)))
    (pss_cons (ps_for PassesOwn.never (by rfl) (pi_range1 (by rfl) T.range (pa_cons (pe_cal c__law_take (hr.mono (by decide)) (by rfl) (pa_cons (pv 0) (pa_cons (pv 2) pa_nil))) pa_nil)) (pg_name (i := 4) sc__law_rising.nd rfl (by first | exact Or.inl rfl | exact Or.inr rfl))
    (pss_cons (ps_set (i := 5) sc__law_rising.nd rfl (by first | exact Or.inl rfl | exact Or.inr rfl) (pe_cal c__law_of (hr.mono (by decide)) (by rfl) (pa_cons (pv 0) (pa_cons (pe_lst (pa_cons pe_int (pa_cons (pe_callB (cr_max2 (by rfl)) (by rfl) T.max bt_max (pa_cons pe_int (pa_cons (pe_op op_sub (pv 1) pe_int) pa_nil))) (pa_cons (pv 1) (pa_cons (pe_op op_add (pv 1) pe_int) (pa_cons (pe_op op_mulW pe_int (pv 1)) (pa_cons (pe_op op_add (pe_op op_mulW pe_int (pv 1)) pe_int) (pa_cons (pe_op op_add pe_int (pe_cal c__law_take (hr.mono (by decide)) (by rfl) (pa_cons (pv 0) (pa_cons (pe_op op_mulW pe_int (pv 1)) pa_nil)))) pa_nil)))))))) pa_nil))))
    (pss_one (ps_expr (pe_bm PySem.F.plainAttrs_list PySem.F.slot_list_append PySem.F.type_list_append mt_append (pv 3) (pa_cons (pe_op op_add (pe_ix (k_ixL (K := K) (by rfl)) (pv 3) (pe_un un_neg pe_int) (fun _ _ => rfl)) (pv 5)) pa_nil))))))
    (pss_one (ps_ret (pv 3))))), ?_⟩
  have hp1 := hlow.pos
  have sm : ∀ {n : Int}, 0 ≤ n → n ≤ 100000 * low → Sm n := fun h0 h1 => hlow.sm h0 h1
  have s2 : Sm 2 := by unfold Sm; decide
  have s3 : Sm 3 := by unfold Sm; decide
  have s4 : Sm 4 := by unfold Sm; decide
  -- the draw below 4 * low
  have draw : ∀ {σ : L2.St} {k : Nat}, σ[0]? = some (some (.ref p)) → σ[1]? = some (some (.int low)) → k ≤ 950000 → EvBI p k (k + 1) (fun n => 1 ≤ n ∧ n ≤ 4 * low) (tOp (rI0 fun i j => .int (i + j)) (tC (.int 1)) (tCall spTake [] E0 (tCons (tVar 0) (tCons (tOp (L2.rI CMulW fun i j => .int (i * j)) (tC (.int 4)) (tVar 1)) tNil)))) σ := fun {σ k} h0 h1 hk =>
    bi_op (φ := fun n => n = 1) (bi_pure (fun H => ev_int) rfl) (bi_take h0 (φ := fun m => m = 4 * low) (bi_pure (fun H => ev_mulW ev_int (ev_var h1 rfl) s4 (sm (by omega) (by omega))) rfl) (by omega) (fun m hm => ⟨by omega, sm (by omega) (by omega)⟩)) (fun i j hi ⟨m, hm, h3, h4⟩ => by omega)
  have pure2 : ∀ {σ : L2.St} {k : Nat}, σ[1]? = some (some (.int low)) → EvBI p k k (fun n => 1 ≤ n ∧ n ≤ 4 * low) (tOp (L2.rI CMulW fun i j => .int (i * j)) (tC (.int 2)) (tVar 1)) σ := fun {σ k} h1 => bi_pure (fun H => ev_mulW ev_int (ev_var h1 rfl) s2 (sm (by omega) (by omega))) (by omega)
  have pure21 : ∀ {σ : L2.St} {k : Nat}, σ[1]? = some (some (.int low)) → EvBI p k k (fun n => 1 ≤ n ∧ n ≤ 4 * low) (tOp (rI0 fun i j => .int (i + j)) (tOp (L2.rI CMulW fun i j => .int (i * j)) (tC (.int 2)) (tVar 1)) (tC (.int 1))) σ := fun {σ k} h1 => bi_pure (n := 2 * low + 1) (fun H => ev_I0 (g := fun i j => i + j) (ev_mulW ev_int (ev_var h1 rfl) s2 (sm (by omega) (by omega))) ev_int) (by omega)
  have pure3 : ∀ {σ : L2.St} {k : Nat}, σ[1]? = some (some (.int low)) → EvBI p k k (fun n => 1 ≤ n ∧ n ≤ 4 * low) (tOp (L2.rI CMulW fun i j => .int (i * j)) (tC (.int 3)) (tVar 1)) σ := fun {σ k} h1 => bi_pure (fun H => ev_mulW ev_int (ev_var h1 rfl) s3 (sm (by omega) (by omega))) (by omega)
  have pure31 : ∀ {σ : L2.St} {k : Nat}, σ[1]? = some (some (.int low)) → EvBI p k k (fun n => 1 ≤ n ∧ n ≤ 4 * low) (tOp (rI0 fun i j => .int (i + j)) (tOp (L2.rI CMulW fun i j => .int (i * j)) (tC (.int 3)) (tVar 1)) (tC (.int 1))) σ := fun {σ k} h1 => bi_pure (n := 3 * low + 1) (fun H => ev_I0 (g := fun i j => i + j) (ev_mulW ev_int (ev_var h1 rfl) s3 (sm (by omega) (by omega))) ev_int) (by omega)
  refine sq (s_asgBL (Φ := fun ns => ns.length = 1 ∧ ∀ m ∈ ns, 1 ≤ m ∧ m ≤ 4 * low) (bl_lst (ba1 (bi_ofD (c := 5) rfl (ba1 (pure2 rfl) (ba1 (pure2 rfl) (ba1 (pure21 rfl) (ba1 (pure3 rfl) (ba1 (pure31 rfl) (ba1 (draw rfl rfl (by omega)) ba0)))))) (by decide) (by omega)) ba0) (fun ns hn => by rw [hn.1]; decide)) hbox fun l ns H1 hl e1 b1 h1 hns => ?_)
  refine sq (s_forRgB (k' := k + 1 + 1 + 1) (φ := fun d => ∃ m : Int, m = 4 ∧ 0 ≤ d ∧ d < m) (bi_take rfl (φ := fun m => m = 4) (bi_pure (fun H => ev_var rfl rfl) rfl) (by omega) (fun m hm => ⟨by omega, by rw [hm]; exact s4⟩)) b1 (fun n ⟨m, hm, h3, h4⟩ => ⟨h3, by omega⟩)
    (P := fun H5 i σ' H' => ∃ (x4 x5 : Option V) (ms : List Int), σ' = [some (.ref p), some (.int low), some (.int 4), some (.ref l), x4, x5] ∧ BoxAt p H' (k + 3 + 2 * i) ∧ H' l = some (.lst (ms.map V.int)) ∧ ms ≠ [] ∧ ms.length ≤ i + 1 ∧ (∀ x ∈ ms, 1 ≤ x ∧ x ≤ 4 * low * (i + 1)) ∧ EB p H H') ?_ ?_ ?_)
  · intro H2 e2 b2
    exact ⟨_, _, ns, rfl, b2.le (by omega), e2 l _ (hbox.ne hl) h1, fun z => by rw [z] at hns; exact absurd hns.1 (by simp), by omega, fun x hx => by have := hns.2 x hx; simp; omega, ebt e1 e2⟩
  · rintro H5 n i σ' H' e5 ⟨m, hm, hn0, hn1⟩ hi ⟨x4, x5, ms, rfl, hb, hl', hne, hlen, hlim, eH⟩
    refine gn ?_
    refine sq (s_asgB (φ := fun n => 1 ≤ n ∧ n ≤ 4 * low) (k' := k + 3 + 2 * i + 1 + 1) (bi_ofD (c := 6) rfl (ba1 (bi_pure (fun H => ev_int) (by omega)) (ba1 (bi_pure (n := max 1 (low - 1)) (fun H => ev_max2 ev_int (ev_I0 (g := fun i j => i - j) (ev_var rfl rfl) ev_int)) (by omega)) (ba1 (bi_pure (n := low) (fun H => ev_var rfl rfl) (by omega)) (ba1 (bi_pure (n := low + 1) (fun H => ev_I0 (g := fun i j => i + j) (ev_var rfl rfl) ev_int) (by omega)) (ba1 (pure2 rfl) (ba1 (pure21 rfl) (ba1 (draw rfl rfl (by omega)) ba0))))))) (by decide) (by omega)) hb fun gap H6 e6 b6 hgap => ?_)
    obtain ⟨ys, y, hms⟩ : ∃ ys y, ms = ys ++ [y] := by
      rcases nil_snoc ms with h | h
      · exact absurd h hne
      · exact h
    have hl6 := e6 l _ (hbox.ne hl) hl'
    have hy := hlim y (by rw [hms]; exact List.mem_append_right _ (List.mem_singleton.mpr rfl))
    refine s_appI hl6 (ev_ref rfl) (ev_I0 (g := fun i j => i + j) (i := y) (j := gap) (ev_last (r := dI) (as := ys) (ev_var rfl (by rw [← hms]; exact isLI hl6))) (ev_var rfl rfl)) (by omega) fun H7 e7 h7 => ?_
    refine ⟨_, _, ms ++ [y + gap], rfl, ((b6.ex e7).upd (hbox.ne hl)).le (by omega), h7, by simp, by rw [List.length_append, List.length_singleton]; omega, fun x hx => ?_, eb_free (ebt eH (ebt e6 e7.eb)) hl⟩
    have hmul : 4 * low * ((i : Int) + 1 + 1) = 4 * low * ((i : Int) + 1) + 4 * low := by rw [Int.mul_add (4 * low) ((i : Int) + 1) 1, Int.mul_one]
    rcases List.mem_append.mp hx with h | h
    · have := hlim x h
      push_cast
      omega
    · rw [List.mem_singleton] at h
      subst h
      push_cast
      omega
  · rintro H5 n σ' H' e5 ⟨m, hm, hn0, hn1⟩ ⟨x4, x5, ms, rfl, hb, hl', hne, hlen, hlim, eH⟩
    refine s_ret (ev_ref rfl) fun x H6 e6 hx => ?_
    cases hx
    refine kq l ms H6 hl (ebt eH e6.eb) ((hb.ex e6).le (by omega)) (e6 l _ hl') ⟨hne, by omega, fun x hx => ?_⟩
    have h3 := hlim x hx
    have h4 : 4 * low * ((n.toNat : Int) + 1) ≤ 4 * low * 4 := Int.mul_le_mul_of_nonneg_left (by omega) (by omega)
    omega
theorem ok_law_short (F : Df K mg "_law_short" st__law_short P__law_short) (T : Nb mg) (c__law_take : Cal P w K mg base 1 "_law_take" spTake) (c__law_rising : Cal P w K mg base 3 "_law_rising" spRising) : Cal P w K mg base 4 "_law_short" spShort := by
  refine F.cal sc__law_short (fun vs H Q E h => by obtain ⟨p, low, k, rfl, _⟩ := h; rfl) (fun f cdv A outer s H vs Q E hr h => ?_)
  obtain ⟨p, low, k, rfl, hbox, hk, hlow, kq⟩ := h
  refine ⟨_, (pss_cons (ps_set (i := 2) sc__law_short.nd rfl (by first | exact Or.inl rfl | exact Or.inr rfl) (pe_revL (pe_cal c__law_rising (hr.mono (by decide)) (by rfl) (pa_cons (pv 0) (pa_cons (pv 1) (pa_cons pe_int pa_nil))))))
    (pss_cons (ps_if (pt_cmpR op_eq (pe_cal c__law_take (hr.mono (by decide)) (by rfl) (pa_cons (pv 0) (pa_cons pe_int pa_nil))) pe_int (nomark _)) (pss_one (ps_expr (pe_bm PySem.F.plainAttrs_list PySem.F.slot_list_append PySem.F.type_list_append mt_append (pv 2) (pa_cons (pe_op op_add (pe_callB (k_minD (K := K) (by rfl) hr.units (by rfl)) (by rfl) T.min bt_min (pa_cons (pv 2) pa_nil)) (pe_cal c__law_take (hr.mono (by decide)) (by rfl) (pa_cons (pv 0) (pa_cons (pe_op op_mulW pe_int (pv 1)) pa_nil)))) pa_nil)))) pss_nil)
    (pss_one (ps_ret (pe_callTy (k_tupO (K := K) (by rfl)) (by rfl) T.tuple bt_tuple (pa_cons (pv 2) pa_nil)))))), ?_⟩
  have hp1 := hlow.pos
  have sm : ∀ {n : Int}, 0 ≤ n → n ≤ 100000 * low → Sm n := fun h0 h1 => hlow.sm h0 h1
  have s2 : Sm 2 := by unfold Sm; decide
  refine ⟨.ref p, rfl, .int low, rfl, p, low, k, rfl, hbox, by omega, hlow, fun l ns H1 hl e1 b1 h1 hns => ⟨l, _, rfl, SqL.of h1, fun l2 hl2 => ?_⟩⟩
  have hl0 : H l2 = none := eb_none e1 hl2 (b1.ne hl2)
  have e2 : EB p H (upd H1 l2 (.lst (ns.map V.int).reverse)) := eb_free e1 hl0
  have b2 : BoxAt p (upd H1 l2 (.lst (ns.map V.int).reverse)) (k + 10) := b1.upd (b1.ne hl2)
  have h2 : upd H1 l2 (.lst (ns.map V.int).reverse) l2 = some (.lst (ns.reverse.map V.int)) := by rw [upd_same, List.map_reverse]
  generalize upd H1 l2 (.lst (ns.map V.int).reverse) = H2 at e2 b2 h2
  have hw : ns.reverse ≠ [] ∧ ns.reverse.length ≤ 4 ∧ ∀ x ∈ ns.reverse, 1 ≤ x ∧ x ≤ 16 * low := ⟨fun z => hns.ne (List.reverse_eq_nil_iff.mp z), by rw [List.length_reverse]; exact hns.len, fun x hx => hns.lim x (List.mem_reverse.mp hx)⟩
  generalize ns.reverse = ws at h2 hw
  refine gn ?_
  dsimp only
  have fin : ∀ (us : List Int) (H3 : Hp), EB p H H3 → BoxAt p H3 (k + 20) → H3 l2 = some (.lst (us.map V.int)) → WayOk us low → tRet (tCB (rTupO K) (tCons (tVar 2) tNil)) { nx := fun _ H' => Q .non H', rt := Q } [some (.ref p), some (.int low), some (.ref l2)] H3 := fun us H3 e3 b3 h3 hus =>
    s_ret (en_tupleL (r := dI) (ev_var rfl (isLI h3))).ev fun x H4 e4 hx => kq x us H4 (ebt e3 e4.eb) (b3.ex e4) hx hus
  refine sq (etB_eq (k1 := k + 11) (k2 := k + 11) (φ := fun d => ∃ m : Int, m = 2 ∧ 0 ≤ d ∧ d < m) (ψ := fun _ => True) (bi_take (k' := k + 10) rfl (φ := fun m => m = 2) (bi_pure (fun H => ev_int) rfl) (by omega) (fun m hm => ⟨by omega, by rw [hm]; exact s2⟩)) (bi_pure (fun H => ev_int) trivial) b2 fun c H3 e3 b3 => ?_)
  have h3 := e3 l2 _ (hbox.ne hl0) h2
  cases c with
  | true =>
    refine iteT ?_
    obtain ⟨x0, xs, hxs⟩ := List.exists_cons_of_ne_nil hw.1
    have hmin : xs.foldl min x0 ∈ ws ∧ True := ⟨by
      rw [hxs]
      have : ∀ (l : List Int) (a : Int), l.foldl min a ∈ a :: l := by
        intro l
        induction l with
        | nil => intro a; simp
        | cons b l ih =>
          intro a
          rw [List.foldl_cons]
          have := ih (min a b)
          rcases List.mem_cons.mp this with h | h
          · rw [h, Int.min_def]; split <;> simp
          · exact List.mem_cons_of_mem _ (List.mem_cons_of_mem _ h)
      exact this xs x0, trivial⟩
    have hml := hw.2.2 _ hmin.1
    -- way.append(min(way) + take(box, 2 * low))
    refine ⟨.ref l2, rfl, Or.inl ⟨rfl, _, SqL.of h3⟩, ?_⟩
    refine (ev_minI (K := K) (n := x0) (ns := xs) (Ev.ql (ev_var (σ := [some (.ref p), some (.int low), some (.ref l2)]) (i := 2) rfl (by rw [← hxs]; exact isLI h3)))) H3 exr _ fun v H4 e4 hv => ?_
    cases hv
    refine bi_take (k' := k + 11) (p := p) (φ := fun m => m = 2 * low) rfl (bi_pure (fun H => ev_mulW ev_int (ev_var rfl rfl) s2 (sm (by omega) (by omega))) rfl) (by omega) (fun m hm => ⟨by omega, sm (by omega) (by omega)⟩) H4 (b3.ex e4) _ fun d H5 e5 b5 hd => ?_
    obtain ⟨m, hm, hd0, hd1⟩ := hd
    have h5 := e5 l2 _ (hbox.ne hl0) (e4 l2 _ h3)
    refine ⟨_, d, rfl, rfl, l2, _, _, rfl, rfl, h5, sz_lt (by rw [List.length_map]; omega), ?_⟩
    have e6 : ws.map V.int ++ [V.int (xs.foldl min x0 + d)] = (ws ++ [xs.foldl min x0 + d]).map V.int := by simp
    rw [e6]
    refine fin (ws ++ [xs.foldl min x0 + d]) _ (eb_free (ebt e2 (ebt e3 (ebt e4.eb e5))) hl0) ((b5.upd (hbox.ne hl0)).le (by omega)) upd_same ⟨by simp, by rw [List.length_append, List.length_singleton]; omega, fun x hx => ?_⟩
    rcases List.mem_append.mp hx with h | h
    · have := hw.2.2 x h; omega
    · rw [List.mem_singleton] at h; subst h; omega
  | false =>
    refine iteF ?_
    exact fin ws H3 (ebt e2 e3) (b3.le (by omega)) h3 ⟨hw.1, by omega, fun x hx => by have := hw.2.2 x hx; omega⟩
end
end Cu
set_option maxRecDepth 100000
set_option maxHeartbeats 4000000
/-! Cu, walk 13: _law_deals. -/
namespace Cu
open PySem PySem.Spec PyProof.Rows L2
abbrev st__law_deals : Stmt := top 38
abbrev N__law_deals : List Str := ["_law_box_here", "_law_way", "_law_low", "_law_most", "_law_some", "_law_spots", "_law_block_so", "_law_own", "_law_turn", "_law_dear"]
abbrev P__law_deals : List Str := ["_law_box_here", "_law_way", "_law_low", "_law_most"]
theorem sc__law_deals : FnScope N__law_deals P__law_deals (defScope st__law_deals) := ⟨rfl, rfl, rfl, by decide +kernel, rfl, by decide +kernel, by decide +kernel⟩
structure DealOk (offers : List (Int × Int)) (low : Int) : Prop where
  up : offers.Pairwise fun a b => a.1 < b.1
  len : offers.length ≤ 6
  lim : ∀ o ∈ offers, (1 ≤ o.1 ∧ o.1 ≤ 50 * low) ∧ 0 ≤ o.2
def spDeals : Sp := fun vs H Q _ => ∃ (p : Addr) (v : V) (way : List Int) (low : Int) (k : Nat), vs = [.ref p, v, .int low, .int 6] ∧ BoxAt p H k ∧ k ≤ 700000 ∧ LowOk low ∧ (dT dI).is H v way ∧ WayOk way low ∧ ∀ v2 offers H', EB p H H' → BoxAt p H' (k + 100) → (dT dPI).is H' v2 offers → DealOk offers low → Q v2 H'
theorem putI_keys {α : Type} {l : List (Int × α)} {k : Int} {a : α} : (putI l k a).map (·.1) = if k ∈ l.map (·.1) then l.map (·.1) else l.map (·.1) ++ [k] := by
  have hm : (l.any fun p => decide (p.1 = k)) = decide (k ∈ l.map (·.1)) := by
    by_cases h : k ∈ l.map (·.1)
    · rw [decide_eq_true h, List.any_eq_true]
      obtain ⟨p, hp, rfl⟩ := List.mem_map.mp h
      exact ⟨p, hp, by simp⟩
    · rw [decide_eq_false h, List.any_eq_false]
      intro p hp
      simp only [decide_eq_true_eq]
      exact fun e => h (e ▸ List.mem_map_of_mem (f := (·.1)) hp)
  unfold putI
  rw [hm]
  by_cases h : k ∈ l.map (·.1)
  · rw [if_pos (by simpa using h), if_pos h, List.map_map]
    apply List.map_congr_left
    intro p _
    by_cases e : p.1 = k <;> simp [e]
  · rw [if_neg (by simpa using h), if_neg h, List.map_append]
    rfl
structure KeysOk (low : Int) (c : Nat) (ks : List Int) : Prop where
  nd : ks.Nodup
  len : ks.length ≤ c
  lim : ∀ x ∈ ks, 1 ≤ x ∧ x ≤ 50 * low
theorem KeysOk.put {low : Int} {c : Nat} {l : List (Int × Bool)} {k : Int} (h : KeysOk low c (l.map (·.1))) (hk : 1 ≤ k ∧ k ≤ 50 * low) : KeysOk low (c + 1) ((putI l k true).map (·.1)) := by
  rw [putI_keys]
  split
  · exact ⟨h.nd, Nat.le_succ_of_le h.len, h.lim⟩
  · rename_i hn
    refine ⟨List.nodup_append.mpr ⟨h.nd, by simp, fun a ha b hb => ?_⟩, by rw [List.length_append, List.length_singleton]; have := h.len; omega, fun x hx => ?_⟩
    · rw [List.mem_singleton] at hb
      subst hb
      exact fun e => hn (e ▸ ha)
    · rcases List.mem_append.mp hx with hx | hx
      · exact h.lim x hx
      · rw [List.mem_singleton] at hx
        subst hx
        exact hk
theorem KeysOk.le {low : Int} {c c' : Nat} {ks : List Int} (h : KeysOk low c ks) (hc : c ≤ c') : KeysOk low c' ks := ⟨h.nd, Nat.le_trans h.len hc, h.lim⟩
theorem s_parBD {σ : L2.St} {H : Hp} {D : Ends} {p : Addr} {k k' : Nat} {Φ : List Int → Prop} {te : TE} {i j : Nat} (h : EvBL p k k' Φ te σ) (b : BoxAt p H k) (kk : ∀ l ns H' d, H l = none → EB p H H' → BoxAt p H' k' → H' l = some (.lst (ns.map V.int)) → Φ ns → H' d = none → D.nx ((σ.set i (some (.ref l))).set j (some (.ref d))) (upd H' d (.dK []))) : tPar i j (tCons te (tCons tDNewK tNil)) D σ H :=
  h H b _ fun l ns H1 hl e1 b1 h1 hns d hd => ⟨.ref l, .ref d, rfl, kk l ns H1 d hl e1 b1 h1 hns hd⟩
theorem s_asgAdd {σ : L2.St} {H : Hp} {D : Ends} {p : Addr} {k1 k2 : Nat} {φ ψ : Int → Prop} {A B : TE} {i : Nat} (hA : ∀ Q : VK, (∀ n H1, EB p H H1 → BoxAt p H1 k1 → φ n → Q (.int n) H1) → A σ H Q) (hB : EvBI p k1 k2 ψ B σ) (kk : ∀ n m H2, EB p H H2 → BoxAt p H2 k2 → φ n → ψ m → D.nx (σ.set i (some (.int (n + m)))) H2) :
    tAsg (tOp (rI0 fun i j => .int (i + j)) A B) (gName i) D σ H := hA _ fun n H1 e1 b1 hn => hB H1 b1 _ fun m H2 e2 b2 hm => ⟨n, m, rfl, rfl, kk n m H2 (ebt e1 e2) b2 hn hm⟩
theorem s_retCB1 {σ : L2.St} {H : Hp} {D : Ends} {rr : List V → Hp → VK → Prop} {te : TE} (h : te σ H (fun x H1 => rr [x] H1 D.rt)) : tRet (tCB rr (tCons te tNil)) D σ H := h
theorem sort_ex (ks : List Int) : ∃ ms : List Int, ms.Perm ks ∧ ms.Pairwise (· ≤ ·) := by
  refine ⟨ks.mergeSort (fun a b => decide (a ≤ b)), List.mergeSort_perm _ _, ?_⟩
  have h := List.pairwise_mergeSort (le := fun a b : Int => decide (a ≤ b)) (fun a b c h1 h2 => by simp only [decide_eq_true_eq] at *; omega) (fun a b => by simp only [Bool.or_eq_true, decide_eq_true_eq]; omega) ks
  exact h.imp fun h => by simpa using h
theorem strict_of {ms : List Int} (h : ms.Pairwise (· ≤ ·)) (hn : ms.Nodup) : ms.Pairwise (· < ·) := by
  refine (List.pairwise_and_iff.mpr ⟨h, hn⟩).imp fun {a b} h => ?_
  have h1 : a ≤ b := h.1
  have h2 : a ≠ b := h.2
  omega
/-- for x in the list of ints that stands in a slot -/
theorem s_forLV {σ : L2.St} {H : Hp} {g : TG} {tu : TS} {D : Ends} {K : PySem.W.Frag} {iv : Nat} {l : Addr} {ns : List Int} (hi : σ[iv]? = some (some (.ref l))) (P : Nat → L2.St → Hp → Prop) (hE : ∀ i σ' H', P i σ' H' → H' l = some (.lst (ns.map V.int))) (h0 : P 0 σ H)
    (hs : ∀ i a σ' H', ns[i]? = some a → P i σ' H' → g (.int a) σ' H' fun σ2 H2 => tu { D with nx := P (i + 1), ct := P (i + 1), bk := D.nx } σ2 H2)
    (hd : ∀ σ' H', P ns.length σ' H' → D.nx σ' H') : tFor (iList K (tVar iv)) g tu D σ H := by
  refine ⟨.ref l, hi, l, rfl, ⟨_, SqL.of (hE _ _ _ h0)⟩, ?_⟩
  refine for_it (n := ns.length) (G := fun H' => H' l = some (.lst (ns.map V.int))) (Y := fun i H1 x H2 => H2 = H1 ∧ ∃ a, ns[i]? = some a ∧ x = .int a) ?_ P h0 (fun i σ H _ h => hE i σ H h) (fun i x σ' H2 H' _ hp' y => ?_) hd
  · rw [show ns.length = (ns.map V.int).length by simp]
    refine (walk_list (K := K) (a := l) (xs := ns.map V.int)).mono (fun H2 e => SqL.of e) fun i H2 x H3 _ e y => ?_
    obtain ⟨rfl, hx⟩ := y
    rw [List.getElem?_map] at hx
    cases q : ns[i]? with
    | none => rw [q] at hx; cases hx
    | some a => rw [q] at hx; cases hx; exact ⟨rfl, a, rfl, rfl⟩
  · obtain ⟨rfl, a, ha, rfl⟩ := y
    exact hs i a σ' H' ha hp'
/-- [(own, take(box, dear)) for own in a new list of ints] -/
theorem lc_draw {σ : L2.St} {H : Hp} {K : PySem.W.Frag} {tl : TE} {ns : List Int} {p : Addr} {k : Nat} {dear : Int} (h : EvN (dL dI) tl σ H ns) (hz : ns.length ≤ 1000) (b : BoxAt p H k) (hk : k ≤ 900000) (h0 : (wipe σ [7])[0]? = some (some (.ref p))) (h9 : (wipe σ [7])[9]? = some (some (.int dear))) (h7 : 7 < (wipe σ [7]).length) (hw : ∀ v, wipe ((wipe σ [7]).set 7 v) [7] = wipe σ [7]) (hd : 1 ≤ dear ∧ Sm dear) {Q : VK}
    (q : ∀ l offers H', H l = none → EB p H H' → BoxAt p H' (k + ns.length) → (dL dPI).is H' (.ref l) offers → offers.map (·.1) = ns → (∀ o ∈ offers, 0 ≤ o.2) → Q (.ref l) H') :
    tLc (iList K tl) (gName 7) tYes (tTup (tCons (tVar 7) (tCons (tCall spTake [] E0 (tCons (tVar 0) (tCons (tVar 9) tNil))) tNil))) [7] σ H Q := by
  refine h H exr _ fun s H1 hs e1 ⟨s', xs, es', h2, h3⟩ => ?_
  cases es'
  have e := ints_of h3
  subst e
  refine ⟨s, rfl, ⟨_, SqL.of h2⟩, fun Dl hD => ?_⟩
  have hDs : Dl ≠ s := fun z => by rw [z, h2] at hD; cases hD
  have b1 := b.ex e1
  have hDp : Dl ≠ p := b1.ne hD
  have hD0 : H Dl = none := exf e1 hD
  refine lc_it (n := ns.length) (G := fun H' => H' s = some (.lst (ns.map V.int))) (Y := fun i H1 x H2 => H2 = H1 ∧ ∃ a, ns[i]? = some a ∧ x = .int a) ?_ (fun i H' => H' s = some (.lst (ns.map V.int)) ∧ ∃ offers, (dL dPI).is H' (.ref Dl) offers ∧ offers.map (·.1) = ns.take i ∧ (∀ o ∈ offers, 0 ≤ o.2) ∧ BoxAt p H' (k + i) ∧ EB p H H') ?_ (fun i H' _ h => h.1) ?_ ?_
  · rw [show ns.length = (ns.map V.int).length by simp]
    refine (walk_list (K := K) (a := s) (xs := ns.map V.int)).mono (fun H2 e => SqL.of e) fun i H2 x H3 _ e y => ?_
    obtain ⟨rfl, hx⟩ := y
    rw [List.getElem?_map] at hx
    cases q : ns[i]? with
    | none => rw [q] at hx; cases hx
    | some a => rw [q] at hx; cases hx; exact ⟨rfl, a, rfl, rfl⟩
  · exact ⟨by rw [upd_ne (Ne.symm hDs)]; exact h2, [], ⟨Dl, [], rfl, upd_same, .nil⟩, rfl, fun o h => (nomatch h), b1.upd hDp, eb_free e1.eb hD0⟩
  · rintro i x H2 H3 hi ⟨hs2, offers, hof, hmap, hnn, hb2, eb2⟩ ⟨rfl, a, ha, rfl⟩
    refine gn ⟨hw _, ?_⟩
    show tYes _ H3 _
    refine et_yes (H := H3) H3 exr _ fun H4 e4 => ?_
    rw [if_pos rfl]
    have hg0 : ((wipe σ [7]).set 7 (some (.int a)))[0]? = some (some (.ref p)) := by rw [List.getElem?_set_ne (by decide)]; exact h0
    have hg9 : ((wipe σ [7]).set 7 (some (.int a)))[9]? = some (some (.int dear)) := by rw [List.getElem?_set_ne (by decide)]; exact h9
    have hg7 : ((wipe σ [7]).set 7 (some (.int a)))[7]? = some (some (.int a)) := by rw [List.getElem?_set_self h7]
    have hlen : offers.length = i := by
      have := congrArg List.length hmap
      rw [List.length_map, List.length_take] at this
      omega
    refine ⟨_, hg7, bi_take (p := p) (φ := fun m => m = dear) hg0 (bi_pure (fun H => ev_var hg9 rfl) rfl) (by omega) (fun m hm => by rw [hm]; exact hd) H4 (hb2.ex e4) _ fun d H5 e5 b5 hdd => ?_⟩
    obtain ⟨m, _, hd0, _⟩ := hdd
    refine ⟨by show 2 ≤ sizeLine; decide, fun t ht => ?_⟩
    obtain ⟨D', ys, eD, hy1, hy2⟩ := (dL dPI).ex e4 hof
    cases eD
    have htp : t ≠ p := b5.ne ht
    have htD : t ≠ Dl := fun z => by
      rw [z, e5 Dl _ hDp hy1] at ht
      cases ht
    have hsp : s ≠ p := b.ne hs
    have hts : t ≠ s := fun z => by
      rw [z, e5 s _ hsp (e4 s _ hs2)] at ht
      cases ht
    have hD5 := e5 Dl _ hDp hy1
    have tx : TX H4 H5 := e5.tx (hb2.ex e4)
    have hD6 : upd H5 t (.tup [.int a, .int d]) Dl = some (.lst ys) := by rw [upd_ne (Ne.symm htD)]; exact hD5
    have tx7 : TX H4 (upd (upd H5 t (.tup [.int a, .int d])) Dl (.lst (ys ++ [.ref t]))) := txt tx (txt (exn ht).tx (txl hD6))
    refine ⟨ys, hD6, sz_lt (by rw [plen hy2, hlen]; omega), ?_, offers ++ [(a, d)], ⟨Dl, _, rfl, upd_same, psnoc (pmap hy2 fun _ _ h => TR.tx tx7 h) ⟨t, _, _, rfl, ?_, rfl, rfl⟩⟩, ?_, ?_, ?_, ?_⟩
    · rw [upd_ne (Ne.symm hDs), upd_ne (Ne.symm hts)]
      exact e5 s _ hsp (e4 s _ hs2)
    · rw [upd_ne htD, upd_same]
    · rw [List.map_append, hmap, take_snoc ha]; rfl
    · intro o ho
      rcases List.mem_append.mp ho with h | h
      · exact hnn o h
      · rw [List.mem_singleton] at h; subst h; exact hd0
    · exact ((b5.upd htp).upd hDp).le (by omega)
    · exact eb_free (ebt eb2 (ebt e4.eb (ebt e5 (exn ht).eb))) hD0
  · rintro H' ⟨hs2, offers, hof, hmap, hnn, hb2, eb2⟩
    rw [List.take_length] at hmap
    exact q Dl offers H' hD0 eb2 hb2 hof hmap hnn
section
variable {P : Program} {w : World} {K : PySem.W.Frag} {mg : Str → Option Value} {base : Heap}
theorem ok_law_deals (F : Df K mg "_law_deals" st__law_deals P__law_deals) (T : Nb mg) (c__law_take : Cal P w K mg base 1 "_law_take" spTake) (c__law_of : Cal P w K mg base 2 "_law_of" spOf)
    (c__law_blocks : Cal P w K mg base 2 "_law_blocks" (sp2 (dT dI) dI (dO (dT dPI)) fillP fillF)) : Cal P w K mg base 3 "_law_deals" spDeals := by
  refine F.cal sc__law_deals (fun vs H Q E h => by obtain ⟨p, v, way, low, k, rfl, _⟩ := h; rfl) (fun f cdv A outer s H vs Q E hr h => ?_)
  obtain ⟨p, v, way, low, k, rfl, hbox, hk, hlow, hv, hway, kq⟩ := h
  refine ⟨_, (pss_cons (ps_par (i := 4) (j := 5) (by rfl) sc__law_deals.nd rfl rfl (by decide) rfl rfl (pa_cons (pe_lst (pa_cons (pe_op op_add pe_int (pe_cal c__law_take (hr.mono (by decide)) (by rfl) (pa_cons (pv 0) (pa_cons (pe_op op_mulW pe_int (pv 2)) pa_nil)))) pa_nil)) (pa_cons pe_dnewK pa_nil)) (by rfl))
    (pss_cons (ps_for PassesOwn.never (by rfl) (k_pitup (K := K) (by rfl) (k_orT (K := K) (by rfl) (pe_cal c__law_blocks (hr.mono (by decide)) (by rfl) (pa_cons (pv 1) (pa_cons (pv 2) pa_nil))) (pe_one (pe_tup pa_nil)))) (pg_name (i := 6) sc__law_deals.nd rfl (by first | exact Or.inl rfl | exact Or.inr rfl))
    (pss_one (ps_set (i := 4) sc__law_deals.nd rfl (by first | exact Or.inl rfl | exact Or.inr rfl) (pe_op op_cat (pe_callTy (k_lstO (K := K) (by rfl)) (by rfl) T.list bt_list (pa_cons (pv 6) pa_nil)) (pv 4)))))
    (pss_cons (ps_for PassesOwn.never (by rfl) (k_pilist (K := K) (by rfl) (pv 4)) (pg_name (i := 7) sc__law_deals.nd rfl (by first | exact Or.inl rfl | exact Or.inr rfl))
    (pss_one (ps_if (pt_cmpR op_gt (pe_cal c__law_take (hr.mono (by decide)) (by rfl) (pa_cons (pv 0) (pa_cons pe_int pa_nil))) pe_int (nomark _)) (pss_one (ps_dput (hu_of hr) (pv 5) (pv 7) pe_bl (by rfl))) pss_nil)))
    (pss_cons (ps_for PassesOwn.never (by rfl) (pi_range1 (by rfl) T.range (pa_cons (pe_cal c__law_take (hr.mono (by decide)) (by rfl) (pa_cons (pv 0) (pa_cons (pv 3) pa_nil))) pa_nil)) (pg_name (i := 8) sc__law_deals.nd rfl (by first | exact Or.inl rfl | exact Or.inr rfl))
    (pss_cons (ps_set (i := 7) sc__law_deals.nd rfl (by first | exact Or.inl rfl | exact Or.inr rfl) (pe_op op_add (pe_cal c__law_of (hr.mono (by decide)) (by rfl) (pa_cons (pv 0) (pa_cons (pv 4) pa_nil))) (pe_op op_mulW (pe_cal c__law_of (hr.mono (by decide)) (by rfl) (pa_cons (pv 0) (pa_cons (pe_lst (pa_cons pe_int (pa_cons (pv 2) (pa_cons (pe_cal c__law_take (hr.mono (by decide)) (by rfl) (pa_cons (pv 0) (pa_cons (pe_op op_add (pe_op op_mulW pe_int (pv 2)) pe_int) pa_nil))) pa_nil)))) pa_nil))) (pe_cal c__law_of (hr.mono (by decide)) (by rfl) (pa_cons (pv 0) (pa_cons (pe_lst (pa_cons pe_int (pa_cons (pe_op op_sub pe_int pe_int) pa_nil))) pa_nil))))))
    (pss_one (ps_dput (hu_of hr) (pv 5) (pe_callB (cr_max2 (by rfl)) (by rfl) T.max bt_max (pa_cons pe_int (pa_cons (pv 7) pa_nil))) pe_bl (by rfl)))))
    (pss_cons (ps_set (i := 9) sc__law_deals.nd rfl (by first | exact Or.inl rfl | exact Or.inr rfl) (pe_cal c__law_of (hr.mono (by decide)) (by rfl) (pa_cons (pv 0) (pa_cons (pe_lst (pa_cons pe_int (pa_cons pe_int (pa_cons (pe_op op_pow pe_int pe_int) pa_nil)))) pa_nil))))
    (pss_one (ps_ret (pe_callTy (k_tupO (K := K) (by rfl)) (by rfl) T.tuple bt_tuple (pa_cons (pe_lc (own := [("_law_own", 7)]) (g := (gName 7)) (tt := tYes) (by rfl) sc__law_deals.nd (k_pilist (K := K) (by rfl) (pe_slice (k_slL (K := K) (by rfl)) (pe_callB (cr_srtD (by rfl)) (by rfl) T.sorted bt_sorted (pa_cons (pv 5) pa_nil)) po_none (po_some (pv 3)))) (blkOk_by (own := [("_law_own", 7)]) (N := N__law_deals) (sc := defScope st__law_deals) (by decide +kernel)) (fun _ _ _ _ _ => (pg_name (i := 7) sc__law_deals.nd rfl (by first | exact Or.inl rfl | exact Or.inr rfl))) (fun _ _ _ _ _ => pts_nil) (fun _ _ _ _ _ => (pe_tup (pa_cons (pv 7) (pa_cons (pe_cal c__law_take (hr.mono (by decide)) (by rfl) (pa_cons (pv 0) (pa_cons (pv 9) pa_nil))) pa_nil))))) pa_nil))))))))), ?_⟩
  have hp1 := hlow.pos
  have sm : ∀ {n : Int}, 0 ≤ n → n ≤ 100000 * low → Sm n := fun h0 h1 => hlow.sm h0 h1
  have s2 : Sm 2 := by unfold Sm; decide
  have s6 : Sm 6 := by unfold Sm; decide
  have s8 : Sm 8 := by unfold Sm; decide
  have take2 : ∀ {σ : L2.St} {k : Nat}, σ[0]? = some (some (.ref p)) → σ[2]? = some (some (.int low)) → k ≤ 950000 → EvBI p k (k + 1) (fun n => 0 ≤ n ∧ n < 2 * low) (tCall spTake [] E0 (tCons (tVar 0) (tCons (tOp (L2.rI CMulW fun i j => .int (i * j)) (tC (.int 2)) (tVar 2)) tNil))) σ := fun {σ k} h0 h1 hk =>
    (bi_take h0 (φ := fun m => m = 2 * low) (bi_pure (fun H => ev_mulW ev_int (ev_var h1 rfl) s2 (sm (by omega) (by omega))) rfl) (by omega) (fun m hm => ⟨by omega, sm (by omega) (by omega)⟩)).imp fun n ⟨m, hm, h3, h4⟩ => by omega
  -- some, spots = [1 + take], {}
  refine sq (s_parBD (k' := k + 1) (Φ := fun ns => ns.length = 1 ∧ ∀ m ∈ ns, 1 ≤ m ∧ m ≤ 2 * low) (bl_lst (ba1 (bi_op (φ := fun n => n = 1) (ψ := fun n => 0 ≤ n ∧ n < 2 * low) (χ := fun m => 1 ≤ m ∧ m ≤ 2 * low) (bi_pure (fun H => ev_int) rfl) (take2 rfl rfl (by omega)) (fun i j hi hj => by omega)) ba0) (fun ns hn => by rw [hn.1]; decide)) hbox fun l ns H1 d hl e1 b1 h1 hns hd => ?_)
  have hdl : d ≠ l := fun z => by rw [z, h1] at hd; cases hd
  have hd0 : H d = none := eb_none e1 hd (b1.ne hd)
  have e2 : EB p H (upd H1 d (.dK [])) := eb_free e1 hd0
  have b2 : BoxAt p (upd H1 d (.dK [])) (k + 1) := b1.upd (b1.ne hd)
  have h2 : upd H1 d (.dK []) l = some (.lst (ns.map V.int)) := by rw [upd_ne (Ne.symm hdl)]; exact h1
  have hd2 : DictAt dB (upd H1 d (.dK [])) d [] := ⟨[], upd_same, .nil⟩
  generalize upd H1 d (.dK []) = H2 at e2 b2 h2 hd2
  have hv2 : (dT dI).is H2 v way := TR.tx (e2.tx hbox) hv
  dsimp only
  have hwl := hway.len
  have hblk : ∀ b ∈ blocksOf (fillF way low), (1 ≤ b.1 ∧ b.1 ≤ 20 * low) ∧ (1 ≤ b.2 ∧ b.2 ≤ 20 * low) := by
    cases hf : fillF way low with
    | none => exact fun b hb => (nomatch hb)
    | some bs =>
      obtain ⟨_, g⟩ := fill_blk hf
      exact fun b hb => ⟨hway.lim _ (g b hb).1, hway.lim _ (g b hb).2⟩
  have hbl : (blocksOf (fillF way low)).length ≤ 5 := by
    cases hf : fillF way low with
    | none => simp [blocksOf]
    | some bs => exact Nat.le_trans (fill_len hf) hwl
  -- the blocks' ends
  refine sq (s_forT (r := dPI) (as := blocksOf (fillF way low)) (ev_orU (ev_c2 (f := fillF) (ev_var rfl hv2) (ev_var rfl rfl) ⟨by omega, sm (by omega) (by omega)⟩)) (P := fun H5 i σ' H' => ∃ (x6 : Option V) (l' : Addr) (ms : List Int), σ' = [some (.ref p), some v, some (.int low), some (.int 6), some (.ref l'), some (.ref d), x6, none, none, none] ∧
    H' l' = some (.lst (ms.map V.int)) ∧ (ms ≠ [] ∧ ms.length ≤ 1 + 2 * i ∧ ∀ x ∈ ms, 1 ≤ x ∧ x ≤ 20 * low) ∧ l' ≠ p ∧ l' ≠ d ∧ DictAt dB H' d [] ∧ BoxAt p H' (k + 1) ∧ EB p H H' ∧ Ex H5 H') ?_ ?_ ?_ ?_)
  · rintro H5 i σ' H' ⟨_, _, _, _, _, _, _, _, _, _, _, e⟩
    exact e.tx
  · intro H5 e5
    exact ⟨_, l, ns, rfl, e5 l _ h2, ⟨fun z => by rw [z] at hns; exact absurd hns.1 (by simp), by omega, fun x hx => by have := hns.2 x hx; omega⟩, hbox.ne hl, Ne.symm hdl, hd2.ex e5, b2.ex e5, ebt e2 e5.eb, exr⟩
  · rintro H5 i ⟨lo, hi'⟩ x σ' H6 e5 hi ⟨x6, l', ms, rfl, hl', ⟨hne, hlen, hlim⟩, hlp, hld, hdd, hb, eH, e56⟩ hx
    have hil := lt_of_get hi
    have hbm := hblk _ (List.mem_of_getElem? hi)
    refine gn ?_
    refine s_asgN (i := 4) (en_catL (r := dI) (en_listP (a := lo) (b := hi') (ev_var rfl hx)).ev (ev_var rfl (isLI hl')) (by simp; omega)) fun q H7 hq e7 hq2 => ?_
    refine ⟨_, q, [lo, hi'] ++ ms, rfl, getLI hq2, ⟨by simp, by simp; omega, fun x hx => ?_⟩, hb.ne hq, fun z => ?_, hdd.ex e7, hb.ex e7, ebt eH e7.eb, ext e56 e7⟩
    · rcases List.mem_append.mp hx with h | h
      · rcases List.mem_cons.mp h with rfl | h
        · exact hbm.1
        · rw [List.mem_singleton] at h; subst h; exact hbm.2
      · exact hlim x h
    · obtain ⟨ks, k1, _⟩ := hdd
      rw [z, k1] at hq
      cases hq
  · rintro H5 σ' H6 e5 ⟨x6, l', ms, rfl, hl', ⟨hne, hlen, hlim⟩, hlp, hld, hdd, hb, eH, e56⟩
    have hml : ms.length ≤ 11 := by omega
    -- for own in some
    refine sq (s_forLV (l := l') (ns := ms) rfl (P := fun i σ' H' => ∃ (x7 : Option V) (kvs : List (Int × Bool)), σ' = [some (.ref p), some v, some (.int low), some (.int 6), some (.ref l'), some (.ref d), x6, x7, none, none] ∧
      H' l' = some (.lst (ms.map V.int)) ∧ DictAt dB H' d kvs ∧ KeysOk low i (kvs.map (·.1)) ∧ BoxAt p H' (k + 1 + i) ∧ EB p H H') ?_ ?_ ?_ ?_)
    · rintro i σ' H' ⟨_, _, _, h, _⟩
      exact h
    · exact ⟨_, [], rfl, hl', hdd, ⟨List.nodup_nil, Nat.zero_le _, fun x h => nomatch h⟩, hb, eH⟩
    · rintro i own σ' H7 hi ⟨x7, kvs, rfl, hl7, hd7, hks, hb7, eH7⟩
      have hil := lt_of_get hi
      have hown := hlim own (List.mem_of_getElem? hi)
      refine gn ?_
      refine etB_op (k1 := k + 1 + i + 1) (k2 := k + 1 + i + 1) (φ := fun d => ∃ m : Int, m = 8 ∧ 0 ≤ d ∧ d < m) (ψ := fun _ => True) (bi_take (k' := k + 1 + i) rfl (φ := fun m => m = 8) (bi_pure (fun H => ev_int) rfl) (by omega) (fun m hm => ⟨by omega, by rw [hm]; exact s8⟩)) (bi_pure (fun H => ev_int) trivial) hb7 fun c H8 e8 b8 => ?_
      have hl8 := e8 l' _ hlp hl7
      have hd8 : DictAt dB H8 d kvs := by
        obtain ⟨ks, k1, k2⟩ := hd7
        exact ⟨ks, e8 d _ (hbox.ne hd0) k1, kmap k2 fun _ _ q => q⟩
      cases c with
      | true =>
        refine iteT ?_
        refine s_dput (r := dB) (a := true) (k := own) ev_bl (ev_ref rfl) (ev_var rfl rfl) hd8 (by have := hks.len; rw [List.length_map] at this; omega) fun H9 o e9 _ hd9 t9 => ?_
        exact ⟨_, _, rfl, by rw [upd_ne hld]; exact e9 l' _ hl8, hd9, hks.put ⟨hown.1, by omega⟩, ((b8.ex e9).upd (hbox.ne hd0)).le (by omega), eb_free (ebt eH7 (ebt e8 e9.eb)) hd0⟩
      | false =>
        refine iteF ?_
        exact ⟨_, kvs, rfl, hl8, hd8, hks.le (Nat.le_succ _), b8.le (by omega), ebt eH7 e8⟩
    · rintro σ' H7 ⟨x7, kvs0, rfl, hl7, hd7, hks, hb7, eH7⟩
      -- for turn in range(take(box, most))
      have hdp : d ≠ p := hbox.ne hd0
      have dict_eb : ∀ {Ha Hb : Hp} {kvs : List (Int × Bool)}, DictAt dB Ha d kvs → EB p Ha Hb → DictAt dB Hb d kvs := fun {Ha Hb kvs} h e => by
        obtain ⟨ks, k1, k2⟩ := h
        exact ⟨ks, e d _ hdp k1, kmap k2 fun _ _ q => q⟩
      refine sq (s_forRgB (k' := k + 1 + ms.length + 1) (φ := fun d => ∃ m : Int, m = 6 ∧ 0 ≤ d ∧ d < m) (bi_take rfl (φ := fun m => m = 6) (bi_pure (fun H => ev_var rfl rfl) rfl) (by omega) (fun m hm => ⟨by omega, by rw [hm]; exact s6⟩)) hb7 (fun n ⟨m, hm, h3, h4⟩ => ⟨h3, by omega⟩)
        (P := fun H5 i σ' H' => ∃ (x7 x8 : Option V) (kvs : List (Int × Bool)), σ' = [some (.ref p), some v, some (.int low), some (.int 6), some (.ref l'), some (.ref d), x6, x7, x8, none] ∧
          H' l' = some (.lst (ms.map V.int)) ∧ DictAt dB H' d kvs ∧ KeysOk low (ms.length + i) (kvs.map (·.1)) ∧ BoxAt p H' (k + 1 + ms.length + 1 + 4 * i) ∧ EB p H H') ?_ ?_ ?_)
      · intro H8 e8 b8
        exact ⟨_, _, kvs0, rfl, e8 l' _ hlp hl7, dict_eb hd7 e8, hks, b8, ebt eH7 e8⟩
      · rintro H8 n i σ' H9 e8 ⟨m, hm, hn0, hn1⟩ hi ⟨x7', x8', kvs, rfl, hl9, hd9, hks9, hb9, eH9⟩
        refine gn ?_
        refine sq (s_asgAdd (p := p) (k1 := k + 1 + ms.length + 1 + 4 * i + 1) (k2 := k + 1 + ms.length + 1 + 4 * i + 4) (φ := fun n => n ∈ ms) (ψ := fun n => -(2 * low) ≤ n ∧ n ≤ 2 * low) (fun Q q => bi_ofV rfl rfl hlp ⟨hne, by omega⟩ (by omega) H9 hb9 hl9 Q q)
          (bi_mul (φ := fun n => 0 ≤ n ∧ n ≤ 2 * low) (ψ := fun n => n = 1 ∨ n = -1) (bi_ofD (c := 2) rfl (ba1 (bi_pure (fun H => ev_int) (by omega)) (ba1 (bi_pure (n := low) (fun H => ev_var rfl rfl) (by omega)) (ba1 ((bi_take rfl (φ := fun m => m = 2 * low + 1) (bi_pure (fun H => ev_I0 (g := fun i j => i + j) (ev_mulW ev_int (ev_var rfl rfl) s2 (sm (by omega) (by omega))) ev_int) rfl) (by omega) (fun m hm => ⟨by omega, sm (by omega) (by omega)⟩)).imp fun n ⟨m, hm, h3, h4⟩ => by omega) ba0))) (by decide) (by omega))
            (bi_ofD (c := 1) rfl (ba1 (bi_pure (fun H => ev_int) (.inl rfl)) (ba1 (bi_pure (n := 0 - 1) (fun H => ev_I0 (g := fun i j => i - j) ev_int ev_int) (.inr rfl)) ba0)) (by decide) (by omega)) (fun i j hi hj => ⟨sm (by omega) (by omega), by rcases hj with rfl | rfl <;> (unfold Sm; decide)⟩) (fun i j hi hj => by rcases hj with rfl | rfl <;> omega)) fun n1 m1 H10 e10 b10 hn1' hm1 => ?_)
        have hlim1 := hlim n1 hn1'
        refine s_dput (r := dB) (a := true) (k := max 1 (n1 + m1)) ev_bl (ev_ref rfl) (ev_max2 ev_int (ev_var rfl rfl)) (dict_eb hd9 e10) (by have := hks9.len; rw [List.length_map] at this; omega) fun H11 o e11 _ hd11 t11 => ?_
        exact ⟨_, _, _, rfl, by rw [upd_ne hld]; exact e11 l' _ (e10 l' _ hlp hl9), hd11, hks9.put ⟨by omega, by omega⟩, ((b10.ex e11).upd hdp).le (by omega), eb_free (ebt eH9 (ebt e10 e11.eb)) hd0⟩
      · rintro H8 n σ' H9 e8 ⟨m, hm, hn0, hn1⟩ ⟨x7', x8', kvs, rfl, hl9, hd9, hks9, hb9, eH9⟩
        have hkl := hks9.len
        rw [List.length_map] at hkl
        refine sq (s_asgB (φ := fun n => 1 ≤ n ∧ n ≤ 10 ^ 30) (k' := k + 1 + ms.length + 1 + 4 * n.toNat + 1) (bi_ofD (c := 2) rfl (ba1 (bi_pure (fun H => ev_int) (by decide)) (ba1 (bi_pure (fun H => ev_int) (by decide)) (ba1 (bi_pure (n := 10 ^ (30 : Int).toNat) (fun H => ev_I (C := CPow) (g := fun i j => i ^ j.toNat) ev_int ev_int ⟨by decide, by decide, by decide⟩) (by decide)) ba0))) (by decide) (by omega)) hb9 fun dear H10 e10 b10 hdear => ?_)
        have hd10 := dict_eb hd9 e10
        obtain ⟨ss, hperm, hsorted⟩ := sort_ex (kvs.map (·.1))
        have hnd : ss.Nodup := hperm.nodup_iff.mpr hks9.nd
        have hstrict := strict_of hsorted hnd
        have hsl : EvN (dL dI) (tSl (rSlL K) (tCB rSrtD (tCons (tVar 5) tNil)) tNoPart (tPart (tVar 3))) [some (.ref p), some v, some (.int low), some (.int 6), some (.ref l'), some (.ref d), x6, x7', x8', some (.int dear)] H10 (ss.take 6) := (en_slL (K := K) (en_sortD (r := dB) (ev_ref (i := 5) (v := .ref d) rfl) hd10.rd (by omega) hperm hsorted).ev eo_none (eo_some (ev_var (r := dI) (i := 3) (a := 6) rfl rfl))).to (by
          show (ss.drop 0).take (min 6 ss.length - 0) = ss.take 6
          rw [List.drop_zero, Nat.sub_zero, ← List.take_take, List.take_length])
        dsimp only
        refine s_retCB1 (lc_draw hsl (by rw [List.length_take]; omega) b10 (by omega) rfl rfl (by show 7 < 10; decide) (fun v => rfl) ⟨hdear.1, sm_le (by omega) (by have := hdear.2; omega)⟩ fun l4 offers H11 hl4 e11 b11 hof hmap hnn => ?_)
        obtain ⟨l5, ys, el5, hy1, hy2⟩ := hof
        cases el5
        refine ⟨l4, ys, rfl, .inl ⟨SqL.of hy1, fun q hq => ?_⟩⟩
        have hlen6 : (ss.take 6).length ≤ 6 := by rw [List.length_take]; omega
        have hq0 : H q = none := eb_none (ebt eH9 (ebt e10 e11)) hq (b11.ne hq)
        refine kq (.ref q) offers _ (eb_free (ebt eH9 (ebt e10 e11)) hq0) ((b11.upd (b11.ne hq)).le (by omega)) ⟨q, ys, rfl, upd_same, pmap hy2 fun _ _ h => dPI.ex (exn hq) h⟩ ⟨?_, ?_, fun o ho => ⟨?_, hnn o ho⟩⟩
        · have h1 : (offers.map (·.1)).Pairwise (· < ·) := by rw [hmap]; exact hstrict.sublist (List.take_sublist _ _)
          exact List.pairwise_map.mp h1
        · have := congrArg List.length hmap
          rw [List.length_map] at this
          omega
        · have h1 : o.1 ∈ ss.take 6 := by rw [← hmap]; exact List.mem_map_of_mem (f := (·.1)) ho
          have h2 := hks9.lim o.1 (hperm.mem_iff.mp (List.mem_of_mem_take h1))
          exact h2
end
end Cu
set_option maxRecDepth 100000
set_option maxHeartbeats 4000000
/-! Cu, walk 14: _law_same. -/
namespace Cu
open PySem PySem.Spec PyProof.Rows L2
abbrev st__law_same : Stmt := top 34
abbrev N__law_same : List Str := ["_law_got", "_law_due", "_law_mine", "_law_its"]
abbrev P__law_same : List Str := ["_law_got", "_law_due"]
theorem sc__law_same : FnScope N__law_same P__law_same (defScope st__law_same) := ⟨rfl, rfl, rfl, by decide +kernel, rfl, by decide +kernel, by decide +kernel⟩
section
variable {α : Type} {r : R α} {σ : L2.St} {H : Hp} {ta tb te : TE} {a b : Bool} {K : PySem.W.Frag}
theorem ev_eqB (ha : Ev dB ta σ H a) (hb : Ev dB tb σ H b) : Ev dB (tOp rEq ta tb) σ H (decide (a = b)) :=
  ev_op ha hb fun x y H1 _ hx hy _ q => by
    cases hx
    cases hy
    refine ⟨rfl, q _ H1 exr ?_⟩
    show V.bl _ = V.bl _
    cases a <;> cases b <;> rfl
theorem ev_neB (ha : Ev dB ta σ H a) (hb : Ev dB tb σ H b) : Ev dB (tOp rNe ta tb) σ H (!decide (a = b)) :=
  ev_op ha hb fun x y H1 _ hx hy _ q => by
    cases hx
    cases hy
    refine ⟨rfl, q _ H1 exr ?_⟩
    show V.bl _ = V.bl _
    cases a <;> cases b <;> rfl
theorem ev_notV (h : Ev dB te σ H a) : Ev dB (tNotV te) σ H (!a) := fun H1 e _ q => h H1 e _ fun v H2 e2 hv => ⟨a, hv, q _ H2 e2 rfl⟩
theorem ev_eqOO {o o' : Option Int} (ha : Ev (dO dI) ta σ H o) (hb : Ev (dO dI) tb σ H o') : Ev dB (tOp rEq ta tb) σ H (decide (o = o')) :=
  ev_op ha hb fun x y H1 _ hx hy _ q => by
    cases o with
    | none =>
      cases (show x = .non from hx)
      cases o' with
      | none =>
        cases (show y = .non from hy)
        exact ⟨rfl, q _ H1 exr rfl⟩
      | some j =>
        have hy2 : y = .int j := hy.2
        subst hy2
        exact ⟨rfl, q _ H1 exr rfl⟩
    | some i =>
      have hx2 : x = .int i := hx.2
      subst hx2
      cases o' with
      | none =>
        cases (show y = .non from hy)
        exact ⟨rfl, q _ H1 exr rfl⟩
      | some j =>
        have hy2 : y = .int j := hy.2
        subst hy2
        refine ⟨rfl, q _ H1 exr ?_⟩
        show V.bl _ = V.bl _
        congr 1
        by_cases h : i = j
        · subst h; simp
        · rw [decide_eq_false (by intro z; cases z; exact h rfl), decide_eq_false (by intro z; cases z; exact h rfl)]
/-- None, an int, or a list -/
def dS (r : R α) : R (Option Int ⊕ List α) := ⟨fun H v x => match x with
    | .inl o => (dO dI).is H v o
    | .inr l => (dL r).is H v l,
  fun {H H' v x} e h => match x, h with
    | .inl o, h => (dO dI).ex e h
    | .inr l, h => (dL r).ex e h⟩
theorem Ev.sl {o : Option Int} (h : Ev (dS r) te σ H (.inl o)) : Ev (dO dI) te σ H o := h.re fun _ _ hv => hv
theorem Ev.sr {l : List α} (h : Ev (dS r) te σ H (.inr l)) : Ev (dL r) te σ H l := h.re fun _ _ hv => hv
def Shp (S : α → α → Prop) : (Option Int ⊕ List α) → (Option Int ⊕ List α) → Prop
  | .inl _, .inl _ => True
  | .inr l, .inr m => (l.length ≤ 1000 ∧ m.length ≤ 1000) ∧ ∀ d ∈ l.zip m, S d.1 d.2
  | _, _ => False
theorem ty_O {o : Option Int} {b c : Bool} {us : List Value} (h1 : (PySem.W.kitAny K (.type "NoneType") us) = some b) (h2 : (PySem.W.kitAny K (.type "int") us) = some c) : ∀ H v, (dO dI).is H v o → ∃ t, TyX K H v t ∧ PySem.W.kitAny K t us = some (match o with | none => b | some _ => c) := fun H v hv => by
  cases o with
  | none => exact ty_none (r := dI) h1 H v hv
  | some i => exact ty_int (i := i) h2 H v hv.2
end
section
variable {P : Program} {w : World} {K : PySem.W.Frag} {mg : Str → Option Value} {base : Heap}
theorem same_base {f : Addr} (T : Nb mg) {α : Type} [DecidableEq α] {r : R α} {S : α → α → Prop} {k : Nat} (c__law_same : Cal P w K mg base k "_law_same" (sp2 r r dB S (fun a b => decide (a = b))))
    {cdv : Value} {A : Around} {outer : List Env} {s : Shared} {H : Hp} {Q : VK} {E : XK} (hr : Room k (A.deeper (envOfC "_law_same" (defScope st__law_same) s.heap.objs.size f cdv))) {v v2 : V} {o o' : Option Int} (hv : (dO dI).is H v o) (hv2 : (dO dI).is H v2 o') (kq : ∀ x H', Ex H H' → dB.is H' x (decide (o = o')) → Q x H') :
    ∃ t, PSs (cxOf CX0 P w K mg base N__law_same "_law_same" (defScope st__law_same) f cdv A outer s H E).nox (defBody st__law_same) t ∧ t { nx := fun _ H' => Q .non H', rt := Q } (start N__law_same [v, v2]) H := by
  refine ⟨_, (pss_cons (ps_if (pt_val (pe_callB (k_isiT (K := K) (by rfl)) (by rfl) T.isinstance bt_isinstance (pa_cons (pv 1) (pa_cons (pe_tup (pa_cons (pe_bltn (v := .ty "list") (u := .type "list") (by rfl) T.list bt_list rfl) (pa_cons (pe_bltn (v := .ty "tuple") (u := .type "tuple") (by rfl) T.tuple bt_tuple rfl) pa_nil))) pa_nil)))) (pss_cons (ps_if (PW.pt (pw_or (pt_cmpR op_ne (pe_callB (k_isi (K := K) (by rfl)) (by rfl) T.isinstance bt_isinstance (pa_cons (pv 0) (pa_cons (pe_bltn (v := .ty "list") (u := .type "list") (by rfl) T.list bt_list rfl) pa_nil))) (pe_callB (k_isi (K := K) (by rfl)) (by rfl) T.isinstance bt_isinstance (pa_cons (pv 1) (pa_cons (pe_bltn (v := .ty "list") (u := .type "list") (by rfl) T.list bt_list rfl) pa_nil))) (nomark _)) (pw_or1 (pt_cmpR op_ne (pe_callB (k_isi (K := K) (by rfl)) (by rfl) T.isinstance bt_isinstance (pa_cons (pv 0) (pa_cons (pe_bltn (v := .ty "tuple") (u := .type "tuple") (by rfl) T.tuple bt_tuple rfl) pa_nil))) (pe_callB (k_isi (K := K) (by rfl)) (by rfl) T.isinstance bt_isinstance (pa_cons (pv 1) (pa_cons (pe_bltn (v := .ty "tuple") (u := .type "tuple") (by rfl) T.tuple bt_tuple rfl) pa_nil))) (nomark _))))) (pss_one (ps_ret pe_bl)) pss_nil)
    (pss_one (ps_ret (pe_and (pe_cmpR op_eq (pe_callB (k_len (K := K) (by rfl)) (by rfl) T.len bt_len (pa_cons (pv 0) pa_nil)) (pe_callB (k_len (K := K) (by rfl)) (by rfl) T.len bt_len (pa_cons (pv 1) pa_nil)) (nomark _)) (pe_one (pe_callB (k_all (K := K) (by rfl) (by rfl)) (by rfl) T.all bt_all (pa_cons (pe_lc (own := [("_law_mine", 2), ("_law_its", 3)]) (g := (gTup K 2 (gCons (gName 2) (gCons (gName 3) gNil)))) (tt := tYes) (by rfl) sc__law_same.nd (RZ.pi_zipA (by rfl) T.zip (pa_cons (pv 0) (pa_cons (pv 1) pa_nil))) (blkOk_by (own := [("_law_mine", 2), ("_law_its", 3)]) (N := N__law_same) (sc := defScope st__law_same) (by decide +kernel)) (fun _ _ _ _ _ => (k_gtup (K := K) (by rfl) (by rfl) (pgs_cons (pg_name (i := 2) sc__law_same.nd rfl (by first | exact Or.inl rfl | exact Or.inr rfl)) (pgs_cons (pg_name (i := 3) sc__law_same.nd rfl (by first | exact Or.inl rfl | exact Or.inr rfl)) pgs_nil)))) (fun _ _ _ _ _ => pts_nil) (fun _ _ _ _ _ => (pe_cal c__law_same (hr.mono (by first | decide | omega)) (by rfl) (pa_cons (pv 2) (pa_cons (pv 3) pa_nil))))) pa_nil))))))) pss_nil)
    (pss_cons (ps_if (PW.pt (pw_or (pt_cmpR op_isN' (pv 1) pe_non (nomark _)) (pw_or1 (pt_val (pe_callB (k_isiT (K := K) (by rfl)) (by rfl) T.isinstance bt_isinstance (pa_cons (pv 1) (pa_cons (pe_tup (pa_cons (pe_bltn (v := .ty "bool") (u := .type "bool") (by rfl) T.bool bt_bool rfl) (pa_cons (pe_bltn (v := .ty "str") (u := .type "str") (by rfl) T.str bt_str rfl) pa_nil))) pa_nil))))))) (pss_one (ps_ret (pe_and (pe_cmpR op_eq (pv 0) (pv 1) (nomark _)) (pe_and (pe_cmpR op_eq (pe_callB (k_isi (K := K) (by rfl)) (by rfl) T.isinstance bt_isinstance (pa_cons (pv 0) (pa_cons (pe_bltn (v := .ty "bool") (u := .type "bool") (by rfl) T.bool bt_bool rfl) pa_nil))) (pe_callB (k_isi (K := K) (by rfl)) (by rfl) T.isinstance bt_isinstance (pa_cons (pv 1) (pa_cons (pe_bltn (v := .ty "bool") (u := .type "bool") (by rfl) T.bool bt_bool rfl) pa_nil))) (nomark _)) (pe_one (pe_cmpR op_eq (pe_cmpR op_isN' (pv 0) pe_non (nomark _)) (pe_cmpR op_isN' (pv 1) pe_non (nomark _)) (nomark _))))))) pss_nil)
    (pss_one (ps_ret (pe_and (pe_callB (k_isi (K := K) (by rfl)) (by rfl) T.isinstance bt_isinstance (pa_cons (pv 0) (pa_cons (pe_bltn (v := .ty "int") (u := .type "int") (by rfl) T.int bt_int rfl) pa_nil))) (pe_and (pe_not (pe_callB (k_isi (K := K) (by rfl)) (by rfl) T.isinstance bt_isinstance (pa_cons (pv 0) (pa_cons (pe_bltn (v := .ty "bool") (u := .type "bool") (by rfl) T.bool bt_bool rfl) pa_nil)))) (pe_one (pe_cmpR op_eq (pv 0) (pv 1) (nomark _))))))))), ?_⟩
  refine sq (s_if (b := false) (et_B ((ev_isi2 (r := dO dI) (ev_var rfl hv2) (ty_O k_non_lt k_int_lt)).to (by cases o' <;> rfl))) (fun z => nomatch z) (fun _ H1 e1 => ?_))
  refine snx ?_
  dsimp only
  have g1 := (dO dI).ex e1 hv
  have g2 := (dO dI).ex e1 hv2
  cases o' with
  | none =>
    refine sq (s_if (b := true) (et_or (a := true) (b := false) (et_test (ev_isN (r := dI) (ev_var rfl g2))) (fun z => nomatch z)) (fun _ H2 e2 => ?_) (fun z => nomatch z))
    have g3 := (dO dI).ex e2 g1
    have g4 := (dO dI).ex e2 g2
    refine s_ret (a := decide (o = none)) ((ev_andV (a := decide (o = none)) (b := decide (o = none)) (ev_eqOO (ev_var rfl g3) (ev_var rfl g4)) (fun _ => (ev_andV (a := true) (b := decide (o = none)) ((ev_eqB (a := false) (b := false) ((ev_isi1 (r := dO dI) (ev_var rfl g3) (ty_O k_non_b k_int_b)).to (by cases o <;> rfl)) (ev_isi1 (r := dO dI) (ev_var rfl g4) (ty_O k_non_b k_int_b))).to rfl) (fun _ => (ev_eqB (a := o.isNone) (b := true) (ev_isN (r := dI) (ev_var rfl g3)) (ev_isN (r := dI) (o := none) (ev_var rfl g4))).to (by cases o <;> rfl))).to (by simp))).to (by simp)) fun x H3 e3 hx => kq x H3 (ext e1 (ext e2 e3)) hx
  | some j =>
    refine sq (s_if (b := false) (et_or (a := false) (b := false) (et_test (ev_isN (r := dI) (ev_var rfl g2))) (fun _ => et_B (ev_isi2 (r := dO dI) (ev_var rfl g2) (ty_O k_non_bs k_int_bs)))) (fun z => nomatch z) (fun _ H2 e2 => ?_))
    have g3 := (dO dI).ex e2 g1
    have g4 := (dO dI).ex e2 g2
    refine snx ?_
    dsimp only
    refine s_ret (a := decide (o = some j)) ((ev_andV (a := o.isSome) (b := decide (o = some j)) ((ev_isi1 (r := dO dI) (ev_var rfl g3) (ty_O k_non_i k_int_i)).to (by cases o <;> rfl)) (fun _ => (ev_andV (a := true) (b := decide (o = some j)) (ev_notV (a := false) ((ev_isi1 (r := dO dI) (ev_var rfl g3) (ty_O k_non_b k_int_b)).to (by cases o <;> rfl))) (fun _ => ev_eqOO (ev_var rfl g3) (ev_var rfl g4))).to (by simp))).to (by cases o <;> simp)) fun x H3 e3 hx => kq x H3 (ext e1 (ext e2 e3)) hx
theorem ok_same0 (F : Df K mg "_law_same" st__law_same P__law_same) (T : Nb mg) : Cal P w K mg base 2 "_law_same" (sp2 (dO dI) (dO dI) dB (fun _ _ => True) (fun a b => decide (a = b))) := by
  have c0 : Cal P w K mg base 1 "_law_same" (sp2 (dO dI) (dO dI) dB (fun _ _ => False) (fun a b => decide (a = b))) := by
    obtain ⟨f, fd, F, hm, hb⟩ := F.ex
    exact ⟨f, fd, _, ⟨fun _ _ _ _ h => by obtain ⟨_, _, _, _, _, _, _, h, _⟩ := h; exact h.elim, fun _ _ _ _ _ _ _ _ _ _ _ _ _ h => by obtain ⟨_, _, _, _, _, _, _, h, _⟩ := h; exact h.elim⟩, hm, F.kp, hb⟩
  refine F.cal sc__law_same len2 (fun f cdv A outer s H vs Q E hr h => ?_)
  obtain ⟨v, v2, o, o', rfl, hv, hv2, _, kq⟩ := h
  exact same_base T c0 hr hv hv2 kq
theorem ok_sameS (F : Df K mg "_law_same" st__law_same P__law_same) (T : Nb mg) {α : Type} [DecidableEq α] {r : R α} {S : α → α → Prop} {k : Nat} (c__law_same : Cal P w K mg base k "_law_same" (sp2 r r dB S (fun a b => decide (a = b)))) :
    Cal P w K mg base (k + 1) "_law_same" (sp2 (dS r) (dS r) dB (Shp S) (fun a b => decide (a = b))) := by
  refine F.cal sc__law_same len2 (fun f cdv A outer s H vs Q E hr h => ?_)
  obtain ⟨v, v2, x, y, rfl, hv, hv2, hs, kq⟩ := h
  match x, y, hs with
  | .inl o, .inl o', hs => exact same_base T c__law_same hr (show (dO dI).is H v o from hv) (show (dO dI).is H v2 o' from hv2) fun x H' e hx => kq x H' e (by
      have : decide ((Sum.inl o : Option Int ⊕ List α) = .inl o') = decide (o = o') := by
        by_cases h : o = o' <;> simp [h]
      show dB.is H' x (decide ((Sum.inl o : Option Int ⊕ List α) = .inl o'))
      rw [this]; exact hx)
  | .inl _, .inr _, hs => exact hs.elim
  | .inr _, .inl _, hs => exact hs.elim
  | .inr l, .inr m, hs =>
    have hv : (dL r).is H v l := hv
    have hv2 : (dL r).is H v2 m := hv2
    obtain ⟨⟨hl, hm⟩, hz⟩ := hs
    refine ⟨_, (pss_cons (ps_if (pt_val (pe_callB (k_isiT (K := K) (by rfl)) (by rfl) T.isinstance bt_isinstance (pa_cons (pv 1) (pa_cons (pe_tup (pa_cons (pe_bltn (v := .ty "list") (u := .type "list") (by rfl) T.list bt_list rfl) (pa_cons (pe_bltn (v := .ty "tuple") (u := .type "tuple") (by rfl) T.tuple bt_tuple rfl) pa_nil))) pa_nil)))) (pss_cons (ps_if (PW.pt (pw_or (pt_cmpR op_ne (pe_callB (k_isi (K := K) (by rfl)) (by rfl) T.isinstance bt_isinstance (pa_cons (pv 0) (pa_cons (pe_bltn (v := .ty "list") (u := .type "list") (by rfl) T.list bt_list rfl) pa_nil))) (pe_callB (k_isi (K := K) (by rfl)) (by rfl) T.isinstance bt_isinstance (pa_cons (pv 1) (pa_cons (pe_bltn (v := .ty "list") (u := .type "list") (by rfl) T.list bt_list rfl) pa_nil))) (nomark _)) (pw_or1 (pt_cmpR op_ne (pe_callB (k_isi (K := K) (by rfl)) (by rfl) T.isinstance bt_isinstance (pa_cons (pv 0) (pa_cons (pe_bltn (v := .ty "tuple") (u := .type "tuple") (by rfl) T.tuple bt_tuple rfl) pa_nil))) (pe_callB (k_isi (K := K) (by rfl)) (by rfl) T.isinstance bt_isinstance (pa_cons (pv 1) (pa_cons (pe_bltn (v := .ty "tuple") (u := .type "tuple") (by rfl) T.tuple bt_tuple rfl) pa_nil))) (nomark _))))) (pss_one (ps_ret pe_bl)) pss_nil)
    (pss_one (ps_ret (pe_and (pe_cmpR op_eq (pe_callB (k_len (K := K) (by rfl)) (by rfl) T.len bt_len (pa_cons (pv 0) pa_nil)) (pe_callB (k_len (K := K) (by rfl)) (by rfl) T.len bt_len (pa_cons (pv 1) pa_nil)) (nomark _)) (pe_one (pe_callB (k_all (K := K) (by rfl) (by rfl)) (by rfl) T.all bt_all (pa_cons (pe_lc (own := [("_law_mine", 2), ("_law_its", 3)]) (g := (gTup K 2 (gCons (gName 2) (gCons (gName 3) gNil)))) (tt := tYes) (by rfl) sc__law_same.nd (RZ.pi_zipA (by rfl) T.zip (pa_cons (pv 0) (pa_cons (pv 1) pa_nil))) (blkOk_by (own := [("_law_mine", 2), ("_law_its", 3)]) (N := N__law_same) (sc := defScope st__law_same) (by decide +kernel)) (fun _ _ _ _ _ => (k_gtup (K := K) (by rfl) (by rfl) (pgs_cons (pg_name (i := 2) sc__law_same.nd rfl (by first | exact Or.inl rfl | exact Or.inr rfl)) (pgs_cons (pg_name (i := 3) sc__law_same.nd rfl (by first | exact Or.inl rfl | exact Or.inr rfl)) pgs_nil)))) (fun _ _ _ _ _ => pts_nil) (fun _ _ _ _ _ => (pe_cal c__law_same (hr.mono (by first | decide | omega)) (by rfl) (pa_cons (pv 2) (pa_cons (pv 3) pa_nil))))) pa_nil))))))) pss_nil)
    (pss_cons (ps_if (PW.pt (pw_or (pt_cmpR op_isN' (pv 1) pe_non (nomark _)) (pw_or1 (pt_val (pe_callB (k_isiT (K := K) (by rfl)) (by rfl) T.isinstance bt_isinstance (pa_cons (pv 1) (pa_cons (pe_tup (pa_cons (pe_bltn (v := .ty "bool") (u := .type "bool") (by rfl) T.bool bt_bool rfl) (pa_cons (pe_bltn (v := .ty "str") (u := .type "str") (by rfl) T.str bt_str rfl) pa_nil))) pa_nil))))))) (pss_one (ps_ret (pe_and (pe_cmpR op_eq (pv 0) (pv 1) (nomark _)) (pe_and (pe_cmpR op_eq (pe_callB (k_isi (K := K) (by rfl)) (by rfl) T.isinstance bt_isinstance (pa_cons (pv 0) (pa_cons (pe_bltn (v := .ty "bool") (u := .type "bool") (by rfl) T.bool bt_bool rfl) pa_nil))) (pe_callB (k_isi (K := K) (by rfl)) (by rfl) T.isinstance bt_isinstance (pa_cons (pv 1) (pa_cons (pe_bltn (v := .ty "bool") (u := .type "bool") (by rfl) T.bool bt_bool rfl) pa_nil))) (nomark _)) (pe_one (pe_cmpR op_eq (pe_cmpR op_isN' (pv 0) pe_non (nomark _)) (pe_cmpR op_isN' (pv 1) pe_non (nomark _)) (nomark _))))))) pss_nil)
    (pss_one (ps_ret (pe_and (pe_callB (k_isi (K := K) (by rfl)) (by rfl) T.isinstance bt_isinstance (pa_cons (pv 0) (pa_cons (pe_bltn (v := .ty "int") (u := .type "int") (by rfl) T.int bt_int rfl) pa_nil))) (pe_and (pe_not (pe_callB (k_isi (K := K) (by rfl)) (by rfl) T.isinstance bt_isinstance (pa_cons (pv 0) (pa_cons (pe_bltn (v := .ty "bool") (u := .type "bool") (by rfl) T.bool bt_bool rfl) pa_nil)))) (pe_one (pe_cmpR op_eq (pv 0) (pv 1) (nomark _))))))))), ?_⟩
    refine sq (s_if (b := true) (et_B (ev_isi2 (r := dL r) (ev_var rfl hv2) (ty_lst k_lst_lt))) (fun _ H1 e1 => ?_) (fun z => nomatch z))
    have g1 := (dL r).ex e1 hv
    have g2 := (dL r).ex e1 hv2
    refine sq (s_if (b := false) (et_or (a := false) (b := false) ((et_test (ev_neB (ev_isi1 (r := dL r) (ev_var rfl g1) (ty_lst k_lst_l)) (ev_isi1 (r := dL r) (ev_var rfl g2) (ty_lst k_lst_l)))).to rfl) (fun _ => (et_test (ev_neB (ev_isi1 (r := dL r) (ev_var rfl g1) (ty_lst k_lst_t)) (ev_isi1 (r := dL r) (ev_var rfl g2) (ty_lst k_lst_t)))).to rfl)) (fun z => nomatch z) (fun _ H2 e2 => ?_))
    have g3 := (dL r).ex e2 g1
    have g4 := (dL r).ex e2 g2
    refine snx ?_
    dsimp only
    refine s_ret (a := decide ((l.length : Int) = m.length) && (((l.zip m).map fun d => decide (d.1 = d.2)).all id)) (ev_andV (ev_eqI (ev_lenL (r := r) (ev_var rfl g3)) (ev_lenL (r := r) (ev_var rfl g4))) (fun _ => ev_all (ev_lcY (r := dP r r) (s := dB) gm_pair (es_zipL (ev_var rfl g3) (ev_var rfl g4)) (by rw [List.length_zip]; omega) (fun d => decide (d.1 = d.2)) (fun d x H3 hd e hx => g_pair hx fun xa xb ha hb => ⟨rfl, rfl, ev_c2 (ev_var rfl ha) (ev_var rfl hb) (hz d hd)⟩)).ev)) fun x H3 e3 hx => kq x H3 (ext e1 (ext e2 e3)) ?_
    have key : ∀ (l m : List α), (decide ((l.length : Int) = m.length) && (((l.zip m).map fun d => decide (d.1 = d.2)).all id)) = decide ((Sum.inr l : Option Int ⊕ List α) = .inr m) := by
      intro l m
      have h0 : decide ((Sum.inr l : Option Int ⊕ List α) = .inr m) = decide (l = m) := by
        by_cases h : l = m <;> simp [h]
      rw [h0]
      clear h0
      induction l generalizing m with
      | nil =>
        cases m with
        | nil => simp
        | cons b m => simp; omega
      | cons a l ih =>
        cases m with
        | nil => simp; omega
        | cons b m =>
          have := ih m
          simp only [List.zip_cons_cons, List.map_cons, List.all_cons, List.length_cons, id_eq] at this ⊢
          by_cases hab : a = b
          · subst hab
            have h1 : decide (((l.length + 1 : Nat) : Int) = ((m.length + 1 : Nat) : Int)) = decide ((l.length : Int) = m.length) := by
              by_cases h : (l.length : Int) = m.length
              · rw [decide_eq_true h, decide_eq_true (by omega)]
              · rw [decide_eq_false h, decide_eq_false (by omega)]
            rw [h1]
            simp only [decide_true, Bool.true_and]
            rw [this]
            by_cases h : l = m <;> simp [h]
          · simp [hab]
    show dB.is H3 x (decide ((Sum.inr l : Option Int ⊕ List α) = .inr m))
    rw [← key l m]
    exact hx
end
end Cu
set_option maxRecDepth 100000
set_option maxHeartbeats 4000000
/-! Cu, walk 15: _law_counts, _law_price, _law_more. -/
namespace Cu
open PySem PySem.Spec PyProof.Rows L2
abbrev st__law_counts : Stmt := top 41
abbrev N__law_counts : List Str := ["_law_way", "_law_low"]
abbrev P__law_counts : List Str := ["_law_way", "_law_low"]
theorem sc__law_counts : FnScope N__law_counts P__law_counts (defScope st__law_counts) := ⟨rfl, rfl, rfl, by decide +kernel, rfl, by decide +kernel, by decide +kernel⟩
abbrev st__law_price : Stmt := top 42
abbrev N__law_price : List Str := ["_law_way", "_law_low", "_law_deals_here", "_law_said", "_law_told"]
abbrev P__law_price : List Str := ["_law_way", "_law_low", "_law_deals_here"]
theorem sc__law_price : FnScope N__law_price P__law_price (defScope st__law_price) := ⟨rfl, rfl, rfl, by decide +kernel, rfl, by decide +kernel, by decide +kernel⟩
abbrev st__law_more : Stmt := top 43
abbrev N__law_more : List Str := ["_law_deals_here", "_law_step", "_law_times_so", "_law_own"]
abbrev P__law_more : List Str := ["_law_deals_here", "_law_step", "_law_times_so"]
theorem sc__law_more : FnScope N__law_more P__law_more (defScope st__law_more) := ⟨rfl, rfl, rfl, by decide +kernel, rfl, by decide +kernel, by decide +kernel⟩
abbrev J0 := Option Int
abbrev J1 := J0 ⊕ List J0
abbrev J2 := J1
def ji (n : Int) : J1 := .inl (some n)
def jl (ns : List Int) : J1 := .inr (ns.map some)
/-- what _law_counts tells -/
def countsJ (row : List Int) (least : Int) (k : Nat) : List J1 := [ji (cntR row least), ji (cntR row least), ji k, jl (idleF row least)]
section
variable {P : Program} {w : World} {K : PySem.W.Frag} {mg : Str → Option Value} {base : Heap}
theorem pO {H : Hp} : ∀ {xs : List V} {ns : List Int}, Paired (dI.is H) xs ns → Paired ((dO dI).is H) xs (ns.map some)
  | _, _, .nil => .nil
  | _, _, .cons h t => .cons ⟨(fun z => by cases h; cases z), h⟩ (pO t)
theorem is_jl {H : Hp} {v : V} {ns : List Int} (h : (dL dI).is H v ns) : (dS (dO dI)).is H v (jl ns) := by
  obtain ⟨p, xs, h1, h2, h3⟩ := h
  exact ⟨p, xs, h1, h2, pO h3⟩
theorem is_ji {H : Hp} {v : V} {n : Int} (h : dI.is H v n) : (dS (dO dI)).is H v (ji n) := by
  cases h
  exact ⟨fun z => (nomatch z), rfl⟩
abbrev spIdle : Sp := sp2N (dT dI) dI (dL dI) fillP idleF
abbrev spCnt : Sp := sp2 (dT dI) dI dW RowOk cntR
theorem ok_law_counts (F : Df K mg "_law_counts" st__law_counts P__law_counts) (T : Nb mg) (c_fewest : Cal P w K mg base 3 "fewest" spCnt) (c_reasons : Cal P w K mg base 3 "reasons" spCnt)
    (c_kept : Cal P w K mg base 8 "kept" (sp2 (dT dI) dI (dO dW) RowOk keptN)) (c_idle : Cal P w K mg base 4 "idle" spIdle) :
    Cal P w K mg base 9 "_law_counts" (sp2 (dT dI) dI (dL (dS (dO dI))) (fun row least => RowOk row least ∧ (keptN row least).isSome = true) (fun row least => countsJ row least ((keptN row least).getD 0))) := by
  refine F.cal sc__law_counts len2 (fun f cdv A outer s H vs Q E hr h => ?_)
  obtain ⟨v, v2, row, least, rfl, hv, hv2, ⟨hok, hks⟩, kq⟩ := h
  cases hv2
  refine ⟨_, (pss_one (ps_ret (pe_lst (pa_cons (pe_callB (k_len (K := K) (by rfl)) (by rfl) T.len bt_len (pa_cons (pe_cal c_fewest (hr.mono (by first | decide | omega)) (by rfl) (pa_cons (pv 0) (pa_cons (pv 1) pa_nil))) pa_nil)) (pa_cons (pe_callB (k_len (K := K) (by rfl)) (by rfl) T.len bt_len (pa_cons (pe_cal c_reasons (hr.mono (by first | decide | omega)) (by rfl) (pa_cons (pv 0) (pa_cons (pv 1) pa_nil))) pa_nil)) (pa_cons (pe_callB (k_len (K := K) (by rfl)) (by rfl) T.len bt_len (pa_cons (pe_cal c_kept (hr.mono (by first | decide | omega)) (by rfl) (pa_cons (pv 0) (pa_cons (pv 1) pa_nil))) pa_nil)) (pa_cons (pe_cal c_idle (hr.mono (by first | decide | omega)) (by rfl) (pa_cons (pv 0) (pa_cons (pv 1) pa_nil))) pa_nil))))))), ?_⟩
  obtain ⟨kk, hkk⟩ := Option.isSome_iff_exists.mp hks
  dsimp only at kq
  rw [hkk] at kq
  have hrl := hok.len
  refine s_ret (a := countsJ row least kk) (en_lst (r := dS (dO dI)) (ea_cons (Ev.re (ev_lenW (ev_c2 (f := cntR) (ev_var rfl hv) (ev_var rfl rfl) hok)) fun _ _ => is_ji) (ea_cons (Ev.re (ev_lenW (ev_c2 (f := cntR) (ev_var rfl hv) (ev_var rfl rfl) hok)) fun _ _ => is_ji) (ea_cons (Ev.re (ev_lenW (n := kk) (Ev.unO ((ev_c2 (f := keptN) (ev_var rfl hv) (ev_var rfl rfl) hok).to hkk))) fun _ _ => is_ji) (ea_cons (Ev.re (en_c2 (f := idleF) (ev_var rfl hv) (ev_var rfl rfl) ⟨by omega, hok.sm⟩).ev fun _ _ => is_jl) ea_nil)))) (by simp [countsJ])).ev fun x H1 e1 hx => kq x H1 e1 hx
theorem ok_law_more (F : Df K mg "_law_more" st__law_more P__law_more) (T : Nb mg) : Cal P w K mg base 1 "_law_more" (sp3 (dT dPI) dI dI (dT dPI) (fun ds st t => ds.length ≤ 1000 ∧ Sm t ∧ ∀ d ∈ ds, Sm (d.1 + st)) (fun ds st t => ds.map fun d => ((d.1 + st) * t, d.2))) := by
  refine F.cal sc__law_more len3 (fun f cdv A outer s H vs Q E hr h => ?_)
  obtain ⟨v, v2, v3, ds, st, t, rfl, hv, hv2, hv3, ⟨hz, ht, hd⟩, kq⟩ := h
  cases hv2
  cases hv3
  refine ⟨_, (pss_one (ps_ret (pe_callTy (k_tupO (K := K) (by rfl)) (by rfl) T.tuple bt_tuple (pa_cons (pe_lc (own := [("_law_own", 3)]) (g := (gName 3)) (tt := tYes) (by rfl) sc__law_more.nd (k_pitup (K := K) (by rfl) (pv 0)) (blkOk_by (own := [("_law_own", 3)]) (N := N__law_more) (sc := defScope st__law_more) (by decide +kernel)) (fun _ _ _ _ _ => (pg_name (i := 3) sc__law_more.nd rfl (by first | exact Or.inl rfl | exact Or.inr rfl))) (fun _ _ _ _ _ => pts_nil) (fun _ _ _ _ _ => (pe_tup (pa_cons (pe_op op_mulW (pe_op op_add (pe_ix (k_ixT (K := K) (by rfl)) (pv 3) pe_int (fun _ _ => rfl)) (pv 1)) (pv 2)) (pa_cons (pe_ix (k_ixT (K := K) (by rfl)) (pv 3) pe_int (fun _ _ => rfl)) pa_nil))))) pa_nil)))), ?_⟩
  exact s_ret (en_tupleL ((ev_lcY (r := dPI) (s := dPI) gm_name (es_tup (ev_var rfl hv)) (by omega) (fun d => ((d.1 + st) * t, d.2)) (fun d x H1 hm e hx => ⟨rfl, rfl, (en_pair (ev_mulW (ev_I0 (ev_ix0 (ev_var rfl hx)) (ev_var rfl rfl)) (ev_var rfl rfl) (hd d hm) ht) (ev_ix1 (ev_var rfl hx))).ev⟩)).ev)).ev fun x H1 e1 hx => kq x H1 e1 hx
/-- == of what _law_heard gives and a text -/
theorem ev_eqHd {σ : L2.St} {H : Hp} {ta : TE} {o : Option Int} (h : Ev dHd ta σ H o) : Ev dB (tOp (rEqD K) ta (tC (.str "no way"))) σ H o.isNone :=
  ev_op h (ev_con (v := .str "no way")) fun x y H1 _ hx hy Q q => by
    cases hy
    cases o with
    | none =>
      have hx : x = .str "no way" := hx
      subst hx
      refine ⟨.str "no way", .str "no way", .str _, .str _, by decide +kernel, by decide +kernel, q _ H1 exr ?_⟩
      show V.bl _ = V.bl true
      congr 1
    | some p =>
      obtain ⟨n, hn, q1, xa, xb, h1, h2, h3, h4⟩ := (show (dPW 5000).is H1 x p from hx)
      subst h1
      cases h3
      have hd := (py_P py_I (py_T py_I)).dp K H1 (.ref q1) ((p, n) : Int × List Int) ⟨q1, .int p, xb, rfl, h2, rfl, h4⟩
      refine ⟨_, .str "no way", hd, .str _, ?_, by decide +kernel, q _ H1 exr ?_⟩
      · exact (pye_P (n := 2) ⟨pye_I.py, pye_I.eq, pye_I.lay, fun a => Nat.le_trans (pye_I.dep a) (by decide)⟩ (pye_T pye_I)).shaped (by decide) (p, n)
      · show V.bl _ = V.bl false
        congr 1
theorem ok_law_price (F : Df K mg "_law_price" st__law_price P__law_price) (T : Nb mg) (c__law_heard : Cal P w K mg base 11 "_law_heard" (sp3 (dT dI) dI (dT dPI) dHd (fun row least offers => RowOk row least ∧ OffOk offers) cheapF))
    (c_bound : Cal P w K mg base 11 "bound" (sp4 (dT dI) dI (dT dPI) (dT dI) dI BoundOk boundF)) (c_best_marks : Cal P w K mg base 11 "best_marks" (sp3 (dT dI) dI (dT dPI) (dT dI) (fun row least offers => RowOk row least ∧ OffOk offers ∧ ∃ p, cheapF row least offers = some p) marksF)) :
    Cal P w K mg base 12 "_law_price" (sp3 (dT dI) dI (dT dPI) (dO dI) (fun row least offers => (RowOk row least ∧ OffOk offers) ∧ ∀ p, cheapF row least offers = some p → BoundOk row least offers (marksF row least offers) ∧ boundF row least offers (marksF row least offers) = p) cheapF) := by
  refine F.cal sc__law_price len3 (fun f cdv A outer s H vs Q E hr h => ?_)
  obtain ⟨v, v2, v3, row, least, offers, rfl, hv, hv2, hv3, ⟨⟨hrow, hoff⟩, hb⟩, kq⟩ := h
  cases hv2
  refine ⟨_, (pss_cons (ps_set (i := 3) sc__law_price.nd rfl (by first | exact Or.inl rfl | exact Or.inr rfl) (pe_cal c__law_heard (hr.mono (by first | decide | omega)) (by rfl) (pa_cons (pv 0) (pa_cons (pv 1) (pa_cons (pv 2) pa_nil)))))
    (pss_cons (ps_if (pt_cmpR (k_eqD (K := K) (by rfl) hr.units) (pv 3) pe_str (nomark _)) (pss_one (ps_ret pe_non)) pss_nil)
    (pss_cons (ps_set (i := 4) sc__law_price.nd rfl (by first | exact Or.inl rfl | exact Or.inr rfl) (pe_cal c_bound (hr.mono (by first | decide | omega)) (by rfl) (pa_cons (pv 0) (pa_cons (pv 1) (pa_cons (pv 2) (pa_cons (pe_cal c_best_marks (hr.mono (by first | decide | omega)) (by rfl) (pa_cons (pv 0) (pa_cons (pv 1) (pa_cons (pv 2) pa_nil)))) pa_nil))))))
    (pss_one (ps_ret (pe_ifExp (pt_cmpR op_eq (pv 4) (pe_ix (k_ixT (K := K) (by rfl)) (pv 3) pe_int (fun _ _ => rfl)) (nomark _)) (pe_ix (k_ixT (K := K) (by rfl)) (pv 3) pe_int (fun _ _ => rfl)) (pe_op op_sub pe_int pe_int))))))), ?_⟩
  refine sq (s_asg (i := 3) (ev_c3 (f := cheapF) (ev_var rfl hv) (ev_var rfl rfl) (ev_var rfl hv3) ⟨hrow, hoff⟩) fun x H1 e1 hx => ?_)
  refine sq (s_if (et_test (ev_eqHd (ev_var rfl hx))) (fun hn H2 e2 => ?_) (fun hn H2 e2 => ?_))
  · cases hc : cheapF row least offers with
    | some p => rw [hc] at hn; cases hn
    | none =>
      rw [hc] at kq
      exact s_ret (ev_non (r := dI)) fun x H3 e3 hx => kq x H3 (ext e1 (ext e2 e3)) hx
  · cases hc : cheapF row least offers with
    | none => rw [hc] at hn; cases hn
    | some p =>
      rw [hc] at hx kq
      obtain ⟨hb1, hb2⟩ := hb p hc
      refine snx ?_
      dsimp only
      have e12 := ext e1 e2
      refine sq (s_asg (i := 4) ((ev_c4 (f := boundF) (ev_var rfl ((dT dI).ex e12 hv)) (ev_var rfl rfl) (ev_var rfl ((dT dPI).ex e12 hv3)) (ev_c3 (f := marksF) (ev_var rfl ((dT dI).ex e12 hv)) (ev_var rfl rfl) (ev_var rfl ((dT dPI).ex e12 hv3)) ⟨hrow, hoff, p, hc⟩) hb1).to hb2) fun y H3 e3 hy => ?_)
      cases hy
      have hx3 : (dPW 5000).is H3 x p := (dPW 5000).ex (ext e2 e3) hx
      obtain ⟨n, hn5, hpw⟩ := hx3
      have h0 : ∀ {H4 : Hp} {σ : L2.St}, Ex H3 H4 → σ[3]? = some (some x) → Ev dI (tOp (rIxT K) (tVar 3) (tC (.int 0))) σ H4 p := fun {H4 σ} e h => ev_ix0 (d := (p, n)) (s := dT dI) (ev_var h ((dP dI (dT dI)).ex e hpw))
      have hret : Ev (dO dI) (tIf (tTest (tOp rEq (tVar 4) (tOp (rIxT K) (tVar 3) (tC (.int 0))))) (tOp (rIxT K) (tVar 3) (tC (.int 0))) (tOp (rI0 fun i j => .int (i - j)) (tC (.int 0)) (tC (.int 1)))) [some v, some (.int least), some v3, some x, some (.int p)] H3 (some p) :=
        ev_if (b := true) ((et_test (ev_eqI (ev_var (i := 4) (a := p) rfl rfl) (h0 exr rfl))).to (by simp)) (fun _ => Ev.someI (h0 exr rfl)) (fun z => nomatch z)
      exact s_ret (D := { nx := fun _ H' => Q .non H', rt := Q }) hret fun x H4 e4 hx => kq x H4 (ext e12 (ext e3 e4)) hx
end
end Cu
set_option maxRecDepth 100000
set_option maxHeartbeats 4000000
/-! Cu, walk 16: _law_times_right, _law_longer_right. -/
namespace Cu
open PySem PySem.Spec PyProof.Rows L2
abbrev st__law_times_right : Stmt := top 44
abbrev N__law_times_right : List Str := ["_law_way", "_law_low", "_law_deals_here", "_law_times_so", "_law_wide", "_law_own"]
abbrev P__law_times_right : List Str := ["_law_way", "_law_low", "_law_deals_here", "_law_times_so"]
theorem sc__law_times_right : FnScope N__law_times_right P__law_times_right (defScope st__law_times_right) := ⟨rfl, rfl, rfl, by decide +kernel, rfl, by decide +kernel, by decide +kernel⟩
theorem rowOk_of {row : List Int} {least : Int} (ne : row ≠ []) (hlen : row.length ≤ 50) (pos : 1 ≤ least) (sm : Sm least) (lim : ∀ x ∈ row, 1 ≤ x ∧ x ≤ 900 * least) : RowOk row least :=
  ⟨ne, hlen, by omega, sm, fun bs h => by
    obtain ⟨hB, hm⟩ := fill_blk h
    refine ⟨fun b hb => ⟨hB.le b hb, ?_⟩, Nat.le_trans (fill_len h) hlen⟩
    have h1 := lim _ (hm b hb).1
    have h2 := lim _ (hm b hb).2
    omega⟩
theorem price_pre {row : List Int} {least : Int} {offers : List (Int × Int)} (hr : RowOk row least) (ho : OffOk offers) : (RowOk row least ∧ OffOk offers) ∧ ∀ p, cheapF row least offers = some p → BoundOk row least offers (marksF row least offers) ∧ boundF row least offers (marksF row least offers) = p :=
  ⟨⟨hr, ho⟩, fun p hp => by
    obtain ⟨h1, h2⟩ := bound_all hr.pos ho.up hp
    refine ⟨⟨hr, ho, ⟨p, hp⟩, ?_, h2⟩, h1⟩
    have := ho.len
    unfold marksF
    rw [List.length_map]
    omega⟩
structure CaseOk (way : List Int) (low : Int) : Prop where
  ne : way ≠ []
  len : way.length ≤ 12
  pos : 1 ≤ low
  le : low ≤ 10 ^ 60
  lim : ∀ x ∈ way, 1 ≤ x ∧ x ≤ 400 * low
structure OfsOk (offers : List (Int × Int)) : Prop where
  up : offers.Pairwise fun a b => a.1 < b.1
  len : offers.length ≤ 12
  lim : ∀ o ∈ offers, 1 ≤ o.1 ∧ o.1 ≤ 10 ^ 64
theorem CaseOk.row {way : List Int} {low : Int} (h : CaseOk way low) : RowOk way low := by
  have h1 := h.len
  have h2 := h.pos
  have h3 := h.le
  refine rowOk_of h.ne (by omega) h2 (sm_le (by omega) (by omega)) fun x hx => ?_
  have := h.lim x hx
  omega
theorem OfsOk.off {offers : List (Int × Int)} (h : OfsOk offers) : OffOk offers := ⟨h.up, by have := h.len; omega⟩
abbrev dJ1 : R J1 := dS (dO dI)
abbrev dJ2 : R (Option Int ⊕ List J1) := dS dJ1
abbrev ShJ : (Option Int ⊕ List J1) → (Option Int ⊕ List J1) → Prop := Shp (Shp fun _ _ => True)
abbrev spSame2 : Sp := sp2 dJ2 dJ2 dB ShJ (fun a b => decide (a = b))
abbrev spCounts : Sp := sp2 (dT dI) dI (dL (dS (dO dI))) (fun row least => RowOk row least ∧ (keptN row least).isSome = true) (fun row least => countsJ row least ((keptN row least).getD 0))
abbrev spPrice : Sp := sp3 (dT dI) dI (dT dPI) (dO dI) (fun row least offers => (RowOk row least ∧ OffOk offers) ∧ ∀ p, cheapF row least offers = some p → BoundOk row least offers (marksF row least offers) ∧ boundF row least offers (marksF row least offers) = p) cheapF
abbrev spMore : Sp := sp3 (dT dPI) dI dI (dT dPI) (fun ds st t => ds.length ≤ 1000 ∧ Sm t ∧ ∀ d ∈ ds, Sm (d.1 + st)) (fun ds st t => ds.map fun d => ((d.1 + st) * t, d.2))
abbrev spTimes : Sp := sp4 (dT dI) dI (dT dPI) dI dB (fun way low ds t => CaseOk way low ∧ OfsOk ds ∧ 1 ≤ t ∧ t ≤ 10) (fun _ _ _ _ => true)
abbrev spLonger : Sp := sp4 (dT dI) dI (dT dPI) dI dB (fun way low ds m => CaseOk way low ∧ OfsOk ds ∧ 0 ≤ m ∧ m ≤ 9) (fun _ _ _ _ => true)
theorem idle_len {row : List Int} {least : Int} : (idleF row least).length ≤ row.length := by
  unfold idleF upto
  refine Nat.le_trans (List.length_filter_le _ _) ?_
  rw [List.length_map, List.length_range]
  exact Nat.le_refl _
theorem shp4 {a b c a' b' c' : Int} {ns ns' : List Int} (h : ns.length ≤ 1000) (h' : ns'.length ≤ 1000) : ShJ (.inr [ji a, ji b, ji c, jl ns]) (.inr [ji a', ji b', ji c', jl ns']) := by
  refine ⟨⟨by simp, by simp⟩, fun d hd => ?_⟩
  simp only [List.zip_cons_cons, List.zip_nil_left, List.mem_cons, List.not_mem_nil, or_false] at hd
  rcases hd with rfl | rfl | rfl | rfl
  · trivial
  · trivial
  · trivial
  · exact ⟨⟨by rw [List.length_map]; exact h, by rw [List.length_map]; exact h'⟩, fun _ _ => trivial⟩
theorem shpC {row row' : List Int} {l l' : Int} {k k' : Nat} (h : row.length ≤ 1000) (h' : row'.length ≤ 1000) : ShJ (.inr (countsJ row l k)) (.inr (countsJ row' l' k')) :=
  shp4 (Nat.le_trans idle_len h) (Nat.le_trans idle_len h')
section
variable {α : Type} {r : R α} {σ : L2.St} {H : Hp} {ta tb te : TE} {K : PySem.W.Frag}
theorem Ev.inr {l : List α} (h : Ev (dL r) te σ H l) : Ev (dS r) te σ H (.inr l) := h.re fun _ _ hv => hv
theorem Ev.inl {o : Option Int} (h : Ev (dO dI) te σ H o) : Ev (dS r) te σ H (.inl o) := h.re fun _ _ hv => hv
theorem ev_neOO {o o' : Option Int} (ha : Ev (dO dI) ta σ H o) (hb : Ev (dO dI) tb σ H o') : Ev dB (tOp rNe ta tb) σ H (!decide (o = o')) :=
  ev_op ha hb fun x y H1 _ hx hy _ q => by
    cases o with
    | none =>
      cases (show x = .non from hx)
      cases o' with
      | none =>
        cases (show y = .non from hy)
        exact ⟨rfl, q _ H1 exr rfl⟩
      | some j =>
        have hy2 : y = .int j := hy.2
        subst hy2
        exact ⟨rfl, q _ H1 exr rfl⟩
    | some i =>
      have hx2 : x = .int i := hx.2
      subst hx2
      cases o' with
      | none =>
        cases (show y = .non from hy)
        exact ⟨rfl, q _ H1 exr rfl⟩
      | some j =>
        have hy2 : y = .int j := hy.2
        subst hy2
        refine ⟨rfl, q _ H1 exr ?_⟩
        show V.bl _ = V.bl _
        congr 1
        by_cases h : i = j
        · subst h; simp
        · rw [decide_eq_false (by intro z; cases z; exact h rfl), decide_eq_false (by intro z; cases z; exact h rfl)]
end
theorem scale_case {way : List Int} {low t : Int} (h : CaseOk way low) (h1 : 1 ≤ t) (h2 : t ≤ 10) : RowOk (scale t way) (low * t) := by
  have hl := h.len
  have hp := h.pos
  have hle := h.le
  have m1 : 1 * 1 ≤ low * t := Int.mul_le_mul hp h1 (by decide) (by omega)
  have m2 : low * t ≤ 10 ^ 60 * 10 := Int.mul_le_mul hle h2 (by omega) (by decide)
  refine rowOk_of (fun z => h.ne (List.map_eq_nil_iff.mp z)) (by rw [show (scale t way).length = way.length from List.length_map ..]; omega) (by omega) (sm_le (by omega) (by omega)) fun y hy => ?_
  obtain ⟨x, hx, rfl⟩ := List.mem_map.mp hy
  obtain ⟨g1, g2⟩ := h.lim x hx
  have m3 : 1 * 1 ≤ x * t := Int.mul_le_mul g1 h1 (by decide) (by omega)
  have m4 : x * t ≤ (400 * low) * t := Int.mul_le_mul_of_nonneg_right g2 (by omega)
  rw [Int.mul_assoc] at m4
  exact ⟨by omega, by omega⟩
theorem scale_off {ds : List (Int × Int)} {t : Int} (h : OfsOk ds) (h1 : 1 ≤ t) : OffOk (ds.map (scO t)) := by
  refine ⟨?_, by rw [List.length_map]; have := h.len; omega⟩
  rw [List.pairwise_map]
  exact h.up.imp fun hab => (mul_lt_iff' (by omega)).mpr hab
section
variable {P : Program} {w : World} {K : PySem.W.Frag} {mg : Str → Option Value} {base : Heap}
theorem ok_law_times_right (F : Df K mg "_law_times_right" st__law_times_right P__law_times_right) (T : Nb mg) (c__law_same : Cal P w K mg base 4 "_law_same" spSame2) (c__law_counts : Cal P w K mg base 9 "_law_counts" spCounts)
    (c__law_price : Cal P w K mg base 12 "_law_price" spPrice) (c__law_more : Cal P w K mg base 1 "_law_more" spMore) : Cal P w K mg base 13 "_law_times_right" spTimes := by
  refine F.cal sc__law_times_right len4 (fun f cdv A outer s H vs Q E hr h => ?_)
  obtain ⟨v, v2, v3, v4, way, low, ds, t, rfl, hv, hv2, hv3, hv4, ⟨hc, ho, ht1, ht2⟩, kq⟩ := h
  cases hv2
  cases hv4
  refine ⟨_, (pss_cons (ps_set (i := 4) sc__law_times_right.nd rfl (by first | exact Or.inl rfl | exact Or.inr rfl) (pe_callTy (k_tupO (K := K) (by rfl)) (by rfl) T.tuple bt_tuple (pa_cons (pe_lc (own := [("_law_own", 5)]) (g := (gName 5)) (tt := tYes) (by rfl) sc__law_times_right.nd (k_pitup (K := K) (by rfl) (pv 0)) (blkOk_by (own := [("_law_own", 5)]) (N := N__law_times_right) (sc := defScope st__law_times_right) (by decide +kernel)) (fun _ _ _ _ _ => (pg_name (i := 5) sc__law_times_right.nd rfl (by first | exact Or.inl rfl | exact Or.inr rfl))) (fun _ _ _ _ _ => pts_nil) (fun _ _ _ _ _ => (pe_op op_mulW (pv 5) (pv 3)))) pa_nil)))
    (pss_cons (ps_if (pt_not (pt_val (pe_cal c__law_same (hr.mono (by first | decide | omega)) (by rfl) (pa_cons (pe_cal c__law_counts (hr.mono (by first | decide | omega)) (by rfl) (pa_cons (pv 4) (pa_cons (pe_op op_mulW (pv 1) (pv 3)) pa_nil))) (pa_cons (pe_cal c__law_counts (hr.mono (by first | decide | omega)) (by rfl) (pa_cons (pv 0) (pa_cons (pv 1) pa_nil))) pa_nil))))) (pss_one (ps_ret pe_bl)) pss_nil)
    (pss_one (ps_ret (pe_cmpR op_eq (pe_cal c__law_price (hr.mono (by first | decide | omega)) (by rfl) (pa_cons (pv 4) (pa_cons (pe_op op_mulW (pv 1) (pv 3)) (pa_cons (pe_cal c__law_more (hr.mono (by first | decide | omega)) (by rfl) (pa_cons (pv 2) (pa_cons pe_int (pa_cons (pv 3) pa_nil)))) pa_nil)))) (pe_cal c__law_price (hr.mono (by first | decide | omega)) (by rfl) (pa_cons (pv 0) (pa_cons (pv 1) (pa_cons (pv 2) pa_nil)))) (nomark _)))))), ?_⟩
  have hl := hc.len
  have hp := hc.pos
  have hle := hc.le
  have ht : 0 < t := by omega
  have st : Sm t := sm_le (by omega) (by omega)
  have sl : Sm low := sm_le (by omega) (by omega)
  refine sq (s_asgN (i := 4) (en_tupleL (ev_lcY (r := dI) (s := dI) gm_name (es_tup (ev_var rfl hv)) (by omega) (fun x => x * t) (fun x y H1 hm e hx => ⟨rfl, rfl, ev_mulW (ev_var rfl hx) (ev_var rfl rfl) (by have := hc.lim x hm; exact sm_le (by omega) (by omega)) st⟩)).ev) fun pw H1 hpw e1 hwide => ?_)
  have hwide : (dT dI).is H1 (.ref pw) (scale t way) := hwide
  have hrw := hc.row
  have hrs := scale_case hc ht1 ht2
  have k1 := kept_some hrw.pos hrw.ne
  have k2 : (keptN (scale t way) (low * t)).isSome = true := by rw [kept_scale ht hrw.pos]; exact k1
  refine sq (s_if (b := false) (et_not (a := true) (et_B ((ev_c2 (f := fun a b => decide (a = b)) (ev_c2 (f := fun row least => countsJ row least ((keptN row least).getD 0)) (ev_var rfl hwide) (ev_mulW (ev_var rfl rfl) (ev_var rfl rfl) sl st) ⟨hrs, k2⟩).inr (ev_c2 (f := fun row least => countsJ row least ((keptN row least).getD 0)) (ev_var rfl ((dT dI).ex e1 hv)) (ev_var (a := low) rfl rfl) ⟨hrw, k1⟩).inr ?_).to ?_))) (fun z => nomatch z) (fun _ H2 e2 => ?_))
  · exact shpC (by rw [show (scale t way).length = way.length from List.length_map ..]; omega) (by omega)
  · refine decide_eq_true ?_
    congr 1
    unfold countsJ
    rw [cntR_scale ht, kept_scale ht hrw.pos, idle_scale ht]
  · refine snx ?_
    dsimp only
    have e12 := ext e1 e2
    have hmore : ∀ d ∈ ds, Sm (d.1 + 0) := fun d hd => by
      have := ho.lim d hd
      exact sm_le (by omega) (by omega)
    have hlen := ho.len
    refine s_ret (a := true) ((ev_eqOO (ev_c3 (f := cheapF) (ev_var rfl ((dT dI).ex e2 hwide)) (ev_mulW (ev_var rfl rfl) (ev_var rfl rfl) sl st) (ev_c3 (f := fun ds st t => ds.map fun d => ((d.1 + st) * t, d.2)) (ev_var rfl ((dT dPI).ex e12 hv3)) ev_int (ev_var rfl rfl) ⟨by omega, st, hmore⟩) ?_) (ev_c3 (f := cheapF) (ev_var rfl ((dT dI).ex e12 hv)) (ev_var (a := low) rfl rfl) (ev_var rfl ((dT dPI).ex e12 hv3)) (price_pre hrw ho.off))).to ?_) fun x H3 e3 hx => kq x H3 (ext e12 e3) hx
    · show (RowOk (scale t way) (low * t) ∧ OffOk (moreF 0 t ds)) ∧ _
      rw [show (ds.map fun d => ((d.1 + 0) * t, d.2)) = ds.map (scO t) from moreF_zero]
      have := price_pre hrs (scale_off ho ht1)
      rw [← moreF_zero] at this ⊢
      exact this
    · refine decide_eq_true ?_
      rw [show (ds.map fun d => ((d.1 + 0) * t, d.2)) = ds.map (scO t) from moreF_zero]
      exact cheap_scale ht
theorem min_le_all {x : Int} {r : List Int} : ∀ y ∈ x :: r, r.foldl min x ≤ y := by
  induction r generalizing x with
  | nil =>
    intro y hy
    rw [List.mem_singleton] at hy
    rw [hy]; exact Int.le_refl _
  | cons z r ih =>
    intro y hy
    rw [List.foldl_cons]
    have h0 := ih (x := min x z) (min x z) List.mem_cons_self
    rcases List.mem_cons.mp hy with rfl | hy
    · omega
    · rcases List.mem_cons.mp hy with rfl | hy
      · omega
      · exact ih y (List.mem_cons_of_mem _ hy)
theorem min_mem {x : Int} {r : List Int} : r.foldl min x ∈ x :: r := by
  induction r generalizing x with
  | nil => exact List.mem_cons_self
  | cons z r ih =>
    rw [List.foldl_cons]
    rcases List.mem_cons.mp (ih (x := min x z)) with h | h
    · rw [h]
      by_cases hz : x ≤ z
      · rw [show min x z = x by omega]; exact List.mem_cons_self
      · rw [show min x z = z by omega]; exact List.mem_cons_of_mem _ List.mem_cons_self
    · exact List.mem_cons_of_mem _ (List.mem_cons_of_mem _ h)
end
end Cu
set_option maxRecDepth 100000
set_option maxHeartbeats 4000000
/-! Cu, walk 17: _law_longer_right. -/
namespace Cu
open PySem PySem.Spec PyProof.Rows L2
abbrev st__law_longer_right : Stmt := top 45
abbrev N__law_longer_right : List Str := ["_law_way", "_law_low", "_law_deals_here", "_law_more_here", "_law_one", "_law_two", "_law_spots", "_law_longer", "_law_k"]
abbrev P__law_longer_right : List Str := ["_law_way", "_law_low", "_law_deals_here", "_law_more_here"]
theorem sc__law_longer_right : FnScope N__law_longer_right P__law_longer_right (defScope st__law_longer_right) := ⟨rfl, rfl, rfl, by decide +kernel, rfl, by decide +kernel, by decide +kernel⟩
section
variable {P : Program} {w : World} {K : PySem.W.Frag} {mg : Str → Option Value} {base : Heap}
theorem ok_law_longer_right (F : Df K mg "_law_longer_right" st__law_longer_right P__law_longer_right) (T : Nb mg) (c_idle : Cal P w K mg base 4 "idle" spIdle) (c_fewest : Cal P w K mg base 3 "fewest" spCnt) (c_reasons : Cal P w K mg base 3 "reasons" spCnt)
    (c__law_price : Cal P w K mg base 12 "_law_price" spPrice) : Cal P w K mg base 13 "_law_longer_right" spLonger := by
  refine F.cal sc__law_longer_right len4 (fun f cdv A outer s H vs Q E hr h => ?_)
  obtain ⟨v, v2, v3, v4, way, low, ds, m, rfl, hv, hv2, hv3, hv4, ⟨hc, ho, hm1, hm2⟩, kq⟩ := h
  cases hv2
  cases hv4
  refine ⟨_, (pss_cons (ps_par (i := 4) (j := 5) (by rfl) sc__law_longer_right.nd rfl rfl (by decide) rfl rfl (pa_cons (pe_op (k_catA (K := K) (by rfl)) (pv 0) (pe_tup (pa_cons (pe_op op_add (pe_callB (k_minD (K := K) (by rfl) hr.units (by rfl)) (by rfl) T.min bt_min (pa_cons (pv 0) pa_nil)) (pv 3)) pa_nil))) (pa_cons (pe_op (k_catA (K := K) (by rfl)) (pv 0) (pv 0)) pa_nil)) (by rfl))
    (pss_cons (ps_set (i := 6) sc__law_longer_right.nd rfl (by first | exact Or.inl rfl | exact Or.inr rfl) (pe_cal c_idle (hr.mono (by first | decide | omega)) (by rfl) (pa_cons (pv 0) (pa_cons (pv 1) pa_nil))))
    (pss_cons (ps_for PassesOwn.never (by rfl) (k_pitup (K := K) (by rfl) (pe_tup (pa_cons (pv 4) (pa_cons (pv 5) pa_nil)))) (pg_name (i := 7) sc__law_longer_right.nd rfl (by first | exact Or.inl rfl | exact Or.inr rfl))
    (pss_cons (ps_if (PW.pt (pw_or (pt_cmpR op_ne (pe_callB (k_len (K := K) (by rfl)) (by rfl) T.len bt_len (pa_cons (pe_cal c_fewest (hr.mono (by first | decide | omega)) (by rfl) (pa_cons (pv 7) (pa_cons (pv 1) pa_nil))) pa_nil)) (pe_callB (k_len (K := K) (by rfl)) (by rfl) T.len bt_len (pa_cons (pe_cal c_fewest (hr.mono (by first | decide | omega)) (by rfl) (pa_cons (pv 0) (pa_cons (pv 1) pa_nil))) pa_nil)) (nomark _)) (pw_or1 (pt_cmpR op_ne (pe_callB (k_len (K := K) (by rfl)) (by rfl) T.len bt_len (pa_cons (pe_cal c_reasons (hr.mono (by first | decide | omega)) (by rfl) (pa_cons (pv 7) (pa_cons (pv 1) pa_nil))) pa_nil)) (pe_callB (k_len (K := K) (by rfl)) (by rfl) T.len bt_len (pa_cons (pe_cal c_reasons (hr.mono (by first | decide | omega)) (by rfl) (pa_cons (pv 0) (pa_cons (pv 1) pa_nil))) pa_nil)) (nomark _))))) (pss_one (ps_ret pe_bl)) pss_nil)
    (pss_cons (ps_if (pt_cmpR (k_neD (K := K) (by rfl) hr.units) (pe_lc (own := [("_law_k", 8)]) (g := (gName 8)) (by rfl) sc__law_longer_right.nd (k_pilist (K := K) (by rfl) (pe_op op_cat (pv 6) (pe_listRg (by rfl) (by rfl) T.list (prg_2 (by rfl) T.range (pe_callB (k_len (K := K) (by rfl)) (by rfl) T.len bt_len (pa_cons (pv 0) pa_nil)) (pe_callB (k_len (K := K) (by rfl)) (by rfl) T.len bt_len (pa_cons (pv 7) pa_nil)))))) (blkOk_by (own := [("_law_k", 8)]) (N := N__law_longer_right) (sc := defScope st__law_longer_right) (by decide +kernel)) (fun _ _ _ _ _ => (pg_name (i := 8) sc__law_longer_right.nd rfl (by first | exact Or.inl rfl | exact Or.inr rfl))) (fun _ _ _ _ _ => (pts_one (pt_cmpR (k_notIn (K := K) (by rfl)) (pv 8) (pe_cal c_idle (hr.mono (by first | decide | omega)) (by rfl) (pa_cons (pv 7) (pa_cons (pv 1) pa_nil))) (by rfl)))) (fun _ _ _ _ _ => (pv 8))) (pe_lst pa_nil) (nomark _)) (pss_one (ps_ret pe_bl)) pss_nil)
    (pss_one (ps_if (pt_cmpR op_ne (pe_cal c__law_price (hr.mono (by first | decide | omega)) (by rfl) (pa_cons (pv 7) (pa_cons (pv 1) (pa_cons (pv 2) pa_nil)))) (pe_cal c__law_price (hr.mono (by first | decide | omega)) (by rfl) (pa_cons (pv 0) (pa_cons (pv 1) (pa_cons (pv 2) pa_nil)))) (nomark _)) (pss_one (ps_ret pe_bl)) pss_nil)))))
    (pss_one (ps_ret pe_bl))))), ?_⟩
  have hl := hc.len
  have hp := hc.pos
  have hle := hc.le
  have sl : Sm low := sm_le (by omega) (by omega)
  obtain ⟨x0, r0, rfl⟩ : ∃ x0 r0, way = x0 :: r0 := by
    cases way with
    | nil => exact absurd rfl hc.ne
    | cons x r => exact ⟨x, r, rfl⟩
  have hmin := min_le_all (x := x0) (r := r0)
  have hmem := min_mem (x := x0) (r := r0)
  have hmlim := hc.lim _ hmem
  refine sq (s_par (ev_catT (r := dI) (ev_var rfl hv) (en_tup (ea_cons (ev_I0 (g := fun i j => i + j) (ev_minI (Ev.q (ev_var rfl hv))) (ev_var (a := m) rfl rfl)) ea_nil) (by simp)).ev (by simp only [List.length_singleton]; omega)) (ev_catT (r := dI) (ev_var rfl hv) (ev_var rfl hv) (by omega)) fun vo vt H1 e1 hone htwo => ?_)
  have hrw := hc.row
  generalize r0.foldl min x0 = mn at hmin hmem hmlim hone
  generalize x0 :: r0 = way at *
  have hol := ho.len
  refine sq (s_asgN (i := 6) (en_c2 (f := idleF) (ev_var rfl ((dT dI).ex e1 hv)) (ev_var (a := low) rfl rfl) ⟨by omega, sl⟩) fun ps H2 hps e2 hspots => ?_)
  have e12 := ext e1 e2
  refine sq (s_forT (r := dT dI) (as := [way ++ [mn + m], way ++ way]) (en_tup (ea_cons (ev_var rfl ((dT dI).ex e2 hone)) (ea_cons (ev_var rfl ((dT dI).ex e2 htwo)) ea_nil)) (by simp)).ev (P := fun H5 i σ' H' => ∃ x7 x8, σ' = [some v, some (.int low), some v3, some (.int m), some vo, some vt, some (.ref ps), x7, x8] ∧ Ex H2 H' ∧ TX H5 H') ?_ ?_ ?_ ?_)
  · rintro H5 i σ' H' ⟨_, _, _, _, e⟩
    exact e
  · exact fun H5 e5 => ⟨_, _, rfl, e5, txr⟩
  · rintro H5 i a x σ' H' e5 ha ⟨x7, x8, rfl, e, tx⟩ hx
    refine gn ?_
    obtain ⟨xt, rfl, hxl, hxm, hxlim⟩ : ∃ xt, a = way ++ xt ∧ xt.length ≤ 12 ∧ (∀ l ∈ way, (∀ y ∈ way, l ≤ y) → ∀ y ∈ xt, l ≤ y) ∧ ∀ y ∈ xt, 1 ≤ y ∧ y ≤ 900 * low := by
      rcases List.mem_cons.mp (List.mem_of_getElem? ha) with rfl | ha
      · refine ⟨_, rfl, by simp, fun l hlw hlm y hy => ?_, fun y hy => ?_⟩
        · rw [List.mem_singleton] at hy
          have := hlm mn hmem
          omega
        · rw [List.mem_singleton] at hy
          omega
      · rw [List.mem_singleton] at ha
        subst ha
        refine ⟨way, rfl, hl, fun l hlw hlm y hy => hlm y hy, fun y hy => ?_⟩
        have := hc.lim y hy
        omega
    have hrl : RowOk (way ++ xt) low := by
      refine rowOk_of (fun z => hc.ne (List.append_eq_nil_iff.mp z).1) (by rw [List.length_append]; omega) hp sl fun y hy => ?_
      rcases List.mem_append.mp hy with hy | hy
      · have := hc.lim y hy
        omega
      · exact hxlim y hy
    have hfill : fillF (way ++ xt) low = fillF way low := fill_longer hc.ne hxm
    have hcnt : cntR (way ++ xt) low = cntR way low := cnt_fill hfill
    have hcheap : cheapF (way ++ xt) low ds = cheapF way low ds := cheap_fill hfill
    obtain ⟨hi1, hi2⟩ := idle_longer (least := low) hc.ne hxm
    have hv' := (dT dI).ex (ext e12 e) hv
    have hv3' := (dT dPI).ex (ext e12 e) hv3
    have hsp' := (dL dI).ex e hspots
    have hlen2 : (way ++ xt).length ≤ 24 := by rw [List.length_append]; omega
    refine sq (s_if (b := false) (et_or (a := false) (b := false) (et_test ((ev_neI (ev_lenW (ev_c2 (f := cntR) (ev_var rfl hx) (ev_var (a := low) rfl rfl) hrl)) (ev_lenW (ev_c2 (f := cntR) (ev_var rfl hv') (ev_var (a := low) rfl rfl) hrw))).to (by rw [hcnt]; simp))) (fun _ => et_test ((ev_neI (ev_lenW (ev_c2 (f := cntR) (ev_var rfl hx) (ev_var (a := low) rfl rfl) hrl)) (ev_lenW (ev_c2 (f := cntR) (ev_var rfl hv') (ev_var (a := low) rfl rfl) hrw))).to (by rw [hcnt]; simp)))) (fun z => nomatch z) (fun _ H6 e6 => ?_))
    refine snx ?_
    dsimp only
    have hx6 := (dT dI).ex e6 hx
    have hv6 := (dT dI).ex e6 hv'
    have hw6 := (dT dPI).ex e6 hv3'
    refine sq (s_if (b := false) (et_test ((ev_neE (pye_L pye_I) (by decide) ((ev_lc (r := dI) (s := dI) gm_name (es_lst (en_catL (ev_var rfl ((dL dI).ex e6 hsp')) (en_listRg2 (ev_lenT (ev_var rfl hv6)) (ev_lenT (ev_var rfl hx6)) ?_).ev ?_).ev) ?_ (fun k => !decide (k ∈ idleF (way ++ xt) low)) (fun k => k) (fun k y H7 hk e7 hy => ?_)).ev.to (a' := []) ?_) (en_lst (r := dI) (as := []) ea_nil (Nat.zero_le _)).ev).to (by simp))) (fun z => nomatch z) (fun _ H7 e7 => ?_))
    · exact RgOk.of_le (by omega) (by omega) (by omega) (by omega)
    · have := idle_len (row := way) (least := low)
      rw [rangeI_len]
      omega
    · have := idle_len (row := way) (least := low)
      rw [List.length_append, rangeI_len]
      omega
    · exact ⟨rfl, rfl, et_test (ev_notin (ev_var rfl hy) (en_c2 (f := idleF) (ev_var rfl ((dT dI).ex e7 hx6)) (ev_var (a := low) rfl rfl) ⟨by omega, sl⟩).ev), fun _ => ev_var rfl hy⟩
    · rw [List.map_eq_nil_iff, List.filter_eq_nil_iff]
      intro k hk
      have : k ∈ idleF (way ++ xt) low := by
        rcases List.mem_append.mp hk with hk | hk
        · exact hi1 k hk
        · unfold rangeI at hk
          obtain ⟨j, hj, rfl⟩ := List.mem_map.mp hk
          have hj := List.mem_range.mp hj
          have := hi2 (way.length + j) (by omega) (by omega)
          rw [show ((way.length : Int) + (j : Int) * 1) = ((way.length + j : Nat) : Int) by omega]
          exact this
      rw [decide_eq_true this]
      decide
    refine snx ?_
    dsimp only
    refine s_if (b := false) (et_test ((ev_neOO (ev_c3 (f := cheapF) (ev_var rfl ((dT dI).ex e7 hx6)) (ev_var (a := low) rfl rfl) (ev_var rfl ((dT dPI).ex e7 hw6)) (price_pre hrl ho.off)) (ev_c3 (f := cheapF) (ev_var rfl ((dT dI).ex e7 hv6)) (ev_var (a := low) rfl rfl) (ev_var rfl ((dT dPI).ex e7 hw6)) (price_pre hrw ho.off))).to (by rw [hcheap]; simp))) (fun z => nomatch z) (fun _ H8 e8 => ?_)
    refine snx ?_
    exact ⟨_, _, rfl, ext e (ext e6 (ext e7 e8)), txt tx (ext e6 (ext e7 e8)).tx⟩
  · rintro H5 σ' H' e5 ⟨x7, x8, rfl, e, tx⟩
    show tRet (tC (.bl true)) { nx := fun _ H' => Q .non H', rt := Q } [some v, some (.int low), some v3, some (.int m), some vo, some vt, some (.ref ps), x7, x8] H'
    exact s_ret ev_bl fun x H6 e6 hx => kq x H6 (ext e12 (ext e e6)) hx
end
end Cu
set_option maxRecDepth 100000
set_option maxHeartbeats 4000000
/-! Cu, walk 18: _law_beside_right. -/
namespace Cu
open PySem PySem.Spec PyProof.Rows L2
abbrev st__law_beside_right : Stmt := top 46
abbrev N__law_beside_right : List Str := ["_law_way", "_law_its", "_law_low", "_law_deals_here", "_law_more_here", "_law_step", "_law_high", "_law_own", "_law_mine", "_law_other", "_law_due", "_law_k", "_law_prices", "_law_both"]
abbrev P__law_beside_right : List Str := ["_law_way", "_law_its", "_law_low", "_law_deals_here", "_law_more_here"]
theorem sc__law_beside_right : FnScope N__law_beside_right P__law_beside_right (defScope st__law_beside_right) := ⟨rfl, rfl, rfl, by decide +kernel, rfl, by decide +kernel, by decide +kernel⟩
theorem max_ge_all {x : Int} {r : List Int} : ∀ y ∈ x :: r, y ≤ r.foldl max x := by
  induction r generalizing x with
  | nil =>
    intro y hy
    rw [List.mem_singleton] at hy
    rw [hy]; exact Int.le_refl _
  | cons z r ih =>
    intro y hy
    rw [List.foldl_cons]
    have h0 := ih (x := max x z) (max x z) List.mem_cons_self
    rcases List.mem_cons.mp hy with rfl | hy
    · omega
    · rcases List.mem_cons.mp hy with rfl | hy
      · omega
      · exact ih y (List.mem_cons_of_mem _ hy)
theorem max_mem {x : Int} {r : List Int} : r.foldl max x ∈ x :: r := by
  induction r generalizing x with
  | nil => exact List.mem_cons_self
  | cons z r ih =>
    rw [List.foldl_cons]
    rcases List.mem_cons.mp (ih (x := max x z)) with h | h
    · rw [h]
      by_cases hz : z ≤ x
      · rw [show max x z = x by omega]; exact List.mem_cons_self
      · rw [show max x z = z by omega]; exact List.mem_cons_of_mem _ List.mem_cons_self
    · exact List.mem_cons_of_mem _ (List.mem_cons_of_mem _ h)
section
variable {α : Type} {r : R α} {σ : L2.St} {H : Hp} {ta tb te : TE} {K : PySem.W.Frag}
theorem Ev.ofJi {n : Int} (h : Ev dJ1 te σ H (ji n)) : Ev dI te σ H n := h.re fun _ _ hv => hv.2
theorem pO' {H : Hp} : ∀ {xs : List V} {ns : List Int}, Paired ((dO dI).is H) xs (ns.map some) → Paired (dI.is H) xs ns
  | _, [], .nil => .nil
  | _, n :: ns, .cons h t => .cons h.2 (pO' t)
theorem Ev.ofJl {ns : List Int} (h : Ev dJ1 te σ H (jl ns)) : Ev (dL dI) te σ H ns := h.re fun _ _ hv => by
  obtain ⟨p, xs, h1, h2, h3⟩ := hv
  exact ⟨p, xs, h1, h2, pO' h3⟩
theorem flat_O {H : Hp} : ∀ {xs : List V} {os : List (Option Int)}, Paired ((dO dI).is H) xs os → xs.all flatV = true ∧ inV .non xs = os.any Option.isNone
  | _, [], .nil => ⟨rfl, rfl⟩
  | _, o :: os, .cons (a := x) h t => by
    obtain ⟨h1, h2⟩ := flat_O t
    cases o with
    | none =>
      have hx : x = .non := h
      subst hx
      exact ⟨by rw [List.all_cons, h1]; rfl, rfl⟩
    | some i =>
      have hx : x = .int i := h.2
      subst hx
      refine ⟨by rw [List.all_cons, h1]; rfl, ?_⟩
      rw [List.any_cons, ← h2]
      rfl
theorem ev_noneIn {os : List (Option Int)} (hb : Ev (dL (dO dI)) tb σ H os) : Ev dB (tOp (rIn K false) (tC .non) tb) σ H (os.any Option.isNone) :=
  ev_op (ev_con (v := .non)) hb fun x y H1 _ hx ⟨q, ys, g1, g2, g3⟩ Q k => by
    cases hx
    obtain ⟨f1, f2⟩ := flat_O g3
    exact ⟨q, _, g1, .inl (SqL.of g2), rfl, f1, by rw [if_neg (by decide), f2]; exact k _ H1 exr rfl⟩
end
def bothO (a b : Option Int) : Option Int := a.bind fun x => b.map (x + ·)
abbrev spBeside : Sp := sp5 (dT dI) (dT dI) dI (dT dPI) (dT dPI) dB (fun way its low ds ms => ((CaseOk way low ∧ CaseOk its low) ∧ OfsOk ds ∧ OfsOk ms) ∧ ∃ bw, fillF way low = some bw) (fun _ _ _ _ _ => true)
/-- the high row -/
theorem high_facts {way its : List Int} {low mx : Int} (hw : CaseOk way low) (hi : CaseOk its low) (h1 : ∀ y ∈ way, y ≤ mx) (h2 : mx ∈ way) :
    RowOk (its.map (· + (mx + 2 * low))) low ∧ Apart (its.map (· + (mx + 2 * low))) way low ∧ RowOk (its.map (· + (mx + 2 * low)) ++ way) low ∧ ∃ bh, fillF (its.map (· + (mx + 2 * low))) low = some bh := by
  have hp := hw.pos
  have hle := hw.le
  have sl : Sm low := sm_le (by omega) (by omega)
  have hm := hw.lim mx h2
  have ne : its.map (· + (mx + 2 * low)) ≠ [] := fun z => hi.ne (List.map_eq_nil_iff.mp z)
  have l1 := hi.len
  have l2 := hw.len
  have hx : ∀ x ∈ its.map (· + (mx + 2 * low)), mx + 2 * low + 1 ≤ x ∧ x ≤ 900 * low := fun x hx => by
    obtain ⟨y, hy, rfl⟩ := List.mem_map.mp hx
    have := hi.lim y hy
    omega
  refine ⟨rowOk_of ne (by rw [List.length_map]; omega) hp sl fun x h => ?_, fun x h y hy => ?_, rowOk_of (fun z => ne (List.append_eq_nil_iff.mp z).1) (by rw [List.length_append, List.length_map]; omega) hp sl fun x h => ?_, fill_some ?_⟩
  · have := hx x h
    omega
  · have := hx x h
    have := h1 y hy
    omega
  · rcases List.mem_append.mp h with h | h
    · have := hx x h
      omega
    · have := hw.lim x h
      omega
  · unfold lone
    rw [List.any_eq_false]
    intro x h
    have := hx x h
    rw [decide_eq_false (by omega)]
    decide
section
variable {P : Program} {w : World} {K : PySem.W.Frag} {mg : Str → Option Value} {base : Heap}
theorem ok_law_beside_right (F : Df K mg "_law_beside_right" st__law_beside_right P__law_beside_right) (T : Nb mg) (c__law_same : Cal P w K mg base 4 "_law_same" spSame2) (c__law_counts : Cal P w K mg base 9 "_law_counts" spCounts)
    (c__law_price : Cal P w K mg base 12 "_law_price" spPrice) (c__law_more : Cal P w K mg base 1 "_law_more" spMore) : Cal P w K mg base 13 "_law_beside_right" spBeside := by
  refine F.cal sc__law_beside_right len5 (fun f cdv A outer s H vs Q E hr h => ?_)
  obtain ⟨v, v2, v3, v4, v5, way, its, low, ds, ms, rfl, hv, hv2, hv3, hv4, hv5, ⟨⟨⟨hw, hi⟩, hd, hm⟩, bw, hbw⟩, kq⟩ := h
  cases hv3
  refine ⟨_, (pss_cons (ps_set (i := 5) sc__law_beside_right.nd rfl (by first | exact Or.inl rfl | exact Or.inr rfl) (pe_op op_add (pe_callB (k_maxD (K := K) (by rfl) hr.units (by rfl)) (by rfl) T.max bt_max (pa_cons (pv 0) pa_nil)) (pe_op op_mulW pe_int (pv 2))))
    (pss_cons (ps_set (i := 6) sc__law_beside_right.nd rfl (by first | exact Or.inl rfl | exact Or.inr rfl) (pe_callTy (k_tupO (K := K) (by rfl)) (by rfl) T.tuple bt_tuple (pa_cons (pe_lc (own := [("_law_own", 7)]) (g := (gName 7)) (tt := tYes) (by rfl) sc__law_beside_right.nd (k_pitup (K := K) (by rfl) (pv 1)) (blkOk_by (own := [("_law_own", 7)]) (N := N__law_beside_right) (sc := defScope st__law_beside_right) (by decide +kernel)) (fun _ _ _ _ _ => (pg_name (i := 7) sc__law_beside_right.nd rfl (by first | exact Or.inl rfl | exact Or.inr rfl))) (fun _ _ _ _ _ => pts_nil) (fun _ _ _ _ _ => (pe_op op_add (pv 7) (pv 5)))) pa_nil)))
    (pss_cons (ps_par (i := 8) (j := 9) (by rfl) sc__law_beside_right.nd rfl rfl (by decide) rfl rfl (pa_cons (pe_cal c__law_counts (hr.mono (by first | decide | omega)) (by rfl) (pa_cons (pv 0) (pa_cons (pv 2) pa_nil))) (pa_cons (pe_cal c__law_counts (hr.mono (by first | decide | omega)) (by rfl) (pa_cons (pv 6) (pa_cons (pv 2) pa_nil))) pa_nil)) (by rfl))
    (pss_cons (ps_set (i := 10) sc__law_beside_right.nd rfl (by first | exact Or.inl rfl | exact Or.inr rfl) (pe_lst (pa_cons (pe_op op_add (pe_ix (k_ixL (K := K) (by rfl)) (pv 8) pe_int (fun _ _ => rfl)) (pe_ix (k_ixL (K := K) (by rfl)) (pv 9) pe_int (fun _ _ => rfl))) (pa_cons (pe_op op_add (pe_ix (k_ixL (K := K) (by rfl)) (pv 8) pe_int (fun _ _ => rfl)) (pe_ix (k_ixL (K := K) (by rfl)) (pv 9) pe_int (fun _ _ => rfl))) (pa_cons (pe_op op_add (pe_ix (k_ixL (K := K) (by rfl)) (pv 8) pe_int (fun _ _ => rfl)) (pe_ix (k_ixL (K := K) (by rfl)) (pv 9) pe_int (fun _ _ => rfl))) (pa_cons (pe_op op_cat (pe_ix (k_ixL (K := K) (by rfl)) (pv 9) pe_int (fun _ _ => rfl)) (pe_lc (own := [("_law_k", 11)]) (g := (gName 11)) (tt := tYes) (by rfl) sc__law_beside_right.nd (k_pilist (K := K) (by rfl) (pe_ix (k_ixL (K := K) (by rfl)) (pv 8) pe_int (fun _ _ => rfl))) (blkOk_by (own := [("_law_k", 11)]) (N := N__law_beside_right) (sc := defScope st__law_beside_right) (by decide +kernel)) (fun _ _ _ _ _ => (pg_name (i := 11) sc__law_beside_right.nd rfl (by first | exact Or.inl rfl | exact Or.inr rfl))) (fun _ _ _ _ _ => pts_nil) (fun _ _ _ _ _ => (pe_op op_add (pe_callB (k_len (K := K) (by rfl)) (by rfl) T.len bt_len (pa_cons (pv 1) pa_nil)) (pv 11))))) pa_nil))))))
    (pss_cons (ps_if (pt_not (pt_val (pe_cal c__law_same (hr.mono (by first | decide | omega)) (by rfl) (pa_cons (pe_cal c__law_counts (hr.mono (by first | decide | omega)) (by rfl) (pa_cons (pe_op (k_catA (K := K) (by rfl)) (pv 6) (pv 0)) (pa_cons (pv 2) pa_nil))) (pa_cons (pv 10) pa_nil))))) (pss_one (ps_ret pe_bl)) pss_nil)
    (pss_cons (ps_set (i := 3) sc__law_beside_right.nd rfl (by first | exact Or.inl rfl | exact Or.inr rfl) (pe_callTy (k_tupO (K := K) (by rfl)) (by rfl) T.tuple bt_tuple (pa_cons (pe_lc (own := [("_law_own", 7)]) (g := (gName 7)) (by rfl) sc__law_beside_right.nd (k_pitup (K := K) (by rfl) (pv 3)) (blkOk_by (own := [("_law_own", 7)]) (N := N__law_beside_right) (sc := defScope st__law_beside_right) (by decide +kernel)) (fun _ _ _ _ _ => (pg_name (i := 7) sc__law_beside_right.nd rfl (by first | exact Or.inl rfl | exact Or.inr rfl))) (fun _ _ _ _ _ => (pts_one (pt_cmpR op_lt (pe_ix (k_ixT (K := K) (by rfl)) (pv 7) pe_int (fun _ _ => rfl)) (pe_op op_add (pe_callB (k_maxD (K := K) (by rfl) hr.units (by rfl)) (by rfl) T.max bt_max (pa_cons (pv 0) pa_nil)) pe_int) (nomark _)))) (fun _ _ _ _ _ => (pv 7))) pa_nil)))
    (pss_cons (ps_set (i := 4) sc__law_beside_right.nd rfl (by first | exact Or.inl rfl | exact Or.inr rfl) (pe_cal c__law_more (hr.mono (by first | decide | omega)) (by rfl) (pa_cons (pv 4) (pa_cons (pv 5) (pa_cons pe_int pa_nil)))))
    (pss_cons (ps_set (i := 12) sc__law_beside_right.nd rfl (by first | exact Or.inl rfl | exact Or.inr rfl) (pe_lst (pa_cons (pe_cal c__law_price (hr.mono (by first | decide | omega)) (by rfl) (pa_cons (pv 0) (pa_cons (pv 2) (pa_cons (pv 3) pa_nil)))) (pa_cons (pe_cal c__law_price (hr.mono (by first | decide | omega)) (by rfl) (pa_cons (pv 6) (pa_cons (pv 2) (pa_cons (pv 4) pa_nil)))) pa_nil))))
    (pss_cons (ps_set (i := 13) sc__law_beside_right.nd rfl (by first | exact Or.inl rfl | exact Or.inr rfl) (pe_ifExp (pt_cmpR (k_in (K := K) (by rfl)) pe_non (pv 12) (by rfl)) pe_non (pe_callB (k_sum (K := K) (by rfl) (by rfl)) (by rfl) T.sum bt_sum (pa_cons (pv 12) pa_nil))))
    (pss_one (ps_ret (pe_cal c__law_same (hr.mono (by first | decide | omega)) (by rfl) (pa_cons (pe_cal c__law_price (hr.mono (by first | decide | omega)) (by rfl) (pa_cons (pe_op (k_catA (K := K) (by rfl)) (pv 6) (pv 0)) (pa_cons (pv 2) (pa_cons (pe_op (k_catA (K := K) (by rfl)) (pv 3) (pv 4)) pa_nil)))) (pa_cons (pv 13) pa_nil)))))))))))))), ?_⟩
  have hp := hw.pos
  have hle := hw.le
  have sl : Sm low := sm_le (by omega) (by omega)
  have s2 : Sm 2 := by unfold Sm; decide
  have s1 : Sm 1 := by unfold Sm; decide
  have lw := hw.len
  have li := hi.len
  have ld := hd.len
  have lm := hm.len
  obtain ⟨x0, r0, rfl⟩ : ∃ x0 r0, way = x0 :: r0 := by
    cases way with
    | nil => exact absurd rfl hw.ne
    | cons x r => exact ⟨x, r, rfl⟩
  have hmax := max_ge_all (x := x0) (r := r0)
  have hmem := max_mem (x := x0) (r := r0)
  have evmx : ∀ {σ : L2.St} {H1 : Hp}, Ex H H1 → σ[0]? = some (some v) → Ev dI (tCB (rMaxD K) (tCons (tVar 0) tNil)) σ H1 (r0.foldl max x0) := fun {σ H1} e h => ev_maxI (ev_var h ((dT dI).ex e hv))
  generalize r0.foldl max x0 = mx at hmax hmem evmx
  generalize x0 :: r0 = way at *
  obtain ⟨hrh, hap, hrb, bh, hbh⟩ := high_facts hw hi hmax hmem
  have hrw := hw.row
  have hmlim := hw.lim mx hmem
  refine sq (s_asg (i := 5) (ev_I0 (g := fun i j => i + j) (evmx exr rfl) (ev_mulW ev_int (ev_var (a := low) rfl rfl) s2 sl)) fun x5 H1 e1 hx5 => ?_)
  cases hx5
  generalize hst : mx + 2 * low = step at *
  refine sq (s_asgN (i := 6) (en_tupleL (ev_lcY (r := dI) (s := dI) gm_name (es_tup (ev_var rfl ((dT dI).ex e1 hv2))) (by omega) (fun x => x + step) (fun x y H1 hm e hx => ⟨rfl, rfl, ev_I0 (g := fun i j => i + j) (ev_var rfl hx) (ev_var (a := step) rfl rfl)⟩)).ev) fun ph H2 hph e2 hhigh => ?_)
  have hhl : (its.map (· + step)).length = its.length := List.length_map ..
  generalize its.map (· + step) = high at *
  have e12 := ext e1 e2
  have kw := kept_some hrw.pos hrw.ne
  have kh := kept_some hrh.pos hrh.ne
  refine sq (s_par (ev_c2 (f := fun row least => countsJ row least ((keptN row least).getD 0)) (ev_var rfl ((dT dI).ex e12 hv)) (ev_var (a := low) rfl rfl) ⟨hrw, kw⟩) (ev_c2 (f := fun row least => countsJ row least ((keptN row least).getD 0)) (ev_var rfl hhigh) (ev_var (a := low) rfl rfl) ⟨hrh, kh⟩) fun vm vo H3 e3 hmine hother => ?_)
  obtain ⟨nw, hnw⟩ := Option.isSome_iff_exists.mp kw
  obtain ⟨nh, hnh⟩ := Option.isSome_iff_exists.mp kh
  have hboth := kept_beside hw.pos hrh.ne hrw.ne hap hbh hbw hnh hnw
  rw [hnw] at hmine
  rw [hnh] at hother
  have hmine : (dL dJ1).is H3 vm [ji (cntR way low), ji (cntR way low), ji nw, jl (idleF way low)] := hmine
  have hother : (dL dJ1).is H3 vo [ji (cntR high low), ji (cntR high low), ji nh, jl (idleF high low)] := hother
  have iw := idle_len (row := way) (least := low)
  have ih := idle_len (row := high) (least := low)
  have e13 := ext e12 e3
  refine sq (s_asgN (i := 10) (en_lst (r := dJ1) (as := [ji ((cntR way low : Int) + (cntR high low : Int)), ji ((cntR way low : Int) + (cntR high low : Int)), ji ((nw : Int) + (nh : Int)), jl (idleF high low ++ (idleF way low).map fun k => (its.length : Int) + k)])
    (ea_cons (Ev.re (ev_I0 (g := fun i j => i + j) (Ev.ofJi (ev_ixL (r := dJ1) (ev_var rfl hmine) ev_int rfl)) (Ev.ofJi (ev_ixL (r := dJ1) (ev_var rfl hother) ev_int rfl))) fun _ _ => is_ji)
    (ea_cons (Ev.re (ev_I0 (g := fun i j => i + j) (Ev.ofJi (ev_ixL (r := dJ1) (ev_var rfl hmine) ev_int rfl)) (Ev.ofJi (ev_ixL (r := dJ1) (ev_var rfl hother) ev_int rfl))) fun _ _ => is_ji)
    (ea_cons (Ev.re (ev_I0 (g := fun i j => i + j) (Ev.ofJi (ev_ixL (r := dJ1) (ev_var rfl hmine) ev_int rfl)) (Ev.ofJi (ev_ixL (r := dJ1) (ev_var rfl hother) ev_int rfl))) fun _ _ => is_ji)
    (ea_cons (Ev.re (en_catL (Ev.ofJl (ev_ixL (r := dJ1) (ev_var rfl hother) ev_int rfl)) (ev_lcY (r := dI) (s := dI) gm_name (es_lst (Ev.ofJl (ev_ixL (r := dJ1) (ev_var rfl hmine) ev_int rfl))) (by omega) (fun k => (its.length : Int) + k) (fun x y H1 hm e hx => ⟨rfl, rfl, ev_I0 (g := fun i j => i + j) (ev_lenT (r := dI) (ev_var rfl ((dT dI).ex (ext e13 e) hv2))) (ev_var rfl hx)⟩)).ev (by rw [List.length_map]; omega)).ev fun _ _ => is_jl) ea_nil)))) (by simp)) fun pd H4 hpd e4 hdue => ?_)
  have e14 := ext e13 e4
  have hrbl := hrb.len
  have kb : (keptN (high ++ way) low).isSome = true := by rw [hboth]; rfl
  refine sq (s_if (b := false) (et_not (a := true) (et_B ((ev_c2 (f := fun a b => decide (a = b)) (ev_c2 (f := fun row least => countsJ row least ((keptN row least).getD 0)) (ev_catT (r := dI) (ev_var rfl ((dT dI).ex (ext e3 e4) hhigh)) (ev_var rfl ((dT dI).ex e14 hv)) (by omega)) (ev_var (a := low) rfl rfl) ⟨hrb, kb⟩).inr (ev_var rfl hdue : Ev (dL dJ1) _ _ _ _).inr ?_).to ?_))) (fun z => nomatch z) (fun _ H5 e5 => ?_))
  · refine shp4 ?_ ?_
    · have := idle_len (row := high ++ way) (least := low)
      omega
    · rw [List.length_append, List.length_map]; omega
  · refine decide_eq_true ?_
    congr 1
    unfold countsJ
    rw [cnt_beside hw.pos hrh.ne hap hbh hbw, hboth, idle_beside hw.pos hrh.ne hrw.ne hap hbh hbw, hhl]
    rw [show ((cntR way low + cntR high low : Nat) : Int) = (cntR way low : Int) + (cntR high low : Int) by omega, show (((some (nh + nw)).getD 0 : Nat) : Int) = (nw : Int) + (nh : Int) by rw [Option.getD_some]; omega]
  refine snx ?_
  dsimp only
  have e15 := ext e14 e5
  have hstep : step = mx + 2 * low := hst.symm
  refine sq (s_asgN (i := 3) (en_tupleL (ev_lc (r := dPI) (s := dPI) gm_name (es_tup (ev_var rfl ((dT dPI).ex e15 hv4))) (by omega) (fun o => decide (o.1 < mx + 1)) (fun o => o) (fun o y H6 ho e6 hy => ⟨rfl, rfl, et_test (ev_B0 (g := fun i j => decide (i < j)) (ev_ix0 (ev_var rfl hy)) (ev_I0 (g := fun i j => i + j) (evmx (ext e15 e6) rfl) ev_int)), fun _ => ev_var rfl hy⟩)).ev) fun p3 H6 hp3 e6 hmineO => ?_)
  rw [List.map_id'] at hmineO
  have hmb : ∀ o ∈ ds.filter (fun o => decide (o.1 < mx + 1)), o.1 ≤ mx := fun o ho => by
    have := of_decide_eq_true (List.mem_filter.mp ho).2
    omega
  have offm : OffOk (ds.filter fun o => decide (o.1 < mx + 1)) := ⟨hd.up.filter _, by have := List.length_filter_le (fun o : Int × Int => decide (o.1 < mx + 1)) ds; omega⟩
  have offml : (ds.filter fun o => decide (o.1 < mx + 1)).length ≤ 12 := Nat.le_trans (List.length_filter_le _ _) ld
  generalize (ds.filter fun o => decide (o.1 < mx + 1)) = mine at hmineO hmb offm offml
  have e16 := ext e15 e6
  have hpre : ms.length ≤ 1000 ∧ Sm 1 ∧ ∀ d ∈ ms, Sm (d.1 + step) := ⟨by omega, s1, fun d hd => by
    have := hm.lim d hd
    exact sm_le (by omega) (by omega)⟩
  dsimp only
  refine sq (s_asg (i := 4) (ev_c3 (r := dT dPI) (s := dI) (r3 := dI) (f := fun ds st t => ds.map fun d => ((d.1 + st) * t, d.2)) (ev_var rfl ((dT dPI).ex e16 hv5)) (ev_var (a := step) rfl rfl) ev_int hpre) fun x4 H7 e7 hmoreO => ?_)
  have hkb : ∀ o ∈ ms.map (fun d => ((d.1 + step) * 1, d.2)), mx + 2 * low < o.1 := fun o ho => by
    obtain ⟨d, hd, rfl⟩ := List.mem_map.mp ho
    have := hm.lim d hd
    show mx + 2 * low < (d.1 + step) * 1
    omega
  have offh : OffOk (ms.map fun d => ((d.1 + step) * 1, d.2)) := ⟨by
    rw [List.pairwise_map]
    exact hm.up.imp fun hab => by
      dsimp only
      omega, by rw [List.length_map]; omega⟩
  have offhl : (ms.map fun d : Int × Int => ((d.1 + step) * 1, d.2)).length ≤ 12 := by rw [List.length_map]; exact lm
  generalize (ms.map fun d : Int × Int => ((d.1 + step) * 1, d.2)) = more at hmoreO hkb offh offhl
  have offb : OffOk (mine ++ more) := ⟨List.pairwise_append.mpr ⟨offm.up, offh.up, fun a ha b hb => by
    have := hmb a ha
    have := hkb b hb
    omega⟩, by rw [List.length_append]; omega⟩
  have hcb := cheap_beside (mine := mine) (more := more) hw.pos hrh.ne hap hbh hbw (fun o ho x hx => by
    have h1 := hmb o ho
    have h2 := hap x hx mx hmem
    omega) (fun o ho y hy => by
    have h1 := hkb o ho
    have h2 := hmax y hy
    omega)
  have e17 := ext e16 e7
  have e37 := ext e3 (ext e4 (ext e5 (ext e6 e7)))
  refine sq (s_asgN (i := 12) (en_lst (r := dO dI) (as := [cheapF way low mine, cheapF high low more]) (ea_cons (ev_c3 (f := cheapF) (ev_var rfl ((dT dI).ex e17 hv)) (ev_var (a := low) rfl rfl) (ev_var rfl ((dT dPI).ex e7 hmineO)) (price_pre hrw offm)) (ea_cons (ev_c3 (f := cheapF) (ev_var rfl ((dT dI).ex e37 hhigh)) (ev_var (a := low) rfl rfl) (ev_var rfl hmoreO) (price_pre hrh offh)) ea_nil)) (by simp)) fun pp H8 hpp e8 hprices => ?_)
  generalize cheapF way low mine = A at hcb hprices
  generalize cheapF high low more = B at hcb hprices
  refine sq (s_asg (i := 13) (r := dO dI) (a := bothO A B) (ev_if (b := [A, B].any Option.isNone) (et_test (ev_noneIn (ev_var rfl hprices))) (fun hb => ?_) (fun hb => ?_)) fun x13 H9 e9 hx13 => ?_)
  · have : bothO A B = none := by
      cases A <;> cases B <;> simp_all [bothO]
    exact (ev_non (r := dI)).to this.symm
  · cases A with
    | none => cases hb
    | some a =>
      cases B with
      | none => cases hb
      | some b =>
        have h2 : (dL dI).is H8 (.ref pp) [a, b] := by
          obtain ⟨q, xs, g1, g2, g3⟩ := hprices
          exact ⟨q, xs, g1, g2, pO' (ns := [a, b]) g3⟩
        refine (Ev.someI (ev_sum (ev_var rfl h2))).to ?_
        simp [bothO]
  · have e19 := ext e17 (ext e8 e9)
    refine s_ret (a := true) ((ev_c2 (f := fun a b => decide (a = b)) (Ev.inl (r := dJ1) (ev_c3 (f := cheapF) (ev_catT (r := dI) (ev_var rfl ((dT dI).ex (ext e37 (ext e8 e9)) hhigh)) (ev_var rfl ((dT dI).ex e19 hv)) (by omega)) (ev_var (a := low) rfl rfl) (ev_catT (r := dPI) (ev_var rfl ((dT dPI).ex (ext e7 (ext e8 e9)) hmineO)) (ev_var rfl ((dT dPI).ex (ext e8 e9) hmoreO)) (by omega)) (price_pre hrb offb))) (Ev.inl (r := dJ1) (ev_var rfl hx13)) trivial).to ?_) fun x H10 e10 hx => kq x H10 (ext e19 e10) hx
    exact decide_eq_true (congrArg Sum.inl hcb)
end
end Cu
set_option maxRecDepth 100000
set_option maxHeartbeats 4000000
/-! Cu, walk 19: _law_by_hand_right. -/
namespace Cu
open PySem PySem.Spec PyProof.Rows L2
abbrev st__law_by_hand_right : Stmt := top 47
abbrev N__law_by_hand_right : List Str := ["_law_full", "_law_deals_here", "_law_its", "_law_more_here", "_law_both", "_law_heard_here"]
abbrev P__law_by_hand_right : List Str := []
theorem sc__law_by_hand_right : FnScope N__law_by_hand_right P__law_by_hand_right (defScope st__law_by_hand_right) := ⟨rfl, rfl, rfl, by decide +kernel, rfl, by decide +kernel, by decide +kernel⟩
abbrev dJ3 : R (Option Int ⊕ List (Option Int ⊕ List J1)) := dS dJ2
abbrev spSame3 : Sp := sp2 dJ3 dJ3 dB (Shp ShJ) (fun a b => decide (a = b))
abbrev spHand : Sp := fun vs H Q _ => vs = [] ∧ ∀ x H', Ex H H' → dB.is H' x true → Q x H'
def fullR : List Int := [100, 93, 88, 80]
def fullO : List (Int × Int) := [(80, 5), (85, 1), (88, 2), (90, 9), (95, 1), (100, 4)]
def itsR : List Int := [30, 25, 20]
def itsO : List (Int × Int) := [(20, 2), (30, 2)]
def bothR : List Int := [150, 145, 140] ++ fullR
def bothOf : List (Int × Int) := fullO ++ [(140, 2), (150, 2)]
theorem full_ok : CaseOk fullR 10 := ⟨by decide, by decide, by decide, by omega, by decide⟩
theorem its_ok : CaseOk itsR 10 := ⟨by decide, by decide, by decide, by omega, by decide⟩
theorem lim64 {os : List (Int × Int)} (h : os.all (fun o => decide (1 ≤ o.1) && decide (o.1 ≤ 1000)) = true) : ∀ o ∈ os, 1 ≤ o.1 ∧ o.1 ≤ 10 ^ 64 := fun o ho => by
  have := List.all_eq_true.mp h o ho
  rw [Bool.and_eq_true, decide_eq_true_eq, decide_eq_true_eq] at this
  omega
theorem fullO_ok : OfsOk fullO := ⟨by decide, by decide, lim64 (by decide)⟩
theorem itsO_ok : OfsOk itsO := ⟨by decide, by decide, lim64 (by decide)⟩
theorem full_fill : ∃ bw, fillF fullR 10 = some bw := fill_some (by decide)
theorem its_fill : ∃ bw, fillF itsR 10 = some bw := fill_some (by decide)
theorem both_row : RowOk bothR 10 := rowOk_of (by decide) (by decide) (by decide) (sm_le (by decide) (by decide)) (by decide)
theorem both_off : OffOk bothOf := ⟨by decide, by decide⟩
theorem both_cnt : cntR bothR 10 = 5 := by decide +kernel
theorem both_kept : keptN bothR 10 = some 6 := by decide +kernel
theorem both_idle : idleF bothR 10 = [1] := by decide +kernel
theorem both_price : cheapF bothR 10 bothOf = some 15 := by decide +kernel
section
variable {P : Program} {w : World} {K : PySem.W.Frag} {mg : Str → Option Value} {base : Heap}
theorem ok_law_by_hand_right (F : Df K mg "_law_by_hand_right" st__law_by_hand_right P__law_by_hand_right) (T : Nb mg) (c__law_same : Cal P w K mg base 5 "_law_same" spSame3) (c__law_counts : Cal P w K mg base 9 "_law_counts" spCounts)
    (c__law_price : Cal P w K mg base 12 "_law_price" spPrice) (c__law_times_right : Cal P w K mg base 13 "_law_times_right" spTimes) (c__law_longer_right : Cal P w K mg base 13 "_law_longer_right" spLonger) (c__law_beside_right : Cal P w K mg base 13 "_law_beside_right" spBeside) :
    Cal P w K mg base 14 "_law_by_hand_right" spHand := by
  refine F.cal sc__law_by_hand_right (fun vs H Q E h => by obtain ⟨rfl, _⟩ := h; rfl) (fun f cdv A outer s H vs Q E hr h => ?_)
  obtain ⟨rfl, kq⟩ := h
  refine ⟨_, (pss_cons (ps_asg (pe_tup (pa_cons (pe_tup (pa_cons pe_int (pa_cons pe_int (pa_cons pe_int (pa_cons pe_int pa_nil))))) (pa_cons (pe_tup (pa_cons (pe_tup (pa_cons pe_int (pa_cons pe_int pa_nil))) (pa_cons (pe_tup (pa_cons pe_int (pa_cons pe_int pa_nil))) (pa_cons (pe_tup (pa_cons pe_int (pa_cons pe_int pa_nil))) (pa_cons (pe_tup (pa_cons pe_int (pa_cons pe_int pa_nil))) (pa_cons (pe_tup (pa_cons pe_int (pa_cons pe_int pa_nil))) (pa_cons (pe_tup (pa_cons pe_int (pa_cons pe_int pa_nil))) pa_nil))))))) pa_nil))) (k_gtup (K := K) (by rfl) (by rfl) (pgs_cons (pg_name (i := 0) sc__law_by_hand_right.nd rfl (by first | exact Or.inl rfl | exact Or.inr rfl)) (pgs_cons (pg_name (i := 1) sc__law_by_hand_right.nd rfl (by first | exact Or.inl rfl | exact Or.inr rfl)) pgs_nil))))
    (pss_cons (ps_asg (pe_tup (pa_cons (pe_tup (pa_cons pe_int (pa_cons pe_int (pa_cons pe_int pa_nil)))) (pa_cons (pe_tup (pa_cons (pe_tup (pa_cons pe_int (pa_cons pe_int pa_nil))) (pa_cons (pe_tup (pa_cons pe_int (pa_cons pe_int pa_nil))) pa_nil))) pa_nil))) (k_gtup (K := K) (by rfl) (by rfl) (pgs_cons (pg_name (i := 2) sc__law_by_hand_right.nd rfl (by first | exact Or.inl rfl | exact Or.inr rfl)) (pgs_cons (pg_name (i := 3) sc__law_by_hand_right.nd rfl (by first | exact Or.inl rfl | exact Or.inr rfl)) pgs_nil))))
    (pss_cons (ps_if (PW.pt (pw_or (pt_not (pt_val (pe_cal c__law_times_right (hr.mono (by first | decide | omega)) (by rfl) (pa_cons (pv 0) (pa_cons pe_int (pa_cons (pv 1) (pa_cons pe_int pa_nil))))))) (pw_or1 (pt_not (pt_val (pe_cal c__law_longer_right (hr.mono (by first | decide | omega)) (by rfl) (pa_cons (pv 0) (pa_cons pe_int (pa_cons (pv 1) (pa_cons pe_int pa_nil)))))))))) (pss_one (ps_ret pe_bl)) pss_nil)
    (pss_cons (ps_if (PW.pt (pw_or (pt_not (pt_val (pe_cal c__law_beside_right (hr.mono (by first | decide | omega)) (by rfl) (pa_cons (pv 0) (pa_cons (pv 2) (pa_cons pe_int (pa_cons (pv 1) (pa_cons (pv 3) pa_nil)))))))) (pw_or1 (pt_not (pt_val (pe_cal c__law_beside_right (hr.mono (by first | decide | omega)) (by rfl) (pa_cons (pv 2) (pa_cons (pv 0) (pa_cons pe_int (pa_cons (pv 3) (pa_cons (pv 1) pa_nil))))))))))) (pss_one (ps_ret pe_bl)) pss_nil)
    (pss_cons (ps_set (i := 4) sc__law_by_hand_right.nd rfl (by first | exact Or.inl rfl | exact Or.inr rfl) (pe_op (k_catA (K := K) (by rfl)) (pe_tup (pa_cons pe_int (pa_cons pe_int (pa_cons pe_int pa_nil)))) (pv 0)))
    (pss_cons (ps_set (i := 5) sc__law_by_hand_right.nd rfl (by first | exact Or.inl rfl | exact Or.inr rfl) (pe_lst (pa_cons (pe_cal c__law_counts (hr.mono (by first | decide | omega)) (by rfl) (pa_cons (pv 4) (pa_cons pe_int pa_nil))) (pa_cons (pe_cal c__law_price (hr.mono (by first | decide | omega)) (by rfl) (pa_cons (pv 4) (pa_cons pe_int (pa_cons (pe_op (k_catA (K := K) (by rfl)) (pv 1) (pe_tup (pa_cons (pe_tup (pa_cons pe_int (pa_cons pe_int pa_nil))) (pa_cons (pe_tup (pa_cons pe_int (pa_cons pe_int pa_nil))) pa_nil)))) pa_nil)))) pa_nil))))
    (pss_one (ps_ret (pe_cal c__law_same (hr.mono (by first | decide | omega)) (by rfl) (pa_cons (pv 5) (pa_cons (pe_lst (pa_cons (pe_lst (pa_cons pe_int (pa_cons pe_int (pa_cons pe_int (pa_cons (pe_lst (pa_cons pe_int pa_nil)) pa_nil))))) (pa_cons pe_int pa_nil))) pa_nil))))))))))), ?_⟩
  have epi : ∀ {σ : L2.St} {H : Hp} {a b : Int}, Ev dPI (tTup (tCons (tC (.int a)) (tCons (tC (.int b)) tNil))) σ H (a, b) := fun {σ H a b} => (en_pair ev_int ev_int).ev
  refine sq (s_asgP (d := (fullR, fullO)) (en_pair (r := dT dI) (s := dT dPI) (en_tup (ea_cons ev_int (ea_cons ev_int (ea_cons ev_int (ea_cons ev_int ea_nil)))) (by decide)).ev (en_tup (ea_cons epi (ea_cons epi (ea_cons epi (ea_cons epi (ea_cons epi (ea_cons epi ea_nil)))))) (by decide)).ev).ev fun v0 v1 H1 e1 h0 h1 => ?_)
  refine sq (s_asgP (d := (itsR, itsO)) (en_pair (r := dT dI) (s := dT dPI) (en_tup (ea_cons ev_int (ea_cons ev_int (ea_cons ev_int ea_nil))) (by decide)).ev (en_tup (ea_cons epi (ea_cons epi ea_nil)) (by decide)).ev).ev fun v2 v3 H2 e2 h2 h3 => ?_)
  dsimp only at h0 h1 h2 h3
  have g0 := (dT dI).ex e2 h0
  have g1 := (dT dPI).ex e2 h1
  refine sq (s_if (b := false) (et_or (a := false) (b := false) (et_not (a := true) (et_B (ev_c4 (f := fun _ _ _ _ => true) (ev_var rfl g0) (ev_int (n := 10)) (ev_var rfl g1) (ev_int (n := 7)) ⟨full_ok, fullO_ok, by decide, by decide⟩))) (fun _ => et_not (a := true) (et_B (ev_c4 (f := fun _ _ _ _ => true) (ev_var rfl g0) (ev_int (n := 10)) (ev_var rfl g1) (ev_int (n := 3)) ⟨full_ok, fullO_ok, by decide, by decide⟩)))) (fun z => nomatch z) (fun _ H3 e3 => ?_))
  refine snx ?_
  dsimp only
  have g0 := (dT dI).ex e3 g0
  have g1 := (dT dPI).ex e3 g1
  have g2 := (dT dI).ex e3 h2
  have g3 := (dT dPI).ex e3 h3
  refine sq (s_if (b := false) (et_or (a := false) (b := false) (et_not (a := true) (et_B (ev_c5 (f := fun _ _ _ _ _ => true) (ev_var rfl g0) (ev_var rfl g2) (ev_int (n := 10)) (ev_var rfl g1) (ev_var rfl g3) ⟨⟨⟨full_ok, its_ok⟩, fullO_ok, itsO_ok⟩, full_fill⟩))) (fun _ => et_not (a := true) (et_B (ev_c5 (f := fun _ _ _ _ _ => true) (ev_var rfl g2) (ev_var rfl g0) (ev_int (n := 10)) (ev_var rfl g3) (ev_var rfl g1) ⟨⟨⟨its_ok, full_ok⟩, itsO_ok, fullO_ok⟩, its_fill⟩)))) (fun z => nomatch z) (fun _ H4 e4 => ?_))
  refine snx ?_
  dsimp only
  have g0 := (dT dI).ex e4 g0
  have g1 := (dT dPI).ex e4 g1
  refine sq (s_asg (i := 4) (r := dT dI) (a := bothR) (ev_catT (r := dI) (en_tup (as := [150, 145, 140]) (ea_cons ev_int (ea_cons ev_int (ea_cons ev_int ea_nil))) (by decide)).ev (ev_var rfl g0) (by decide)) fun v4 H5 e5 h4 => ?_)
  have g1 := (dT dPI).ex e5 g1
  have kb : (keptN bothR 10).isSome = true := by rw [both_kept]; rfl
  refine sq (s_asgN (i := 5) (en_lst (r := dJ2) (as := [.inr (countsJ bothR 10 ((keptN bothR 10).getD 0)), .inl (cheapF bothR 10 bothOf)]) (ea_cons (ev_c2 (f := fun row least => countsJ row least ((keptN row least).getD 0)) (ev_var rfl h4) (ev_int (n := 10)) ⟨both_row, kb⟩).inr (ea_cons (Ev.inl (r := dJ1) (ev_c3 (f := cheapF) (ev_var rfl h4) (ev_int (n := 10)) (ev_catT (r := dPI) (as := fullO) (bs := [(140, 2), (150, 2)]) (ev_var rfl g1) (en_tup (ea_cons epi (ea_cons epi ea_nil)) (by decide)).ev (by decide)) (price_pre both_row both_off))) ea_nil)) (by decide)) fun p5 H6 hp5 e6 h5 => ?_)
  have hji : ∀ {σ : L2.St} {H : Hp} {n : Int}, Ev dJ1 (tC (.int n)) σ H (ji n) := fun {σ H n} => Ev.re ev_int fun _ _ => is_ji
  have hdue : Ev dJ3 (tLst (tCons (tLst (tCons (tC (.int 5)) (tCons (tC (.int 5)) (tCons (tC (.int 6)) (tCons (tLst (tCons (tC (.int 1)) tNil)) tNil))))) (tCons (tC (.int 15)) tNil))) [some v0, some v1, some v2, some v3, some v4, some (.ref p5)] H6 (.inr [.inr [ji 5, ji 5, ji 6, jl [1]], .inl (some 15)]) :=
    (en_lst (r := dJ2) (ea_cons (en_lst (r := dJ1) (ea_cons hji (ea_cons hji (ea_cons hji (ea_cons (Ev.re (en_lst (r := dI) (as := [1]) (ea_cons ev_int ea_nil) (by decide)).ev fun _ _ => is_jl) ea_nil)))) (by decide)).ev.inr (ea_cons (Ev.inl (r := dJ1) (Ev.someI ev_int)) ea_nil)) (by decide)).ev.inr
  have h5' : (dL dJ2).is H6 (.ref p5) [.inr [ji 5, ji 5, ji 6, jl [1]], .inl (some 15)] := by
    have : countsJ bothR 10 ((keptN bothR 10).getD 0) = [ji 5, ji 5, ji 6, jl [1]] := by
      unfold countsJ
      rw [both_cnt, both_kept, both_idle]
      rfl
    rw [this, both_price] at h5
    exact h5
  refine s_ret (a := true) ((ev_c2 (f := fun a b => decide (a = b)) (ev_var rfl h5' : Ev (dL dJ2) _ _ _ _).inr hdue ?_).to (decide_eq_true rfl)) fun x H7 e7 hx => kq x H7 (ext e1 (ext e2 (ext e3 (ext e4 (ext e5 (ext e6 e7)))))) hx
  refine ⟨⟨by decide, by decide⟩, fun d hd => ?_⟩
  simp only [List.zip_cons_cons, List.zip_nil_left, List.mem_cons, List.not_mem_nil, or_false] at hd
  rcases hd with rfl | rfl
  · exact shp4 (by decide) (by decide)
  · trivial
end
end Cu
set_option maxRecDepth 100000
set_option maxHeartbeats 4000000
/-! Cu, walk 20: _law_right. -/
namespace Cu
open PySem PySem.Spec PyProof.Rows L2
abbrev st__law_right : Stmt := top 48
abbrev N__law_right : List Str := ["_law_box_here", "_law_low", "_law_way", "_law_its", "_law_deals_here", "_law_more_here"]
abbrev P__law_right : List Str := ["_law_box_here"]
theorem sc__law_right : FnScope N__law_right P__law_right (defScope st__law_right) := ⟨rfl, rfl, rfl, by decide +kernel, rfl, by decide +kernel, by decide +kernel⟩
abbrev spRight : Sp := fun vs H Q _ => ∃ (p : Addr) (k : Nat), vs = [.ref p] ∧ BoxAt p H k ∧ k ≤ 600000 ∧ ∀ x H', EB p H H' → BoxAt p H' (k + 300) → dB.is H' x true → Q x H'
theorem way_case {ws : List Int} {low : Int} (hl : LowOk low) (h : WayOk ws low) : CaseOk ws low := ⟨h.ne, by have := h.len; omega, hl.pos, hl.le, fun x hx => by have := h.lim x hx; have := hl.pos; omega⟩
theorem deal_ofs {ds : List (Int × Int)} {low : Int} (hl : LowOk low) (h : DealOk ds low) : OfsOk ds := ⟨h.up, by have := h.len; omega, fun o ho => by have := (h.lim o ho).1; have := hl.le; omega⟩
section
variable {P : Program} {w : World} {K : PySem.W.Frag} {mg : Str → Option Value} {base : Heap}
theorem ok_law_right (F : Df K mg "_law_right" st__law_right P__law_right) (T : Nb mg) (c__law_take : Cal P w K mg base 1 "_law_take" spTake) (c__law_of : Cal P w K mg base 2 "_law_of" spOf)
    (c__law_short : Cal P w K mg base 4 "_law_short" spShort) (c__law_deals : Cal P w K mg base 3 "_law_deals" spDeals) (c__law_blocks : Cal P w K mg base 2 "_law_blocks" (sp2 (dT dI) dI (dO (dT dPI)) fillP fillF))
    (c__law_times_right : Cal P w K mg base 13 "_law_times_right" spTimes) (c__law_longer_right : Cal P w K mg base 13 "_law_longer_right" spLonger) (c__law_beside_right : Cal P w K mg base 13 "_law_beside_right" spBeside) :
    Cal P w K mg base 14 "_law_right" spRight := by
  refine F.cal sc__law_right (fun vs H Q E h => by obtain ⟨p, k, rfl, _⟩ := h; rfl) (fun f cdv A outer s H vs Q E hr h => ?_)
  obtain ⟨p, k, rfl, hbox, hk, kq⟩ := h
  refine ⟨_, (pss_cons (ps_set (i := 1) sc__law_right.nd rfl (by first | exact Or.inl rfl | exact Or.inr rfl) (pe_cal c__law_of (hr.mono (by first | decide | omega)) (by rfl) (pa_cons (pv 0) (pa_cons (pe_lst (pa_cons pe_int (pa_cons pe_int (pa_cons pe_int (pa_cons pe_int (pa_cons pe_int (pa_cons pe_int (pa_cons (pe_op op_add pe_int (pe_cal c__law_take (hr.mono (by first | decide | omega)) (by rfl) (pa_cons (pv 0) (pa_cons (pe_op op_pow pe_int pe_int) pa_nil)))) (pa_cons (pe_op op_sub (pe_op op_pow pe_int pe_int) (pe_cal c__law_take (hr.mono (by first | decide | omega)) (by rfl) (pa_cons (pv 0) (pa_cons pe_int pa_nil)))) pa_nil))))))))) pa_nil))))
    (pss_cons (ps_par (i := 2) (j := 3) (by rfl) sc__law_right.nd rfl rfl (by decide) rfl rfl (pa_cons (pe_cal c__law_short (hr.mono (by first | decide | omega)) (by rfl) (pa_cons (pv 0) (pa_cons (pv 1) pa_nil))) (pa_cons (pe_cal c__law_short (hr.mono (by first | decide | omega)) (by rfl) (pa_cons (pv 0) (pa_cons (pv 1) pa_nil))) pa_nil)) (by rfl))
    (pss_cons (ps_par (i := 4) (j := 5) (by rfl) sc__law_right.nd rfl rfl (by decide) rfl rfl (pa_cons (pe_cal c__law_deals (hr.mono (by first | decide | omega)) (by rfl) (pa_cons (pv 0) (pa_cons (pv 2) (pa_cons (pv 1) (pa_cons pe_int pa_nil))))) (pa_cons (pe_cal c__law_deals (hr.mono (by first | decide | omega)) (by rfl) (pa_cons (pv 0) (pa_cons (pv 3) (pa_cons (pv 1) (pa_cons pe_int pa_nil))))) pa_nil)) (by rfl))
    (pss_cons (ps_if (pt_not (pt_val (pe_cal c__law_times_right (hr.mono (by first | decide | omega)) (by rfl) (pa_cons (pv 2) (pa_cons (pv 1) (pa_cons (pv 4) (pa_cons (pe_op op_add pe_int (pe_cal c__law_take (hr.mono (by first | decide | omega)) (by rfl) (pa_cons (pv 0) (pa_cons pe_int pa_nil)))) pa_nil))))))) (pss_one (ps_ret pe_bl)) pss_nil)
    (pss_cons (ps_if (pt_not (pt_val (pe_cal c__law_longer_right (hr.mono (by first | decide | omega)) (by rfl) (pa_cons (pv 2) (pa_cons (pv 1) (pa_cons (pv 4) (pa_cons (pe_cal c__law_take (hr.mono (by first | decide | omega)) (by rfl) (pa_cons (pv 0) (pa_cons pe_int pa_nil))) pa_nil))))))) (pss_one (ps_ret pe_bl)) pss_nil)
    (pss_cons (ps_if (PW.pt (pw_or (pt_cmpR op_isN' (pe_cal c__law_blocks (hr.mono (by first | decide | omega)) (by rfl) (pa_cons (pv 2) (pa_cons (pv 1) pa_nil))) pe_non (nomark _)) (pw_or1 (pt_cmpR op_isN' (pe_cal c__law_blocks (hr.mono (by first | decide | omega)) (by rfl) (pa_cons (pv 3) (pa_cons (pv 1) pa_nil))) pe_non (nomark _))))) (pss_one (ps_ret pe_bl)) pss_nil)
    (pss_one (ps_ret (pe_cal c__law_beside_right (hr.mono (by first | decide | omega)) (by rfl) (pa_cons (pv 2) (pa_cons (pv 3) (pa_cons (pv 1) (pa_cons (pv 4) (pa_cons (pv 5) pa_nil)))))))))))))), ?_⟩
  have pow18 : ∀ {σ : L2.St} {H : Hp}, Ev dI (tOp (L2.rI CPow fun i j => .int (i ^ j.toNat)) (tC (.int 10)) (tC (.int 18))) σ H (10 ^ (18 : Int).toNat) := fun {σ H} => ev_I (C := CPow) (g := fun i j => i ^ j.toNat) ev_int ev_int ⟨by decide, by decide, by decide⟩
  have pow58 : ∀ {σ : L2.St} {H : Hp}, Ev dI (tOp (L2.rI CPow fun i j => .int (i ^ j.toNat)) (tC (.int 10)) (tC (.int 58))) σ H (10 ^ (58 : Int).toNat) := fun {σ H} => ev_I (C := CPow) (g := fun i j => i ^ j.toNat) ev_int ev_int ⟨by decide, by decide, by decide⟩
  refine sq (s_asgB (φ := fun n => 1 ≤ n ∧ n ≤ 10 ^ 60) (k' := k + 3) (bi_ofD (c := 7) (k' := k + 2) rfl (ba1 (bi_pure (fun H => ev_int) (by decide)) (ba1 (bi_pure (fun H => ev_int) (by decide)) (ba1 (bi_pure (fun H => ev_int) (by decide)) (ba1 (bi_pure (fun H => ev_int) (by decide)) (ba1 (bi_pure (fun H => ev_int) (by decide)) (ba1 (bi_pure (fun H => ev_int) (by decide))
    (ba1 (bi_op (k1 := k) (k2 := k + 1) (φ := fun n => n = 1) (ψ := fun d => ∃ m : Int, m = 10 ^ 18 ∧ 0 ≤ d ∧ d < m) (bi_pure (fun H => ev_int) rfl) (bi_take rfl (φ := fun m => m = 10 ^ 18) (bi_pure (fun H => pow18) (by decide)) (by omega) (fun m hm => ⟨by omega, sm_le (by omega) (by omega)⟩)) (fun i j hi ⟨m, hm, h3, h4⟩ => by omega))
    (ba1 (bi_op (k1 := k + 1) (k2 := k + 2) (φ := fun n => n = 10 ^ 58) (ψ := fun d => ∃ m : Int, m = 1000 ∧ 0 ≤ d ∧ d < m) (bi_pure (fun H => pow58) (by decide)) (bi_take rfl (φ := fun m => m = 1000) (bi_pure (fun H => ev_int) rfl) (by omega) (fun m hm => ⟨by omega, sm_le (by omega) (by omega)⟩)) (fun i j hi ⟨m, hm, h3, h4⟩ => by omega)) ba0)))))))) (by decide) (by omega)) hbox fun low H1 e1 b1 hlow => ?_)
  have hlo : LowOk low := ⟨hlow.1, hlow.2⟩
  have hp1 := hlo.pos
  -- the two ways
  refine sq ?_
  refine ⟨.ref p, rfl, .int low, rfl, p, low, k + 3, rfl, b1, by omega, hlo, fun vw way H2 e2 b2 hway hwok => ?_⟩
  refine ⟨.ref p, rfl, .int low, rfl, p, low, k + 3 + 20, rfl, b2, by omega, hlo, fun vi its H3 e3 b3 hits hiok => ⟨vw, vi, rfl, ?_⟩⟩
  have hway3 : (dT dI).is H3 vw way := TR.tx (e3.tx b2) hway
  -- the deals
  refine sq ?_
  refine ⟨.ref p, rfl, vw, rfl, .int low, rfl, p, vw, way, low, k + 3 + 20 + 20, rfl, b3, by omega, hlo, hway3, hwok, fun vd ds H4 e4 b4 hds hdok => ?_⟩
  have hits4 : (dT dI).is H4 vi its := TR.tx (e4.tx b3) hits
  refine ⟨.ref p, rfl, vi, rfl, .int low, rfl, p, vi, its, low, k + 3 + 20 + 20 + 100, rfl, b4, by omega, hlo, hits4, hiok, fun vm ms H5 e5 b5 hms hmok => ⟨vd, vm, rfl, ?_⟩⟩
  have hway5 : (dT dI).is H5 vw way := TR.tx (e5.tx b4) (TR.tx (e4.tx b3) hway3)
  have hits5 : (dT dI).is H5 vi its := TR.tx (e5.tx b4) hits4
  have hds5 : (dT dPI).is H5 vd ds := TR.tx (e5.tx b4) hds
  have e05 : EB p H H5 := ebt e1 (ebt e2 (ebt e3 (ebt e4 e5)))
  have cw := way_case hlo hwok
  have ci := way_case hlo hiok
  have od := deal_ofs hlo hdok
  have om := deal_ofs hlo hmok
  -- times
  refine sq ?_
  refine ⟨vw, rfl, .int low, rfl, vd, rfl, ?_⟩
  refine bi_op (p := p) (k := k + 3 + 20 + 20 + 100 + 100) (k1 := k + 3 + 20 + 20 + 100 + 100) (k2 := k + 3 + 20 + 20 + 100 + 100 + 1) (φ := fun n => n = 1) (ψ := fun d => ∃ m : Int, m = 10 ∧ 0 ≤ d ∧ d < m) (χ := fun t => 1 ≤ t ∧ t ≤ 10) (bi_pure (fun H => ev_int) rfl) (bi_take rfl (φ := fun m => m = 10) (bi_pure (fun H => ev_int) rfl) (by omega) (fun m hm => ⟨by omega, sm_le (by omega) (by omega)⟩)) (fun i j hi ⟨m, hm, h3, h4⟩ => by omega) H5 b5 _ fun t H6 e6 b6 ht => ?_
  have tx6 : TX H5 H6 := e6.tx b5
  refine ⟨vw, .int low, vd, .int t, way, low, ds, t, rfl, TR.tx tx6 hway5, rfl, TR.tx tx6 hds5, rfl, ⟨cw, od, ht.1, ht.2⟩, fun x H7 e7 hx => ⟨true, hx, ?_⟩⟩
  refine iteF ?_
  refine snx ?_
  dsimp only
  have tx7 : TX H5 H7 := txt tx6 e7.tx
  -- longer
  refine sq ?_
  refine ⟨vw, rfl, .int low, rfl, vd, rfl, ?_⟩
  refine bi_take (p := p) (k := k + 3 + 20 + 20 + 100 + 100 + 1) (k' := k + 3 + 20 + 20 + 100 + 100 + 1) rfl (φ := fun m => m = 9) (bi_pure (fun H => ev_int) rfl) (by omega) (fun m hm => ⟨by omega, sm_le (by omega) (by omega)⟩) H7 (b6.ex e7) _ fun mo H8 e8 b8 ⟨m9, hm9, hmo0, hmo1⟩ => ?_
  have tx8 : TX H5 H8 := txt tx7 (e8.tx (b6.ex e7))
  refine ⟨vw, .int low, vd, .int mo, way, low, ds, mo, rfl, TR.tx tx8 hway5, rfl, TR.tx tx8 hds5, rfl, ⟨cw, od, by omega, by omega⟩, fun x H9 e9 hx => ⟨true, hx, ?_⟩⟩
  refine iteF ?_
  refine snx ?_
  dsimp only
  have tx9 : TX H5 H9 := txt tx8 e9.tx
  have e09 : EB p H H9 := ebt e05 (ebt e6 (ebt e7.eb (ebt e8 e9.eb)))
  have b9 : BoxAt p H9 (k + 300) := (b8.ex e9).le (by omega)
  have hway9 := TR.tx tx9 hway5
  have hits9 := TR.tx tx9 hits5
  have hds9 := TR.tx tx9 hds5
  have hms9 : (dT dPI).is H9 vm ms := TR.tx tx9 hms
  have hwl := hwok.len
  have hil := hiok.len
  have sl : Sm low := hlo.sm (by omega) (by omega)
  refine sq (s_if (b := (fillF way low).isNone || (fillF its low).isNone) (et_or (et_test (ev_isN (ev_c2 (f := fillF) (ev_var rfl hway9) (ev_var (a := low) rfl rfl) ⟨by omega, sl⟩))) (fun _ => et_test (ev_isN (ev_c2 (f := fillF) (ev_var rfl hits9) (ev_var (a := low) rfl rfl) ⟨by omega, sl⟩)))) (fun hb H10 e10 => ?_) (fun hb H10 e10 => ?_))
  · exact s_ret (ev_bl (b := true)) fun x H11 e11 hx => kq x H11 (ebt e09 (ext e10 e11).eb) (b9.ex (ext e10 e11)) hx
  · refine snx ?_
    dsimp only
    rw [Bool.or_eq_false_iff] at hb
    have hfw : ∃ bw, fillF way low = some bw := by
      cases q : fillF way low with
      | none => rw [q] at hb; exact absurd hb.1 (by decide)
      | some bw => exact ⟨bw, rfl⟩
    exact s_ret (ev_c5 (f := fun _ _ _ _ _ => true) (ev_var rfl ((dT dI).ex e10 hway9)) (ev_var rfl ((dT dI).ex e10 hits9)) (ev_var (a := low) rfl rfl) (ev_var rfl ((dT dPI).ex e10 hds9)) (ev_var rfl ((dT dPI).ex e10 hms9)) ⟨⟨⟨cw, ci⟩, od, om⟩, hfw⟩) fun x H11 e11 hx => kq x H11 (ebt e09 (ext e10 e11).eb) (b9.ex (ext e10 e11)) hx
end
end Cu
set_option maxRecDepth 100000
set_option maxHeartbeats 4000000
/-! Cu, walk 21: _law_cells of the script, law. -/
namespace Cu
open PySem PySem.Spec PyProof.Rows L2
abbrev st_law : Stmt := top 49
abbrev N_law : List Str := ["_law_script", "_law_cells_here", "_law_k", "_law_box_here", "_law_turn"]
abbrev P_law : List Str := ["_law_script"]
theorem sc_law : FnScope N_law P_law (defScope st_law) := ⟨rfl, rfl, rfl, by decide +kernel, rfl, by decide +kernel, by decide +kernel⟩
theorem pe_cal0 {X : Cx} {k : Nat} {x : Str} {sp : Sp} {p pos : Pos} (c : Cal X.prog X.w X.K X.mg X.base k x sp) (hr : Room k X.A) (hg : Gl X x)
    (hdb : (x == ("__debug__" : Str)) = false := by decide) : PE X (.Call (.Name x p) [] [] pos) (tCall sp [] E0 tNil) := by
  obtain ⟨f, fd, ps, F, hm, hk, hb⟩ := c.ex
  exact pe_call0 F hr hg hm hk hb .nil pass0 hdb
theorem cutV_ints {ns : List Int} {lo hi : Option Int} : cutV (ns.map V.int) lo hi = ((ns.drop (HT.sIx ns.length 0 lo)).take (HT.sIx ns.length ns.length hi - HT.sIx ns.length 0 lo)).map V.int :=
  ints_of (H := fun _ => none) (pcut pints lo hi)
theorem en_slS {σ : L2.St} {H : Hp} {K : PySem.W.Frag} {te : TE} {tl th : TO} {ns : List Int} {a0 : Addr} {lo hi : Option Int} (h : Ev dV te σ H (.ref a0)) (hs : SqL K H a0 (ns.map V.int)) (h1 : EvO tl σ H lo) (h2 : EvO th σ H hi) :
    EvN (dL dI) (tSl (rSlL K) te tl th) σ H ((ns.drop (HT.sIx ns.length 0 lo)).take (HT.sIx ns.length ns.length hi - HT.sIx ns.length 0 lo)) := fun H1 e _ q =>
  h H1 e _ fun v H2 e2 hv => h1 H2 (ext e e2) _ fun H3 e3 => h2 H3 (ext e (ext e2 e3)) _ fun H4 e4 => by
    cases hv
    refine ⟨a0, _, rfl, Same.seq (ext e (ext e2 (ext e3 e4))) hs, fun l hl => q l _ (exf (ext e2 (ext e3 e4)) hl) (ext e2 (ext e3 (ext e4 (exn hl)))) ?_⟩
    rw [cutV_ints]
    exact isLI upd_same
theorem et_nall {σ : L2.St} {H : Hp} {K : PySem.W.Frag} {tl : TE} {Q : Bool → Hp → Prop} (h : tl σ H fun x H1 => rAll K [x] H1 fun v H2 => ∃ c, v = .bl c ∧ Q (!c) H2) : tNot (tB (tCB (rAll K) (tCons tl tNil))) σ H Q := h
/-- [_law_right(box) for turn in range(6)] -/
theorem lc_right {σ : L2.St} {H : Hp} {p : Addr} (b : BoxAt p H 0) (h3 : ∀ v, ((wipe σ [4]).set 4 v)[3]? = some (some (.ref p))) (hw : ∀ v, wipe ((wipe σ [4]).set 4 v) [4] = wipe σ [4]) {Q : VK}
    (q : ∀ l H' (bs : List Bool), H l = none → EB p H H' → H' l = some (.lst (bs.map V.bl)) → (∀ c ∈ bs, c = true) → Q (.ref l) H') :
    tLc (iRng1 (tCons (tC (.int 6)) tNil)) (gName 4) tYes (tCall spRight [] E0 (tCons (tVar 3) tNil)) [4] σ H Q := by
  refine ⟨6, rfl, by decide, by decide, fun Dl hD => ?_⟩
  have hDp : Dl ≠ p := b.ne hD
  refine lc_it (n := 6) (G := fun H' => True) (Y := fun i H1 x H2 => H2 = H1) ?_ (fun i H' => ∃ bs : List Bool, H' Dl = some (.lst (bs.map V.bl)) ∧ bs.length = i ∧ (∀ c ∈ bs, c = true) ∧ BoxAt p H' (300 * i) ∧ EB p H H') ?_ (fun i H' _ h => trivial) ?_ ?_
  · exact (walk_range (lo := 0) (n := 6)).mono (fun H1 e => trivial) fun i H1 x H2 hi e y => y.1
  · exact ⟨[], upd_same, rfl, fun c h => (nomatch h), b.upd hDp, eb_free ebr hD⟩
  · rintro i x H2 H3 hi ⟨bs, hl, hlen, hall, hb2, eb2⟩ rfl
    refine gn ⟨hw _, ?_⟩
    show tYes _ H3 _
    refine et_yes (H := H3) H3 exr _ fun H4 e4 => ?_
    rw [if_pos rfl]
    refine ⟨.ref p, h3 _, p, 300 * i, rfl, hb2.ex e4, by omega, fun y H5 e5 b5 hy => ?_⟩
    have h5 := e5 Dl _ hDp (e4 Dl _ hl)
    refine ⟨bs.map V.bl, h5, sz_lt (by rw [List.length_map]; omega), bs ++ [true], ?_, by rw [List.length_append, hlen]; rfl, fun c hc => ?_, (b5.upd hDp).le (by omega), eb_free (ebt eb2 (ebt e4.eb e5)) hD⟩
    · rw [upd_same, List.map_append]
      have hy : y = .bl true := hy
      rw [hy]; rfl
    · rcases List.mem_append.mp hc with h | h
      · exact hall c h
      · rw [List.mem_singleton] at h; exact h
  · rintro H' ⟨bs, hl, hlen, hall, hb2, eb2⟩
    exact q Dl H' bs hD eb2 hl hall
section
variable {P : Program} {w : World} {K : PySem.W.Frag} {mg : Str → Option Value} {base : Heap}
abbrev spCells (K : PySem.W.Frag) : Sp := fun vs H Q _ => ∃ (a0 : Addr) (ns : List Int), vs = [.ref a0, .int 3] ∧ SqL K H a0 (ns.map V.int) ∧ ns.length ≤ 63 ∧ ∀ p H' (ms : List Int), H p = none → Ex H H' → H' p = some (.lst (ms.map V.int)) → ms ≠ [] → ms.length ≤ 3 → Q (.ref p) H'
abbrev spBox : Sp := fun vs H Q _ => ∃ (v : V) (ns : List Int) (j : Int), vs = [v, .int j] ∧ (dL dI).is H v ns ∧ (0 ≤ j ∧ j < ns.length) ∧ ns.length ≤ 1000 ∧ ∀ p H', H p = none → Ex H H' → BoxAt p H' 0 → Q (.ref p) H'
abbrev spLaw (K : PySem.W.Frag) : Sp := fun vs H Q _ => ∃ (a : Addr) (ns : List Int), vs = [.ref a] ∧ SqL K H a (ns.map V.int) ∧ ns.length ≤ 63 ∧ ∀ H', Q (.bl true) H'
theorem ok_law_cellsS (F : Df K mg "_law_cells" st__law_cells P__law_cells) (T : Nb mg) : Cal P w K mg base 1 "_law_cells" (fun vs H Q _ => ∃ (a0 : Addr) (ns : List Int), vs = [.ref a0, .int 3] ∧ SqL K H a0 (ns.map V.int) ∧ ns.length ≤ 63 ∧ ∀ p H' (ms : List Int), H p = none → Ex H H' → H' p = some (.lst (ms.map V.int)) → ms ≠ [] → ms.length ≤ 3 → Q (.ref p) H') := by
  refine F.cal sc__law_cells (fun vs H Q E h => by obtain ⟨a0, ns, rfl, _⟩ := h; rfl) (fun f cdv A outer s H vs Q E hr h => ?_)
  obtain ⟨a0, ns, rfl, hv, hz, kq⟩ := h
  refine ⟨_, (pss_cons (ps_set (i := 2) sc__law_cells.nd rfl (by first | exact Or.inl rfl | exact Or.inr rfl) (k_orT (K := K) (by rfl) (pe_callTy (k_lstO (K := K) (by rfl)) (by rfl) T.list bt_list (pa_cons (pe_slice (k_slL (K := K) (by rfl)) (pv 0) po_none (po_some (pv 1))) pa_nil)) (pe_one (pe_lst (pa_cons pe_int pa_nil)))))
    (pss_cons (ps_for PassesOwn.never (by rfl) (pi_enum (by rfl) T.enumerate (pa_cons (pe_slice (k_slL (K := K) (by rfl)) (pv 0) (po_some (pv 1)) (po_some pe_int)) pa_nil)) (k_gtup (K := K) (by rfl) (by rfl) (pgs_cons (pg_name (i := 3) sc__law_cells.nd rfl (by first | exact Or.inl rfl | exact Or.inr rfl)) (pgs_cons (pg_name (i := 4) sc__law_cells.nd rfl (by first | exact Or.inl rfl | exact Or.inr rfl)) pgs_nil)))
    (pss_cons (ps_set (i := 5) sc__law_cells.nd rfl (by first | exact Or.inl rfl | exact Or.inr rfl) (pe_op op_mod (pe_callTy cr_int (by rfl) T.int bt_int (pa_cons (pv 3) pa_nil)) (pv 1)))
    (pss_one (ps_asg (pe_op op_add (pe_ix (k_ixL (K := K) (by rfl)) (pv 2) (pv 5) (fun _ _ => rfl)) (pe_op op_mul (pv 4) (pe_op op_add (pv 3) pe_int))) (pg_sub (pv 2) (pv 5) set_list)))))
    (pss_one (ps_ret (pv 2))))), ?_⟩
  have hsl1 : EvN (dL dI) (tSl (rSlL K) (tVar 0) tNoPart (tPart (tVar 1))) [some (.ref a0), some (.int 3), none, none, none, none] H (ns.take 3) := (en_slS (K := K) (ev_ref (i := 0) (v := .ref a0) rfl) hv eo_none (eo_some (ev_var (r := dI) (i := 1) rfl rfl))).to (by
    show (ns.drop 0).take (min 3 ns.length - 0) = ns.take 3
    rw [List.drop_zero, Nat.sub_zero, ← List.take_take, List.take_length])
  refine sq (s_asgN (i := 2) (en_orL (en_listL hsl1.ev) (en_lst (r := dI) (as := [0]) (ea_cons ev_int ea_nil) (by simp))) fun p H1 hp e1 hl => ?_)
  have hms : (if ns.take 3 = [] then [0] else ns.take 3) ≠ [] ∧ (if ns.take 3 = [] then [0] else ns.take 3).length ≤ 3 ∧ (3 < ns.length → (if ns.take 3 = [] then [0] else ns.take 3).length = 3) := by
    by_cases h : ns.take 3 = []
    · rw [if_pos h]
      refine ⟨by simp, by simp, fun h3 => ?_⟩
      have := congrArg List.length h
      rw [List.length_take] at this
      simp only [List.length_nil] at this
      omega
    · rw [if_neg h]
      refine ⟨h, by rw [List.length_take]; omega, fun h3 => by rw [List.length_take]; omega⟩
  generalize (if ns.take 3 = [] then [0] else ns.take 3) = ms0 at hl hms
  have hl0 := getLI hl
  have hsl2 : EvN (dL dI) (tSl (rSlL K) (tVar 0) (tPart (tVar 1)) (tPart (tC (.int 63)))) [some (.ref a0), some (.int 3), some (.ref p), none, none, none] H1 (ns.drop 3) := (en_slS (K := K) (ev_ref (i := 0) (v := .ref a0) rfl) (Same.seq e1 hv) (eo_some (ev_var (r := dI) (i := 1) rfl rfl)) (eo_some ev_int)).to (by
    show (ns.drop (min 3 ns.length)).take (min 63 ns.length - min 3 ns.length) = ns.drop 3
    by_cases h : ns.length ≤ 3
    · rw [List.drop_of_length_le (by omega), List.drop_of_length_le (by omega)]; simp
    · rw [show min 3 ns.length = 3 by omega, List.take_of_length_le]
      rw [List.length_drop]; omega)
  refine sq (s_forEnumLI hsl2 (P := fun q H2 i σ' H' => ∃ (x3 x4 x5 : Option V) (ms : List Int), σ' = [some (.ref a0), some (.int 3), some (.ref p), x3, x4, x5] ∧ H' p = some (.lst (ms.map V.int)) ∧ ms.length = ms0.length ∧ q ≠ p ∧ H' q = some (.lst ((ns.drop 3).map V.int)) ∧ Ex H H') ?_ ?_ ?_ ?_)
  · rintro q H2 i σ' H' ⟨_, _, _, _, _, _, _, _, h, _⟩
    exact h
  · intro q H2 hq h2 e2
    exact ⟨_, _, _, ms0, rfl, e2 p _ hl0, rfl, ne_of_none hl0 hq |>.symm, h2, ext e1 e2⟩
  · rintro q H2 i a x σ' H3 H4 hq e2 hi ⟨x3, x4, x5, ms, rfl, h3, hlen, hqp, hq3, eH⟩ e34 hx
    have hil := lt_of_get hi
    rw [List.length_drop] at hil
    have hm3 : ms.length = 3 := by rw [hlen, hms.2.2 (by omega)]
    refine g_pair hx fun xa xb hxa hxb => ?_
    cases hxa
    cases hxb
    have d0 := Int.emod_nonneg (i : Int) (by decide : (3 : Int) ≠ 0)
    have d1 := Int.emod_lt_of_pos (i : Int) (by decide : (0 : Int) < 3)
    refine sq (s_asg (i := 5) (ev_I (C := fun _ j => 0 < j) (g := fun i j => i % j) (ev_int1 (ev_var (a := (i : Int)) rfl rfl)) (ev_var (a := 3) rfl rfl) (by decide)) fun v5 H5 e5 hv5 => ?_)
    cases hv5
    have hat : ∃ y, atI ms ((i : Int) % 3) = some y := by
      have hd : ((i : Int) % 3).toNat < ms.length := by omega
      have h3 := atI_nat (xs := ms) (j := ((i : Int) % 3).toNat) (List.getElem?_eq_getElem hd)
      rw [show ((((i : Int) % 3).toNat : Nat) : Int) = (i : Int) % 3 by omega] at h3
      exact ⟨_, h3⟩
    obtain ⟨y, hy⟩ := hat
    have e35 := ext e34 e5
    refine s_setLI (e35 p _ h3) (ev_I0 (g := fun i j => i + j) (ev_ixL (r := dI) (ev_var rfl (isLI (e35 p _ h3))) (ev_var rfl rfl) hy) (ev_I (C := CMul) (g := fun i j => i * j) (ev_var (a := a) rfl rfl) (ev_I0 (g := fun i j => i + j) (ev_var (a := (i : Int)) rfl rfl) ev_int) (.inr (by omega)))) (ev_ref rfl) (ev_var (a := (i : Int) % 3) rfl rfl) (ixN_in d0 (by omega)) fun H6 e6 => ?_
    exact ⟨_, _, _, _, rfl, upd_same, by rw [List.length_set, hlen], hqp, by rw [upd_ne hqp]; exact e6 q _ (e35 q _ hq3), exm (ext eH (ext e35 e6)) hp⟩
  · rintro q H2 σ' H3 e2 ⟨x3, x4, x5, ms, rfl, h3, hlen, hqp, hq3, eH⟩
    refine s_ret (ev_ref rfl) fun x H4 e4 hx => ?_
    cases hx
    exact kq p H4 ms hp (ext eH e4) (e4 p _ h3) (fun z => hms.1 (List.length_eq_zero_iff.mp (by rw [← hlen, z]; rfl))) (by omega)
theorem ok_law {f : Addr} {fd : FuncData} (F : Fun K "law" "law" st_law f fd) (T : Nb mg) (c__law_cells : Cal P w K mg base 1 "_law_cells" (spCells K)) (c__law_box : Cal P w K mg base 1 "_law_box" spBox) (c__law_by_hand_right : Cal P w K mg base 14 "_law_by_hand_right" spHand) (c__law_right : Cal P w K mg base 14 "_law_right" spRight) :
    FnOk P w K mg base CX0 15 f fd P_law (spLaw K) := by
  refine F.ok sc_law (fun vs H Q E h => by obtain ⟨a, ns, rfl, _⟩ := h; rfl) (fun cdv A outer s H vs Q E hr h => ?_)
  obtain ⟨a, ns, rfl, hS, hz, kq⟩ := h
  refine ⟨_, (pss_cons (ps_set (i := 1) sc_law.nd rfl (by first | exact Or.inl rfl | exact Or.inr rfl) (pe_cal c__law_cells (hr.mono (by first | decide | omega)) (by rfl) (pa_cons (pv 0) (pa_cons pe_int pa_nil))))
    (pss_cons (ps_for PassesOwn.never (by rfl) (pi_range1 (by rfl) T.range (pa_cons (pe_callB (k_len (K := K) (by rfl)) (by rfl) T.len bt_len (pa_cons (pv 1) pa_nil)) pa_nil)) (pg_name (i := 2) sc_law.nd rfl (by first | exact Or.inl rfl | exact Or.inr rfl))
    (pss_cons (ps_set (i := 3) sc_law.nd rfl (by first | exact Or.inl rfl | exact Or.inr rfl) (pe_cal c__law_box (hr.mono (by first | decide | omega)) (by rfl) (pa_cons (pv 1) (pa_cons (pv 2) pa_nil))))
    (pss_one (ps_if (PW.pt (pw_or (pt_not (pt_val (pe_cal0 c__law_by_hand_right (hr.mono (by first | decide | omega)) (by rfl)))) (pw_or1 (pt_not (pt_val (pe_callB (k_all (K := K) (by rfl) (by rfl)) (by rfl) T.all bt_all (pa_cons (pe_lc (own := [("_law_turn", 4)]) (g := (gName 4)) (tt := tYes) (by rfl) sc_law.nd (pi_range1 (by rfl) T.range (pa_cons pe_int pa_nil)) (blkOk_by (own := [("_law_turn", 4)]) (N := N_law) (sc := defScope st_law) (by decide +kernel)) (fun _ _ _ _ _ => (pg_name (i := 4) sc_law.nd rfl (by first | exact Or.inl rfl | exact Or.inr rfl))) (fun _ _ _ _ _ => pts_nil) (fun _ _ _ _ _ => (pe_cal c__law_right (hr.mono (by first | decide | omega)) (by rfl) (pa_cons (pv 3) pa_nil)))) pa_nil))))))) (pss_one (ps_ret pe_bl)) pss_nil))))
    (pss_one (ps_ret pe_bl)))), ?_⟩
  refine sq ?_
  refine ⟨.ref a, rfl, a, ns, rfl, hS, hz, fun pc H1 ms hpc e1 hms hne hml => ?_⟩
  refine gn ?_
  dsimp only
  refine sq (s_forRg (ev_lenL (r := dI) (ev_var rfl (isLI hms))) (by omega) (by omega) (P := fun H5 i σ' H' => ∃ x2 x3, σ' = [some (.ref a), some (.ref pc), x2, x3, none] ∧ H' pc = some (.lst (ms.map V.int))) ?_ ?_ ?_)
  · intro H2 e2
    exact ⟨_, _, rfl, e2 pc _ hms⟩
  · rintro H2 i σ' H3 e2 hi ⟨x2, x3, rfl, hl⟩
    refine gn ?_
    refine sq ?_
    refine ⟨.ref pc, rfl, .int (i : Int), rfl, .ref pc, ms, (i : Int), rfl, isLI hl, ⟨by omega, by omega⟩, by omega, fun p H4 hp e4 hb => ?_⟩
    have hpp : pc ≠ p := fun z => by rw [← z, hl] at hp; cases hp
    refine gn ?_
    dsimp only
    have hl4 := e4 pc _ hl
    refine ⟨rfl, fun x H5 e5 hx => ⟨true, hx, ?_⟩⟩
    refine iteF ?_
    refine et_nall (lc_right (σ := [some (.ref a), some (.ref pc), some (.int (i : Int)), some (.ref p), none]) (hb.ex e5) (fun v => rfl) (fun v => rfl) fun l H6 bs hlf e6 h6 hall => ?_)
    refine ⟨l, bs, rfl, SqL.of h6, true, ?_, ?_⟩
    · have : bs.all id = true := List.all_eq_true.mpr fun c hc => hall c hc
      rw [this]
    · refine iteF ?_
      refine snx ?_
      exact ⟨_, _, rfl, e6 pc _ hpp (e5 pc _ hl4)⟩
  · rintro H2 σ' H3 e2 ⟨x2, x3, rfl, hl⟩
    show tRet (tC (.bl true)) { nx := fun _ H' => Q .non H', rt := Q } [some (.ref a), some (.ref pc), x2, x3, none] H3
    exact kq H3
end
end Cu
set_option maxRecDepth 100000
set_option maxHeartbeats 4000000
/-! Cu, walk 22: all defs together, the head's facts. -/
namespace Cu
open PySem PySem.Spec PyProof.Rows L2
def kOf {K : PySem.W.Frag} {h : Heap} (_ : K.In h) : PySem.W.Frag := K
theorem df_mk {K : PySem.W.Frag} {h : Heap} {mg : Str → Option Value} {x : Str} {st : Stmt} {ps : List Str} {f : Addr} {oc : Value} {od an : Option Addr} {osl : Array (Option Value)} {kV doc pm cdv ct : Value} (X : K.In h) (G : h.Ns mainGlobals mg)
    (a : PySem.W.nsIn K mainGlobals x = some (some (.ref f))) (l : K.lookup f = some ⟨oc, od, .func (PySem.W.fnOf x x (defArgs st) (defBody st) (defScope st) .none kV doc pm an cdv ct), osl⟩) (c : PySem.W.codeIn K cdv x = true) (k : PySem.W.keepIn K (.ref f) = true)
    (hb : ∀ (kV doc pm : Value) (an : Option Addr) (cdv ct : Value) (us : List Value), us.length = ps.length → bindArgs (PySem.W.fnOf x x (defArgs st) (defBody st) (defScope st) .none kV doc pm an cdv ct) ⟨us, []⟩ = pure (ps.zip us)) : Df (kOf X) mg x st ps :=
  ⟨f, _, fun_mk l c k, PySem.W.mg_of X G a, (fun_mk l c k).binds hb⟩
section
variable {P : Program} {w : World} {K : PySem.W.Frag} {mg : Str → Option Value} {base : Heap}
theorem all_law {f : Addr} {fd : FuncData} (F : Fun K "law" "law" st_law f fd) (T : Nb mg) {C fN cc cda : Addr} {fdN : FuncData} (TN : Nw P K C fN cc cda fdN) (hsup : mg "super" = none) (bN : Binds K fdN ["self"] []) (mgN : mg "NoWay" = some (.ref C)) (EC : ExcC K C) (hx : PySem.W.exmOne K (.ref C) (.ref C) = some true) (hL : PySem.W.kitOne K (.ref C) (.type "LookupError") = some true)
    (F_tupled : Df K mg "tupled" st_tupled P_tupled) (F_records : Df K mg "records" st_records P_records) (F_is_lone : Df K mg "is_lone" st_is_lone P_is_lone) (F_joined_blocks : Df K mg "joined_blocks" st_joined_blocks P_joined_blocks) (F_filling : Df K mg "filling" st_filling P_filling) (F_alike : Df K mg "alike" st_alike P_alike) (F_blocks_of : Df K mg "blocks_of" st_blocks_of P_blocks_of) (F_holds : Df K mg "holds" st_holds P_holds) (F_next_below : Df K mg "next_below" st_next_below P_next_below) (F_few_limits : Df K mg "few_limits" st_few_limits P_few_limits) (F_fewest : Df K mg "fewest" st_fewest P_fewest) (F_block_reasons : Df K mg "block_reasons" st_block_reasons P_block_reasons) (F_reasons : Df K mg "reasons" st_reasons P_reasons) (F_idle : Df K mg "idle" st_idle P_idle) (F_follows : Df K mg "follows" st_follows P_follows) (F_shorter : Df K mg "shorter" st_shorter P_shorter) (F_kept : Df K mg "kept" st_kept P_kept) (F_ways_up : Df K mg "ways_up" st_ways_up P_ways_up) (F_cheapest : Df K mg "cheapest" st_cheapest P_cheapest) (F_excess : Df K mg "excess" st_excess P_excess) (F_bound : Df K mg "bound" st_bound P_bound) (F_best_marks : Df K mg "best_marks" st_best_marks P_best_marks) (F__law_box : Df K mg "_law_box" st__law_box P__law_box) (F__law_take : Df K mg "_law_take" st__law_take P__law_take) (F__law_cells : Df K mg "_law_cells" st__law_cells P__law_cells) (F__law_of : Df K mg "_law_of" st__law_of P__law_of) (F__law_same : Df K mg "_law_same" st__law_same P__law_same) (F__law_tops : Df K mg "_law_tops" st__law_tops P__law_tops) (F__law_blocks : Df K mg "_law_blocks" st__law_blocks P__law_blocks) (F__law_rising : Df K mg "_law_rising" st__law_rising P__law_rising) (F__law_deals : Df K mg "_law_deals" st__law_deals P__law_deals) (F__law_heard : Df K mg "_law_heard" st__law_heard P__law_heard) (F__law_short : Df K mg "_law_short" st__law_short P__law_short) (F__law_counts : Df K mg "_law_counts" st__law_counts P__law_counts) (F__law_price : Df K mg "_law_price" st__law_price P__law_price) (F__law_more : Df K mg "_law_more" st__law_more P__law_more) (F__law_times_right : Df K mg "_law_times_right" st__law_times_right P__law_times_right) (F__law_longer_right : Df K mg "_law_longer_right" st__law_longer_right P__law_longer_right) (F__law_beside_right : Df K mg "_law_beside_right" st__law_beside_right P__law_beside_right) (F__law_by_hand_right : Df K mg "_law_by_hand_right" st__law_by_hand_right P__law_by_hand_right) (F__law_right : Df K mg "_law_right" st__law_right P__law_right) : FnOk P w K mg base CX0 15 f fd P_law (spLaw K) := by
  have c_records := ok_records (P := P) (w := w) (base := base) F_records T
  have c_is_lone := ok_is_lone (P := P) (w := w) (base := base) F_is_lone T
  have c_joined_blocks := ok_joined_blocks (P := P) (w := w) (base := base) F_joined_blocks T
  have c_filling := ok_filling (P := P) (w := w) (base := base) F_filling T c_records c_is_lone c_joined_blocks
  have c_alike := ok_alike (P := P) (w := w) (base := base) F_alike T c_filling
  have c_tupled := ok_tupled2 (P := P) (w := w) (base := base) F_tupled T
  have c_blocks_of := ok_blocks_of (P := P) (w := w) (base := base) F_blocks_of T c_tupled
  have c_holds := ok_holds (P := P) (w := w) (base := base) F_holds T c_blocks_of
  have c_next_below := ok_next_below (P := P) (w := w) (base := base) F_next_below T c_blocks_of
  have c_few_limits := ok_few_limits (P := P) (w := w) (base := base) F_few_limits T
  have c_fewest := ok_fewest (P := P) (w := w) (base := base) F_fewest T c_filling c_few_limits
  have c_block_reasons := ok_block_reasons (P := P) (w := w) (base := base) F_block_reasons T
  have c_reasons := ok_reasons (P := P) (w := w) (base := base) F_reasons T c_filling c_block_reasons
  have c_idle := ok_idle (P := P) (w := w) (base := base) F_idle T c_alike
  have c_follows := ok_follows (P := P) (w := w) (base := base) F_follows T c_next_below
  have c_shorter := ok_shorter (P := P) (w := w) (base := base) F_shorter T
  have c_kept := ok_kept (P := P) (w := w) (base := base) F_kept T c_filling c_follows c_shorter c_holds
  have c_ways_up := ok_ways_up (P := P) (w := w) (base := base) F_ways_up T
  have c_cheapest := ok_cheapest (P := P) (w := w) (base := base) F_cheapest T TN hsup bN mgN c_tupled c_filling c_ways_up
  have c_excess := ok_excess (P := P) (w := w) (base := base) F_excess T
  have c_bound := ok_bound (P := P) (w := w) (base := base) F_bound T c_cheapest c_tupled c_filling c_excess
  have c_best_marks := ok_best_marks (P := P) (w := w) (base := base) F_best_marks T c_cheapest c_tupled c_filling c_ways_up
  have c__law_heard := ok_law_heard (P := P) (w := w) (base := base) F__law_heard T mgN EC hx hL c_cheapest
  have c__law_take := ok_law_take (P := P) (w := w) (base := base) F__law_take T
  have c__law_of := ok_law_of (P := P) (w := w) (base := base) F__law_of T c__law_take
  have c__law_box := ok_law_box (P := P) (w := w) (base := base) F__law_box T
  have c__law_cells := ok_law_cellsS (P := P) (w := w) (base := base) F__law_cells T
  have c__law_tops := ok_law_tops (P := P) (w := w) (base := base) F__law_tops T
  have c__law_blocks := ok_law_blocks (P := P) (w := w) (base := base) F__law_blocks T c__law_tops
  have c__law_rising := ok_law_rising (P := P) (w := w) (base := base) F__law_rising T c__law_take c__law_of
  have c__law_short := ok_law_short (P := P) (w := w) (base := base) F__law_short T c__law_take c__law_rising
  have c__law_deals := ok_law_deals (P := P) (w := w) (base := base) F__law_deals T c__law_take c__law_of c__law_blocks
  have c_same0 := ok_same0 (P := P) (w := w) (base := base) F__law_same T
  have c_same1 := ok_sameS (P := P) (w := w) (base := base) F__law_same T c_same0
  have c_same2 := ok_sameS (P := P) (w := w) (base := base) F__law_same T c_same1
  have c_same3 := ok_sameS (P := P) (w := w) (base := base) F__law_same T c_same2
  have c__law_counts := ok_law_counts (P := P) (w := w) (base := base) F__law_counts T c_fewest c_reasons c_kept c_idle
  have c__law_more := ok_law_more (P := P) (w := w) (base := base) F__law_more T
  have c__law_price := ok_law_price (P := P) (w := w) (base := base) F__law_price T c__law_heard c_bound c_best_marks
  have c__law_times_right := ok_law_times_right (P := P) (w := w) (base := base) F__law_times_right T c_same2 c__law_counts c__law_price c__law_more
  have c__law_longer_right := ok_law_longer_right (P := P) (w := w) (base := base) F__law_longer_right T c_idle c_fewest c_reasons c__law_price
  have c__law_beside_right := ok_law_beside_right (P := P) (w := w) (base := base) F__law_beside_right T c_same2 c__law_counts c__law_price c__law_more
  have c__law_by_hand_right := ok_law_by_hand_right (P := P) (w := w) (base := base) F__law_by_hand_right T c_same3 c__law_counts c__law_price c__law_times_right c__law_longer_right c__law_beside_right
  have c__law_right := ok_law_right (P := P) (w := w) (base := base) F__law_right T c__law_take c__law_of c__law_short c__law_deals c__law_blocks c__law_times_right c__law_longer_right c__law_beside_right
  exact ok_law F T c__law_cells c__law_box c__law_by_hand_right c__law_right
end
theorem walk {l : PySem.W.OpenLaw} {q : Program} {loose : List Str} {XP : (Str → Option Value) → Heap → Prop} {YP : World → Heap → Prop} {d : DefRec} {K : Params → PySem.W.Frag} (hn : l.most = some 63) (hdf : d.params.defaults = [])
    (hY : ∀ (w : World) (h : Heap), YP w h → (K w.params).In h)
    (F : ∀ (w : World) (mg : Str → Option Value) (fa : Addr) (h : Heap), (K w.params).In h → h.Ns mainGlobals mg → mg d.name = some (.ref fa) →
      ∃ fd : FuncData, (∀ (s : Shared) (u : Value), BindsTo s fd ⟨[u], []⟩ [("_law_script", u)]) ∧ ∀ base : Heap, (K w.params).In base → base.Ns mainGlobals mg → FnOk l.prog w (K w.params) mg base CX0 15 fa fd ["_law_script"] (spLaw (K w.params))) :
    PySem.W.WalkO q loose XP YP l.row.toRowW d [] (fun f vs => PySem.call f vs) :=
  L2.walk_of (n := 63) (k := 15) (x := "_law_script") (CX := fun _ => CX0) (sp := fun w => spLaw (K w.params)) hn (by decide) hdf ⟨rfl, by decide, by decide⟩ hY F (fun _ _ a ns hl _ hS => ⟨a, ns, rfl, hS, hl, fun _ => rfl⟩) fun _ _ _ _ _ z => z
theorem nw_mk {P : Program} {K : PySem.W.Frag} {C f cc cda : Addr} {oc dV kV doc pm ct cl ccl : Value} {od an cld cdd : Option Addr} {osl csl ccs : Array (Option Value)} {vs : Array Value} {file : Str} {tf : Tok}
    (q : PySem.W.excInitIn K C leTail "LookupError.__new__" = true) (init : PySem.W.findIn K (.ref C) "__init__" = some (some (.ref f))) (fn : PySem.W.typeIn K (.ref f) = some (.type "function")) (cls : PySem.W.isClsIn K C = true)
    (sup : PySem.W.ks_superIn K C C "__init__" = some (some (.builtin "LookupError.__init__"))) (subL : PySem.W.subIn K (.ref C) (.type "LookupError") = some true) (third : PySem.W.nsIn K cStatics "thirdparty.any" = some none) (self : PySem.W.mroIn K C (.ref C) = some true)
    (lk : K.lookup f = some ⟨oc, od, .func (PySem.W.ksFn "__init__" "NoWay.__init__" (defArgs stInit) (defBody stInit) (defScope stInit) dV kV doc pm an (.ref cda) ct cc), osl⟩) (hcd : PySem.W.codeIn K (.ref cda) "NoWay.__init__" = true)
    (cell : K.lookup cc = some ⟨cl, cld, .cell (some (.ref C)), csl⟩) (code : K.lookup cda = some ⟨ccl, cdd, .fields vs, ccs⟩) (file1 : vs[2]? = some (.str file tf)) (file2 : ((P.main.file : Str) == file) = true)
    (top : (P.main.scope.names.lookup ("super" : Str)).isSome = false) (exC : PySem.W.subIn K (.ref C) (.type "BaseException") = some true) (tyC : PySem.W.typeIn K (.ref C) = some (.type "type")) (kC : PySem.W.keepIn K (.ref C) = true) :
    Nw P K C f cc cda (PySem.W.ksFn "__init__" "NoWay.__init__" (defArgs stInit) (defBody stInit) (defScope stInit) dV kV doc pm an (.ref cda) ct cc) :=
  { q := q, init := init, fn := fn, cls := Option.isSome_iff_exists.mp cls, sup := sup, subL := subL, third := third, self := self, cell := ⟨_, _, _, cell⟩, code := ⟨_, _, _, _, _, _, code, file1, file2⟩,
    lk := ⟨_, _, _, _, _, _, _, _, _, rfl, lk, hcd⟩, top := top, exC := exC, tyC := tyC, kC := kC }
theorem fin {P : Program} {w : World} {K : PySem.W.Frag} {h : Heap} {mg : Str → Option Value} {fa f4 C f cc cda : Addr} (X : K.In h) (G : h.Ns mainGlobals mg) (hfa : mg "law" = some (.ref fa)) (T : Nb mg) (hsup : mg "super" = none)
    (F_tupled : Df K mg "tupled" st_tupled P_tupled) (F_records : Df K mg "records" st_records P_records) (F_is_lone : Df K mg "is_lone" st_is_lone P_is_lone) (F_joined_blocks : Df K mg "joined_blocks" st_joined_blocks P_joined_blocks) (F_filling : Df K mg "filling" st_filling P_filling) (F_alike : Df K mg "alike" st_alike P_alike) (F_blocks_of : Df K mg "blocks_of" st_blocks_of P_blocks_of) (F_holds : Df K mg "holds" st_holds P_holds) (F_next_below : Df K mg "next_below" st_next_below P_next_below) (F_few_limits : Df K mg "few_limits" st_few_limits P_few_limits) (F_fewest : Df K mg "fewest" st_fewest P_fewest) (F_block_reasons : Df K mg "block_reasons" st_block_reasons P_block_reasons) (F_reasons : Df K mg "reasons" st_reasons P_reasons) (F_idle : Df K mg "idle" st_idle P_idle) (F_follows : Df K mg "follows" st_follows P_follows) (F_shorter : Df K mg "shorter" st_shorter P_shorter) (F_kept : Df K mg "kept" st_kept P_kept) (F_ways_up : Df K mg "ways_up" st_ways_up P_ways_up) (F_cheapest : Df K mg "cheapest" st_cheapest P_cheapest) (F_excess : Df K mg "excess" st_excess P_excess) (F_bound : Df K mg "bound" st_bound P_bound) (F_best_marks : Df K mg "best_marks" st_best_marks P_best_marks) (F__law_box : Df K mg "_law_box" st__law_box P__law_box) (F__law_take : Df K mg "_law_take" st__law_take P__law_take) (F__law_cells : Df K mg "_law_cells" st__law_cells P__law_cells) (F__law_of : Df K mg "_law_of" st__law_of P__law_of) (F__law_same : Df K mg "_law_same" st__law_same P__law_same) (F__law_tops : Df K mg "_law_tops" st__law_tops P__law_tops) (F__law_blocks : Df K mg "_law_blocks" st__law_blocks P__law_blocks) (F__law_rising : Df K mg "_law_rising" st__law_rising P__law_rising) (F__law_deals : Df K mg "_law_deals" st__law_deals P__law_deals) (F__law_heard : Df K mg "_law_heard" st__law_heard P__law_heard) (F__law_short : Df K mg "_law_short" st__law_short P__law_short) (F__law_counts : Df K mg "_law_counts" st__law_counts P__law_counts) (F__law_price : Df K mg "_law_price" st__law_price P__law_price) (F__law_more : Df K mg "_law_more" st__law_more P__law_more) (F__law_times_right : Df K mg "_law_times_right" st__law_times_right P__law_times_right) (F__law_longer_right : Df K mg "_law_longer_right" st__law_longer_right P__law_longer_right) (F__law_beside_right : Df K mg "_law_beside_right" st__law_beside_right P__law_beside_right) (F__law_by_hand_right : Df K mg "_law_by_hand_right" st__law_by_hand_right P__law_by_hand_right) (F__law_right : Df K mg "_law_right" st__law_right P__law_right)
    {oc4 kV4 dc4 pm4 cd4 ct4 oc kV doc pm ct cl ccl : Value} {od4 an4 od an cld cdd : Option Addr} {sl4 osl csl ccs : Array (Option Value)} {vs : Array Value} {file : Str} {tf : Tok}
    (a4 : PySem.W.nsIn K mainGlobals "law" = some (some (.ref f4))) (l4 : K.lookup f4 = some ⟨oc4, od4, .func (PySem.W.fnOf "law" "law" (defArgs st_law) (defBody st_law) (defScope st_law) .none kV4 dc4 pm4 an4 cd4 ct4), sl4⟩) (c4 : PySem.W.codeIn K cd4 "law" = true) (k4 : PySem.W.keepIn K (.ref f4) = true)
    (aC : PySem.W.nsIn K mainGlobals "NoWay" = some (some (.ref C)))
    (q : PySem.W.excInitIn K C leTail "LookupError.__new__" = true) (init : PySem.W.findIn K (.ref C) "__init__" = some (some (.ref f))) (fn : PySem.W.typeIn K (.ref f) = some (.type "function")) (cls : PySem.W.isClsIn K C = true)
    (sup : PySem.W.ks_superIn K C C "__init__" = some (some (.builtin "LookupError.__init__"))) (subL : PySem.W.subIn K (.ref C) (.type "LookupError") = some true) (third : PySem.W.nsIn K cStatics "thirdparty.any" = some none) (self : PySem.W.mroIn K C (.ref C) = some true)
    (lk : K.lookup f = some ⟨oc, od, .func (PySem.W.ksFn "__init__" "NoWay.__init__" (defArgs stInit) (defBody stInit) (defScope stInit) .none kV doc pm an (.ref cda) ct cc), osl⟩) (hcd : PySem.W.codeIn K (.ref cda) "NoWay.__init__" = true)
    (cell : K.lookup cc = some ⟨cl, cld, .cell (some (.ref C)), csl⟩) (code : K.lookup cda = some ⟨ccl, cdd, .fields vs, ccs⟩) (file1 : vs[2]? = some (.str file tf)) (file2 : ((P.main.file : Str) == file) = true)
    (tp : (P.main.scope.names.lookup ("super" : Str)).isSome = false) (exC : PySem.W.subIn K (.ref C) (.type "BaseException") = some true) (tyC : PySem.W.typeIn K (.ref C) = some (.type "type")) (kC : PySem.W.keepIn K (.ref C) = true)
    (hg : PySem.W.findIn K (.ref C) "__getattribute__" = some (some (.builtin "BaseException.__getattribute__"))) (hk : PySem.W.findIn K (.ref C) "__getattr__" = some none) (hd : PySem.W.hasDictIn K C = true) (ha : PySem.W.findIn K (.ref C) "__class__" = some (some (.builtin "object.__class__")))
    (hn : PySem.W.specialIn K (.builtin "object.__class__") "__get__" = some (some (.builtin "getset_descriptor.__get__"))) (ht : PySem.W.takesIn K (.builtin "object.__class__") = some true) (hm : PySem.W.mroIn K C (.type "object") = some true)
    (hx : PySem.W.exmOne K (.ref C) (.ref C) = some true) (hL : PySem.W.kitOne K (.ref C) (.type "LookupError") = some true) :
    ∃ fd : FuncData, (∀ (s : Shared) (v : Value), BindsTo s fd ⟨[v], []⟩ [("_law_script", v)]) ∧ ∀ base : Heap, K.In base → base.Ns mainGlobals mg → FnOk P w K mg base CX0 15 fa fd ["_law_script"] (spLaw K) := by
  have e := hfa.symm.trans (PySem.W.mg_of X G a4)
  cases e
  have dVn := nw_mk (P := P) q init fn cls sup subL third self lk hcd cell code file1 file2 tp exC tyC kC
  have bN : Binds K (PySem.W.ksFn "__init__" "NoWay.__init__" (defArgs stInit) (defBody stInit) (defScope stInit) .none kV doc pm an (.ref cda) ct cc) ["self"] [] := .all fun us hl => match us, hl with | [_], _ => by first | rfl | with_unfolding_all rfl | kernel_rfl
  exact ⟨PySem.W.fnOf "law" "law" (defArgs st_law) (defBody st_law) (defScope st_law) .none kV4 dc4 pm4 an4 cd4 ct4, fun s v => .of_eq rfl, fun base _ _ =>
    all_law (fun_mk (st := st_law) l4 c4 k4) T dVn hsup bN (PySem.W.mg_of X G aC) ⟨hg, hk, exC, hd, ha, hn, ht, hm⟩ hx hL F_tupled F_records F_is_lone F_joined_blocks F_filling F_alike F_blocks_of F_holds F_next_below F_few_limits F_fewest F_block_reasons F_reasons F_idle F_follows F_shorter F_kept F_ways_up F_cheapest F_excess F_bound F_best_marks F__law_box F__law_take F__law_cells F__law_of F__law_same F__law_tops F__law_blocks F__law_rising F__law_deals F__law_heard F__law_short F__law_counts F__law_price F__law_more F__law_times_right F__law_longer_right F__law_beside_right F__law_by_hand_right F__law_right⟩
end Cu
open PySem PySem.W PyProof.Rows in
set_option maxRecDepth 100000 in
set_option maxHeartbeats 0 in
theorem PySem.Challenge.cw_cutsmaller_k79_whole_rows_beside_and_tim_holds : PySem.Challenge.rw_cutsmaller_k79_whole_rows_beside_and_tim.Holds := by
  w_on; o_law; k_head; (case hw => w_witness2)
  k_fill
  refine Cu.walk (l := PySem.Challenge.rw_cutsmaller_k79_whole_rows_beside_and_tim) rfl rfl (fun w h Y => PySem.W.kIn_of Y) ?F
  case F =>
    intro w mg fa h KX G hmg
    have F_tupled : Cu.Df (Cu.kOf KX) mg "tupled" Cu.st_tupled Cu.P_tupled := by
      refine' Cu.df_mk KX G ?a ?l ?c ?k (fun _ _ _ _ _ _ us hl => match us, hl with | [_], _ => rfl)
      (case a => k_is); (case l => k_is); (case c => k_is); (case k => k_is)
    have F_records : Cu.Df (Cu.kOf KX) mg "records" Cu.st_records Cu.P_records := by
      refine' Cu.df_mk KX G ?a ?l ?c ?k (fun _ _ _ _ _ _ us hl => match us, hl with | [_], _ => rfl)
      (case a => k_is); (case l => k_is); (case c => k_is); (case k => k_is)
    have F_is_lone : Cu.Df (Cu.kOf KX) mg "is_lone" Cu.st_is_lone Cu.P_is_lone := by
      refine' Cu.df_mk KX G ?a ?l ?c ?k (fun _ _ _ _ _ _ us hl => match us, hl with | [_, _], _ => rfl)
      (case a => k_is); (case l => k_is); (case c => k_is); (case k => k_is)
    have F_joined_blocks : Cu.Df (Cu.kOf KX) mg "joined_blocks" Cu.st_joined_blocks Cu.P_joined_blocks := by
      refine' Cu.df_mk KX G ?a ?l ?c ?k (fun _ _ _ _ _ _ us hl => match us, hl with | [_, _], _ => rfl)
      (case a => k_is); (case l => k_is); (case c => k_is); (case k => k_is)
    have F_filling : Cu.Df (Cu.kOf KX) mg "filling" Cu.st_filling Cu.P_filling := by
      refine' Cu.df_mk KX G ?a ?l ?c ?k (fun _ _ _ _ _ _ us hl => match us, hl with | [_, _], _ => rfl)
      (case a => k_is); (case l => k_is); (case c => k_is); (case k => k_is)
    have F_alike : Cu.Df (Cu.kOf KX) mg "alike" Cu.st_alike Cu.P_alike := by
      refine' Cu.df_mk KX G ?a ?l ?c ?k (fun _ _ _ _ _ _ us hl => match us, hl with | [_, _, _], _ => rfl)
      (case a => k_is); (case l => k_is); (case c => k_is); (case k => k_is)
    have F_blocks_of : Cu.Df (Cu.kOf KX) mg "blocks_of" Cu.st_blocks_of Cu.P_blocks_of := by
      refine' Cu.df_mk KX G ?a ?l ?c ?k (fun _ _ _ _ _ _ us hl => match us, hl with | [_], _ => rfl)
      (case a => k_is); (case l => k_is); (case c => k_is); (case k => k_is)
    have F_holds : Cu.Df (Cu.kOf KX) mg "holds" Cu.st_holds Cu.P_holds := by
      refine' Cu.df_mk KX G ?a ?l ?c ?k (fun _ _ _ _ _ _ us hl => match us, hl with | [_, _], _ => rfl)
      (case a => k_is); (case l => k_is); (case c => k_is); (case k => k_is)
    have F_next_below : Cu.Df (Cu.kOf KX) mg "next_below" Cu.st_next_below Cu.P_next_below := by
      refine' Cu.df_mk KX G ?a ?l ?c ?k (fun _ _ _ _ _ _ us hl => match us, hl with | [_, _], _ => rfl)
      (case a => k_is); (case l => k_is); (case c => k_is); (case k => k_is)
    have F_few_limits : Cu.Df (Cu.kOf KX) mg "few_limits" Cu.st_few_limits Cu.P_few_limits := by
      refine' Cu.df_mk KX G ?a ?l ?c ?k (fun _ _ _ _ _ _ us hl => match us, hl with | [_, _, _], _ => rfl)
      (case a => k_is); (case l => k_is); (case c => k_is); (case k => k_is)
    have F_fewest : Cu.Df (Cu.kOf KX) mg "fewest" Cu.st_fewest Cu.P_fewest := by
      refine' Cu.df_mk KX G ?a ?l ?c ?k (fun _ _ _ _ _ _ us hl => match us, hl with | [_, _], _ => rfl)
      (case a => k_is); (case l => k_is); (case c => k_is); (case k => k_is)
    have F_block_reasons : Cu.Df (Cu.kOf KX) mg "block_reasons" Cu.st_block_reasons Cu.P_block_reasons := by
      refine' Cu.df_mk KX G ?a ?l ?c ?k (fun _ _ _ _ _ _ us hl => match us, hl with | [_, _, _], _ => rfl)
      (case a => k_is); (case l => k_is); (case c => k_is); (case k => k_is)
    have F_reasons : Cu.Df (Cu.kOf KX) mg "reasons" Cu.st_reasons Cu.P_reasons := by
      refine' Cu.df_mk KX G ?a ?l ?c ?k (fun _ _ _ _ _ _ us hl => match us, hl with | [_, _], _ => rfl)
      (case a => k_is); (case l => k_is); (case c => k_is); (case k => k_is)
    have F_idle : Cu.Df (Cu.kOf KX) mg "idle" Cu.st_idle Cu.P_idle := by
      refine' Cu.df_mk KX G ?a ?l ?c ?k (fun _ _ _ _ _ _ us hl => match us, hl with | [_, _], _ => rfl)
      (case a => k_is); (case l => k_is); (case c => k_is); (case k => k_is)
    have F_follows : Cu.Df (Cu.kOf KX) mg "follows" Cu.st_follows Cu.P_follows := by
      refine' Cu.df_mk KX G ?a ?l ?c ?k (fun _ _ _ _ _ _ us hl => match us, hl with | [_, _, _, _], _ => rfl)
      (case a => k_is); (case l => k_is); (case c => k_is); (case k => k_is)
    have F_shorter : Cu.Df (Cu.kOf KX) mg "shorter" Cu.st_shorter Cu.P_shorter := by
      refine' Cu.df_mk KX G ?a ?l ?c ?k (fun _ _ _ _ _ _ us hl => match us, hl with | [_, _], _ => rfl)
      (case a => k_is); (case l => k_is); (case c => k_is); (case k => k_is)
    have F_kept : Cu.Df (Cu.kOf KX) mg "kept" Cu.st_kept Cu.P_kept := by
      refine' Cu.df_mk KX G ?a ?l ?c ?k (fun _ _ _ _ _ _ us hl => match us, hl with | [_, _], _ => rfl)
      (case a => k_is); (case l => k_is); (case c => k_is); (case k => k_is)
    have F_ways_up : Cu.Df (Cu.kOf KX) mg "ways_up" Cu.st_ways_up Cu.P_ways_up := by
      refine' Cu.df_mk KX G ?a ?l ?c ?k (fun _ _ _ _ _ _ us hl => match us, hl with | [_, _, _], _ => rfl)
      (case a => k_is); (case l => k_is); (case c => k_is); (case k => k_is)
    have F_cheapest : Cu.Df (Cu.kOf KX) mg "cheapest" Cu.st_cheapest Cu.P_cheapest := by
      refine' Cu.df_mk KX G ?a ?l ?c ?k (fun _ _ _ _ _ _ us hl => match us, hl with | [_, _, _], _ => rfl)
      (case a => k_is); (case l => k_is); (case c => k_is); (case k => k_is)
    have F_excess : Cu.Df (Cu.kOf KX) mg "excess" Cu.st_excess Cu.P_excess := by
      refine' Cu.df_mk KX G ?a ?l ?c ?k (fun _ _ _ _ _ _ us hl => match us, hl with | [_, _, _, _, _], _ => rfl)
      (case a => k_is); (case l => k_is); (case c => k_is); (case k => k_is)
    have F_bound : Cu.Df (Cu.kOf KX) mg "bound" Cu.st_bound Cu.P_bound := by
      refine' Cu.df_mk KX G ?a ?l ?c ?k (fun _ _ _ _ _ _ us hl => match us, hl with | [_, _, _, _], _ => rfl)
      (case a => k_is); (case l => k_is); (case c => k_is); (case k => k_is)
    have F_best_marks : Cu.Df (Cu.kOf KX) mg "best_marks" Cu.st_best_marks Cu.P_best_marks := by
      refine' Cu.df_mk KX G ?a ?l ?c ?k (fun _ _ _ _ _ _ us hl => match us, hl with | [_, _, _], _ => rfl)
      (case a => k_is); (case l => k_is); (case c => k_is); (case k => k_is)
    have F__law_box : Cu.Df (Cu.kOf KX) mg "_law_box" Cu.st__law_box Cu.P__law_box := by
      refine' Cu.df_mk KX G ?a ?l ?c ?k (fun _ _ _ _ _ _ us hl => match us, hl with | [_, _], _ => rfl)
      (case a => k_is); (case l => k_is); (case c => k_is); (case k => k_is)
    have F__law_take : Cu.Df (Cu.kOf KX) mg "_law_take" Cu.st__law_take Cu.P__law_take := by
      refine' Cu.df_mk KX G ?a ?l ?c ?k (fun _ _ _ _ _ _ us hl => match us, hl with | [_, _], _ => rfl)
      (case a => k_is); (case l => k_is); (case c => k_is); (case k => k_is)
    have F__law_cells : Cu.Df (Cu.kOf KX) mg "_law_cells" Cu.st__law_cells Cu.P__law_cells := by
      refine' Cu.df_mk KX G ?a ?l ?c ?k (fun _ _ _ _ _ _ us hl => match us, hl with | [_, _], _ => rfl)
      (case a => k_is); (case l => k_is); (case c => k_is); (case k => k_is)
    have F__law_of : Cu.Df (Cu.kOf KX) mg "_law_of" Cu.st__law_of Cu.P__law_of := by
      refine' Cu.df_mk KX G ?a ?l ?c ?k (fun _ _ _ _ _ _ us hl => match us, hl with | [_, _], _ => rfl)
      (case a => k_is); (case l => k_is); (case c => k_is); (case k => k_is)
    have F__law_same : Cu.Df (Cu.kOf KX) mg "_law_same" Cu.st__law_same Cu.P__law_same := by
      refine' Cu.df_mk KX G ?a ?l ?c ?k (fun _ _ _ _ _ _ us hl => match us, hl with | [_, _], _ => rfl)
      (case a => k_is); (case l => k_is); (case c => k_is); (case k => k_is)
    have F__law_tops : Cu.Df (Cu.kOf KX) mg "_law_tops" Cu.st__law_tops Cu.P__law_tops := by
      refine' Cu.df_mk KX G ?a ?l ?c ?k (fun _ _ _ _ _ _ us hl => match us, hl with | [_], _ => rfl)
      (case a => k_is); (case l => k_is); (case c => k_is); (case k => k_is)
    have F__law_blocks : Cu.Df (Cu.kOf KX) mg "_law_blocks" Cu.st__law_blocks Cu.P__law_blocks := by
      refine' Cu.df_mk KX G ?a ?l ?c ?k (fun _ _ _ _ _ _ us hl => match us, hl with | [_, _], _ => rfl)
      (case a => k_is); (case l => k_is); (case c => k_is); (case k => k_is)
    have F__law_rising : Cu.Df (Cu.kOf KX) mg "_law_rising" Cu.st__law_rising Cu.P__law_rising := by
      refine' Cu.df_mk KX G ?a ?l ?c ?k (fun _ _ _ _ _ _ us hl => match us, hl with | [_, _, _], _ => rfl)
      (case a => k_is); (case l => k_is); (case c => k_is); (case k => k_is)
    have F__law_deals : Cu.Df (Cu.kOf KX) mg "_law_deals" Cu.st__law_deals Cu.P__law_deals := by
      refine' Cu.df_mk KX G ?a ?l ?c ?k (fun _ _ _ _ _ _ us hl => match us, hl with | [_, _, _, _], _ => rfl)
      (case a => k_is); (case l => k_is); (case c => k_is); (case k => k_is)
    have F__law_heard : Cu.Df (Cu.kOf KX) mg "_law_heard" Cu.st__law_heard Cu.P__law_heard := by
      refine' Cu.df_mk KX G ?a ?l ?c ?k (fun _ _ _ _ _ _ us hl => match us, hl with | [_, _, _], _ => rfl)
      (case a => k_is); (case l => k_is); (case c => k_is); (case k => k_is)
    have F__law_short : Cu.Df (Cu.kOf KX) mg "_law_short" Cu.st__law_short Cu.P__law_short := by
      refine' Cu.df_mk KX G ?a ?l ?c ?k (fun _ _ _ _ _ _ us hl => match us, hl with | [_, _], _ => rfl)
      (case a => k_is); (case l => k_is); (case c => k_is); (case k => k_is)
    have F__law_counts : Cu.Df (Cu.kOf KX) mg "_law_counts" Cu.st__law_counts Cu.P__law_counts := by
      refine' Cu.df_mk KX G ?a ?l ?c ?k (fun _ _ _ _ _ _ us hl => match us, hl with | [_, _], _ => rfl)
      (case a => k_is); (case l => k_is); (case c => k_is); (case k => k_is)
    have F__law_price : Cu.Df (Cu.kOf KX) mg "_law_price" Cu.st__law_price Cu.P__law_price := by
      refine' Cu.df_mk KX G ?a ?l ?c ?k (fun _ _ _ _ _ _ us hl => match us, hl with | [_, _, _], _ => rfl)
      (case a => k_is); (case l => k_is); (case c => k_is); (case k => k_is)
    have F__law_more : Cu.Df (Cu.kOf KX) mg "_law_more" Cu.st__law_more Cu.P__law_more := by
      refine' Cu.df_mk KX G ?a ?l ?c ?k (fun _ _ _ _ _ _ us hl => match us, hl with | [_, _, _], _ => rfl)
      (case a => k_is); (case l => k_is); (case c => k_is); (case k => k_is)
    have F__law_times_right : Cu.Df (Cu.kOf KX) mg "_law_times_right" Cu.st__law_times_right Cu.P__law_times_right := by
      refine' Cu.df_mk KX G ?a ?l ?c ?k (fun _ _ _ _ _ _ us hl => match us, hl with | [_, _, _, _], _ => rfl)
      (case a => k_is); (case l => k_is); (case c => k_is); (case k => k_is)
    have F__law_longer_right : Cu.Df (Cu.kOf KX) mg "_law_longer_right" Cu.st__law_longer_right Cu.P__law_longer_right := by
      refine' Cu.df_mk KX G ?a ?l ?c ?k (fun _ _ _ _ _ _ us hl => match us, hl with | [_, _, _, _], _ => rfl)
      (case a => k_is); (case l => k_is); (case c => k_is); (case k => k_is)
    have F__law_beside_right : Cu.Df (Cu.kOf KX) mg "_law_beside_right" Cu.st__law_beside_right Cu.P__law_beside_right := by
      refine' Cu.df_mk KX G ?a ?l ?c ?k (fun _ _ _ _ _ _ us hl => match us, hl with | [_, _, _, _, _], _ => rfl)
      (case a => k_is); (case l => k_is); (case c => k_is); (case k => k_is)
    have F__law_by_hand_right : Cu.Df (Cu.kOf KX) mg "_law_by_hand_right" Cu.st__law_by_hand_right Cu.P__law_by_hand_right := by
      refine' Cu.df_mk KX G ?a ?l ?c ?k (fun _ _ _ _ _ _ us hl => match us, hl with | [], _ => rfl)
      (case a => k_is); (case l => k_is); (case c => k_is); (case k => k_is)
    have F__law_right : Cu.Df (Cu.kOf KX) mg "_law_right" Cu.st__law_right Cu.P__law_right := by
      refine' Cu.df_mk KX G ?a ?l ?c ?k (fun _ _ _ _ _ _ us hl => match us, hl with | [_], _ => rfl)
      (case a => k_is); (case l => k_is); (case c => k_is); (case k => k_is)
    have T : Cu.Nb mg := by
      refine' ⟨mg_none_of KX G ?z_len, mg_none_of KX G ?z_any, mg_none_of KX G ?z_all, mg_none_of KX G ?z_sum, mg_none_of KX G ?z_min, mg_none_of KX G ?z_max, mg_none_of KX G ?z_sorted, mg_none_of KX G ?z_abs, mg_none_of KX G ?z_isinstance, mg_none_of KX G ?z_range, mg_none_of KX G ?z_enumerate, mg_none_of KX G ?z_zip, mg_none_of KX G ?z_tuple, mg_none_of KX G ?z_list, mg_none_of KX G ?z_int, mg_none_of KX G ?z_bool, mg_none_of KX G ?z_str, mg_none_of KX G ?z_LookupError⟩
      (case z_len => k_is)
      (case z_any => k_is)
      (case z_all => k_is)
      (case z_sum => k_is)
      (case z_min => k_is)
      (case z_max => k_is)
      (case z_sorted => k_is)
      (case z_abs => k_is)
      (case z_isinstance => k_is)
      (case z_range => k_is)
      (case z_enumerate => k_is)
      (case z_zip => k_is)
      (case z_tuple => k_is)
      (case z_list => k_is)
      (case z_int => k_is)
      (case z_bool => k_is)
      (case z_str => k_is)
      (case z_LookupError => k_is)
    have hsup : mg "super" = none := by
      refine' mg_none_of KX G ?z
      (case z => k_is)
    refine' Cu.fin KX G hmg T hsup F_tupled F_records F_is_lone F_joined_blocks F_filling F_alike F_blocks_of F_holds F_next_below F_few_limits F_fewest F_block_reasons F_reasons F_idle F_follows F_shorter F_kept F_ways_up F_cheapest F_excess F_bound F_best_marks F__law_box F__law_take F__law_cells F__law_of F__law_same F__law_tops F__law_blocks F__law_rising F__law_deals F__law_heard F__law_short F__law_counts F__law_price F__law_more F__law_times_right F__law_longer_right F__law_beside_right F__law_by_hand_right F__law_right ?a4 ?l4 ?c4 ?k4 ?aC ?qq ?init ?fn ?cls ?sup ?subL ?third ?self ?lk ?hcd ?cell ?code ?file1 ?file2 ?tp ?exC ?tyC ?kC ?hg ?hk ?hd ?ha ?hn ?ht ?hm ?hx ?hL
    (case a4 => k_is); (case l4 => k_is); (case c4 => k_is); (case k4 => k_is)
    (case aC => k_is)
    (case qq => first | k_is | kernel_rfl)
    (case init => k_is)
    (case fn => k_is)
    (case cls => k_is)
    (case sup => first | ks_is | kernel_rfl)
    (case subL => k_is)
    (case third => k_is)
    (case self => k_is)
    (case lk => k_is)
    (case hcd => k_is)
    (case cell => k_is)
    (case code => k_is)
    (case file1 => rfl)
    (case file2 => first | rfl | decide +kernel | kernel_rfl)
    (case tp => first | rfl | decide +kernel | kernel_rfl)
    (case exC => k_is)
    (case tyC => k_is)
    (case kC => k_is)
    (case hg => k_is)
    (case hk => k_is)
    (case hd => k_is)
    (case ha => k_is)
    (case hn => k_is)
    (case ht => k_is)
    (case hm => k_is)
    (case hx => first | k_is | kernel_rfl)
    (case hL => first | k_is | kernel_rfl)
