import PyProof.Rows.All
import Wide.All
import OpenK.AllK
import Wide.FinOn
import HandS.ForMost
import PyProof.RulesMatch
import HandS.Exc
import HandS.ExcOwn
import KE.GoesComp
import KE.GoesRaise
import HandS.Ends
import HandS.HeadEnd
import HandS.Defaults
import HandS.List
import PyProof.ReprRoads
import KE.KSuper
import HandS.Nested
import HandS.More
import HandS.Set
import HandS.SetFor
import HandS.Strs
import HandS.Comp
import KE.KSuperObj
import HandS.SetBool
import HandS.GenYield
import HandS.GenList
import KE.KExcInit
import HandS.ExcField
import PyProof.InstEq
import PyProof.FactsAll.object_2
import HandS.Base
import HandS.Call
import KE.GoesNew
import KE.GoesMore
import KE.KTupSum
import PyProof.EnumMake
import HandS.TupMul
import HandS.Iter
import HandS.Walk
import HandS.Star
import HandS.MakeKw
import HandS.MakeKwOnly
import HandS.MethStar
import HandS.TryOnly
import HandS.WordsExc
import HandS.IsInst
import HandS.ClsMeth
import HandS.Property
import HandS.Wide
import HandS.SortInts
import HandS.DictComp
import HandS.FStr
import HandS.Flow
import HandS.HeadHook2
import HandS.TupAny
import HandS.Conv
import KE.KStateDown
import HandS.Head0
import HandS.Head1
import HandS.Head2
import HandS.HeadHook1
import HandS.HeadHook3
import HandS.Evl
import PyProof.ReprBulk
import PySem.Challenge.RW_busyguess_k19_whole_exact_results
set_option Elab.async false
set_option linter.all false
set_option maxRecDepth 100000
set_option maxHeartbeats 0
/-! The plain law, part 1: systems, values, the mirror of a call. -/
namespace K19

inductive Kd where
  | always | max | min | sum | turn | choose
  deriving DecidableEq, Repr
inductive Fn where
  | lv (k : Kd) (c : Int)
  | tb (t : List Int)
  deriving DecidableEq, Repr
structure Cell where
  ops : List Nat
  fn : Fn
  g : Int
  deriving DecidableEq, Repr
abbrev Sys := List Cell
def dcell : Cell := ⟨[], .lv .always 0, 0⟩
def Sys.at (S : Sys) (c : Nat) : Cell := S.getD c dcell
def Lev (v : Int) : Prop := 0 ≤ v ∧ v ≤ 7
def maxL : Int → List Int → Int
  | c, [] => c
  | c, v :: r => maxL (if v > c then v else c) r
def minL : Int → List Int → Int
  | c, [] => c
  | c, v :: r => minL (if v < c then v else c) r
/-- (i + 1) v0 + (i + 2) v1 + .. -/
def wsum : Nat → List Int → Int
  | _, [] => 0
  | i, v :: r => ((i : Int) + 1) * v + wsum (i + 1) r
def cap (n : Int) : Int := if n < 7 then n else 7
def valueOf : Fn → List Int → Int
  | .lv .always c, _ => c
  | .lv .max c, vs => maxL c vs
  | .lv .min c, vs => minL c vs
  | .lv .sum c, vs => cap (c + vs.sum)
  | .lv .turn c, vs => (c + wsum 0 vs) % 8
  | .lv .choose c, vs => if vs = [] then c else vs.getD (vs.getD 0 0 % (vs.length : Int)).toNat 0
  | .tb t, vs => t.getD (cap vs.sum).toNat 0
def FnOk1 : Fn → Prop
  | .lv _ c => Lev c
  | .tb t => t.length = 8 ∧ ∀ v ∈ t, Lev v

/-! ### sorted lists without doubles -/
def ins (a : Nat) : List Nat → List Nat
  | [] => [a]
  | b :: r => if a < b then a :: b :: r else if a = b then b :: r else b :: ins a r
def norm (l : List Nat) : List Nat := l.foldr ins []
abbrev Asc (l : List Nat) : Prop := l.Pairwise (· < ·)
theorem mem_ins {a x : Nat} : ∀ {l : List Nat}, x ∈ ins a l ↔ x = a ∨ x ∈ l
  | [] => by simp [ins]
  | b :: r => by
    unfold ins
    split
    · simp
    · split
      · rename_i h; subst h; simp
      · rw [List.mem_cons, mem_ins, List.mem_cons]
        constructor
        · rintro (h | h | h)
          · exact .inr (.inl h)
          · exact .inl h
          · exact .inr (.inr h)
        · rintro (h | h | h)
          · exact .inr (.inl h)
          · exact .inl h
          · exact .inr (.inr h)
theorem asc_ins {a : Nat} : ∀ {l : List Nat}, Asc l → Asc (ins a l)
  | [], _ => by simp [ins, Asc]
  | b :: r, h => by
    unfold ins
    have h' := List.pairwise_cons.mp h
    split
    · rename_i hab
      refine List.pairwise_cons.mpr ⟨fun x hx => ?_, h⟩
      rcases List.mem_cons.mp hx with rfl | hx
      · exact hab
      · exact Nat.lt_trans hab (h'.1 x hx)
    · split
      · exact h
      · refine List.pairwise_cons.mpr ⟨fun x hx => ?_, asc_ins h'.2⟩
        rcases mem_ins.mp hx with rfl | hx
        · omega
        · exact h'.1 x hx
theorem mem_norm {x : Nat} : ∀ {l : List Nat}, x ∈ norm l ↔ x ∈ l
  | [] => by simp [norm]
  | a :: r => by
    show x ∈ ins a (norm r) ↔ _
    rw [mem_ins, mem_norm, List.mem_cons]
theorem asc_norm : ∀ (l : List Nat), Asc (norm l)
  | [] => by simp [norm, Asc]
  | a :: r => asc_ins (asc_norm r)
theorem asc_ext : ∀ {l m : List Nat}, Asc l → Asc m → (∀ x, x ∈ l ↔ x ∈ m) → l = m
  | [], [], _, _, _ => rfl
  | [], b :: m, _, _, h => by have := (h b).mpr List.mem_cons_self; simp at this
  | a :: l, [], _, _, h => by have := (h a).mp List.mem_cons_self; simp at this
  | a :: l, b :: m, hl, hm, h => by
    have hl' := List.pairwise_cons.mp hl
    have hm' := List.pairwise_cons.mp hm
    have e : a = b := by
      rcases List.mem_cons.mp ((h a).mp List.mem_cons_self) with e | e
      · exact e
      · rcases List.mem_cons.mp ((h b).mpr List.mem_cons_self) with e' | e'
        · exact e'.symm
        · have := hm'.1 a e; have := hl'.1 b e'; omega
    subst e
    have : l = m := asc_ext hl'.2 hm'.2 fun x => by
      constructor
      · intro hx
        rcases List.mem_cons.mp ((h x).mp (List.mem_cons_of_mem _ hx)) with e | e
        · have := hl'.1 x hx; omega
        · exact e
      · intro hx
        rcases List.mem_cons.mp ((h x).mpr (List.mem_cons_of_mem _ hx)) with e | e
        · have := hm'.1 x hx; omega
        · exact e
    rw [this]
theorem asc_nodup {l : List Nat} (h : Asc l) : l.Nodup := List.Pairwise.imp (fun h => Nat.ne_of_lt h) h
theorem norm_eq {l m : List Nat} (h : ∀ x, x ∈ l ↔ x ∈ m) : norm l = norm m :=
  asc_ext (asc_norm l) (asc_norm m) fun x => by rw [mem_norm, mem_norm]; exact h x
theorem norm_of_asc {l : List Nat} (h : Asc l) : norm l = l := asc_ext (asc_norm l) h fun x => mem_norm
theorem nodup_sub_le : ∀ {l m : List Nat}, l.Nodup → (∀ x ∈ l, x ∈ m) → l.length ≤ m.length
  | [], _, _, _ => Nat.zero_le _
  | a :: l, m, hn, h => by
    have hn' := List.nodup_cons.mp hn
    have ha : a ∈ m := h a List.mem_cons_self
    have q := nodup_sub_le (l := l) (m := m.erase a) hn'.2 fun x hx =>
      (List.mem_erase_of_ne (by rintro rfl; exact hn'.1 hx)).mpr (h x (List.mem_cons_of_mem _ hx))
    rw [List.length_erase_of_mem ha] at q
    have := List.length_pos_of_mem ha
    rw [List.length_cons]
    omega
/-- different numbers below n: at most n of them -/
theorem nodup_le {n : Nat} {l : List Nat} (hn : l.Nodup) (hl : ∀ x ∈ l, x < n) : l.length ≤ n := by
  have h := nodup_sub_le (m := List.range n) hn fun x hx => List.mem_range.mpr (hl x hx)
  simpa using h
theorem norm_nil {l : List Nat} : norm l = [] ↔ l = [] := by
  constructor
  · intro h
    cases l with
    | nil => rfl
    | cons a r => have : a ∈ norm (a :: r) := mem_norm.mpr List.mem_cons_self; rw [h] at this; simp at this
  · rintro rfl; rfl

/-! ### the mirror -/
structure Row where
  cell : Nat
  val : Int
  taint : List Nat
  used : List Nat
  deriving DecidableEq, Repr
inductive Ev where
  | stored (c : Nat) (v : Int)
  | busy (c : Nat) (g : Int)
  | call (c : Nat)
  | fin (c : Nat) (v : Int) (T : List Nat) (kept : Bool)
  | reused (c : Nat) (v : Int) (T : List Nat)
  deriving DecidableEq, Repr
abbrev Board := List (Option Int)
def bat (b : Board) (c : Nat) : Option Int := b.getD c none
structure St where
  board : Board
  begun : Nat
  log : List Ev
  known : List Row
  deriving DecidableEq, Repr
def St.say (s : St) (e : Ev) : St := { s with log := s.log ++ [e] }
structure Res where
  val : Int
  taint : List Nat
  used : List Nat
  deriving DecidableEq, Repr
/-- a remembered result is exact here -/
def hit (b : Board) (B : List Nat) (c : Nat) (r : Row) : Bool :=
  r.cell == c && (r.taint.all fun x => decide (x ∈ B)) && (r.used.all fun x => !decide (x ∈ B) && (bat b x).isNone)
def runOps (F : St → Nat → Res × St) : St → List Nat → List Res × St
  | st, [] => ([], st)
  | st, o :: r => ((F st o).1 :: (runOps F (F st o).2 r).1, (runOps F (F st o).2 r).2)
def taintOf (c : Nat) (rs : List Res) : List Nat := norm ((rs.flatMap (·.taint)).filter fun x => x != c)
def usedOf (c : Nat) (rs : List Res) : List Nat := norm (c :: rs.flatMap (·.used))
/-- a result is stored, or remembered (where ex) -/
def close (ex : Bool) (c : Nat) (v : Int) (T U : List Nat) (s : St) : Res × St :=
  if T = [] then (⟨v, [], []⟩, { s with board := s.board.set c (some v), log := s.log ++ [.fin c v [] true] })
  else (⟨v, T, U⟩, { s with log := s.log ++ [.fin c v T false], known := if ex then s.known ++ [⟨c, v, T, U⟩] else s.known })
def opened (s : St) (c : Nat) : St := { s with begun := s.begun + 1, log := s.log ++ [.call c] }
def evalB (F : St → List Nat → Nat → Res × St) (ex : Bool) (S : Sys) (st : St) (B : List Nat) (c : Nat) : Res × St :=
  close ex c (valueOf (S.at c).fn ((runOps (fun s o => F s (B ++ [c]) o) (opened st c) (S.at c).ops).1.map (·.val)))
    (taintOf c (runOps (fun s o => F s (B ++ [c]) o) (opened st c) (S.at c).ops).1)
    (usedOf c (runOps (fun s o => F s (B ++ [c]) o) (opened st c) (S.at c).ops).1)
    (runOps (fun s o => F s (B ++ [c]) o) (opened st c) (S.at c).ops).2
def evalX (F : St → List Nat → Nat → Res × St) (ex : Bool) (S : Sys) (st : St) (B : List Nat) (c : Nat) : Res × St :=
  match (if ex then st.known.find? (hit st.board B c) else none) with
  | some r => (⟨r.val, r.taint, r.used⟩, st.say (.reused c r.val r.taint))
  | none => evalB F ex S st B c
def callB (F : St → List Nat → Nat → Res × St) (ex : Bool) (S : Sys) (st : St) (B : List Nat) (c : Nat) : Res × St :=
  match bat st.board c with
  | some v => (⟨v, [], []⟩, st.say (.stored c v))
  | none => if c ∈ B then (⟨(S.at c).g, [c], []⟩, st.say (.busy c (S.at c).g)) else evalX F ex S st B c
def M (ex : Bool) (S : Sys) : Nat → St → List Nat → Nat → Res × St
  | 0, st, _, _ => (⟨0, [], []⟩, st)
  | f + 1, st, B, c => callB (M ex S f) ex S st B c

/-- what a system keeps (a rank falls along operands; the cells of one rank are few) -/
structure SysOk (S : Sys) (rk : Nat → Nat) (bs : Nat) : Prop where
  pos : 0 < S.length
  len : S.length ≤ 12
  bs6 : bs ≤ 6
  ops8 : ∀ c, c < S.length → (S.at c).ops.length ≤ 8
  opsN : ∀ c, c < S.length → (S.at c).ops.Nodup
  opsL : ∀ c, c < S.length → ∀ o ∈ (S.at c).ops, o < S.length
  opsR : ∀ c, c < S.length → ∀ o ∈ (S.at c).ops, rk o ≤ rk c
  blk : ∀ r, ((List.range S.length).filter fun c => rk c == r).length ≤ bs
  fnOk : ∀ c, c < S.length → FnOk1 (S.at c).fn
  gOk : ∀ c, c < S.length → Lev (S.at c).g
structure BoardOk (S : Sys) (b : Board) : Prop where
  len : b.length = S.length
  lev : ∀ c v, bat b c = some v → Lev v
end K19
/-! The plain law, part 2: what every call keeps; how long its log is. -/
namespace K19

def isCall : Ev → Bool
  | .call _ => true
  | _ => false
def calls (l : List Ev) : Nat := l.countP isCall
structure RowOk (S : Sys) (rk : Nat → Nat) (r : Row) : Prop where
  cN : r.cell < S.length
  lev : Lev r.val
  tasc : Asc r.taint
  tne : r.taint ≠ []
  tN : ∀ x ∈ r.taint, x < S.length
  tR : ∀ x ∈ r.taint, rk x ≤ rk r.cell
  uasc : Asc r.used
  uN : ∀ x ∈ r.used, x < S.length
def EvOk (n : Nat) : Ev → Prop
  | .stored c v => c < n ∧ Lev v
  | .busy c v => c < n ∧ Lev v
  | .call c => c < n
  | .fin c v T _ => c < n ∧ Lev v ∧ Asc T ∧ ∀ x ∈ T, x < n
  | .reused c v T => c < n ∧ Lev v ∧ Asc T ∧ ∀ x ∈ T, x < n
/-- the free cells of c's rank -/
def freeN (S : Sys) (rk : Nat → Nat) (B : List Nat) (r : Nat) : Nat := ((List.range S.length).filter fun x => rk x == r && !decide (x ∈ B)).length
/-- how many cells below rank r are not stored -/
def openN (S : Sys) (rk : Nat → Nat) (b : Board) (r : Nat) : Nat := (List.range S.length).countP fun x => decide (rk x < r) && (bat b x).isNone
def W : Nat → Nat
  | 0 => 1
  | k + 1 => 10 + k * W k
theorem W_pos (k : Nat) : 1 ≤ W k := by cases k <;> simp [W] <;> omega
theorem W_le {k : Nat} (h : k ≤ 6) : W k ≤ 3260 := by
  match k, h with
  | 0, _ => decide
  | 1, _ => decide
  | 2, _ => decide
  | 3, _ => decide
  | 4, _ => decide
  | 5, _ => decide
  | 6, _ => decide
structure Pre (S : Sys) (rk : Nat → Nat) (st : St) (B : List Nat) (c : Nat) : Prop where
  cN : c < S.length
  bok : BoardOk S st.board
  bn : B.Nodup
  bl : ∀ x ∈ B, x < S.length
  bfree : ∀ x ∈ B, bat st.board x = none
  brk : ∀ x ∈ B, rk c ≤ rk x
  known : ∀ r ∈ st.known, RowOk S rk r
/-- what a stretch of calls keeps -/
structure Mid (S : Sys) (rk : Nat → Nat) (B : List Nat) (st st' : St) (cost : Nat) (r : Nat) : Prop where
  bok : BoardOk S st'.board
  ext : ∀ x v, bat st.board x = some v → bat st'.board x = some v
  free : ∀ x ∈ B, bat st'.board x = none
  known : ∀ w ∈ st'.known, RowOk S rk w
  more : ∃ kn, st'.known = st.known ++ kn
  log : ∃ seg, st'.log = st.log ++ seg ∧ (∀ e ∈ seg, EvOk S.length e) ∧ st'.begun = st.begun + calls seg ∧ seg.length + 3260 * openN S rk st'.board r ≤ cost + 3260 * openN S rk st.board r
structure Post (S : Sys) (rk : Nat → Nat) (st : St) (B : List Nat) (c : Nat) (r : Res) (st' : St) : Prop where
  mid : Mid S rk B st st' (W (freeN S rk B (rk c))) (rk c)
  lev : Lev r.val
  tasc : Asc r.taint
  tB : ∀ x ∈ r.taint, x ∈ B
  tR : ∀ x ∈ r.taint, rk x ≤ rk c
  uasc : Asc r.used
  uN : ∀ x ∈ r.used, x < S.length ∧ x ∉ B
  kept : r.taint = [] → bat st'.board c = some r.val
  cheap : (bat st.board c ≠ none ∨ c ∈ B) → ∀ q, Mid S rk B st st' 1 q

section
variable {S : Sys} {rk : Nat → Nat} {bs : Nat} {ex : Bool}
theorem bat_set_same {b : Board} {c : Nat} {v : Int} (h : c < b.length) : bat (b.set c (some v)) c = some v := by
  unfold bat
  rw [List.getD_eq_getElem?_getD, List.getElem?_set_self h]
  rfl
theorem bat_set_ne {b : Board} {c x : Nat} {v : Int} (h : x ≠ c) : bat (b.set c (some v)) x = bat b x := by
  unfold bat
  rw [List.getD_eq_getElem?_getD, List.getElem?_set_ne (Ne.symm h), ← List.getD_eq_getElem?_getD]
theorem opens_mono {b b' : Board} (h : ∀ x v, bat b x = some v → bat b' x = some v) (r : Nat) : openN S rk b' r ≤ openN S rk b r := by
  unfold openN
  refine List.countP_mono_left fun x _ hx => ?_
  rw [Bool.and_eq_true] at hx ⊢
  refine ⟨hx.1, ?_⟩
  cases e : bat b x with
  | none => rfl
  | some v => rw [h x v e] at hx; simp at hx
/-- a lower rank's gain, and one cell more -/
theorem opens_lower {b b' : Board} (h : ∀ x v, bat b x = some v → bat b' x = some v) {r r' o : Nat} (hr : r' < r) (ho : rk o = r') (hN : o < S.length) (h0 : bat b o = none) {v : Int} (h1 : bat b' o = some v) :
    openN S rk b' r + openN S rk b r' + 1 ≤ openN S rk b r + openN S rk b' r' := by
  unfold openN
  have key : ∀ l : List Nat, (l.countP fun x => decide (rk x < r) && (bat b' x).isNone) + (l.countP fun x => decide (rk x < r') && (bat b x).isNone) + (if o ∈ l then 1 else 0) ≤
      (l.countP fun x => decide (rk x < r) && (bat b x).isNone) + (l.countP fun x => decide (rk x < r') && (bat b' x).isNone) := by
    intro l
    induction l with
    | nil => simp
    | cons a l ih =>
      simp only [List.countP_cons, List.mem_cons]
      have hm : bat b' a = none → bat b a = none := fun q => by
        cases e : bat b a with
        | none => rfl
        | some u => rw [h a u e] at q; cases q
      by_cases hoa : o = a
      · subst hoa
        rw [if_pos (Or.inl rfl)]
        have e1 : (decide (rk o < r) && (bat b' o).isNone) = false := by rw [h1]; simp
        have e2 : (decide (rk o < r') && (bat b o).isNone) = false := by rw [ho]; simp
        have e3 : (decide (rk o < r) && (bat b o).isNone) = true := by rw [h0, ho]; simp [hr]
        have e4 : (decide (rk o < r') && (bat b' o).isNone) = false := by rw [ho]; simp
        rw [e1, e2, e3, e4]
        split at ih <;> simp <;> omega
      · have e0 : (o = a ∨ o ∈ l) ↔ o ∈ l := by simp [hoa]
        simp only [e0]
        cases ea : bat b' a with
        | none =>
          rw [hm ea]
          simp
          omega
        | some u =>
          have i1 : (if (decide (rk a < r) && (some u).isNone) = true then 1 else 0) = 0 := by simp
          have i2 : (if (decide (rk a < r') && (some u).isNone) = true then 1 else 0) = 0 := by simp
          rw [i1, i2]
          have i3 : (if (decide (rk a < r') && (bat b a).isNone) = true then 1 else 0) ≤ (if (decide (rk a < r) && (bat b a).isNone) = true then 1 else 0) := by
            by_cases g : (decide (rk a < r') && (bat b a).isNone) = true
            · rw [if_pos g]
              rw [Bool.and_eq_true, decide_eq_true_eq] at g
              rw [if_pos (by rw [Bool.and_eq_true, decide_eq_true_eq]; exact ⟨Nat.lt_trans g.1 hr, g.2⟩)]
              exact Nat.le_refl 1
            · rw [if_neg g]; exact Nat.zero_le _
          omega
  have k := key (List.range S.length)
  rw [if_pos (List.mem_range.mpr hN)] at k
  exact k
theorem free_le (ok : SysOk S rk bs) (B : List Nat) (r : Nat) : freeN S rk B r ≤ 6 := by
  refine Nat.le_trans ?_ (Nat.le_trans (ok.blk r) ok.bs6)
  unfold freeN
  rw [← List.filter_filter]
  rw [List.filter_filter]
  have : ((List.range S.length).filter fun x => rk x == r && !decide (x ∈ B)) = (((List.range S.length).filter fun x => rk x == r).filter fun x => !decide (x ∈ B)) := by
    rw [List.filter_filter]
    congr 1
    funext x
    exact Bool.and_comm _ _
  rw [this]
  exact List.length_filter_le _ _
theorem free_snoc {B : List Nat} {c : Nat} (hc : c < S.length) (hB : c ∉ B) : freeN S rk B (rk c) = freeN S rk (B ++ [c]) (rk c) + 1 := by
  unfold freeN
  have nd : (List.range S.length).Nodup := List.nodup_range
  have key : ∀ l : List Nat, l.Nodup → (l.filter fun x => rk x == rk c && !decide (x ∈ B)).length = (l.filter fun x => rk x == rk c && !decide (x ∈ B ++ [c])).length + (if c ∈ l then 1 else 0) := by
    intro l
    induction l with
    | nil => simp
    | cons a l ih =>
      intro hn
      have hn' := List.nodup_cons.mp hn
      have ih := ih hn'.2
      by_cases ha : a = c
      · subst ha
        have : ¬ a ∈ l := hn'.1
        rw [if_neg this] at ih
        rw [List.filter_cons, List.filter_cons, if_pos (by simp [hB]), if_neg (by simp), if_pos List.mem_cons_self, List.length_cons]
        omega
      · have e : (c ∈ a :: l) ↔ c ∈ l := by simp [Ne.symm ha]
        simp only [e]
        rw [List.filter_cons, List.filter_cons]
        have e2 : (rk a == rk c && !decide (a ∈ B ++ [c])) = (rk a == rk c && !decide (a ∈ B)) := by simp [ha]
        rw [e2]
        split
        · simp only [List.length_cons]; omega
        · exact ih
  have k := key _ nd
  rw [if_pos (List.mem_range.mpr hc)] at k
  exact k
theorem Mid.refl {B : List Nat} {st : St} {r : Nat} (bok : BoardOk S st.board) (free : ∀ x ∈ B, bat st.board x = none) (known : ∀ w ∈ st.known, RowOk S rk w) : Mid S rk B st st 0 r :=
  ⟨bok, fun _ _ h => h, free, known, ⟨[], by simp⟩, ⟨[], by simp, by simp, by simp [calls], by simp⟩⟩
theorem Mid.trans {B : List Nat} {s1 s2 s3 : St} {a b r : Nat} (h : Mid S rk B s1 s2 a r) (h' : Mid S rk B s2 s3 b r) : Mid S rk B s1 s3 (a + b) r := by
  obtain ⟨k1, e1⟩ := h.more
  obtain ⟨k2, e2⟩ := h'.more
  obtain ⟨g1, l1, o1, c1, n1⟩ := h.log
  obtain ⟨g2, l2, o2, c2, n2⟩ := h'.log
  refine ⟨h'.bok, fun x v q => h'.ext x v (h.ext x v q), h'.free, h'.known, ⟨k1 ++ k2, by rw [e2, e1, List.append_assoc]⟩, ⟨g1 ++ g2, by rw [l2, l1, List.append_assoc], fun e he => ?_, ?_, ?_⟩⟩
  · rcases List.mem_append.mp he with q | q
    · exact o1 e q
    · exact o2 e q
  · rw [c2, c1]; unfold calls; rw [List.countP_append]; omega
  · rw [List.length_append]; omega
theorem Mid.mono {B : List Nat} {s1 s2 : St} {a b r : Nat} (h : Mid S rk B s1 s2 a r) (hab : a ≤ b) : Mid S rk B s1 s2 b r := by
  obtain ⟨g1, l1, o1, c1, n1⟩ := h.log
  exact ⟨h.bok, h.ext, h.free, h.known, h.more, g1, l1, o1, c1, by omega⟩
theorem Mid.sub {B B' : List Nat} {s1 s2 : St} {a r : Nat} (h : Mid S rk B s1 s2 a r) (hB : ∀ x ∈ B', x ∈ B) : Mid S rk B' s1 s2 a r :=
  ⟨h.bok, h.ext, fun x hx => h.free x (hB x hx), h.known, h.more, h.log⟩
/-- one more event -/
theorem mid_say {B : List Nat} {st : St} {e : Ev} {r : Nat} (bok : BoardOk S st.board) (free : ∀ x ∈ B, bat st.board x = none) (known : ∀ w ∈ st.known, RowOk S rk w) (he : EvOk S.length e) (hc : isCall e = false) : Mid S rk B st (st.say e) 1 r :=
  ⟨bok, fun _ _ h => h, free, known, ⟨[], by simp [St.say]⟩, ⟨[e], rfl, by simpa using he, by simp [St.say, calls, hc], by simp [St.say]⟩⟩
end
end K19
/-! The plain law, part 3: every call keeps Post. -/
namespace K19
section
variable {S : Sys} {rk : Nat → Nat} {bs : Nat} {ex : Bool}
/-- what an operand's result keeps, B what is busy there, r the rank -/
structure ResOk (S : Sys) (rk : Nat → Nat) (B : List Nat) (r : Nat) (x : Res) : Prop where
  lev : Lev x.val
  tB : ∀ y ∈ x.taint, y ∈ B
  tR : ∀ y ∈ x.taint, rk y ≤ r
  uN : ∀ y ∈ x.used, y < S.length ∧ y ∉ B
def lsum : List Nat → Nat
  | [] => 0
  | a :: r => a + lsum r
theorem runOps_ok {F : St → Nat → Res × St} {B : List Nat} {r : Nat} {cst : Nat → Nat} : ∀ (ops : List Nat) (st : St), BoardOk S st.board → (∀ x ∈ B, bat st.board x = none) → (∀ w ∈ st.known, RowOk S rk w) →
    (∀ o ∈ ops, ∀ s : St, BoardOk S s.board → (∀ x ∈ B, bat s.board x = none) → (∀ w ∈ s.known, RowOk S rk w) → Mid S rk B s (F s o).2 (cst o) r ∧ ResOk S rk B r (F s o).1) →
    Mid S rk B st (runOps F st ops).2 (lsum (ops.map cst)) r ∧ ∀ x ∈ (runOps F st ops).1, ResOk S rk B r x
  | [], st, b, f, k, _ => ⟨Mid.refl b f k, by simp [runOps]⟩
  | o :: ops, st, b, f, k, h => by
    obtain ⟨m, q⟩ := h o List.mem_cons_self st b f k
    obtain ⟨m2, q2⟩ := runOps_ok ops (F st o).2 m.bok m.free m.known fun o' ho' => h o' (List.mem_cons_of_mem _ ho')
    refine ⟨m.trans m2, fun x hx => ?_⟩
    rcases List.mem_cons.mp hx with e | e
    · rw [e]; exact q
    · exact q2 x e
theorem runOps_len {F : St → Nat → Res × St} : ∀ (ops : List Nat) (st : St), (runOps F st ops).1.length = ops.length
  | [], _ => rfl
  | o :: ops, st => by
    show (runOps F (F st o).2 ops).1.length + 1 = _
    rw [runOps_len ops, List.length_cons]
theorem lev_max : ∀ {vs : List Int} {c : Int}, Lev c → (∀ v ∈ vs, Lev v) → Lev (maxL c vs)
  | [], _, h, _ => h
  | v :: vs, c, h, hv => by
    unfold maxL
    refine lev_max ?_ fun x hx => hv x (List.mem_cons_of_mem _ hx)
    split
    · exact hv v List.mem_cons_self
    · exact h
theorem lev_min : ∀ {vs : List Int} {c : Int}, Lev c → (∀ v ∈ vs, Lev v) → Lev (minL c vs)
  | [], _, h, _ => h
  | v :: vs, c, h, hv => by
    unfold minL
    refine lev_min ?_ fun x hx => hv x (List.mem_cons_of_mem _ hx)
    split
    · exact hv v List.mem_cons_self
    · exact h
theorem sum_nn : ∀ {vs : List Int}, (∀ v ∈ vs, Lev v) → 0 ≤ vs.sum
  | [], _ => by simp
  | v :: vs, h => by
    have h1 := (h v List.mem_cons_self).1
    have h2 := sum_nn (vs := vs) fun x hx => h x (List.mem_cons_of_mem _ hx)
    rw [List.sum_cons]; omega
theorem lev_cap {n : Int} (h : 0 ≤ n) : Lev (cap n) := by
  unfold cap Lev
  split <;> omega
theorem lev_value {f : Fn} (hf : FnOk1 f) {vs : List Int} (hv : ∀ v ∈ vs, Lev v) : Lev (valueOf f vs) := by
  cases f with
  | tb t =>
    obtain ⟨h8, ht⟩ := hf
    have hc := lev_cap (sum_nn hv)
    have hl : (cap vs.sum).toNat < t.length := by obtain ⟨a, b⟩ := hc; omega
    show Lev (t.getD (cap vs.sum).toNat 0)
    rw [List.getD_eq_getElem?_getD, List.getElem?_eq_getElem hl]
    exact ht _ (List.getElem_mem hl)
  | lv k c =>
    have hc : Lev c := hf
    cases k with
    | always => exact hc
    | max => exact lev_max hc hv
    | min => exact lev_min hc hv
    | sum => exact lev_cap (by have := sum_nn hv; have := hc.1; omega)
    | turn =>
      show Lev ((c + wsum 0 vs) % 8)
      unfold Lev
      omega
    | choose =>
      show Lev (if vs = [] then c else vs.getD (vs.getD 0 0 % (vs.length : Int)).toNat 0)
      split
      · exact hc
      · rename_i hne
        have hp : 0 < vs.length := List.length_pos_iff.mpr hne
        have hl : (vs.getD 0 0 % (vs.length : Int)).toNat < vs.length := by
          have a := Int.emod_nonneg (vs.getD 0 0) (b := (vs.length : Int)) (by omega)
          have b := Int.emod_lt_of_pos (vs.getD 0 0) (b := (vs.length : Int)) (by omega)
          omega
        rw [List.getD_eq_getElem?_getD, List.getElem?_eq_getElem hl]
        exact hv _ (List.getElem_mem hl)
theorem mem_taintOf {c x : Nat} {rs : List Res} : x ∈ taintOf c rs ↔ x ≠ c ∧ ∃ r ∈ rs, x ∈ r.taint := by
  unfold taintOf
  rw [mem_norm, List.mem_filter, List.mem_flatMap]
  constructor
  · rintro ⟨h, h2⟩; exact ⟨by simpa using h2, h⟩
  · rintro ⟨h, h2⟩; exact ⟨h2, by simpa using h⟩
theorem mem_usedOf {c x : Nat} {rs : List Res} : x ∈ usedOf c rs ↔ x = c ∨ ∃ r ∈ rs, x ∈ r.used := by
  unfold usedOf
  rw [mem_norm, List.mem_cons, List.mem_flatMap]
/-- the cost of an operand of c, B' busy: in the block and free, or one event -/
def cstOf (S : Sys) (rk : Nat → Nat) (B' : List Nat) (c o : Nat) : Nat := if rk o = rk c ∧ o ∉ B' then W (freeN S rk B' (rk c)) else 1
theorem lsum_le {cst : Nat → Nat} {p : Nat → Bool} {w : Nat} (h : ∀ o, cst o ≤ 1 + (if p o then w else 0)) : ∀ l : List Nat, lsum (l.map cst) ≤ l.length + (l.filter p).length * w
  | [] => by simp [lsum]
  | a :: l => by
    have ih := lsum_le h l
    have ha := h a
    show cst a + lsum (l.map cst) ≤ _
    rw [List.length_cons, List.filter_cons]
    cases e : p a with
    | true =>
      rw [e] at ha
      simp only [if_pos, List.length_cons, Nat.succ_mul] at ha ⊢
      omega
    | false =>
      rw [e] at ha
      simp only [Bool.false_eq_true, if_false] at ha ⊢
      omega
theorem cost_ops (ok : SysOk S rk bs) {B : List Nat} {c : Nat} (hc : c < S.length) (hB : c ∉ B) : 2 + lsum ((S.at c).ops.map (cstOf S rk (B ++ [c]) c)) ≤ W (freeN S rk B (rk c)) := by
  rw [free_snoc hc hB]
  generalize hk : freeN S rk (B ++ [c]) (rk c) = k
  show _ ≤ 10 + k * W k
  have h := lsum_le (cst := cstOf S rk (B ++ [c]) c) (p := fun o => rk o == rk c && !decide (o ∈ B ++ [c])) (w := W k) (fun o => by
    unfold cstOf
    rw [hk]
    by_cases q : rk o = rk c ∧ o ∉ B ++ [c]
    · rw [if_pos q, if_pos (by rw [Bool.and_eq_true]; exact ⟨by simpa using q.1, by simpa using q.2⟩)]
      omega
    · rw [if_neg q]; omega) (S.at c).ops
  have hf : ((S.at c).ops.filter fun o => rk o == rk c && !decide (o ∈ B ++ [c])).length ≤ k := by
    rw [← hk]
    unfold freeN
    refine nodup_sub_le (List.Pairwise.sublist List.filter_sublist (ok.opsN c hc)) fun x hx => ?_
    rw [List.mem_filter] at hx ⊢
    exact ⟨List.mem_range.mpr (ok.opsL c hc x hx.1), hx.2⟩
  have h8 := ok.ops8 c hc
  have := Nat.mul_le_mul_right (W k) hf
  omega

theorem ops_mid (ok : SysOk S rk bs) {F : St → List Nat → Nat → Res × St} {st : St} {B : List Nat} {c : Nat} (pre : Pre S rk st B c) (h0 : bat st.board c = none) (hB : c ∉ B)
    (hF : ∀ s o, Pre S rk s (B ++ [c]) o → Post S rk s (B ++ [c]) o (F s (B ++ [c]) o).1 (F s (B ++ [c]) o).2) :
    (∀ o ∈ (S.at c).ops, ∀ s : St, BoardOk S s.board → (∀ x ∈ B ++ [c], bat s.board x = none) → (∀ w ∈ s.known, RowOk S rk w) →
      Pre S rk s (B ++ [c]) o ∧ Mid S rk (B ++ [c]) s (F s (B ++ [c]) o).2 (cstOf S rk (B ++ [c]) c o) (rk c) ∧ ResOk S rk (B ++ [c]) (rk c) (F s (B ++ [c]) o).1) ∧
    (∀ x ∈ B ++ [c], bat st.board x = none) ∧
    Mid S rk (B ++ [c]) (opened st c) (runOps (fun s o => F s (B ++ [c]) o) (opened st c) (S.at c).ops).2 (lsum ((S.at c).ops.map (cstOf S rk (B ++ [c]) c))) (rk c) ∧
      ∀ x ∈ (runOps (fun s o => F s (B ++ [c]) o) (opened st c) (S.at c).ops).1, ResOk S rk (B ++ [c]) (rk c) x := by
  have bfree' : ∀ x ∈ B ++ [c], bat st.board x = none := fun x hx => by
    rcases List.mem_append.mp hx with q | q
    · exact pre.bfree x q
    · rw [List.mem_singleton.mp q]; exact h0
  have bn' : (B ++ [c]).Nodup := List.nodup_append.mpr ⟨pre.bn, by simp, fun a ha b hb e => by rw [List.mem_singleton.mp hb] at e; exact hB (e ▸ ha)⟩
  have bl' : ∀ x ∈ B ++ [c], x < S.length := fun x hx => by
    rcases List.mem_append.mp hx with q | q
    · exact pre.bl x q
    · rw [List.mem_singleton.mp q]; exact pre.cN
  have brk' : ∀ x ∈ B ++ [c], rk c ≤ rk x := fun x hx => by
    rcases List.mem_append.mp hx with q | q
    · exact pre.brk x q
    · rw [List.mem_singleton.mp q]; exact Nat.le_refl _
  have step : ∀ o ∈ (S.at c).ops, ∀ s : St, BoardOk S s.board → (∀ x ∈ B ++ [c], bat s.board x = none) → (∀ w ∈ s.known, RowOk S rk w) →
      Pre S rk s (B ++ [c]) o ∧ Mid S rk (B ++ [c]) s (F s (B ++ [c]) o).2 (cstOf S rk (B ++ [c]) c o) (rk c) ∧ ResOk S rk (B ++ [c]) (rk c) (F s (B ++ [c]) o).1 := fun o ho s b f k => by
    have hr := ok.opsR c pre.cN o ho
    have p : Pre S rk s (B ++ [c]) o := ⟨ok.opsL c pre.cN o ho, b, bn', bl', f, fun x hx => Nat.le_trans hr (brk' x hx), k⟩
    have P := hF s o p
    refine ⟨p, ?_, P.lev, P.tB, fun y hy => Nat.le_trans (P.tR y hy) hr, P.uN⟩
    have hm := opens_mono (S := S) (rk := rk) P.mid.ext (rk c)
    by_cases hob : o ∈ B ++ [c]
    · have q := P.cheap (.inr hob) (rk c)
      unfold cstOf
      rw [if_neg fun z => z.2 hob]
      exact q
    · obtain ⟨seg, l1, l2, l3, l4⟩ := P.mid.log
      by_cases hrr : rk o = rk c
      · unfold cstOf
        rw [if_pos ⟨hrr, hob⟩]
        have q := P.mid
        rw [hrr] at q
        exact q
      · have hlt : rk o < rk c := Nat.lt_of_le_of_ne hr hrr
        unfold cstOf
        rw [if_neg fun z => hrr z.1]
        cases hst : bat s.board o with
        | some v => exact P.cheap (.inl (by rw [hst]; simp)) (rk c)
        | none =>
          have ht : (F s (B ++ [c]) o).1.taint = [] := by
            cases e : (F s (B ++ [c]) o).1.taint with
            | nil => rfl
            | cons y ys =>
              have hy : y ∈ (F s (B ++ [c]) o).1.taint := by rw [e]; exact List.mem_cons_self
              have a := P.tR y hy
              have b' := brk' y (P.tB y hy)
              omega
          have hk := P.kept ht
          have hlow := opens_lower (S := S) (rk := rk) P.mid.ext hlt rfl (ok.opsL c pre.cN o ho) hst hk
          have hw := W_le (free_le ok (B ++ [c]) (rk o))
          exact ⟨P.mid.bok, P.mid.ext, P.mid.free, P.mid.known, P.mid.more, seg, l1, l2, l3, by omega⟩
  exact ⟨step, bfree', runOps_ok (F := fun s o => F s (B ++ [c]) o) (S.at c).ops (opened st c) pre.bok bfree' pre.known fun o ho s b f k => (step o ho s b f k).2⟩
theorem evalB_ok (ok : SysOk S rk bs) {F : St → List Nat → Nat → Res × St} {st : St} {B : List Nat} {c : Nat} (pre : Pre S rk st B c) (h0 : bat st.board c = none) (hB : c ∉ B)
    (hF : ∀ s o, Pre S rk s (B ++ [c]) o → Post S rk s (B ++ [c]) o (F s (B ++ [c]) o).1 (F s (B ++ [c]) o).2) :
    Post S rk st B c (evalB F ex S st B c).1 (evalB F ex S st B c).2 := by
  obtain ⟨_, _, m, rs⟩ := ops_mid ok pre h0 hB hF
  have hcost := cost_ops ok pre.cN hB
  unfold evalB
  generalize hro : runOps (fun s o => F s (B ++ [c]) o) (opened st c) (S.at c).ops = ro at m rs
  obtain ⟨res, st2⟩ := ro
  have m : Mid S rk (B ++ [c]) (opened st c) st2 _ (rk c) := m
  have rs : ∀ x ∈ res, ResOk S rk (B ++ [c]) (rk c) x := rs
  have hlev : Lev (valueOf (S.at c).fn (res.map (·.val))) := lev_value (ok.fnOk c pre.cN) fun v hv => by
    obtain ⟨r, hr, e⟩ := List.mem_map.mp hv
    rw [← e]; exact (rs r hr).lev
  have htB : ∀ x ∈ taintOf c res, x ∈ B := fun x hx => by
    obtain ⟨hne, r, hr, hxr⟩ := mem_taintOf.mp hx
    rcases List.mem_append.mp ((rs r hr).tB x hxr) with q | q
    · exact q
    · exact absurd (List.mem_singleton.mp q) hne
  have htR : ∀ x ∈ taintOf c res, rk x ≤ rk c := fun x hx => by
    obtain ⟨hne, r, hr, hxr⟩ := mem_taintOf.mp hx
    exact (rs r hr).tR x hxr
  have huN : ∀ x ∈ usedOf c res, x < S.length ∧ x ∉ B := fun x hx => by
    rcases mem_usedOf.mp hx with e | ⟨r, hr, hxr⟩
    · rw [e]; exact ⟨pre.cN, hB⟩
    · obtain ⟨a, b⟩ := (rs r hr).uN x hxr
      exact ⟨a, fun z => b (List.mem_append_left _ z)⟩
  have hcN : c < st2.board.length := by rw [m.bok.len]; exact pre.cN
  obtain ⟨kn, hkn⟩ := m.more
  obtain ⟨seg, l1, l2, l3, l4⟩ := m.log
  have hc0 : bat st2.board c = none := m.free c (List.mem_append_right _ (List.mem_singleton.mpr rfl))
  have cheapNo : (bat st.board c ≠ none ∨ c ∈ B) → False := fun z => z.elim (fun z => z h0) hB
  have l3' : st2.begun = st.begun + 1 + calls seg := l3
  have l1' : st2.log = st.log ++ [Ev.call c] ++ seg := l1
  have l4' : seg.length + 3260 * openN S rk st2.board (rk c) ≤ lsum ((S.at c).ops.map (cstOf S rk (B ++ [c]) c)) + 3260 * openN S rk st.board (rk c) := l4
  by_cases hT : taintOf c res = []
  · have e1 : close ex c (valueOf (S.at c).fn (res.map (·.val))) (taintOf c res) (usedOf c res) st2 = (⟨valueOf (S.at c).fn (res.map (·.val)), [], []⟩, { st2 with board := st2.board.set c (some (valueOf (S.at c).fn (res.map (·.val)))), log := st2.log ++ [.fin c (valueOf (S.at c).fn (res.map (·.val))) [] true] }) := if_pos hT
    rw [e1]
    have hext : ∀ x v, bat st2.board x = some v → bat (st2.board.set c (some (valueOf (S.at c).fn (res.map (·.val))))) x = some v := fun x v h => by
      have hx : x ≠ c := fun e => by rw [e, hc0] at h; cases h
      rw [bat_set_ne hx]; exact h
    refine ⟨⟨⟨?_, fun x v h => ?_⟩, fun x v h => hext x v (m.ext x v h), fun x hx => ?_, m.known, ⟨kn, hkn⟩, ⟨Ev.call c :: (seg ++ [.fin c (valueOf (S.at c).fn (res.map (·.val))) [] true]), ?_, fun e he => ?_, ?_, ?_⟩⟩, hlev, List.Pairwise.nil, by simp, by simp, List.Pairwise.nil, by simp, fun _ => bat_set_same hcN, fun z => (cheapNo z).elim⟩
    · show (st2.board.set c _).length = _
      rw [List.length_set]; exact m.bok.len
    · by_cases hx : x = c
      · subst hx
        have h' : bat (st2.board.set x (some (valueOf (S.at x).fn (res.map (·.val))))) x = some v := h
        rw [bat_set_same hcN] at h'
        cases h'; exact hlev
      · have h' : bat (st2.board.set c (some (valueOf (S.at c).fn (res.map (·.val))))) x = some v := h
        rw [bat_set_ne hx] at h'
        exact m.bok.lev x v h'
    · have hxc : x ≠ c := fun e => hB (e ▸ hx)
      show bat (st2.board.set c _) x = none
      rw [bat_set_ne hxc]
      exact m.free x (List.mem_append_left _ hx)
    · show st2.log ++ _ = _
      rw [l1']; simp
    · rcases List.mem_cons.mp he with e | e
      · rw [e]; exact pre.cN
      · rcases List.mem_append.mp e with e | e
        · exact l2 _ e
        · rw [List.mem_singleton.mp e]
          exact ⟨pre.cN, hlev, List.Pairwise.nil, by simp⟩
    · show st2.begun = _
      have hcl : calls (Ev.call c :: (seg ++ [.fin c (valueOf (S.at c).fn (res.map (·.val))) [] true])) = 1 + calls seg := by
        unfold calls
        rw [List.countP_cons, List.countP_append]
        simp [isCall]
        omega
      rw [l3', hcl]
      omega
    · have := opens_mono (S := S) (rk := rk) hext (rk c)
      show (Ev.call c :: (seg ++ _)).length + 3260 * openN S rk (st2.board.set c _) (rk c) ≤ _
      simp only [List.length_cons, List.length_append, List.length_nil]
      omega
  · have e1 : close ex c (valueOf (S.at c).fn (res.map (·.val))) (taintOf c res) (usedOf c res) st2 = (⟨valueOf (S.at c).fn (res.map (·.val)), taintOf c res, usedOf c res⟩, { st2 with log := st2.log ++ [.fin c (valueOf (S.at c).fn (res.map (·.val))) (taintOf c res) false], known := if ex then st2.known ++ [⟨c, valueOf (S.at c).fn (res.map (·.val)), taintOf c res, usedOf c res⟩] else st2.known }) := if_neg hT
    rw [e1]
    have hrow : RowOk S rk ⟨c, valueOf (S.at c).fn (res.map (·.val)), taintOf c res, usedOf c res⟩ :=
      ⟨pre.cN, hlev, asc_norm _, hT, fun x hx => pre.bl x (htB x hx), htR, asc_norm _, fun x hx => (huN x hx).1⟩
    refine ⟨⟨m.bok, m.ext, fun x hx => m.free x (List.mem_append_left _ hx), fun w hw => ?_, ?_, ⟨Ev.call c :: (seg ++ [.fin c (valueOf (S.at c).fn (res.map (·.val))) (taintOf c res) false]), ?_, fun e he => ?_, ?_, ?_⟩⟩, hlev, asc_norm _, htB, htR, asc_norm _, huN, fun z => (hT z).elim, fun z => (cheapNo z).elim⟩
    · have hw' : w ∈ if ex = true then st2.known ++ [⟨c, valueOf (S.at c).fn (res.map (·.val)), taintOf c res, usedOf c res⟩] else st2.known := hw
      split at hw'
      · rcases List.mem_append.mp hw' with q | q
        · exact m.known w q
        · rw [List.mem_singleton.mp q]; exact hrow
      · exact m.known w hw'
    · show ∃ k, (if ex = true then st2.known ++ [⟨c, valueOf (S.at c).fn (res.map (·.val)), taintOf c res, usedOf c res⟩] else st2.known) = st.known ++ k
      have hkn' : st2.known = st.known ++ kn := hkn
      split
      · exact ⟨kn ++ [⟨c, valueOf (S.at c).fn (res.map (·.val)), taintOf c res, usedOf c res⟩], by rw [hkn', List.append_assoc]⟩
      · exact ⟨kn, hkn'⟩
    · show st2.log ++ _ = _
      rw [l1']; simp
    · rcases List.mem_cons.mp he with e | e
      · rw [e]; exact pre.cN
      · rcases List.mem_append.mp e with e | e
        · exact l2 _ e
        · rw [List.mem_singleton.mp e]
          exact ⟨pre.cN, hlev, asc_norm _, fun x hx => pre.bl x (htB x hx)⟩
    · show st2.begun = _
      have hcl : calls (Ev.call c :: (seg ++ [.fin c (valueOf (S.at c).fn (res.map (·.val))) (taintOf c res) false])) = 1 + calls seg := by
        unfold calls
        rw [List.countP_cons, List.countP_append]
        simp [isCall]
        omega
      rw [l3', hcl]
      omega
    · show (Ev.call c :: (seg ++ _)).length + 3260 * openN S rk st2.board (rk c) ≤ _
      simp only [List.length_cons, List.length_append, List.length_nil]
      omega
theorem hit_ok {b : Board} {B : List Nat} {c : Nat} {r : Row} (h : hit b B c r = true) : r.cell = c ∧ (∀ x ∈ r.taint, x ∈ B) ∧ ∀ x ∈ r.used, x ∉ B ∧ bat b x = none := by
  unfold hit at h
  rw [Bool.and_eq_true, Bool.and_eq_true] at h
  obtain ⟨⟨h1, h2⟩, h3⟩ := h
  refine ⟨by simpa using h1, fun x hx => by simpa using List.all_eq_true.mp h2 x hx, fun x hx => ?_⟩
  have q := List.all_eq_true.mp h3 x hx
  rw [Bool.and_eq_true] at q
  exact ⟨by simpa using q.1, by simpa using q.2⟩
theorem M_ok (ok : SysOk S rk bs) : ∀ (f : Nat) (st : St) (B : List Nat) (c : Nat), S.length < f + B.length → Pre S rk st B c → Post S rk st B c (M ex S f st B c).1 (M ex S f st B c).2
  | 0, st, B, c, hf, pre => by
    have := nodup_le pre.bn pre.bl
    omega
  | f + 1, st, B, c, hf, pre => by
    show Post S rk st B c (callB (M ex S f) ex S st B c).1 (callB (M ex S f) ex S st B c).2
    unfold callB
    cases h0 : bat st.board c with
    | some v =>
      have lv := pre.bok.lev c v h0
      have md : ∀ q, Mid S rk B st (st.say (.stored c v)) 1 q := fun q => mid_say pre.bok pre.bfree pre.known ⟨pre.cN, lv⟩ rfl
      exact ⟨(md _).mono (W_pos _), lv, List.Pairwise.nil, by simp, by simp, List.Pairwise.nil, by simp, fun _ => h0, fun _ q => md q⟩
    | none =>
      show Post S rk st B c (if c ∈ B then ((⟨(S.at c).g, [c], []⟩ : Res), st.say (.busy c (S.at c).g)) else evalX (M ex S f) ex S st B c).1 (if c ∈ B then ((⟨(S.at c).g, [c], []⟩ : Res), st.say (.busy c (S.at c).g)) else evalX (M ex S f) ex S st B c).2
      by_cases hB : c ∈ B
      · rw [if_pos hB]
        have lv := ok.gOk c pre.cN
        have md : ∀ q, Mid S rk B st (st.say (.busy c (S.at c).g)) 1 q := fun q => mid_say pre.bok pre.bfree pre.known ⟨pre.cN, lv⟩ rfl
        exact ⟨(md _).mono (W_pos _), lv, by simp [Asc], by simpa using hB, by simp, List.Pairwise.nil, by simp, fun h => (by cases h), fun _ q => md q⟩
      · rw [if_neg hB]
        unfold evalX
        have ev := evalB_ok (ex := ex) ok pre h0 hB (F := M ex S f) fun s o p => M_ok ok f s (B ++ [c]) o (by rw [List.length_append, List.length_singleton]; omega) p
        cases hx : (if ex = true then st.known.find? (hit st.board B c) else none) with
        | none => exact ev
        | some r =>
          have hx' : st.known.find? (hit st.board B c) = some r := by
            split at hx
            · exact hx
            · cases hx
          have hr := pre.known r (List.mem_of_find?_eq_some hx')
          obtain ⟨e1, e2, e3⟩ := hit_ok (List.find?_some hx')
          have md : ∀ q, Mid S rk B st (st.say (.reused c r.val r.taint)) 1 q := fun q => mid_say pre.bok pre.bfree pre.known ⟨pre.cN, hr.lev, hr.tasc, hr.tN⟩ rfl
          exact ⟨(md _).mono (W_pos _), hr.lev, hr.tasc, e2, fun x hx => by have := hr.tR x hx; rw [e1] at this; exact this, hr.uasc, fun x hx => ⟨hr.uN x hx, (e3 x hx).1⟩, fun h => (hr.tne h).elim, fun _ q => md q⟩
end
end K19
/-! The plain law, part 4: a remembered result is what the plain evaluation returns; the exact run and the plain one agree. -/
namespace K19
/-- the plain evaluation (nothing remembered): value, taint, the board behind, how many evaluations -/
structure CR where
  val : Int
  taint : List Nat
  board : Board
  cnt : Nat
def cOps (F : Board → Nat → CR) : Board → List Nat → List CR × Board
  | b, [] => ([], b)
  | b, o :: r => (F b o :: (cOps F (F b o).board r).1, (cOps F (F b o).board r).2)
def taintL (c : Nat) (ts : List (List Nat)) : List Nat := norm (ts.flatten.filter fun x => x != c)
def cClose (c : Nat) (v : Int) (T : List Nat) (b : Board) (k : Nat) : CR := if T = [] then ⟨v, [], b.set c (some v), k⟩ else ⟨v, T, b, k⟩
def cBody (F : Board → List Nat → Nat → CR) (S : Sys) (b : Board) (B : List Nat) (c : Nat) : CR :=
  cClose c (valueOf (S.at c).fn ((cOps (fun b o => F b (B ++ [c]) o) b (S.at c).ops).1.map (·.val))) (taintL c ((cOps (fun b o => F b (B ++ [c]) o) b (S.at c).ops).1.map (·.taint)))
    (cOps (fun b o => F b (B ++ [c]) o) b (S.at c).ops).2 (1 + lsum ((cOps (fun b o => F b (B ++ [c]) o) b (S.at c).ops).1.map (·.cnt)))
def C (S : Sys) : Nat → Board → List Nat → Nat → CR
  | 0, b, _, _ => ⟨0, [], b, 0⟩
  | f + 1, b, B, c => match bat b c with
    | some v => ⟨v, [], b, 0⟩
    | none => if c ∈ B then ⟨(S.at c).g, [c], b, 0⟩ else cBody (C S f) S b B c
theorem taintL_of (c : Nat) (rs : List Res) : taintOf c rs = taintL c (rs.map (·.taint)) := by
  unfold taintOf taintL
  rw [List.flatMap_def]
section
variable {S : Sys} {rk : Nat → Nat} {bs : Nat} {ex : Bool}
abbrev Extd (b b' : Board) : Prop := ∀ x v, bat b x = some v → bat b' x = some v
/-- a result that is exact wherever its taint is busy and its set is neither busy nor stored -/
def RV (S : Sys) (b : Board) (c : Nat) (v : Int) (T U : List Nat) : Prop := ∀ (b' : Board) (B : List Nat) (f : Nat), Extd b b' → S.length < f + B.length → B.Nodup → (∀ x ∈ B, x < S.length) → (∀ x ∈ B, bat b' x = none) →
  (∀ x ∈ T, x ∈ B) → (∀ x ∈ U, x ∉ B ∧ bat b' x = none) → (C S f b' B c).val = v ∧ (C S f b' B c).taint = T ∧ (C S f b' B c).board = b'
theorem RV.mono {b b2 : Board} {c : Nat} {v : Int} {T U : List Nat} (h : RV S b c v T U) (e : Extd b b2) : RV S b2 c v T U := fun b' B f e' => h b' B f fun x v q => e' x v (e x v q)
theorem rv_stored {b : Board} {c : Nat} {v : Int} (h : bat b c = some v) : RV S b c v [] [] := fun b' B f e hf hn hl _ _ _ => by
  have hb := e c v h
  cases f with
  | zero => have := nodup_le hn hl; omega
  | succ f =>
    have e1 : C S (f + 1) b' B c = ⟨v, [], b', 0⟩ := by
      show (match bat b' c with
        | some v => (⟨v, [], b', 0⟩ : CR)
        | none => if c ∈ B then ⟨(S.at c).g, [c], b', 0⟩ else cBody (C S f) S b' B c) = _
      rw [hb]
    rw [e1]
    exact ⟨rfl, rfl, rfl⟩
theorem rv_busy {b : Board} {c : Nat} : RV S b c (S.at c).g [c] [] := fun b' B f e hf hn hl hfr hT _ => by
  have hB := hT c (List.mem_singleton.mpr rfl)
  cases f with
  | zero => have := nodup_le hn hl; omega
  | succ f =>
    have e1 : C S (f + 1) b' B c = ⟨(S.at c).g, [c], b', 0⟩ := by
      show (match bat b' c with
        | some v => (⟨v, [], b', 0⟩ : CR)
        | none => if c ∈ B then ⟨(S.at c).g, [c], b', 0⟩ else cBody (C S f) S b' B c) = _
      rw [hfr c hB]
      exact if_pos hB
    rw [e1]
    exact ⟨rfl, rfl, rfl⟩
/-- the operands' results, each exact: the plain evaluation of the operands gives them, the board stays -/
theorem cOps_rv {F : Board → Nat → CR} {b : Board} : ∀ {ops : List Nat} {rs : List Res}, ops.length = rs.length →
    (∀ (i : Nat) o r, ops[i]? = some o → rs[i]? = some r → (F b o).val = r.val ∧ (F b o).taint = r.taint ∧ (F b o).board = b) →
    (cOps F b ops).1.map (·.val) = rs.map (·.val) ∧ (cOps F b ops).1.map (·.taint) = rs.map (·.taint) ∧ (cOps F b ops).2 = b
  | [], [], _, _ => ⟨rfl, rfl, rfl⟩
  | [], _ :: _, h, _ => by cases h
  | _ :: _, [], h, _ => by cases h
  | o :: ops, r :: rs, hl, h => by
    obtain ⟨h1, h2, h3⟩ := h 0 o r rfl rfl
    have ih := cOps_rv (F := F) (b := b) (ops := ops) (rs := rs) (by simpa using hl) fun i o' r' ho hr => h (i + 1) o' r' (by simpa using ho) (by simpa using hr)
    show (F b o).val :: ((cOps F (F b o).board ops).1.map (·.val)) = _ ∧ (F b o).taint :: ((cOps F (F b o).board ops).1.map (·.taint)) = _ ∧ (cOps F (F b o).board ops).2 = b
    rw [h3]
    exact ⟨by rw [ih.1, h1, List.map_cons], by rw [ih.2.1, h2, List.map_cons], ih.2.2⟩
theorem rv_eval {b : Board} {c : Nat} {rs : List Res} (hl : (S.at c).ops.length = rs.length) (hc : c < S.length) (hT : taintOf c rs ≠ [])
    (h : ∀ (i : Nat) o r, (S.at c).ops[i]? = some o → rs[i]? = some r → RV S b o r.val r.taint r.used ∧ c ∉ r.used) :
    RV S b c (valueOf (S.at c).fn (rs.map (·.val))) (taintOf c rs) (usedOf c rs) := fun b' B f e hf hn hlt hfr hTB hU => by
  have hcU : c ∈ usedOf c rs := mem_usedOf.mpr (.inl rfl)
  obtain ⟨hcB, hc0⟩ := hU c hcU
  cases f with
  | zero => have := nodup_le hn hlt; omega
  | succ f =>
    have e1 : C S (f + 1) b' B c = cBody (C S f) S b' B c := by
      show (match bat b' c with
        | some v => (⟨v, [], b', 0⟩ : CR)
        | none => if c ∈ B then ⟨(S.at c).g, [c], b', 0⟩ else cBody (C S f) S b' B c) = _
      rw [hc0]
      exact if_neg hcB
    have nd : (B ++ [c]).Nodup := List.nodup_append.mpr ⟨hn, by simp, fun a ha x hx q => by rw [List.mem_singleton.mp hx] at q; exact hcB (q ▸ ha)⟩
    obtain ⟨k1, k2, k3⟩ := cOps_rv (F := fun b o => C S f b (B ++ [c]) o) (b := b') hl fun i o r ho hr => by
      obtain ⟨q, qc⟩ := h i o r ho hr
      have hrm : r ∈ rs := List.mem_of_getElem? hr
      refine q b' (B ++ [c]) f e (by rw [List.length_append, List.length_singleton]; omega) nd (fun x hx => ?_) (fun x hx => ?_) (fun x hx => ?_) fun x hx => ?_
      · rcases List.mem_append.mp hx with z | z
        · exact hlt x z
        · rw [List.mem_singleton.mp z]; exact hc
      · rcases List.mem_append.mp hx with z | z
        · exact hfr x z
        · rw [List.mem_singleton.mp z]; exact hc0
      · by_cases hxc : x = c
        · rw [hxc]; exact List.mem_append_right _ (List.mem_singleton.mpr rfl)
        · exact List.mem_append_left _ (hTB x (mem_taintOf.mpr ⟨hxc, r, hrm, hx⟩))
      · obtain ⟨z1, z2⟩ := hU x (mem_usedOf.mpr (.inr ⟨r, hrm, hx⟩))
        refine ⟨fun z => ?_, z2⟩
        rcases List.mem_append.mp z with z | z
        · exact z1 z
        · rw [List.mem_singleton.mp z] at hx; exact qc hx
    rw [e1]
    unfold cBody
    rw [k1, k2, k3, ← taintL_of]
    unfold cClose
    rw [if_neg hT]
    exact ⟨rfl, rfl, rfl⟩
/-- the simulation of one call -/
structure Sim (S : Sys) (ex : Bool) (st : St) (c : Nat) (x : CR) (r : Res) (st' : St) : Prop where
  val : x.val = r.val
  taint : x.taint = r.taint
  board : x.board = st'.board
  le : st'.begun ≤ st.begun + x.cnt
  eq : ex = false → st'.begun = st.begun + x.cnt
  rv : RV S st'.board c r.val r.taint r.used
  known : ∀ w ∈ st'.known, RV S st'.board w.cell w.val w.taint w.used
theorem ops_sim {F : St → Nat → Res × St} {G : Board → Nat → CR} {B : List Nat} {r : Nat} : ∀ (ops : List Nat) (st : St), BoardOk S st.board → (∀ x ∈ B, bat st.board x = none) → (∀ w ∈ st.known, RowOk S rk w) → (∀ w ∈ st.known, RV S st.board w.cell w.val w.taint w.used) →
    (∀ o ∈ ops, ∀ s : St, BoardOk S s.board → (∀ x ∈ B, bat s.board x = none) → (∀ w ∈ s.known, RowOk S rk w) → (∀ w ∈ s.known, RV S s.board w.cell w.val w.taint w.used) →
      (∃ k, Mid S rk B s (F s o).2 k r) ∧ ResOk S rk B r (F s o).1 ∧ Sim S ex s o (G s.board o) (F s o).1 (F s o).2) →
    (cOps G st.board ops).1.map (·.val) = (runOps F st ops).1.map (·.val) ∧ (cOps G st.board ops).1.map (·.taint) = (runOps F st ops).1.map (·.taint) ∧ (cOps G st.board ops).2 = (runOps F st ops).2.board ∧
      (runOps F st ops).2.begun ≤ st.begun + lsum ((cOps G st.board ops).1.map (·.cnt)) ∧ (ex = false → (runOps F st ops).2.begun = st.begun + lsum ((cOps G st.board ops).1.map (·.cnt))) ∧
      (∀ w ∈ (runOps F st ops).2.known, RV S (runOps F st ops).2.board w.cell w.val w.taint w.used) ∧ Extd st.board (runOps F st ops).2.board ∧
      ∀ (i : Nat) o x, ops[i]? = some o → (runOps F st ops).1[i]? = some x → RV S (runOps F st ops).2.board o x.val x.taint x.used
  | [], st, _, _, _, k, _ => ⟨rfl, rfl, rfl, Nat.le_refl _, fun _ => rfl, k, fun _ _ h => h, fun i o x h => by simp at h⟩
  | o :: ops, st, b, f, ko, k, h => by
    obtain ⟨⟨kk, m⟩, rok, sm⟩ := h o List.mem_cons_self st b f ko k
    obtain ⟨h1, h2, h3, h4, h5, h6, h7, h8⟩ := ops_sim ops (F st o).2 m.bok m.free m.known sm.known fun o' ho' => h o' (List.mem_cons_of_mem _ ho')
    have hb := sm.board
    show (G st.board o).val :: ((cOps G (G st.board o).board ops).1.map (·.val)) = _ :: _ ∧ (G st.board o).taint :: ((cOps G (G st.board o).board ops).1.map (·.taint)) = _ :: _ ∧ (cOps G (G st.board o).board ops).2 = (runOps F (F st o).2 ops).2.board ∧
      (runOps F (F st o).2 ops).2.begun ≤ st.begun + ((G st.board o).cnt + lsum ((cOps G (G st.board o).board ops).1.map (·.cnt))) ∧ (ex = false → (runOps F (F st o).2 ops).2.begun = st.begun + ((G st.board o).cnt + lsum ((cOps G (G st.board o).board ops).1.map (·.cnt)))) ∧
      (∀ w ∈ (runOps F (F st o).2 ops).2.known, RV S (runOps F (F st o).2 ops).2.board w.cell w.val w.taint w.used) ∧ Extd st.board (runOps F (F st o).2 ops).2.board ∧ _
    rw [hb]
    refine ⟨by rw [h1, sm.val], by rw [h2, sm.taint], h3, by have := sm.le; omega, fun e => by have := sm.eq e; have := h5 e; omega, h6, fun x v q => h7 x v (m.ext x v q), fun i o' x ho hx => ?_⟩
    cases i with
    | zero =>
      have e1 : o = o' := by simpa using ho
      have e2 : (F st o).1 = x := by
        have : ((F st o).1 :: (runOps F (F st o).2 ops).1)[0]? = some x := hx
        simpa using this
      rw [← e1, ← e2]
      exact sm.rv.mono h7
    | succ i =>
      refine h8 i o' x (by simpa using ho) ?_
      have : ((F st o).1 :: (runOps F (F st o).2 ops).1)[i + 1]? = some x := hx
      simpa using this
theorem M_sim (ok : SysOk S rk bs) : ∀ (f : Nat) (st : St) (B : List Nat) (c : Nat), S.length < f + B.length → Pre S rk st B c → (∀ w ∈ st.known, RV S st.board w.cell w.val w.taint w.used) →
    Sim S ex st c (C S f st.board B c) (M ex S f st B c).1 (M ex S f st B c).2
  | 0, st, B, c, hf, pre, _ => by
    have := nodup_le pre.bn pre.bl
    omega
  | f + 1, st, B, c, hf, pre, kn => by
    show Sim S ex st c (match bat st.board c with
        | some v => (⟨v, [], st.board, 0⟩ : CR)
        | none => if c ∈ B then ⟨(S.at c).g, [c], st.board, 0⟩ else cBody (C S f) S st.board B c) (callB (M ex S f) ex S st B c).1 (callB (M ex S f) ex S st B c).2
    unfold callB
    cases h0 : bat st.board c with
    | some v => exact ⟨rfl, rfl, rfl, Nat.le_refl _, fun _ => rfl, rv_stored h0, kn⟩
    | none =>
      show Sim S ex st c (if c ∈ B then ⟨(S.at c).g, [c], st.board, 0⟩ else cBody (C S f) S st.board B c) (if c ∈ B then ((⟨(S.at c).g, [c], []⟩ : Res), st.say (.busy c (S.at c).g)) else evalX (M ex S f) ex S st B c).1 (if c ∈ B then ((⟨(S.at c).g, [c], []⟩ : Res), st.say (.busy c (S.at c).g)) else evalX (M ex S f) ex S st B c).2
      by_cases hB : c ∈ B
      · rw [if_pos hB, if_pos hB]
        exact ⟨rfl, rfl, rfl, Nat.le_refl _, fun _ => rfl, rv_busy, kn⟩
      · rw [if_neg hB, if_neg hB]
        have hlen : S.length < f + (B ++ [c]).length := by rw [List.length_append, List.length_singleton]; omega
        have hF : ∀ s o, Pre S rk s (B ++ [c]) o → Post S rk s (B ++ [c]) o (M ex S f s (B ++ [c]) o).1 (M ex S f s (B ++ [c]) o).2 := fun s o p => M_ok ok f s (B ++ [c]) o hlen p
        obtain ⟨step, bfree', m, rs⟩ := ops_mid ok pre h0 hB hF
        have ev : Sim S ex st c (cBody (C S f) S st.board B c) (evalB (M ex S f) ex S st B c).1 (evalB (M ex S f) ex S st B c).2 := by
          obtain ⟨h1, h2, h3, h4, h5, h6, h7, h8⟩ := ops_sim (rk := rk) (r := rk c) (ex := ex) (F := fun s o => M ex S f s (B ++ [c]) o) (G := fun b o => C S f b (B ++ [c]) o) (S.at c).ops (opened st c) pre.bok bfree' pre.known kn fun o ho s b fr k1 k2 => by
            obtain ⟨p, q1, q2⟩ := step o ho s b fr k1
            exact ⟨⟨_, q1⟩, q2, M_sim ok f s (B ++ [c]) o hlen p k2⟩
          have hrl := runOps_len (F := fun s o => M ex S f s (B ++ [c]) o) (S.at c).ops (opened st c)
          have hbo : (opened st c).board = st.board := rfl
          have hbg : (opened st c).begun = st.begun + 1 := rfl
          rw [hbo] at h1 h2 h3 h4 h5
          rw [hbg] at h4 h5
          unfold evalB cBody
          rw [h1, h2, h3, ← taintL_of]
          generalize lsum ((cOps (fun b o => C S f b (B ++ [c]) o) st.board (S.at c).ops).1.map (·.cnt)) = n at h4 h5
          generalize runOps (fun s o => M ex S f s (B ++ [c]) o) (opened st c) (S.at c).ops = ro at m rs h4 h5 h6 h7 h8 hrl
          obtain ⟨res, st2⟩ := ro
          dsimp only at m rs h4 h5 h6 h7 h8 hrl ⊢
          have hc0 : bat st2.board c = none := m.free c (List.mem_append_right _ (List.mem_singleton.mpr rfl))
          have hcl : c < st2.board.length := by rw [m.bok.len]; exact pre.cN
          unfold cClose close
          by_cases hT : taintOf c res = []
          · rw [if_pos hT, if_pos hT]
            have hext : Extd st2.board (st2.board.set c (some (valueOf (S.at c).fn (res.map (·.val))))) := fun x v h => by
              have hx : x ≠ c := fun e => by rw [e, hc0] at h; cases h
              rw [bat_set_ne hx]; exact h
            exact ⟨rfl, rfl, rfl, by show st2.begun ≤ st.begun + (1 + n); omega, fun e => by have := h5 e; show st2.begun = st.begun + (1 + n); omega, rv_stored (bat_set_same hcl), fun w hw => (h6 w hw).mono hext⟩
          · rw [if_neg hT, if_neg hT]
            have hrv : RV S st2.board c (valueOf (S.at c).fn (res.map (·.val))) (taintOf c res) (usedOf c res) := rv_eval hrl.symm pre.cN hT fun i o r ho hr =>
              ⟨h8 i o r ho hr, fun z => ((rs r (List.mem_of_getElem? hr)).uN c z).2 (List.mem_append_right _ (List.mem_singleton.mpr rfl))⟩
            refine ⟨rfl, rfl, rfl, by show st2.begun ≤ st.begun + (1 + n); omega, fun e => by have := h5 e; show st2.begun = st.begun + (1 + n); omega, hrv, fun w hw => ?_⟩
            have hw' : w ∈ if ex = true then st2.known ++ [⟨c, valueOf (S.at c).fn (res.map (·.val)), taintOf c res, usedOf c res⟩] else st2.known := hw
            split at hw'
            · rcases List.mem_append.mp hw' with q | q
              · exact h6 w q
              · rw [List.mem_singleton.mp q]; exact hrv
            · exact h6 w hw'
        unfold evalX
        cases hx : (if ex = true then st.known.find? (hit st.board B c) else none) with
        | none => exact ev
        | some r =>
          have hex : ex = true := by
            cases ex with
            | true => rfl
            | false => cases hx
          have hx' : st.known.find? (hit st.board B c) = some r := by
            rw [hex] at hx
            exact hx
          obtain ⟨e1, e2, e3⟩ := hit_ok (List.find?_some hx')
          have hr := kn r (List.mem_of_find?_eq_some hx')
          rw [e1] at hr
          obtain ⟨k1, k2, k3⟩ := hr st.board B (f + 1) (fun _ _ h => h) hf pre.bn pre.bl pre.bfree e2 e3
          have ec : C S (f + 1) st.board B c = cBody (C S f) S st.board B c := by
            show (match bat st.board c with
              | some v => (⟨v, [], st.board, 0⟩ : CR)
              | none => if c ∈ B then ⟨(S.at c).g, [c], st.board, 0⟩ else cBody (C S f) S st.board B c) = _
            rw [h0]
            exact if_neg hB
          rw [ec] at k1 k2 k3
          exact ⟨k1, k2, k3, Nat.le_add_right _ _, fun e => (by rw [hex] at e; cases e), hr, kn⟩
end
end K19
/-! The plain law, part 5: the log read again: each reused result is what the plain evaluation gives at its place. -/
namespace K19
def rep (S : Sys) (fu : Nat) : Nat → Board → List Nat → List Ev → Bool
  | _, _, _, [] => true
  | k, b, B, .call c :: r => rep S fu k b (B ++ [c]) r
  | k, b, B, .fin c v _ kept :: r => rep S fu k (if kept then b.set c (some v) else b) B.dropLast r
  | k, b, B, .reused c v T :: r => if 0 < k then (if (C S fu b B c).val = v ∧ (C S fu b B c).taint = T then rep S fu (k - 1) b B r else false) else rep S fu k b B r
  | k, b, B, .stored _ _ :: r => rep S fu k b B r
  | k, b, B, .busy _ _ :: r => rep S fu k b B r
section
variable {S : Sys} {rk : Nat → Nat} {bs fu : Nat}
def Rep (S : Sys) (fu : Nat) (B : List Nat) (st st' : St) : Prop := ∃ seg, st'.log = st.log ++ seg ∧ ∀ k rest, ∃ k', rep S fu k st.board B (seg ++ rest) = rep S fu k' st'.board B rest
theorem Rep.refl {B : List Nat} {st : St} : Rep S fu B st st := ⟨[], by simp, fun k rest => ⟨k, rfl⟩⟩
theorem Rep.trans {B : List Nat} {s1 s2 s3 : St} (h : Rep S fu B s1 s2) (h' : Rep S fu B s2 s3) : Rep S fu B s1 s3 := by
  obtain ⟨g1, l1, r1⟩ := h
  obtain ⟨g2, l2, r2⟩ := h'
  refine ⟨g1 ++ g2, by rw [l2, l1, List.append_assoc], fun k rest => ?_⟩
  obtain ⟨k1, e1⟩ := r1 k (g2 ++ rest)
  obtain ⟨k2, e2⟩ := r2 k1 rest
  exact ⟨k2, by rw [List.append_assoc, e1, e2]⟩
theorem ops_rep {F : St → Nat → Res × St} {B : List Nat} {r : Nat} : ∀ (ops : List Nat) (st : St), BoardOk S st.board → (∀ x ∈ B, bat st.board x = none) → (∀ w ∈ st.known, RowOk S rk w) → (∀ w ∈ st.known, RV S st.board w.cell w.val w.taint w.used) →
    (∀ o ∈ ops, ∀ s : St, BoardOk S s.board → (∀ x ∈ B, bat s.board x = none) → (∀ w ∈ s.known, RowOk S rk w) → (∀ w ∈ s.known, RV S s.board w.cell w.val w.taint w.used) →
      (∃ k, Mid S rk B s (F s o).2 k r) ∧ (∀ w ∈ (F s o).2.known, RV S (F s o).2.board w.cell w.val w.taint w.used) ∧ Rep S fu B s (F s o).2) →
    Rep S fu B st (runOps F st ops).2
  | [], st, _, _, _, _, _ => Rep.refl
  | o :: ops, st, b, f, k1, k2, h => by
    obtain ⟨⟨_, m⟩, kn, rp⟩ := h o List.mem_cons_self st b f k1 k2
    exact rp.trans (ops_rep ops (F st o).2 m.bok m.free m.known kn fun o' ho' => h o' (List.mem_cons_of_mem _ ho'))
theorem M_rep (ok : SysOk S rk bs) (hfu : S.length < fu) : ∀ (f : Nat) (st : St) (B : List Nat) (c : Nat), S.length < f + B.length → Pre S rk st B c → (∀ w ∈ st.known, RV S st.board w.cell w.val w.taint w.used) →
    Rep S fu B st (M true S f st B c).2
  | 0, st, B, c, hf, pre, _ => by
    have := nodup_le pre.bn pre.bl
    omega
  | f + 1, st, B, c, hf, pre, kn => by
    show Rep S fu B st (callB (M true S f) true S st B c).2
    unfold callB
    cases h0 : bat st.board c with
    | some v => exact ⟨[.stored c v], rfl, fun k rest => ⟨k, rfl⟩⟩
    | none =>
      show Rep S fu B st (if c ∈ B then ((⟨(S.at c).g, [c], []⟩ : Res), st.say (.busy c (S.at c).g)) else evalX (M true S f) true S st B c).2
      by_cases hB : c ∈ B
      · rw [if_pos hB]
        exact ⟨[.busy c (S.at c).g], rfl, fun k rest => ⟨k, rfl⟩⟩
      · rw [if_neg hB]
        have hlen : S.length < f + (B ++ [c]).length := by rw [List.length_append, List.length_singleton]; omega
        unfold evalX
        rw [if_pos rfl]
        cases hx : st.known.find? (hit st.board B c) with
        | some r =>
          obtain ⟨e1, e2, e3⟩ := hit_ok (List.find?_some hx)
          have hr := kn r (List.mem_of_find?_eq_some hx)
          rw [e1] at hr
          obtain ⟨k1, k2, k3⟩ := hr st.board B fu (fun _ _ h => h) (by omega) pre.bn pre.bl pre.bfree e2 e3
          refine ⟨[.reused c r.val r.taint], rfl, fun k rest => ?_⟩
          show ∃ k', (if 0 < k then (if (C S fu st.board B c).val = r.val ∧ (C S fu st.board B c).taint = r.taint then rep S fu (k - 1) st.board B rest else false) else rep S fu k st.board B rest) = rep S fu k' st.board B rest
          by_cases hk : 0 < k
          · rw [if_pos hk, if_pos ⟨k1, k2⟩]; exact ⟨_, rfl⟩
          · rw [if_neg hk]; exact ⟨_, rfl⟩
        | none =>
          have hF : ∀ s o, Pre S rk s (B ++ [c]) o → Post S rk s (B ++ [c]) o (M true S f s (B ++ [c]) o).1 (M true S f s (B ++ [c]) o).2 := fun s o p => M_ok ok f s (B ++ [c]) o hlen p
          obtain ⟨step, bfree', m, rs⟩ := ops_mid ok pre h0 hB hF
          have h := ops_rep (rk := rk) (r := rk c) (fu := fu) (F := fun s o => M true S f s (B ++ [c]) o) (B := B ++ [c]) (S.at c).ops (opened st c) pre.bok bfree' pre.known kn fun o ho s b fr k1 k2 => by
            obtain ⟨p, q1, q2⟩ := step o ho s b fr k1
            exact ⟨⟨_, q1⟩, (M_sim (ex := true) ok f s (B ++ [c]) o hlen p k2).known, M_rep ok hfu f s (B ++ [c]) o hlen p k2⟩
          show Rep S fu B st (evalB (M true S f) true S st B c).2
          unfold evalB
          generalize runOps (fun s o => M true S f s (B ++ [c]) o) (opened st c) (S.at c).ops = ro at h
          obtain ⟨res, st2⟩ := ro
          dsimp only at h ⊢
          obtain ⟨seg, l, rp⟩ := h
          have l' : st2.log = st.log ++ [Ev.call c] ++ seg := l
          have drop : (B ++ [c]).dropLast = B := by simp
          unfold close
          by_cases hT : taintOf c res = []
          · rw [if_pos hT]
            refine ⟨Ev.call c :: (seg ++ [.fin c (valueOf (S.at c).fn (res.map (·.val))) [] true]), by show st2.log ++ _ = _; rw [l']; simp, fun k rest => ?_⟩
            obtain ⟨k', e⟩ := rp k (.fin c (valueOf (S.at c).fn (res.map (·.val))) [] true :: rest)
            refine ⟨k', ?_⟩
            show rep S fu k st.board (B ++ [c]) ((seg ++ [_]) ++ rest) = _
            rw [List.append_assoc]
            have e' : rep S fu k st.board (B ++ [c]) (seg ++ (.fin c (valueOf (S.at c).fn (res.map (·.val))) [] true :: rest)) = _ := e
            show rep S fu k st.board (B ++ [c]) (seg ++ (.fin c (valueOf (S.at c).fn (res.map (·.val))) [] true :: rest)) = _
            rw [e']
            show rep S fu k' (if true = true then _ else _) (B ++ [c]).dropLast rest = _
            rw [if_pos rfl, drop]
          · rw [if_neg hT]
            refine ⟨Ev.call c :: (seg ++ [.fin c (valueOf (S.at c).fn (res.map (·.val))) (taintOf c res) false]), by show st2.log ++ _ = _; rw [l']; simp, fun k rest => ?_⟩
            obtain ⟨k', e⟩ := rp k (.fin c (valueOf (S.at c).fn (res.map (·.val))) (taintOf c res) false :: rest)
            refine ⟨k', ?_⟩
            show rep S fu k st.board (B ++ [c]) ((seg ++ [_]) ++ rest) = _
            rw [List.append_assoc]
            have e' : rep S fu k st.board (B ++ [c]) (seg ++ (.fin c (valueOf (S.at c).fn (res.map (·.val))) (taintOf c res) false :: rest)) = _ := e
            show rep S fu k st.board (B ++ [c]) (seg ++ (.fin c (valueOf (S.at c).fn (res.map (·.val))) (taintOf c res) false :: rest)) = _
            rw [e']
            show rep S fu k' (if false = true then _ else _) (B ++ [c]).dropLast rest = _
            rw [if_neg Bool.false_ne_true, drop]
end
end K19
/-! The plain law, part 6: reaching and components. -/
namespace K19
inductive Rch (S : Sys) (c : Nat) : Nat → Prop where
  | refl : Rch S c c
  | step {x o : Nat} : Rch S c x → o ∈ (S.at x).ops → Rch S c o
theorem Rch.trans {S : Sys} {a b : Nat} (h : Rch S a b) : ∀ {c : Nat}, Rch S b c → Rch S a c := fun {c} q => by
  induction q with
  | refl => exact h
  | step _ ho ih => exact ih.step ho
noncomputable def rchB (S : Sys) (c x : Nat) : Bool := @decide (Rch S c x) (Classical.propDecidable _)
theorem rchB_iff {S : Sys} {c x : Nat} : rchB S c x = true ↔ Rch S c x := by
  unfold rchB
  exact @decide_eq_true_iff _ (Classical.propDecidable _)
noncomputable def comp (S : Sys) (c : Nat) : List Nat := (List.range S.length).filter fun o => rchB S c o && rchB S o c
noncomputable def ucomps (S : Sys) : List (List Nat) := ((List.range S.length).filter fun c => (comp S c).head? == some c).map (comp S)
def outside (S : Sys) (C left : List Nat) : Bool := C.any fun c => (S.at c).ops.any fun o => decide (o ∈ left) && !decide (o ∈ C)
noncomputable def deps (S : Sys) (c : Nat) : List Nat := (List.range S.length).filter fun o => rchB S o c
section
variable {S : Sys} {rk : Nat → Nat} {bs : Nat}
theorem Rch.lt (ok : SysOk S rk bs) {c x : Nat} (hc : c < S.length) (h : Rch S c x) : x < S.length := by
  induction h with
  | refl => exact hc
  | step _ ho ih => exact ok.opsL _ ih _ ho
theorem Rch.rank (ok : SysOk S rk bs) {c x : Nat} (hc : c < S.length) (h : Rch S c x) : rk x ≤ rk c := by
  induction h with
  | refl => exact Nat.le_refl _
  | step q ho ih => exact Nat.le_trans (ok.opsR _ (q.lt ok hc) _ ho) ih
/-- a set that is closed along operands, all of it reached: it is what is reached -/
theorem rch_of_closed {c : Nat} {F : List Nat} (hc : c ∈ F) (h : ∀ x ∈ F, ∀ o ∈ (S.at x).ops, o ∈ F) {x : Nat} (q : Rch S c x) : x ∈ F := by
  induction q with
  | refl => exact hc
  | step _ ho ih => exact h _ ih _ ho
theorem mem_comp {c x : Nat} : x ∈ comp S c ↔ x < S.length ∧ Rch S c x ∧ Rch S x c := by
  unfold comp
  rw [List.mem_filter, List.mem_range, Bool.and_eq_true, rchB_iff, rchB_iff]
theorem self_comp {c : Nat} (hc : c < S.length) : c ∈ comp S c := mem_comp.mpr ⟨hc, .refl, .refl⟩
theorem comp_nodup (S : Sys) (c : Nat) : (comp S c).Nodup := List.Pairwise.sublist List.filter_sublist List.nodup_range
theorem comp_len (ok : SysOk S rk bs) {c : Nat} (hc : c < S.length) : (comp S c).length ≤ 6 := by
  refine Nat.le_trans ?_ (Nat.le_trans (ok.blk (rk c)) ok.bs6)
  refine nodup_sub_le (comp_nodup S c) fun x hx => ?_
  obtain ⟨h1, h2, h3⟩ := mem_comp.mp hx
  rw [List.mem_filter]
  refine ⟨List.mem_range.mpr h1, ?_⟩
  have a := h2.rank ok hc
  have b := h3.rank ok h1
  simp
  omega
theorem mem_ucomps {C : List Nat} (h : C ∈ ucomps S) : ∃ c, c < S.length ∧ C = comp S c := by
  unfold ucomps at h
  obtain ⟨c, hc, e⟩ := List.mem_map.mp h
  exact ⟨c, List.mem_range.mp (List.mem_filter.mp hc).1, e.symm⟩
theorem outside_iff {C left : List Nat} : outside S C left = true ↔ ∃ x ∈ C, ∃ o ∈ (S.at x).ops, o ∈ left ∧ o ∉ C := by
  unfold outside
  rw [List.any_eq_true]
  constructor
  · rintro ⟨x, hx, h⟩
    obtain ⟨o, ho, q⟩ := List.any_eq_true.mp h
    rw [Bool.and_eq_true] at q
    exact ⟨x, hx, o, ho, by simpa using q.1, by simpa using q.2⟩
  · rintro ⟨x, hx, o, ho, q1, q2⟩
    exact ⟨x, hx, List.any_eq_true.mpr ⟨o, ho, by simp [q1, q2]⟩⟩
/-- among some components there is one that leads to no other one -/
theorem ready_ex (ok : SysOk S rk bs) {L : List (List Nat)} (hL : ∀ C ∈ L, ∃ c, c < S.length ∧ C = comp S c) : ∀ (n : Nat) (C : List Nat) (c : Nat), C ∈ L → c < S.length → C = comp S c → ((List.range S.length).filter (rchB S c)).length ≤ n →
    ∃ D ∈ L, outside S D L.flatten = false
  | 0, C, c, hC, hc, e, hn => by
    have : c ∈ (List.range S.length).filter (rchB S c) := List.mem_filter.mpr ⟨List.mem_range.mpr hc, rchB_iff.mpr .refl⟩
    have := List.length_pos_of_mem this
    omega
  | n + 1, C, c, hC, hc, e, hn => by
    cases ho : outside S C L.flatten with
    | false => exact ⟨C, hC, ho⟩
    | true =>
      obtain ⟨x, hx, o, hox, hol, hoC⟩ := outside_iff.mp ho
      obtain ⟨D, hD, hoD⟩ := List.mem_flatten.mp hol
      obtain ⟨d, hd, eD⟩ := hL D hD
      rw [e] at hx hoC
      rw [eD] at hoD
      obtain ⟨x1, x2, x3⟩ := mem_comp.mp hx
      obtain ⟨o1, o2, o3⟩ := mem_comp.mp hoD
      have rco : Rch S c o := x2.step hox
      have rcd : Rch S c d := rco.trans o3
      have ndc : ¬ Rch S d c := fun z => hoC (mem_comp.mpr ⟨o1, rco, o3.trans z⟩)
      refine ready_ex ok hL n D d hD hd eD ?_
      have hlt : ((List.range S.length).filter (rchB S d)).length + 1 ≤ ((List.range S.length).filter (rchB S c)).length := by
        have h1 : (c :: (List.range S.length).filter (rchB S d)).length ≤ ((List.range S.length).filter (rchB S c)).length := by
          refine nodup_sub_le (List.nodup_cons.mpr ⟨fun z => ?_, List.Pairwise.sublist List.filter_sublist List.nodup_range⟩) fun y hy => ?_
          · exact ndc (rchB_iff.mp (List.mem_filter.mp z).2)
          · rcases List.mem_cons.mp hy with z | z
            · rw [z]; exact List.mem_filter.mpr ⟨List.mem_range.mpr hc, rchB_iff.mpr .refl⟩
            · obtain ⟨z1, z2⟩ := List.mem_filter.mp z
              exact List.mem_filter.mpr ⟨z1, rchB_iff.mpr (rcd.trans (rchB_iff.mp z2))⟩
        simpa using h1
      omega
theorem ready (ok : SysOk S rk bs) {L : List (List Nat)} (hne : L ≠ []) (hL : ∀ C ∈ L, ∃ c, c < S.length ∧ C = comp S c) : ∃ D ∈ L, outside S D L.flatten = false := by
  cases L with
  | nil => exact absurd rfl hne
  | cons C L =>
    obtain ⟨c, hc, e⟩ := hL C List.mem_cons_self
    exact ready_ex ok hL _ C c List.mem_cons_self hc e (Nat.le_refl _)
end
end K19
/-! The plain law, part 7: what grows along calls; the turns of runOps. -/
namespace K19
structure Gr (s s' : St) : Prop where
  log : ∃ seg, s'.log = s.log ++ seg
  beg : s.begun ≤ s'.begun
  kn : ∃ k, s'.known = s.known ++ k ∧ k.length + s.log.length ≤ s'.log.length
theorem Gr.refl (s : St) : Gr s s := ⟨⟨[], by simp⟩, Nat.le_refl _, [], by simp, by simp⟩
theorem Gr.trans {s s1 s2 : St} (a : Gr s s1) (b : Gr s1 s2) : Gr s s2 := by
  obtain ⟨⟨l1, e1⟩, b1, k1, f1, g1⟩ := a
  obtain ⟨⟨l2, e2⟩, b2, k2, f2, g2⟩ := b
  refine ⟨⟨l1 ++ l2, by rw [e2, e1, List.append_assoc]⟩, Nat.le_trans b1 b2, k1 ++ k2, by rw [f2, f1, List.append_assoc], ?_⟩
  rw [List.length_append]; omega
theorem Gr.len {s s' : St} (a : Gr s s') : s.log.length ≤ s'.log.length := by
  obtain ⟨⟨l, e⟩, _⟩ := a
  rw [e, List.length_append]; omega
theorem gr_say (s : St) (e : Ev) : Gr s (s.say e) := ⟨⟨[e], rfl⟩, Nat.le_refl _, [], by simp [St.say], by simp [St.say]⟩
theorem gr_opened (s : St) (c : Nat) : Gr s (opened s c) := ⟨⟨[.call c], rfl⟩, Nat.le_succ _, [], by simp [opened], by simp [opened]⟩
theorem gr_close (ex : Bool) (c : Nat) (v : Int) (T U : List Nat) (s : St) : Gr s (close ex c v T U s).2 := by
  unfold close
  by_cases h : T = []
  · rw [if_pos h]
    exact ⟨⟨_, rfl⟩, Nat.le_refl _, [], by simp, by simp⟩
  · rw [if_neg h]
    refine ⟨⟨_, rfl⟩, Nat.le_refl _, ?_⟩
    cases ex with
    | false => exact ⟨[], by simp, by simp⟩
    | true => exact ⟨[⟨c, v, T, U⟩], rfl, by simp; omega⟩
theorem gr_runOps {F : St → Nat → Res × St} (h : ∀ s o, Gr s (F s o).2) : ∀ (l : List Nat) (s : St), Gr s (runOps F s l).2
  | [], s => Gr.refl s
  | o :: l, s => (h s o).trans (gr_runOps h l _)
theorem gr_evalB {F : St → List Nat → Nat → Res × St} (h : ∀ s B o, Gr s (F s B o).2) (ex : Bool) (S : Sys) (s : St) (B : List Nat) (c : Nat) : Gr s (evalB F ex S s B c).2 :=
  ((gr_opened s c).trans (gr_runOps (fun s o => h s (B ++ [c]) o) _ _)).trans (gr_close _ _ _ _ _ _)
theorem gr_evalX {F : St → List Nat → Nat → Res × St} (h : ∀ s B o, Gr s (F s B o).2) (ex : Bool) (S : Sys) (s : St) (B : List Nat) (c : Nat) : Gr s (evalX F ex S s B c).2 := by
  unfold evalX
  split
  · exact gr_say _ _
  · exact gr_evalB h ex S s B c
theorem gr_callB {F : St → List Nat → Nat → Res × St} (h : ∀ s B o, Gr s (F s B o).2) (ex : Bool) (S : Sys) (s : St) (B : List Nat) (c : Nat) : Gr s (callB F ex S s B c).2 := by
  unfold callB
  split
  · exact gr_say _ _
  · split
    · exact gr_say _ _
    · exact gr_evalX h ex S s B c
theorem gr_M (ex : Bool) (S : Sys) : ∀ (f : Nat) (s : St) (B : List Nat) (c : Nat), Gr s (M ex S f s B c).2
  | 0, s, _, _ => Gr.refl s
  | f + 1, s, B, c => gr_callB (gr_M ex S f) ex S s B c
theorem runOps_snoc {F : St → Nat → Res × St} : ∀ (l : List Nat) (s : St) (o : Nat), runOps F s (l ++ [o]) = ((runOps F s l).1 ++ [(F (runOps F s l).2 o).1], (F (runOps F s l).2 o).2)
  | [], s, o => rfl
  | a :: l, s, o => by
    show ((F s a).1 :: (runOps F (F s a).2 (l ++ [o])).1, (runOps F (F s a).2 (l ++ [o])).2) = _
    rw [runOps_snoc l]
    rfl
/-- the state ahead of the i-th operand -/
theorem runOps_take {F : St → Nat → Res × St} {l : List Nat} {s : St} {i o : Nat} (h : l[i]? = some o) : runOps F s (l.take (i + 1)) = ((runOps F s (l.take i)).1 ++ [(F (runOps F s (l.take i)).2 o).1], (F (runOps F s (l.take i)).2 o).2) := by
  rw [List.take_add_one, h]
  exact runOps_snoc _ _ _
theorem runOps_app {F : St → Nat → Res × St} : ∀ (l m : List Nat) (s : St), runOps F s (l ++ m) = ((runOps F s l).1 ++ (runOps F (runOps F s l).2 m).1, (runOps F (runOps F s l).2 m).2)
  | [], m, s => rfl
  | a :: l, m, s => by
    show ((F s a).1 :: (runOps F (F s a).2 (l ++ m)).1, (runOps F (F s a).2 (l ++ m)).2) = _
    rw [runOps_app l]
    rfl
theorem gr_rest {F : St → Nat → Res × St} (h : ∀ s o, Gr s (F s o).2) (l : List Nat) (s : St) (i : Nat) : Gr (runOps F s (l.take i)).2 (runOps F s l).2 := by
  have e : l = l.take i ++ l.drop i := (List.take_append_drop i l).symm
  have : (runOps F s l).2 = (runOps F (runOps F s (l.take i)).2 (l.drop i)).2 := by
    conv => lhs; rw [e]
    rw [runOps_app]
  rw [this]
  exact gr_runOps h _ _
end K19
/-! The plain law, part 8: the log read again, with what holds at each of its places. -/
namespace K19
def lok (S : Sys) (rk : Nat → Nat) (fu : Nat) : Board → List Nat → List Ev → Prop
  | _, _, [] => True
  | b, B, .call c :: r => lok S rk fu b (B ++ [c]) r
  | b, B, .fin c v _ kept :: r => B ≠ [] ∧ c < S.length ∧ lok S rk fu (if kept then b.set c (some v) else b) B.dropLast r
  | b, B, .reused c v T :: r => Pre S rk ⟨b, 0, [], []⟩ B c ∧ (C S fu b B c).val = v ∧ (C S fu b B c).taint = T ∧ lok S rk fu b B r
  | b, B, .stored _ _ :: r => lok S rk fu b B r
  | b, B, .busy _ _ :: r => lok S rk fu b B r
section
variable {S : Sys} {rk : Nat → Nat} {bs fu : Nat}
def Lok (S : Sys) (rk : Nat → Nat) (fu : Nat) (B : List Nat) (st st' : St) : Prop := ∃ seg, st'.log = st.log ++ seg ∧ ∀ rest, lok S rk fu st'.board B rest → lok S rk fu st.board B (seg ++ rest)
theorem Lok.refl {B : List Nat} {st : St} : Lok S rk fu B st st := ⟨[], by simp, fun rest h => h⟩
theorem Lok.trans {B : List Nat} {s1 s2 s3 : St} (h : Lok S rk fu B s1 s2) (h' : Lok S rk fu B s2 s3) : Lok S rk fu B s1 s3 := by
  obtain ⟨g1, l1, r1⟩ := h
  obtain ⟨g2, l2, r2⟩ := h'
  exact ⟨g1 ++ g2, by rw [l2, l1, List.append_assoc], fun rest q => by rw [List.append_assoc]; exact r1 _ (r2 _ q)⟩
theorem ops_lok {F : St → Nat → Res × St} {B : List Nat} {r : Nat} : ∀ (ops : List Nat) (st : St), BoardOk S st.board → (∀ x ∈ B, bat st.board x = none) → (∀ w ∈ st.known, RowOk S rk w) → (∀ w ∈ st.known, RV S st.board w.cell w.val w.taint w.used) →
    (∀ o ∈ ops, ∀ s : St, BoardOk S s.board → (∀ x ∈ B, bat s.board x = none) → (∀ w ∈ s.known, RowOk S rk w) → (∀ w ∈ s.known, RV S s.board w.cell w.val w.taint w.used) →
      (∃ k, Mid S rk B s (F s o).2 k r) ∧ (∀ w ∈ (F s o).2.known, RV S (F s o).2.board w.cell w.val w.taint w.used) ∧ Lok S rk fu B s (F s o).2) →
    Lok S rk fu B st (runOps F st ops).2
  | [], st, _, _, _, _, _ => Lok.refl
  | o :: ops, st, b, f, k1, k2, h => by
    obtain ⟨⟨_, m⟩, kn, rp⟩ := h o List.mem_cons_self st b f k1 k2
    exact rp.trans (ops_lok ops (F st o).2 m.bok m.free m.known kn fun o' ho' => h o' (List.mem_cons_of_mem _ ho'))
theorem M_lok (ok : SysOk S rk bs) (hfu : S.length < fu) : ∀ (f : Nat) (st : St) (B : List Nat) (c : Nat), S.length < f + B.length → Pre S rk st B c → (∀ w ∈ st.known, RV S st.board w.cell w.val w.taint w.used) →
    Lok S rk fu B st (M true S f st B c).2
  | 0, st, B, c, hf, pre, _ => by
    have := nodup_le pre.bn pre.bl
    omega
  | f + 1, st, B, c, hf, pre, kn => by
    show Lok S rk fu B st (callB (M true S f) true S st B c).2
    unfold callB
    cases h0 : bat st.board c with
    | some v => exact ⟨[.stored c v], rfl, fun rest h => h⟩
    | none =>
      show Lok S rk fu B st (if c ∈ B then ((⟨(S.at c).g, [c], []⟩ : Res), st.say (.busy c (S.at c).g)) else evalX (M true S f) true S st B c).2
      by_cases hB : c ∈ B
      · rw [if_pos hB]
        exact ⟨[.busy c (S.at c).g], rfl, fun rest h => h⟩
      · rw [if_neg hB]
        have hlen : S.length < f + (B ++ [c]).length := by rw [List.length_append, List.length_singleton]; omega
        unfold evalX
        rw [if_pos rfl]
        cases hx : st.known.find? (hit st.board B c) with
        | some r =>
          obtain ⟨e1, e2, e3⟩ := hit_ok (List.find?_some hx)
          have hr := kn r (List.mem_of_find?_eq_some hx)
          rw [e1] at hr
          obtain ⟨k1, k2, k3⟩ := hr st.board B fu (fun _ _ h => h) (by omega) pre.bn pre.bl pre.bfree e2 e3
          exact ⟨[.reused c r.val r.taint], rfl, fun rest h => ⟨⟨pre.cN, pre.bok, pre.bn, pre.bl, pre.bfree, pre.brk, fun _ h => absurd h List.not_mem_nil⟩, k1, k2, h⟩⟩
        | none =>
          have hF : ∀ s o, Pre S rk s (B ++ [c]) o → Post S rk s (B ++ [c]) o (M true S f s (B ++ [c]) o).1 (M true S f s (B ++ [c]) o).2 := fun s o p => M_ok ok f s (B ++ [c]) o hlen p
          obtain ⟨step, bfree', m, rs⟩ := ops_mid ok pre h0 hB hF
          have h := ops_lok (rk := rk) (r := rk c) (fu := fu) (F := fun s o => M true S f s (B ++ [c]) o) (B := B ++ [c]) (S.at c).ops (opened st c) pre.bok bfree' pre.known kn fun o ho s b fr k1 k2 => by
            obtain ⟨p, q1, q2⟩ := step o ho s b fr k1
            exact ⟨⟨_, q1⟩, (M_sim (ex := true) ok f s (B ++ [c]) o hlen p k2).known, M_lok ok hfu f s (B ++ [c]) o hlen p k2⟩
          show Lok S rk fu B st (evalB (M true S f) true S st B c).2
          unfold evalB
          generalize runOps (fun s o => M true S f s (B ++ [c]) o) (opened st c) (S.at c).ops = ro at h
          obtain ⟨res, st2⟩ := ro
          dsimp only at h ⊢
          obtain ⟨seg, l, rp⟩ := h
          have l' : st2.log = st.log ++ [Ev.call c] ++ seg := l
          have drop : (B ++ [c]).dropLast = B := by simp
          unfold close
          by_cases hT : taintOf c res = []
          · rw [if_pos hT]
            refine ⟨Ev.call c :: (seg ++ [.fin c (valueOf (S.at c).fn (res.map (·.val))) [] true]), by show st2.log ++ _ = _; rw [l']; simp, fun rest h => ?_⟩
            show lok S rk fu st.board (B ++ [c]) ((seg ++ [_]) ++ rest)
            rw [List.append_assoc]
            refine rp (.fin c (valueOf (S.at c).fn (res.map (·.val))) [] true :: rest) ⟨by simp, pre.cN, ?_⟩
            rw [if_pos rfl, drop]
            exact h
          · rw [if_neg hT]
            refine ⟨Ev.call c :: (seg ++ [.fin c (valueOf (S.at c).fn (res.map (·.val))) (taintOf c res) false]), by show st2.log ++ _ = _; rw [l']; simp, fun rest h => ?_⟩
            show lok S rk fu st.board (B ++ [c]) ((seg ++ [_]) ++ rest)
            rw [List.append_assoc]
            refine rp (.fin c (valueOf (S.at c).fn (res.map (·.val))) (taintOf c res) false :: rest) ⟨by simp, pre.cN, ?_⟩
            rw [if_neg Bool.false_ne_true, drop]
            exact h
/-- the number of evaluations begun is the number of call events -/
theorem ask_calls (ok : SysOk S rk bs) {f : Nat} {st : St} {B : List Nat} {c : Nat} (hf : S.length < f + B.length) (pre : Pre S rk st B c) {ex : Bool} : ∃ seg, (M ex S f st B c).2.log = st.log ++ seg ∧ (M ex S f st B c).2.begun = st.begun + calls seg ∧ ∀ e ∈ seg, EvOk S.length e := by
  obtain ⟨seg, h1, h2, h3, _⟩ := (M_ok (ex := ex) ok f st B c hf pre).mid.log
  exact ⟨seg, h1, h3, h2⟩
end
end K19
/-! Rules, part 1: match on written texts. -/
namespace KR
open PySem PySem.Spec PyProof.Rows L2
/-- the cases of a match on a text: the first that is z -/
def tCases (z : PySem.Str) : List (PySem.Str × TS) → TS
  | [] => fun D σ H => D.nx σ H
  | (s, t) :: r => fun D σ H => (z = s → t D σ H) ∧ (z ≠ s → tCases z r D σ H)
def tMatch (te : TE) (cs : List (PySem.Str × TS)) : TS := fun D σ H => te σ H fun x H1 => ∃ z, x = .str z ∧ tCases z cs D σ H1
structure PCs (X : Cx) (cases : List MatchCase) (cs : List (PySem.Str × TS)) : Prop where
  run : ∀ (pins : List (Addr × Obj)) (s : Shared) (σ : L2.St) (H : Hp) (D : Ends) (z : PySem.Str) (t : Tok) (first : Bool), Inv X pins σ H s → tCases z cs D σ H → wpAny (model X.prog X.w) X.A (matchCases cases X.env (.str z t) first) (SP X pins D) X.xe s
section
variable {X : Cx}
theorem pcs_nil : PCs X [] [] := ⟨fun _ _ σ H _ _ _ _ I h => wpAny_matchCases_nil ⟨σ, H, I, h⟩⟩
theorem pcs_cons {x : PySem.Str} {j : Nat} {p p2 : Pos} {body : List Stmt} {rest : List MatchCase} {t : TS} {cs : List (PySem.Str × TS)} (hb : PSs X body t) (hr : PCs X rest cs) :
    PCs X (⟨.MatchValue (.Constant (.str x) j p) p2, none, body⟩ :: rest) ((x, t) :: cs) := by
  refine ⟨fun pins s σ H D z tk first I h => ?_⟩
  obtain ⟨h1, h2⟩ := h
  refine wpAny_matchCases_cons (wpAny_matchPattern_Value (Calls.Constant_str (eq_str (wpAny_truthy_bool ?_))))
  have I1 := I.tok (s.toks + 1)
  by_cases e : z = x
  · subst e
    rw [if_pos (by simp)]
    exact wpAny_assignInOrder_none (hb.run pins _ σ H D I1 (h1 rfl))
  · have : (z == x) = false := by simpa using e
    rw [this, if_neg Bool.false_ne_true]
    exact hr.run pins _ σ H D z tk false I1 (h2 e)
theorem ps_match {e : Expr} {cases : List MatchCase} {pos : Pos} {te : TE} {cs : List (PySem.Str × TS)} (he : PE X e te) (hc : PCs X cases cs) : PS X (.Match e cases pos) (tMatch te cs) := by
  refine ⟨fun pins s σ H D I h => ?_⟩
  refine wpAny_Match (thn (he.run pins s σ H _ I h) fun v s1 ⟨x, H1, I1, r1, z, ex, q⟩ => ?_)
  subst ex
  obtain ⟨t, rfl⟩ := r1
  exact hc.run pins s1 σ H1 D z t true I1 q
end
end KR
/-! Rules, part 2: a list comprehension whose element calls a def that may raise. -/
namespace KR
open PySem PySem.Spec PyProof.Rows L2

theorem traced_but {h h' B B' : Heap} {C a : Addr} {Z : Obj → Prop} {fl : Value} {m : PySem.Str → Option Value} (hn : h.Ns C m) (sb : Heap.SameBut C h h') (hB : ∀ T, B.get? T = none → B'.get? T = none)
    (t : HandSPX.TracedZ h B a Z fl) : HandSPX.TracedZ h' B' a Z fl := by
  obtain ⟨oe, vs, T, oT, ts, e1, e2, e3, e4, e5, e6, e7, e8, e9⟩ := t
  obtain ⟨oC, es, ep, c1, c2, _⟩ := hn
  have na : a ≠ C := fun q => by
    rw [q, c1] at e1
    cases e1
    rw [c2] at e3
    cases e3
  have nT : T ≠ C := fun q => by
    rw [q, c1] at e7
    cases e7
    rw [c2] at e8
    cases e8
  exact ⟨oe, vs, T, oT, ts, (sb.2 a na).trans e1, e2, e3, e4, hB T e5, e6, (sb.2 T nT).trans e7, e8, e9⟩

theorem funs_ground {h B B' : Heap} (hB : ∀ T, B.get? T = none → B'.get? T = none) : ∀ {l : List Env}, h.FunFrames B l → h.FunFrames B' l
  | [], _ => trivial
  | _ :: _, ⟨hk, ⟨L, o, hf, hn, ho, hd⟩, hr⟩ => ⟨hk, ⟨L, o, hf, hB L hn, ho, hd⟩, funs_ground hB hr⟩

section
variable {X : Cx} {pins : List (Addr × Obj)} {σ : L2.St} {s3 : Shared} {H3 : Hp} {scope : Scope} {ce : Env} {fp : List Addr} {E : XK}
/-- an exception that flies out of a call in the block: the block's names go, then the def's own frame holds it -/
theorem block_fails (hs : X.stack = X.env :: X.outer) (hf : X.env.frame = some X.env.locals) (tk : Takes X (fun cls d _ H => E cls d H)) (I3 : Inv X pins σ H3 s3) (hce : ce.frame = X.env.frame) (hC : s3.heap.objs.size ≤ ce.locals)
    (hfp : ∀ b ∈ fp, FpOk X pins H3 b) {pb : List (Addr × Obj)} {τ : L2.St} {H : Hp} {s s' : Shared} {x : Value} {xe : Value → Shared → Prop}
    (I : Inv ((X.blk s3 H3 scope ce fp).wish xe) pb τ H s) (c : L2.CX X.prog X.w X.stack H s E x s') :
    notedBy (model X.prog X.w) X.A ce (CompFails (model X.prog X.w) X.A X.xe ce) x s' := by
  obtain ⟨a, B, H', cls, d, rfl, fl, hok, ub, na, os, ag, hE⟩ := c
  have hfr : X.A.frames = some (X.env :: X.outer) := by rw [I3.ok.frames, hs]
  have ns0 := I.loc
  obtain ⟨m, hn, _⟩ := ns0
  have hn : s.heap.Ns ce.locals m := hn
  have Cfree : H ce.locals = none := I.free
  have Cfr : ce.locals ∉ frs X.stack := fun hm => by
    obtain ⟨_, o, ho, _⟩ := I3.stack.mem hm
    exact absurd (Nat.lt_of_lt_of_le (Heap.lt_size ho) hC) (Nat.lt_irrefl _)
  obtain ⟨oC, es, ep, hoC, hdC, hrC⟩ := id hn
  have BC : B.get? ce.locals = some oC := ub.keep _ _ hoC Cfree Cfr
  have C' : H' ce.locals = none := ub.free _ _ hoC Cfree
  have fl' : HandSPX.FlyingZ B (X.env :: X.outer) a (Zc cls d) s'.heap := by rw [← hs]; exact fl
  show wpAny (model X.prog X.w) X.A (noteFrame (.ref a) ce) _ _ s'
  rw [noteFrame_env _ hce]
  refine HandSPX.looks_onZ Zc.steady hfr hf fl' fun h1 held up1 => ?_
  obtain ⟨b1, b2, b3, b4⟩ := held
  have hn1 : h1.Ns ce.locals m := ⟨oC, es, ep, b1 _ _ BC, hdC, hrC⟩
  refine ⟨m, hn1, fun h2 m2 hn2 sb => ?_⟩
  -- the ground without the block's names
  obtain ⟨B', g1, g2⟩ := restrict B fun b => decide (b ≠ ce.locals)
  have gk : ∀ b, b ≠ ce.locals → B'.get? b = B.get? b := fun b hb => g1 b (decide_eq_true hb)
  have gC : B'.get? ce.locals = none := g2 _ (by simp)
  have gn : ∀ T, B.get? T = none → B'.get? T = none := fun T q => by
    by_cases hT : T = ce.locals
    · rw [hT]; exact gC
    · rw [gk T hT]; exact q
  have B's : ∀ b o, B'.get? b = some o → b ≠ ce.locals ∧ B.get? b = some o := fun b o q => by
    have hb : b ≠ ce.locals := fun z => by rw [z, gC] at q; cases q
    exact ⟨hb, (gk b hb).symm.trans q⟩
  have held2 : HandSPX.HeldZ B' (X.env :: X.outer) a (Zc cls d) X.env.locals h2 := by
    refine ⟨fun b o q => ?_, gn a b2, Heap.FunFrames.sameBut sb hn2 (funs_ground gn b3), traced_but hn1 sb gn b4⟩
    obtain ⟨q1, q2⟩ := B's b o q
    exact (sb.2 b q1).trans (b1 b o q2)
  obtain ⟨k1, k2, k3, oe, vs, T, oT, ts, he, hz, hd, hv1, hr⟩ := id held2
  unfold PySem.passOn
  refine wpAny_bind (wpAny_field he hd hv1 ?_)
  rw [if_neg (show ¬ ((Value.ref T == Value.none) = true) from by simp)]
  have fin : wpAny (model X.prog X.w) X.A (setFlight (.ref a) ce.frame) (fun _ s4 => wpAny (model X.prog X.w) X.A (throw (.ref a) : Sem Value) (fun _ _ => False) X.xe s4) X.xe { s' with heap := h2 } := by
    rw [hce, hf]
    refine HandSPX.setFlight_onZ held2 fun h4 held4 up4 => wpAny_throw (tk _ _ ?_)
    have st4 : B'.StaysIn h4 := held4.1
    -- the state without the exception
    obtain ⟨G, r1, r2⟩ := restrict h4 fun b => (B'.get? b).isSome || decide (b ∈ frs X.stack)
    have rB : ∀ b o, B'.get? b = some o → G.get? b = some o := fun b o q => by
      rw [r1 b (by rw [q]; rfl)]
      exact st4 b o q
    have rF : ∀ b, b ∈ frs X.stack → G.get? b = h4.get? b := fun b hb => r1 b (by simp [hb])
    have rO : ∀ b o, G.get? b = some o → h4.get? b = some o ∧ ((B'.get? b).isSome = true ∨ b ∈ frs X.stack) := fun b o q => by
      cases z : ((B'.get? b).isSome || decide (b ∈ frs X.stack)) with
      | false =>
        rw [r2 b z] at q
        cases q
      | true =>
        rw [r1 b z] at q
        exact ⟨q, by simpa [Bool.or_eq_true] using z⟩
    have ne3 : ∀ b o, s3.heap.get? b = some o → b ≠ ce.locals := fun b o q => Nat.ne_of_lt (Nat.lt_of_lt_of_le (Heap.lt_size q) hC)
    have slots4 : ∀ b o, s'.heap.get? b = some o → (∀ vs, o.data ≠ .fields vs) → b ≠ ce.locals → ∃ sl, h4.get? b = some { o with slots := sl } := fun b o q nf hb => by
      obtain ⟨sl, q1⟩ := up1 b o q nf
      obtain ⟨sl2, q2⟩ := up4 b _ ((sb.2 b hb).trans q1) nf
      exact ⟨sl2, q2⟩
    have frame4 : ∀ b o, s3.heap.get? b = some o → b ∈ frs X.stack → ∃ sl, G.get? b = some { o with slots := sl } := fun b o q hb => by
      obtain ⟨_, o', q', nf⟩ := I3.stack.mem hb
      rw [q] at q'
      cases q'
      have hex : b ∉ fp := fun z => (I.ok.exfs b z) hb
      obtain ⟨sl, e1⟩ := I.base.slot b o q (I3.stkFree b hb) hb hex
      obtain ⟨sl2, e2⟩ := ub.slot b _ e1 hb
      obtain ⟨sl3, e3⟩ := slots4 b _ e2 nf (ne3 b o q)
      exact ⟨sl3, by rw [rF b hb]; exact e3⟩
    refine ⟨a, B', { s3 with heap := G, gens := s'.gens, drawn := s'.drawn, toks := s'.toks }, pins, σ, H', cls, d, rfl, ?_, fun b o q hb => ?_, ?_, ?_, na, ?_, ag, hE⟩
    · refine I3.call (ch := fp) ⟨fun b o q n hb hx => ?_, fun b o q n hb hx => frame4 b o q hb, fun b o q n hx => ?_, fun b o q hx => ?_, fun b xs q => ub.tups b xs (I.base.tups b xs q), fun b o xs q => ub.frzs b o xs (I.base.frzs b o xs q), fun b ps q => ?_⟩ ?_ ag ?_
      · have e1 := I.base.keep b o q n hb hx
        have e2 := ub.keep b o e1 (I.base.free b o q n hx) hb
        exact rB b o ((gk b (ne3 b o q)).trans e2)
      · obtain ⟨o1, e1⟩ := I.base.there b o q hx
        exact ub.free b o1 e1 (I.base.free b o q n hx)
      · by_cases hb : b ∈ frs X.stack
        · obtain ⟨sl, e1⟩ := frame4 b o q hb
          exact ⟨_, e1⟩
        · obtain ⟨o1, e1⟩ := I.base.there b o q hx
          obtain ⟨o2, e2⟩ := ub.there b o1 e1 hb
          exact ⟨o2, rB b o2 ((gk b (ne3 b o q)).trans e2)⟩
      · obtain ⟨m1, e1⟩ := I.base.tbls b ps q
        obtain ⟨m2, e2⟩ := ub.tbls b _ e1
        exact ⟨m1 ++ m2, by rw [e2, Array.append_assoc]⟩
      · intro b u q
        refine (hok b u q).stay (fun z v hz r => rB z v ((gk z fun w => ?_).trans r)) (fun _ r => r) fun _ _ r => r
        rcases hz with hz | hz
        · rw [← hz, w, C'] at q; cases q
        · rw [w, C'] at hz; cases hz
      · intro b hb
        obtain ⟨f0, f1, f2, f3, f4, f5⟩ := hfp b hb
        exact ⟨f3, f1, f4, f5⟩
    · obtain ⟨_, z⟩ := rO b o q
      rcases z with z | z
      · obtain ⟨o', z'⟩ := Option.isSome_iff_exists.mp z
        have e1 := rB b o' z'
        have q' : G.get? b = some o := q
        rw [q'] at e1
        cases e1
        exact z'
      · exact absurd z hb
    · exact Heap.UpToSlots.of_keeps fun b o q => (rO b o q).1
    · rw [hs]
      exact .inr (.inr held4)
    · exact os.trans I.os
  first
    | exact wpAny_bind (wpAny_pure (wpAny_bind fin))
    | exact wpAny_bind fin

/-- y = [elt for tg in iter if ..] on one line, y a local: the element may let an exception out, as E wishes -/
theorem ps_setLcX {i : Nat} {y : PySem.Str} {py : Pos} {elt tg iter : Expr} {ifs : List Expr} {own : List (PySem.Str × Nat)} {pos spos : Pos} {wi : TI} {g : TG} {tt : TT} {te : TE}
    (hs : X.stack = X.env :: X.outer) (hf : X.env.frame = some X.env.locals) (tk : Takes X (fun cls d _ H => E cls d H)) (hc : X.calm = true) (hN : X.N.Nodup) (hy : X.N[i]? = some y) (hyl : X.env.scope.names.lookup y = some .local)
    (hsw : swapsWith (.ListComp elt [⟨tg, iter, ifs, 0⟩] scope pos) (some (.Name y py)) spos.line X.env = pure true) (hi : PI X tg iter wi) (ok : BlkOk X.N X.env.scope scope own)
    (hg : ∀ (s : Shared) (H : Hp) (C : Addr) (cl : List (PySem.Str × Addr)) (fp : List Addr), PG (X.blk s H scope (compEnvC scope cl C X.env) fp) tg g)
    (ht : ∀ (s : Shared) (H : Hp) (C : Addr) (cl : List (PySem.Str × Addr)) (fp : List Addr), PTs (X.blk s H scope (compEnvC scope cl C X.env) fp) ifs tt)
    (he : ∀ (s : Shared) (H : Hp) (C : Addr) (cl : List (PySem.Str × Addr)) (fp : List Addr) (xe : Value → Shared → Prop), Passes (L2.CX X.prog X.w) ((X.blk s H scope (compEnvC scope cl C X.env) fp).wish xe) E →
      PE ((X.blk s H scope (compEnvC scope cl C X.env) fp).wish xe) elt te)
    (hfold : ∀ x, foldedSetIterable iter X.env x = pure x := by intro _; rfl) :
    PS X (.Assign [.Name y py] (.ListComp elt [⟨tg, iter, ifs, 0⟩] scope pos) spos) (tAsg (tLc wi g tt te (own.map (·.2))) (gName i)) := by
  refine ⟨fun pins s σ H D I h => ?_⟩
  have h' : tLc wi g tt te (own.map (·.2)) σ H (fun x H1 => D.nx (σ.set i (some x)) H1) := h
  have hfree : ∀ z ∈ scope.names, z.2 = .free → ∃ c, X.env.cells.lookup z.1 = some c := fun z hz e => (ok.free z hz e).elim (fun k => I.ok.has _ (.inl k)) (fun k => I.ok.has _ (.inr k))
  rw [exec_Assign_Name_used _ _ _ _ hsw]
  refine wpAny_bind (wpAny_standAt (wpAny_bind ?_))
  show wpAny _ X.A (do let _ ← comprehension (.ListComp elt [⟨tg, iter, ifs, 0⟩] scope pos) scope X.env (firstIterPos [⟨tg, iter, ifs, 0⟩] pos) (newList []) false (eval iter X.env) (some (assign (.Name y py) X.env))) _ _ s
  refine wpAny_bind (thn (comprehension_at (Q := fun _ s' => SP X pins D .next s') rfl hfold (closure_ok hfree) ok.kind (fun z hz e => by rw [ok.uniq z hz, e])
    (thn (hi.run pins s σ H _ I h') fun xv s1 hx => thn hx fun itv s2 h2 => ?_)) fun _ s' hq => wpAny_pure (wpAny_pure hq))
  obtain ⟨it, fp, tn, J, H2, e, I2, T, st2, f2, q⟩ := h2
  subst e
  refine wpAny_newObj_type (newEnv_comp ?_) (by show 0 ≤ sizeLine; decide)
  -- the new list, at L
  generalize hL : s2.heap.objs.size = L
  have freshL : H2 L = none := I2.hok.fresh (Nat.le_of_eq hL)
  obtain ⟨W, ⟨m0, w0⟩, turn⟩ := q L freshL
  generalize e3 : ({ s2 with heap := s2.heap.push { cls := .type "list", data := .seq ([] : List Value).toArray } } : Shared) = s3
  have heap3 : s3.heap = s2.heap.push { cls := .type "list", data := .seq ([] : List Value).toArray } := by rw [← e3]
  have I3 : Inv X pins σ (upd H2 L (.lst [])) s3 := by
    rw [← e3]
    refine I2.laid (t' := s2.toks) (fun b o z => Heap.get?_push_of_some _ z) (Nat.le_of_eq hL) ⟨Nat.zero_le _, [], 0, .nil, ?_⟩
    rw [← hL]
    exact Heap.get?_push_size _ rfl
  have f3 : ∀ b ∈ fp, FpOk X pins (upd H2 L (.lst [])) b ∧ b < s3.heap.objs.size := fun b hb => by
    obtain ⟨o, z, _⟩ := T.obj _ _ st2 b hb
    have lt := Heap.lt_size z
    refine ⟨⟨?_, (f2 b hb).2⟩, by rw [heap3, Heap.size_push]; exact Nat.lt_succ_of_lt lt⟩
    rw [upd_ne (by rw [← hL]; exact Nat.ne_of_lt lt)]
    exact (f2 b hb).1
  have t3 : tn 0 s3.heap := T.keep _ _ _ st2 fun b _ o z => by rw [heap3]; exact Heap.get?_push_of_some _ z
  have I4 := block_start I3 ok hN f3
  have pg := hg s3 (upd H2 L (.lst [])) s3.heap.objs.size (cellsFrom (s3.heap.objs.size + 1) scope.names (cloFrom X.env.cells scope.names [])) fp
  have pt := ht s3 (upd H2 L (.lst [])) s3.heap.objs.size (cellsFrom (s3.heap.objs.size + 1) scope.names (cloFrom X.env.cells scope.names [])) fp
  have pe := he s3 (upd H2 L (.lst [])) s3.heap.objs.size (cellsFrom (s3.heap.objs.size + 1) scope.names (cloFrom X.env.cells scope.names [])) fp
  show codeAny _ _ (.compStart (.ListComp elt [⟨tg, iter, ifs, 0⟩] scope pos) 0 (.ref it) (.ref L) (compEnvC scope (cellsFrom (s3.heap.objs.size + 1) scope.names (cloFrom X.env.cells scope.names [])) s3.heap.objs.size X.env))
    (compEnds (model X.prog X.w) X.A X.xe (some (assign (.Name y py) X.env)) (fun _ s' => SP X pins D .next s') (.ref L) (compEnvC scope (cellsFrom (s3.heap.objs.size + 1) scope.names (cloFrom X.env.cells scope.names [])) s3.heap.objs.size X.env))
    { s3 with heap := pushCells (s3.heap.push { cls := .type "dict", data := .dict #[] }) scope.names }
  have n3 : ∀ b ∈ fp, (upd H2 L (.lst [])) b = none := fun b hb => (f3 b hb).1.1
  generalize hce : compEnvC scope (cellsFrom (s3.heap.objs.size + 1) scope.names (cloFrom X.env.cells scope.names [])) s3.heap.objs.size X.env = ce at I4 pg pt pe ⊢
  have ceL : ce.locals = s3.heap.objs.size := by subst hce; rfl
  have ceF : ce.frame = X.env.frame := by subst hce; rfl
  generalize hH3 : upd H2 L (.lst []) = H3 at I3 I4 pg pt pe w0 n3 f3
  generalize e4 : ({ s3 with heap := pushCells (s3.heap.push { cls := .type "dict", data := .dict #[] }) scope.names } : Shared) = s4 at I4 ⊢
  have t4 : tn 0 s4.heap := T.keep _ _ _ t3 fun b _ o z => by rw [← e4]; exact pushCells_keeps _ _ _ _ (Heap.get?_push_of_some _ z)
  have stat : ∀ {σ' : L2.St} {H' : Hp} {s' : Shared}, Inv (X.blk s3 H3 scope ce fp) [] σ' H' s' → (∀ b ∈ fp, H' b = none) → ∀ b ∈ fp, FpOk (X.blk s3 H3 scope ce fp) [] H' b := fun {σ' H' s'} J' hn b hb =>
    ⟨hn b hb, (J'.ok.exf b hb).1, J'.ok.exfs b hb, .inl hb, fun x c z => (J'.ok.exf b hb).2 x c z, fun p hp => absurd (show p ∈ ([] : List (Addr × Obj)) ++ [] from hp) (by simp)⟩
  let xe : Value → Shared → Prop := notedBy (model X.prog X.w) X.A ce (CompFails (model X.prog X.w) X.A X.xe ce)
  have pass : Passes (L2.CX X.prog X.w) ((X.blk s3 H3 scope ce fp).wish xe) E := fun pb τ Hb sb x s' Ib cb =>
    block_fails hs hf tk I3 ceF (by rw [ceL]; exact Nat.le_refl _) (fun b hb => (f3 b hb).1) Ib cb
  have loop : codeAny (model X.prog X.w) X.A (.compLoop (.ListComp elt [⟨tg, iter, ifs, 0⟩] scope pos) 0 (.ref it) (.ref L) ce) (compEnds (model X.prog X.w) X.A X.xe (some (assign (.Name y py) X.env)) (fun _ s' => SP X pins D .next s') (.ref L) ce) s4 := by
    refine compLoop_any (fun n s' => ∃ j H', Inv (X.blk s3 H3 scope ce fp) [] (wipe σ (own.map (·.2))) H' s' ∧ tn j s'.heap ∧ (∀ b ∈ fp, H' b = none) ∧ W j n H') ?_ m0 ⟨0, H3, I4, t4, n3, w0⟩
    rintro n s5 ⟨j, H5, I5, t5, n5, w5⟩
    rcases turn j n H5 w5 with ⟨stop, qq⟩ | ⟨go, Nx, hNx, step⟩
    · have done := T.done (X.blk s3 H3 scope ce fp) rfl rfl rfl hc j [] s5 _ H5 (fun _ _ => False) I5 (stat I5 n5) t5 stop
      refine thnF done fun r s6 ⟨hr, I6⟩ => ?_
      subst hr
      -- behind the block
      have I7 : Inv X pins σ H5 s6 := I3.call' (ch := fp) I6.os I6.base I6.hok I6.bare fun b hb =>
        let z := (f3 b hb).1
        ⟨z.2.2.2.1, z.2.1, z.2.2.2.2.1, z.2.2.2.2.2⟩
      have nC : H5 ce.locals = none := I6.free
      obtain ⟨m, hn, _⟩ := I6.loc
      have hn : s6.heap.Ns ce.locals m := hn
      have fC : FpOk X pins H5 ce.locals := I3.fpOk (by rw [ceL]; exact Nat.le_refl _) nC
      show wpAny _ _ (assign (.Name y py) X.env (.ref L)) _ _ _
      refine wpAny_assign_Name (store_ok2 (v := V.ref L) I7 hN hy (.inl hyl) rfl (fun s8 I8 ⟨a, sb, ha⟩ => ?_) (.inr hyl))
      obtain ⟨c0, c1, c2, c3, c4, c5⟩ := fC
      have neC : ce.locals ≠ a := by
        rcases ha with z | z
        · rw [z]; exact c1
        · exact fun w => c4 y a z w.symm
      exact ⟨m, hn.sameBut sb neC, fun h9 sb9 => ⟨_, H5, I8.turned (t' := s8.toks) (fun b o hb z => (sb9.2 b hb).trans z) c0 c1 c3 c4 c5, qq⟩⟩
    · have item := T.item (X.blk s3 H3 scope ce fp) rfl rfl rfl hc j [] s5 _ H5 (fun _ _ => False) I5 (stat I5 n5) t5 go
      refine thnF item fun r s6 ⟨u, hr, h6⟩ => ?_
      subst hr
      refine thnF h6 fun _ s7 ⟨x, H7, I7, r7, y7, t7, n7⟩ => ?_
      have P7 := I7.pinned (stat I7 n7) (T.obj _ _ t7)
      refine thnF (pg.run _ s7 _ H7 x u _ P7 r7 (step x H7 y7)) fun _ s8 ⟨σ8, H8, I8, hw8, q8⟩ => ?_
      refine thnF (pt.run _ s8 σ8 H8 _ I8 q8) fun b s9 ⟨H9, I9, q9⟩ => ?_
      -- the turn's end
      have fin : ∀ {s' : Shared} {H' : Hp}, Inv (X.blk s3 H3 scope ce fp) ([] ++ pinsAt fp s7.heap) σ8 H' s' → Nx H' →
          ∃ m, m < n ∧ ∃ j H', Inv (X.blk s3 H3 scope ce fp) [] (wipe σ (own.map (·.2))) H' s' ∧ tn j s'.heap ∧ (∀ b ∈ fp, H' b = none) ∧ W j m H' := fun {s' H'} J' nx => by
        obtain ⟨m', hm, w'⟩ := hNx H' nx
        have pin' : ∀ b ∈ fp, ∀ o, s7.heap.get? b = some o → s'.heap.get? b = some o ∧ H' b = none := fun b hb o z =>
          let p := J'.pin (b, o) (List.mem_append_right _ (List.mem_append_right _ (mem_pinsAt hb z)))
          ⟨p.1, p.2.1⟩
        have len8 : (wipe σ (own.map (·.2))).length = σ8.length := by rw [← hw8, wipe_length]
        refine ⟨m', hm, j + 1, H', (J'.unpinned (pins := [])).weak len8 (fun k v z => ?_), T.keep _ _ _ t7 fun b hb o z => (pin' b hb o z).1, fun b hb => ?_, w'⟩
        · rw [← hw8] at z
          exact (wipe_some z).1
        · obtain ⟨o, z, _⟩ := T.obj _ _ t7 b hb
          exact (pin' b hb o z).2
      cases b with
      | false =>
        simp only [Bool.false_eq_true, if_false] at q9 ⊢
        exact fin I9 q9
      | true =>
        simp only [if_true] at q9 ⊢
        refine wpAny_mono ((pe xe pass).run _ s9 σ8 H9 _ (I9.wish xe) q9) (fun z s10 hz => ?_) (fun _ _ z => z)
        obtain ⟨yv, H10, I10, r10, acc, hL10, hz10, nx⟩ := hz
        exact app_ok (X := X.blk s3 H3 scope ce fp) I10.unwish hL10 hz10 r10 fun s11 I11 => fin I11 nx
  exact codeAny_compStart_list loop (T.self X.A 0 _ _ _ t4 loop)
end
end KR
/-! Rules, part 3: repr of nested data. It asks that no repr is under way: defs that promise this alone, their calls, the law's end. -/
namespace KR
open PySem PySem.Spec PyProof.Rows L2

/-- a def that keeps its promise where no repr is under way -/
structure FnG (P : Program) (w : World) (K : PySem.W.Frag) (mg : PySem.Str → Option Value) (base : Heap) (CX : CXT) (k : Nat) (f : Addr) (fd : FuncData) (ps : List PySem.Str) (sp : Sp) : Prop where
  len : ∀ vs H Q E, sp vs H Q E → vs.length = ps.length
  run : ∀ (A : Around) (outer : List Env) (s : Shared) (H : Hp) (args : Args) (us : List Value) (vs : List V) (Q : VK) (E : XK), Room k A → A.guards = some [] → Env0 P w K mg base A outer s H →
    BindsTo s fd args (ps.zip us) → Vals vs us → sp vs H Q E → codeAny (model P w) A (.call (.ref f) args) (CR CX outer P w H s Q E) s

theorem guards_deeper {A : Around} {env : Env} (h : A.guards = some []) : (A.deeper env).guards = some [] := by
  first | exact h | simp [Around.deeper, h]

section
variable {P : Program} {w : World} {K : PySem.W.Frag} {mg : PySem.Str → Option Value} {base : Heap} {x qual : PySem.Str} {params : Arguments} {body : List Stmt} {scope : Scope} {dvs : List V} {kws : List (PySem.Str × V)} {f : Addr} {fd : FuncData}
theorem fnG_of {CX : CXT} {N ps : List PySem.Str} {k : Nat} {sp : Sp} (F : FunD K x qual params body scope dvs kws f fd) (S : FnScope N ps scope) (len : ∀ vs H Q E, sp vs H Q E → vs.length = ps.length)
    (hbody : ∀ (cdv : Value) (A : Around) (outer : List Env) (s : Shared) (H : Hp) (vs : List V) (Q : VK) (E : XK), Room k (A.deeper (envOfC qual scope s.heap.objs.size f cdv)) → A.guards = some [] → sp vs H Q E →
      ∃ t, PSs (cxOf CX P w K mg base N qual scope f cdv A outer s H E) body t ∧ t { nx := fun _ H' => Q .non H', rt := Q } (start N vs) H) : FnG P w K mg base CX (k + 1) f fd ps sp := by
  obtain ⟨oc, od, dV, kV, doc, pm, an, cdv, ct, osl, rfl, lk, hcd, _, _⟩ := F.ex
  refine ⟨len, fun A outer s H args us vs Q E hr hG e0 hb r hsp => ?_⟩
  have KX : K.In s.heap := e0.mod.kin.keeps fun b o e => (e0.bs b o e).1
  have kinds : ∀ y ∈ ps.zip us, scope.names.lookup y.1 = some .local ∨ (scope.names.lookup y.1 = some .cell ∧ ((cellsFrom (s.heap.objs.size + 1) scope.names []).lookup y.1).isSome = true) := by
    rintro ⟨n, v⟩ hy
    have q := S.par n (List.of_mem_zip hy).1
    exact q.elim .inl fun q => .inr ⟨q, PySem.W.cellsFrom_some _ _ _ (.inl q)⟩
  refine codeAny_call_function hr.depth (KX _ _ lk) rfl S.co S.gen rfl (PySem.W.codeRec_of KX hcd) (hb _ _ _ _ (wpAny_newFunctionEnv_cells S.kind kinds ?_))
  rintro env rfl s1 x
  refine ⟨Heap.NoLimit.keeps (e0.mod.nolimit.keeps fun b o e => (e0.bs b o e).1) x.toInCall.keep, codeAny_func ?_⟩
  obtain ⟨t, ht, hq⟩ := hbody cdv A outer s H vs Q E (hr.deeper _) hG hsp
  refine wpAny_mono (ht.run [] s1 (start N vs) H _ (inv_start S hr.hd e0 (len _ _ _ _ hsp) r x) hq) (fun fl s' hs => ?_) fun e s' hs => hs
  cases fl with
  | ret u => exact let ⟨v, _, H', J, rv, q⟩ := hs; ⟨v, H', J.os, J.bare, J.base, J.hok, rv, q⟩
  | next => exact let ⟨_, H', J, q⟩ := hs; ⟨V.non, H', J.os, J.bare, J.base, J.hok, rfl, q⟩
  | brk => exact let ⟨_, _, _, q⟩ := hs; False.elim q
  | cont => exact let ⟨_, _, _, q⟩ := hs; False.elim q
end

section
variable {X : Cx} {CX : CXT} {k : Nat} {f : Addr} {fd : FuncData} {ps : List PySem.Str} {sp : Sp} {E : XK} {x : PySem.Str} {p pos : Pos} {e : Expr} {es : List Expr} {t : TA}
theorem run_fnG {pins : List (Addr × Obj)} {σ : L2.St} {H : Hp} {s : Shared} {Q : VK} {us : List Value} {vs : List V} (F : FnG X.prog X.w X.K X.mg X.base CX k f fd ps sp) (hr : Room k X.A) (hG : X.A.guards = some []) (hb : Binds X.K fd ps []) (hx : Passes CX X E)
    (I : Inv X pins σ H s) (r : Vals vs us) (h : sp vs H Q E) : wpAny (model X.prog X.w) X.A (call (.ref f) us) (EP X pins σ Q) X.xe s := by
  have hl : us.length = ps.length := by rw [← r.length]; exact F.len _ _ _ _ h
  have hb' := hb s us I.kIn (by rw [List.append_nil]; exact hl)
  rw [List.append_nil] at hb'
  refine wpAny_call (codeAny_mono (F.run X.A X.stack s H ⟨us, []⟩ us vs Q E hr hG I.env0 hb' r h) fun r s' hq => ?_)
  match r, hq with
  | .error e, hq => exact hx pins σ H s e s' I hq
  | .ok (.ret u), hq => exact I.after hq
  | .ok .next, hq => exact False.elim hq
  | .ok .brk, hq => exact False.elim hq
  | .ok .cont, hq => exact False.elim hq
/-- f(e, ..) of such a def -/
theorem pe_callG (F : FnG X.prog X.w X.K X.mg X.base CX k f fd ps sp) (hr : Room k X.A) (hG : X.A.guards = some []) (hg : Gl X x) (hm : X.mg x = some (.ref f)) (hk : PySem.W.keepIn X.K (.ref f) = true) (hb : Binds X.K fd ps []) (hx : Passes CX X E)
    (ha : PA X (e :: es) t) (hdb : (x == ("__debug__" : PySem.Str)) = false := by decide) (he : starEach (e :: es) X.env = (false, eval e X.env) :: starEach es X.env := by rfl) (hpl : (backTo pos (starEach es X.env)).any (·.1) = false := by rfl) :
    PE X (.Call (.Name x p) (e :: es) [] pos) (tCall sp [] E t) :=
  ⟨fun pins s σ H Q I h => wpAny_Call_Name_kw (ld_glob I hg hm (PySem.W.callWith_K (h₀ := X.base) I.ok.mod.kin hk (thn (ha.run pos pins s σ H _ I h) fun us s1 ⟨vs, H1, I1, r, q⟩ =>
    ⟨I1.kIn, run_fnG F hr hG hb hx I1 r (show sp vs H1 Q E from (List.append_nil vs) ▸ (show sp (vs ++ []) H1 Q E from q))⟩) he hpl) hdb)⟩
/-- f() -/
theorem pe_callG0 (F : FnG X.prog X.w X.K X.mg X.base CX k f fd ps sp) (hr : Room k X.A) (hG : X.A.guards = some []) (hg : Gl X x) (hm : X.mg x = some (.ref f)) (hk : PySem.W.keepIn X.K (.ref f) = true) (hb : Binds X.K fd ps []) (hx : Passes CX X E)
    (hdb : (x == ("__debug__" : PySem.Str)) = false := by decide) : PE X (.Call (.Name x p) [] [] pos) (tCall sp [] E tNil) :=
  ⟨fun pins s σ H Q I h => wpAny_Call_Name_kw (ld_glob I hg hm (PySem.W.callWith_K0 I.kIn hk (run_fnG (us := []) F hr hG hb hx I .nil h)) hdb)⟩

/-- repr(x) of nested lists, tuples, ints, bools, None, texts -/
theorem call_repr (hG : X.A.guards = some []) (hu : X.A.units + 66 < cLine) : CallR X (.builtin "repr") (fun xs H Q => ∃ (a : Addr) (d : PyData), xs = [V.ref a] ∧ Dp X.K H (.ref a) d ∧ d.showable = true ∧ d.hasDict = false ∧ d.depth ≤ 64 ∧ d.shown.length ≤ sizeLine ∧ Q (.str d.shown) H) := by
  rintro pins s σ H xs us Q I r ⟨a, d, rfl, hd, hs, hn, hp, hz, q⟩
  obtain ⟨u, rfl, rfl⟩ := vals1 r
  obtain ⟨as, rd⟩ := Dp.reads I d (.ref a) (.ref a) hd rfl
  refine repr_of_reads' rd hs (fun z => by rw [hn] at z; cases z) hG (by omega) (fun _ _ e => e) (fun h' u tk hk => ?_) hz
  exact ⟨.str d.shown, H, I.kept hk, ⟨u, rfl⟩, q⟩
end

/-- the law's call, from such a promise -/
theorem law_callG {P : Program} {w : World} {K : PySem.W.Frag} {mg mb : PySem.Str → Option Value} {CX : CXT} {k : Nat} {fa a : Addr} {fd : FuncData} {x : PySem.Str} {sp : Sp} {s₁ : Shared} {vs : List Value} {ns : List Int}
    (KX : K.In s₁.heap) (hns : s₁.heap.Ns mainGlobals mg) (hb : s₁.heap.Ns builtinsNs mb) (hbb : ∀ x : PySem.Str, x ≠ "__name__" → mb x = bootBuiltins x) (hlim : s₁.heap.NoLimit) (hg : s₁.gens = #[])
    (ha : s₁.heap.get? a = some { cls := .type "list", data := .seq vs.toArray }) (hi : IntsAre vs ns) (hl : ns.length ≤ sizeLine) (hr : Room k callerA)
    (F : ∀ base : Heap, K.In base → base.Ns mainGlobals mg → FnG P w K mg base CX k fa fd [x] sp) (hbind : ∀ (s : Shared) (u : Value), BindsTo s fd ⟨[u], []⟩ [(x, u)])
    (hsp : ∀ H : Hp, Only H → SqL K H a (ns.map V.int) → sp [.ref a] H (fun v _ => v = .bl true) fun _ _ _ => False)
    (hCX : ∀ H e s', CX [] H s₁ (fun _ _ _ => False) e s' → False) :
    codeAny (model P w) callerA (.call (.ref fa) ⟨[.ref a], []⟩) (fun r s' => r = .ok (.ret (.bool true)) ∧ OldK s₁.heap s'.heap ∧ s'.os = s₁.os ∧ AllBare s'.gens) s₁ := by
  have rv := vals_ints hi
  suffices core : ∀ H : Hp, Only H → SqL K H a (ns.map V.int) → HOk P w H s₁.heap → (∀ b, b ≠ a → H b = none) → (K.lookup a ≠ none → H a = none) →
      codeAny (model P w) callerA (.call (.ref fa) ⟨[.ref a], []⟩) (fun r s' => r = .ok (.ret (.bool true)) ∧ OldK s₁.heap s'.heap ∧ s'.os = s₁.os ∧ AllBare s'.gens) s₁ by
    rcases hk : K.lookup a with _ | o
    · let H : Hp := fun b => if b = a then some (.frz { cls := .type "list", data := .seq vs.toArray } (.lst (ns.map V.int))) else none
      have Ha : H a = some (.frz { cls := .type "list", data := .seq vs.toArray } (.lst (ns.map V.int))) := if_pos rfl
      have Hn : ∀ b, b ≠ a → H b = none := fun b hb => if_neg hb
      refine core H (fun b => ?_) (.inl (.inr ⟨_, Ha⟩)) (fun b u z => ?_) Hn fun z => absurd hk z
      · rcases Classical.em (b = a) with rfl | hb
        · exact .inr ⟨_, _, Ha⟩
        · exact .inl (Hn b hb)
      · rcases Classical.em (b = a) with rfl | hb
        · rw [Ha] at z
          cases z
          exact ⟨ha, by rw [List.length_map]; exact hl, vs, _, rv, ha⟩
        · rw [Hn b hb] at z
          cases z
    · have e := KX a o hk
      rw [ha] at e
      cases e
      exact core (fun _ => none) (fun _ => .inl rfl) (.inr ⟨_, vs.toArray, _, hk, rfl, rfl, rfl, by rw [List.size_toArray, hi.length]; exact hl, by simpa using rv⟩) (fun _ _ z => by cases z) (fun _ _ => rfl) fun _ => rfl
  intro H hO hS hok hA hK
  have offDict : ∀ {b : Addr} {o : Obj} {es : Array DictEntry} {ep : Nat}, s₁.heap.get? b = some o → o.data = .dict es ep → H b = none := fun {b o es ep} e d =>
    hA b fun z => by
      subst z
      rw [ha] at e
      cases e
      cases d
  have nsK : ∀ {b : Addr} {m : PySem.Str → Option Value}, s₁.heap.Ns b m → (hidT s₁.heap H).Ns b m := fun {b m} ⟨o, es, ep, e, d, r⟩ => ⟨o, es, ep, hidT_get e (offDict e d), d, r⟩
  have inK : K.In (hidT s₁.heap H) := fun b o e => hidT_get (KX b o e) (by
    rcases Classical.em (b = a) with rfl | hb
    · exact hK (by rw [e]; simp)
    · exact hA b hb)
  have e0 : Env0 P w K mg (hidT s₁.heap H) callerA [] s₁ H :=
    ⟨rfl, ⟨inK, nsK hns, ⟨mb, nsK hb, hbb⟩, let ⟨mc, h1, h2⟩ := hlim; ⟨mc, nsK h1, h2⟩⟩, fun b o e => of_hidT e, Nat.le_of_eq (hidT_size _ _), trivial, fun b hb => absurd (show b ∈ ([] : List Addr) from hb) (by simp), hok, .of_eq hg⟩
  refine codeAny_mono ((F _ inK (nsK hns)).run callerA [] s₁ H ⟨[.ref a], []⟩ [.ref a] [.ref a] _ _ hr rfl e0 (hbind s₁ (.ref a)) (.cons rfl .nil) (hsp H hO hS)) fun r s' h => ?_
  match r, h with
  | .error e, h => exact (hCX H e s' h).elim
  | .ok .next, h => exact False.elim h
  | .ok .brk, h => exact False.elim h
  | .ok .cont, h => exact False.elim h
  | .ok (.ret u), h =>
    obtain ⟨v, H', os, bare, un, hok', r', q⟩ := h
    obtain rfl : v = .bl true := q
    obtain rfl : u = Value.bool true := r'
    refine ⟨rfl, OldK.of_keep fun b o e => ?_, os, bare⟩
    rcases hO b with z | ⟨ob, xs, z⟩
    · exact un.keep b o e z (fun z => by cases (show b ∈ ([] : List Addr) from z)) (by simp)
    · have e1 : s₁.heap.get? b = some ob := (hok b _ z).1
      have e2 : s'.heap.get? b = some ob := (hok' b _ (un.frzs b ob _ z)).1
      rw [e2, ← e1, e]
theorem walk_ofG {l : PySem.W.OpenLaw} {n k : Nat} {q : Program} {loose : List PySem.Str} {XP : (PySem.Str → Option Value) → Heap → Prop} {YP : World → Heap → Prop} {d : DefRec} {CX : CXT} {x : PySem.Str}
    (hn : l.most = some n) (hn2 : n ≤ sizeLine) (hdf : d.params.defaults = []) (hr : Room k callerA)
    (F : ∀ (w : World) (mg : PySem.Str → Option Value) (fa : Addr) (h : Heap), YP w h → h.Ns mainGlobals mg → mg d.name = some (.ref fa) →
      ∃ (K : PySem.W.Frag) (fd : FuncData) (sp : Sp), K.In h ∧ (∀ (s : Shared) (u : Value), BindsTo s fd ⟨[u], []⟩ [(x, u)]) ∧
        (∀ (H : Hp) (a : Addr) (ns : List Int), ns.length ≤ n → Only H → SqL K H a (ns.map V.int) → sp [.ref a] H (fun v _ => v = .bl true) fun _ _ _ => False) ∧
        ∀ base : Heap, K.In base → base.Ns mainGlobals mg → FnG l.prog w K mg base CX k fa fd [x] sp)
    (hCX : ∀ (H : Hp) (s : Shared) (e : Value) (s' : Shared), CX [] H s (fun _ _ _ => False) e s' → False) :
    PySem.W.WalkO q loose XP YP l.row.toRowW d [] (fun f vs => PySem.call f vs) := by
  refine Att.attach_call hn hdf fun w s₀ s₁ mg mb fa o pm cd doc a vs ns G Y ho hd hcd hmg hobj hints hlen hg => ?_
  obtain ⟨K, fd, sp, KX, hb, hsp, hF⟩ := F w mg fa _ Y G.T.g hmg
  exact law_callG KX G.T.g G.T.b G.T.builtins G.T.nolimit hg hobj hints (Nat.le_trans hlen hn2) hr hF hb (fun H hO hS => hsp H a ns hlen hO hS) fun H e s' => hCX H s₁ e s'
end KR
/-! Rules, part 4: super().m(..) in a method: its body is read at its own code. -/
namespace KR
open PySem PySem.Spec PyProof.Rows L2

/-! ### readings at a code -/
structure PEa (X : Cx) (c : Code) (e : Expr) (t : TE) : Prop where
  run : ∀ (pins : List (Addr × Obj)) (s : Shared) (σ : L2.St) (H : Hp) (Q : VK), Inv X pins σ H s → t σ H Q → _root_.PySem.wpAt (model X.prog X.w) X.A c (eval e X.env) (EP X pins σ Q) X.xe s
structure PSa (X : Cx) (c : Code) (st : Stmt) (t : TS) : Prop where
  run : ∀ (pins : List (Addr × Obj)) (s : Shared) (σ : L2.St) (H : Hp) (D : Ends), Inv X pins σ H s → t D σ H → _root_.PySem.wpAt (model X.prog X.w) X.A c (exec st X.env) (SP X pins D) X.xe s
structure PSsa (X : Cx) (c : Code) (st : List Stmt) (t : TS) : Prop where
  run : ∀ (pins : List (Addr × Obj)) (s : Shared) (σ : L2.St) (H : Hp) (D : Ends), Inv X pins σ H s → t D σ H → _root_.PySem.wpAt (model X.prog X.w) X.A c (execs st X.env) (SP X pins D) X.xe s
section
variable {X : Cx} {c : Code} {st : Stmt} {rest : List Stmt} {t u : TS} {e : Expr} {te : TE} {pos : Pos}
theorem PSa.of (h : PS X st t) : PSa X c st t := ⟨fun pins s σ H D I q => PySem.wpAt_of_wpAny (h.run pins s σ H D I q)⟩
theorem PSsa.of (h : PSs X rest t) : PSsa X c rest t := ⟨fun pins s σ H D I q => PySem.wpAt_of_wpAny (h.run pins s σ H D I q)⟩
theorem pssa_cons (h1 : PSa X c st t) (h2 : PSsa X c rest u) : PSsa X c (st :: rest) (tSeq t u) := by
  refine ⟨fun pins s σ H D I h => ks_wpAt_execs_cons (PySem.wpAt_mono (h1.run pins s σ H { D with nx := u D } I h) (fun f s1 q => ?_) fun _ _ z => z)⟩
  match f, q with
  | .next, ⟨σ', H', I', q⟩ => exact h2.run pins s1 σ' H' D I' q
  | .ret _, q => exact q
  | .brk, q => exact q
  | .cont, q => exact q
theorem psa_expr (he : PEa X c e te) (hs : swapsWith e none pos.line X.env = pure false := by rfl) : PSa X c (.Expr e pos) (tDrop te) :=
  ⟨fun pins s σ H D I h => ks_wpAt_Expr_any (PySem.wpAt_mono (he.run pins s σ H _ I h) (fun v s1 ⟨x, H1, I1, r1, q1⟩ => ⟨σ, H1, I1, q1⟩) fun _ _ z => z) I.quiet hs⟩
theorem psa_asg {tg : Expr} {g : TG} (he : PEa X c e te) (hg : PG X tg g) (hs : swapsWithSole [tg] e pos.line X.env = pure false := by rfl) (hw : swappedStores [tg] e X.env = pure none := by rfl)
    (h1 : (assignEach [tg] X.env).map (·.2) = [assign tg X.env] := by rfl) : PSa X c (.Assign [tg] e pos) (tAsg te g) := by
  refine ⟨fun pins s σ H D I h => ?_⟩
  rw [exec_Assign_arm, hs]
  refine PySem.wpAt_bind (PySem.wpAt_of_wpAny (wpAny_standAt (PySem.wpAt_bind (PySem.wpAt_of_wpAny (wpAny_pure ?_)))))
  rw [if_neg (by decide)]
  refine PySem.wpAt_bind (PySem.wpAt_mono (he.run pins s σ H _ I h) (fun v s1 ⟨x, H1, I1, r1, q1⟩ => PySem.wpAt_of_wpAny ?_) fun _ _ z => z)
  rw [hw, h1]
  refine wpAny_bind (wpAny_pure ?_)
  have fin := thn (hg.run pins s1 σ H1 x v _ I1 r1 q1) (Q' := fun _ s2 => SP X pins D .next s2) fun _ s2 q => q
  first
    | exact wpAny_assignStores_none fin
    | (unfold assignStores; exact wpAny_bind (wpAny_mono fin (fun _ _ q => wpAny_pure q) fun _ _ z => z))
    | (unfold assignStores; dsimp only; exact wpAny_bind (wpAny_mono fin (fun _ _ q => wpAny_pure q) fun _ _ z => z))
end

/-! ### the facts -/
/-- a method that says super(): its class at D -/
structure SFn (P : Program) (K : PySem.W.Frag) (f cc cda D : Addr) (name qual : PySem.Str) (params : Arguments) (body : List Stmt) (scope : Scope) (fd : FuncData) : Prop where
  ex : ∃ (oc : Value) (od : Option Addr) (dV kV doc pm : Value) (an : Option Addr) (ct : Value) (osl : Array (Option Value)), fd = PySem.W.fnX name qual params body scope [("__class__", cc)] dV kV doc pm an (.ref cda) ct ∧ K.lookup f = some ⟨oc, od, .func fd, osl⟩
  code : PySem.W.codeIn K (.ref cda) qual = true
  cell : ∃ (cl : Value) (cld : Option Addr) (csl : Array (Option Value)), K.lookup cc = some ⟨cl, cld, .cell (some (.ref D)), csl⟩
  file : ∃ (ccl : Value) (cdd : Option Addr) (vs : Array Value) (ccs : Array (Option Value)) (file : PySem.Str) (tf : Tok), K.lookup cda = some ⟨ccl, cdd, .fields vs, ccs⟩ ∧ vs[2]? = some (.str file tf) ∧ ((P.main.file : PySem.Str) == file) = true
/-- super() of an instance of C within the class D finds the def at f2 under the name m -/
structure Sup (K : PySem.W.Frag) (C D f2 : Addr) (m : PySem.Str) : Prop where
  opq : PySem.W.nsIn K cStatics "thirdparty.any" = some none
  sub : PySem.W.mroIn K C (.ref D) = some true
  cls : ∃ cd, PySem.W.clsIn K D = some cd
  meth : PySem.W.ks_superIn K C D m = some (some (.ref f2))
  fn : PySem.W.typeIn K (.ref f2) = some (.type "function")
  fi : PySem.W.fnIn K f2 = true

/-! ### super().m(e, .., k = v, ..) -/
/-- self stands in slot 0 -/
def tSuper (K : PySem.W.Frag) (C D : Addr) (m : PySem.Str) (n nk : Nat) (sp : Sp) (gV : List V → List V → List V) (E : XK) (t tk : TA) : TE := fun σ H Q => ∃ a dx fs, σ[0]? = some (some (.ref a)) ∧ H a = some (.ins C dx fs) ∧
  t σ H fun vs H1 => tk σ H1 fun zs H2 => vs.length = n ∧ zs.length = nk ∧ sp (gV (.ref a :: vs) zs) H2 Q E
theorem cls_at {K : PySem.W.Frag} {h : Heap} {D : Addr} {cd : ClassData} (X : K.In h) (e : PySem.W.clsIn K D = some cd) : ∃ oD, h.get? D = some oD ∧ oD.data = .cls cd := by
  unfold PySem.W.clsIn at e
  split at e
  · rename_i c d cd' sl ho
    cases e
    exact ⟨_, X _ _ ho, rfl⟩
  · cases e
theorem fn_at {K : PySem.W.Frag} {h : Heap} {f : Addr} (X : K.In h) (e : PySem.W.typeIn K (.ref f) = some (.type "function")) : ∃ o, h.get? f = some o ∧ o.cls = .type "function" := by
  have e' : (K.lookup f).map (·.cls) = some (.type "function") := e
  cases z : K.lookup f with
  | none => rw [z] at e'; cases e'
  | some o => rw [z] at e'; exact ⟨o, X _ _ z, Option.some.inj e'⟩
section
variable {X : Cx} {CX : CXT} {k n : Nat} {f cc cda C D f2 : Addr} {name qual : PySem.Str} {params : Arguments} {body body0 : List Stmt} {scope : Scope} {fd fd2 : FuncData} {ps ks : List PySem.Str} {sp : Sp} {E : XK} {m self : PySem.Str} {p0 p1 apos pos : Pos} {es : List Expr} {e : Expr} {kws : List Keyword} {t tk : TA}
  {g : List Value → List Value → List Value} {gV : List V → List V → List V} {pl : Sem Bool} {ar : Arg}
theorem pea_super (S : SFn X.prog X.K f cc cda D name qual params body0 scope fd) (U : Sup X.K C D f2 m) (hK : X.K.In X.base) (hfu : X.env.func = some f) (hco : X.env.code = .ref cda) (hcl : X.env.cells.lookup ("__class__" : PySem.Str) = some cc)
    (hks : X.env.kindOf "super" = some .globalImplicit) (hkc : X.env.kindOf "__class__" = some .free) (hp : (params.posonlyargs ++ params.args).head? = some ar) (hN : X.N[0]? = some ar.arg) (hka : X.env.kindOf ar.arg = some .local)
    (hms : X.mg "super" = none) (htop : (X.prog.main.scope.names.lookup ("super" : PySem.Str)).isSome = false) (hm : (m == ("__class__" : PySem.Str)) = false)
    (F : FnOk X.prog X.w X.K X.mg X.base CX k f2 fd2 ps sp) (hr : Room k X.A) (hb : KBn X.K fd2 ps (n + 1) ks g gV) (hx : Passes CX X E) (ha : PA X (e :: es) t) (hkw : PK X kws tk)
    (hall : (backToKw pos (keywordEach kws X.env)).all (·.1.isSome) = true := by rfl) (hkn : (backToKw pos (keywordEach kws X.env)).filterMap (·.1) = ks := by rfl)
    (hst : starEach (e :: es) X.env = (false, eval e X.env) :: starEach es X.env := by rfl)
    (hpl : ((backTo pos (starEach (e :: es) X.env)).any (·.1) || (backToKw pos (keywordEach kws X.env)).any (·.1.isNone)) = false := by rfl)
    (ht : eval (.Call (.Attribute (.Call (.Name "super" p0) [] [] p1) m apos) (e :: es) kws pos) X.env = (do
      let ov ← attributeBase (.Call (.Name "super" p0) [] [] p1) m X.env (eval (.Call (.Name "super" p0) [] [] p1) X.env)
      standAt apos.atName
      let (f, first) ← holding [ov] (getMethod ov m pl)
      callWith pos f first (backTo pos (starEach (e :: es) X.env)) (backToKw pos (keywordEach kws X.env))) := by rfl) :
    PEa X (.func body X.env) (.Call (.Attribute (.Call (.Name "super" p0) [] [] p1) m apos) (e :: es) kws pos) (tSuper X.K C D m n ks.length sp gV E t tk) := by
  refine ⟨fun pins s σ H Q I h => ?_⟩
  obtain ⟨a, dx, fs, hself, hH, hq⟩ := h
  obtain ⟨oc, od, dV, kV, doc, pm, an, ct, osl, rfl, lk⟩ := S.ex
  obtain ⟨cl, cld, csl, lkc⟩ := S.cell
  obtain ⟨ccl, cdd, vs, ccs, file, tf, lkf, hv2, hfile⟩ := S.file
  obtain ⟨cdD, hD⟩ := U.cls
  have KX : X.K.In s.heap := I.kIn
  obtain ⟨oD, hD1, hD2⟩ := cls_at KX hD
  obtain ⟨mA, O, _⟩ := ins_get I.hok hH
  obtain ⟨odx, J, _⟩ := O.look
  rw [ht]
  refine PySem.wpAt_bind (ks_wpAt_super_base (env := X.env) hks hkc hm hfu (KX _ _ lk) rfl hp hco (KX _ _ lkf) rfl hv2 hfile htop ?_)
  have gl : X.mg "super" = none := hms
  obtain ⟨mb, hb1, hb2⟩ := I.mod.blt
  refine PySem.W.ks_loadName_global I.ok.kind hks (Calls.loadGlobal_builtin (by rw [I.ok.glob]; exact I.mod.glob.keeps I.bk) gl (by rw [I.ok.blt]; exact hb1.keeps I.bk) ((hb2 _ (by decide)).trans (show bootBuiltins ("super" : PySem.Str) = some (.type "super") by decide +kernel)) ⟨rfl, ?_⟩)
  refine wpAny_loadName_free I.ok.kind hkc hcl ⟨_, KX _ _ lkc, rfl⟩ ?_
  obtain ⟨m0, hns, hl⟩ := I.loc
  obtain ⟨u, ru, lu⟩ := hl 0 ar.arg (.ref a) hN hself (.inl hka)
  obtain rfl : u = Value.ref a := ru
  have hm0 : m0 ar.arg = some (.ref a) := by
    rcases lu with ⟨_, z⟩ | ⟨z, _⟩
    · exact z
    · rw [hka] at z
      rcases z with z | z <;> cases z
  refine wpAny_loadName_local I.ok.kind hka hns hm0 ?_
  refine ks_wpAny_isType_cls hD1 hD2 ⟨rfl, ?_⟩
  refine ks_wpAny_call_super hD1 hD2 J.at_ J.cls (fun c z => ?_) (PySem.W.looks_mroIn KX U.sub) (fun h1 e1 k1 => ?_)
  · have nc := J.no
    unfold PySem.W.notCls at nc
    rw [z] at nc
    exact Bool.noConfusion nc
  -- the super object stands
  have I1 : Inv X pins σ H { s with heap := h1 } := I.kept (t' := s.toks) k1
  have KX1 : X.K.In h1 := I1.kIn
  refine PySem.wpAt_of_wpAny (wpAny_bind (wpAny_standAt (wpAny_bind (wpAny_holding ?_))))
  obtain ⟨of, hof, hofc⟩ := fn_at KX1 U.fn
  obtain ⟨cdC, hC, hal⟩ : ∃ cd, PySem.W.clsIn X.K C = some cd ∧ PySem.W.alongIn X.K m ((cd.mro.dropWhile (· != .ref D)).drop 1) = some (some (.ref f2)) := by
    have z := U.meth
    unfold PySem.W.ks_superIn at z
    exact Option.bind_eq_some_iff.mp z
  refine ks_wpAny_getMethod_super e1 (PySem.W.looks_opaque KX1 U.opq) (l₀ := cdC.mro) (fun A Q E s k q => wpAny_bind ((PySem.W.looks_clsIn KX1 hC) A _ E s k (wpAny_pure q))) rfl KX1 hal hof hofc (PySem.W.ks_ne KX J hC) hm ?_
  -- the bound method stands
  have hn1 : H h1.objs.size = none := I1.hok.fresh (Nat.le_refl _)
  have fp1 : FpOk X pins H h1.objs.size := I1.fpOk (Nat.le_refl _) hn1
  have I2 : Inv X pins σ H { s with heap := h1.push { cls := .type "method", data := .fields #[.ref f2, .ref a] }, toks := s.toks + 1 } := I1.kept (t' := s.toks + 1) fun b o z => Heap.get?_push_of_some _ z
  have at1 : (h1.push { cls := .type "method", data := .fields #[.ref f2, .ref a] }).get? h1.objs.size = some { cls := .type "method", data := .fields #[.ref f2, .ref a] } := Heap.get?_push_size _ rfl
  have I3 := I2.pinned (fp := [h1.objs.size]) (fun b hb => by rw [List.mem_singleton.mp hb]; exact fp1) fun b hb => ⟨PySem.W.methodObj (.ref f2) (.ref a), by rw [List.mem_singleton.mp hb]; exact at1, fun v => (nofun : PySem.Data.fields #[.ref f2, .ref a] ≠ .cell v)⟩
  have stays : ∀ {σ' : L2.St} {H' : Hp} {s' : Shared}, Inv X (pins ++ pinsAt [h1.objs.size] (h1.push { cls := .type "method", data := .fields #[.ref f2, .ref a] })) σ' H' s' → s'.heap.get? h1.objs.size = some (PySem.W.methodObj (.ref f2) (.ref a)) := fun {σ' H' s'} J =>
    (J.pin (h1.objs.size, _) (List.mem_append_right _ (List.mem_append_right _ (mem_pinsAt (List.mem_singleton.mpr rfl) at1)))).1
  refine PySem.W.callWith_of (P := PySem.W.MethP X.K h1.objs.size f2 (.ref a)) hpl (PySem.W.keeps_M U.fi) (evalArgs_kw2 hall (thn (ha.run pos _ _ σ H _ I3 hq) fun us s4 ⟨ys, H4, I4, r4, q4⟩ => ?_) hst)
  refine thn (hkw.run pos _ s4 σ H4 _ I4 q4) fun ws s5 ⟨zs, H5, I5, r5, l1, l2, q5⟩ => ⟨⟨stays I5, I5.kIn⟩, ?_⟩
  have I6 := I5.unpinned
  rw [hkn]
  have rr : Vals (V.ref a :: ys) (Value.ref a :: us) := .cons rfl r4
  refine wpAny_call (ks_codeAny_call_bound (stays I5) (codeAny_mono (F.run X.A X.stack s5 H5 ⟨Value.ref a :: us, ks.zip ws⟩ (g (Value.ref a :: us) ws) (gV (V.ref a :: ys) zs) Q E hr I6.env0
    (hb.to s5 (Value.ref a :: us) ws I5.kIn (rr.length.symm.trans (congrArg Nat.succ l1)) (r5.length.symm.trans l2)) (hb.rel rr r5) q5) fun r s' hq => ?_))
  match r, hq with
  | .error e, hq => exact hx pins σ H5 s5 e s' I6 hq
  | .ok (.ret u), hq => exact I6.after hq
  | .ok .next, hq => exact False.elim hq
  | .ok .brk, hq => exact False.elim hq
  | .ok .cont, hq => exact False.elim hq
end

/-! ### the def by its body -/
section
variable {CX : CXT} {P : Program} {w : World} {K : PySem.W.Frag} {mg : PySem.Str → Option Value} {base : Heap} {N ps : List PySem.Str} {k : Nat} {f cc cda D : Addr} {name qual : PySem.Str} {params : Arguments} {body : List Stmt} {scope : Scope} {fd : FuncData} {sp : Sp}
abbrev sNF (name qual : PySem.Str) (params : Arguments) (body : List Stmt) (scope : Scope) (cc cda : Addr) : NdefX.NF := ⟨name, qual, params, body, scope, [("__class__", cc)], cda⟩
theorem lk_class {cc c : Addr} {y : PySem.Str} (e : List.lookup y [(("__class__" : PySem.Str), cc)] = some c) : y = "__class__" ∧ c = cc := by
  have e' : (match y == ("__class__" : PySem.Str) with | true => some cc | false => none) = some c := e
  cases q : y == ("__class__" : PySem.Str) with
  | true =>
    rw [q] at e'
    cases e'
    exact ⟨beq_iff_eq.mp q, rfl⟩
  | false =>
    rw [q] at e'
    cases e'
theorem lk_self {cc : Addr} : List.lookup ("__class__" : PySem.Str) [(("__class__" : PySem.Str), cc)] = some cc := by
  show (match ("__class__" : PySem.Str) == ("__class__" : PySem.Str) with | true => some cc | false => none) = some cc
  rw [beq_self_eq_true]
theorem fnS_of (F : SFn P K f cc cda D name qual params body scope fd) (S : NdefX.NScope N ps ["__class__"] scope) (len : ∀ vs H Q E, sp vs H Q E → vs.length = ps.length)
    (hbody : ∀ (A : Around) (outer : List Env) (s : Shared) (H : Hp) (vs : List V) (Q : VK) (E : XK), Room k (A.deeper (NdefX.envF (sNF name qual params body scope cc cda) f s.heap.objs.size)) → sp vs H Q E →
      ∃ t, PSsa (NdefX.ncx CX P w K mg base N (sNF name qual params body scope cc cda) f A outer s H E) (.func body (NdefX.envF (sNF name qual params body scope cc cda) f s.heap.objs.size)) body t ∧
        t { nx := fun _ H' => Q .non H', rt := Q } (NdefX.startF N vs [some (.ref D)]) H) : FnOk P w K mg base CX (k + 1) f fd ps sp := by
  obtain ⟨oc, od, dV, kV, doc, pm, an, ct, osl, rfl, lk⟩ := F.ex
  obtain ⟨cl, cld, csl, lkc⟩ := F.cell
  refine ⟨len, fun A outer s H args us vs Q E hr e0 hb r hsp => ?_⟩
  have KX : K.In s.heap := e0.mod.kin.keeps fun b o e => (e0.bs b o e).1
  have lim : s.heap.NoLimit := e0.mod.nolimit.keeps fun b o e => (e0.bs b o e).1
  have C : NdefX.CellsAt [(("__class__" : PySem.Str), cc)] ["__class__"] [some (.ref D)] s.heap H := by
    have at1 : s.heap.IsCell cc (some (.ref D)) := ⟨_, KX _ _ lkc, rfl⟩
    have fr1 : H cc = none := (e0.bs cc _ (e0.mod.kin _ _ lkc)).2
    refine ⟨rfl, fun y c e => ?_, fun x y c e1 e2 => (lk_class e1).1.trans (lk_class e2).1.symm, fun i y e => ?_⟩
    · obtain ⟨_, rfl⟩ := lk_class e
      exact ⟨fr1, _, at1⟩
    · match i, e with
      | 0, e =>
        obtain rfl : ("__class__" : PySem.Str) = y := Option.some.inj e
        refine ⟨cc, lk_self, fun v e => ?_⟩
        obtain rfl : V.ref D = v := Option.some.inj (Option.some.inj e)
        exact ⟨_, rfl, at1⟩
      | i + 1, e => simp at e
  refine codeAny_call_function hr.depth (KX _ _ lk) rfl S.co S.gen rfl (PySem.W.codeRec_of KX F.code) (hb _ _ _ _ ?_)
  refine wpAny_newFunctionEnv S.nocell (fun ⟨n, _⟩ hy => S.par n (List.of_mem_zip hy).1) (fun h₁ hns hsb => ⟨lim.fresh _ hsb, ?_⟩) S.kind
  have kp : ∀ b o, s.heap.get? b = some o → h₁.get? b = some o := fun b o e => hsb.extBut b o (Nat.ne_of_lt (Heap.lt_size e)) (Heap.get?_push_of_some _ e)
  obtain ⟨t, ht, hq⟩ := hbody A outer s H vs Q E (hr.deeper _) hsp
  have I : Inv (NdefX.ncx CX P w K mg base N (sNF name qual params body scope cc cda) f A outer s H E) [] (NdefX.startF N vs [some (.ref D)]) H { s with heap := h₁, toks := s.toks + (ps.zip us).length } :=
    NdefX.inv_startN S hr.hd e0 (len _ _ _ _ hsp) r C hns kp
  show codeAny _ _ (.func body (NdefX.envF (sNF name qual params body scope cc cda) f s.heap.objs.size)) _ _
  refine ks_codeAny_funcAt (PySem.wpAt_mono (ht.run [] _ (NdefX.startF N vs [some (.ref D)]) H _ I hq) (fun fl s' hs => ?_) fun e s' hs => hs)
  match fl, hs with
  | .ret u, ⟨v, _, H', J, rv, q⟩ => exact ⟨v, H', J.os, J.bare, J.base, J.hok, rv, q⟩
  | .next, ⟨_, H', J, q⟩ => exact ⟨V.non, H', J.os, J.bare, J.base, J.hok, rfl, q⟩
  | .brk, ⟨_, _, _, q⟩ => exact False.elim q
  | .cont, ⟨_, _, _, q⟩ => exact False.elim q
end
end KR
/-! Rules, part 5: sets of ints: set(list), set(tuple), their length, {elt for .. for .. if ..}. -/
namespace KR
open PySem PySem.Spec PyProof.Rows L2

section
variable {P : Program} {w : World} {A : Around} {E : Value → Shared → Prop} {s : Shared}
abbrev newSet (w : World) : Obj := { cls := .type "set", dict := none, data := .set #[] 0 (.fresh 0 0 (!w.params.followText "set-order")) }
/-- set(list of ints) -/
theorem call_set_lstI {l : Addr} {items : Array Value} (ns : List Int) {Q : Value → Shared → Prop} (hh : A.handled = none) (hl : s.heap.IsList l items) (hit : IntsAre items.toList ns) (hb : ns.length + 1 < scanBound)
    (h : ∀ (h' : Heap) (tk c : Nat), SetR w h' s.heap.objs.size (fun j => decide (j ∈ ns)) c → c ≤ ns.length → (∀ b o, s.heap.get? b = some o → h'.get? b = some o) → Q (.ref s.heap.objs.size) { s with heap := h', toks := tk }) :
    wpAny (model P w) A (call (.type "set") [.ref l]) Q E s := by
  have hisz : items.size = ns.length := by simpa using IntsAre.length hit
  have hlS : l < s.heap.objs.size := let ⟨ol, hol, _⟩ := hl; Heap.lt_size hol
  have hS : (s.heap.push (newSet w)).get? s.heap.objs.size = some (newSet w) := Heap.get?_push_size _ rfl
  have hl1 : (s.heap.push (newSet w)).IsList l items := hl.push _
  have hI : (s.heap.push (newSet w)).objs.size = s.heap.objs.size + 1 := Heap.size_push ..
  have hneI : l ≠ (s.heap.push (newSet w)).objs.size := by rw [hI]; exact Nat.ne_of_lt (Nat.lt_succ_of_lt hlS)
  have hval : ∀ (i : Nat) (v : Value), items[i]? = some v → ∃ k t, ns[i]? = some k ∧ v = .int k t := fun i v hv => by
    have hi : i < ns.length := by rw [← hisz]; exact (Array.getElem?_eq_some_iff.mp hv).1
    obtain ⟨t, e⟩ := PyProof.Rows.IntsAre.int_at hit i v (by rw [Array.getElem?_toList]; exact hv)
    exact ⟨ns[i], t, List.getElem?_eq_getElem hi, by rw [e, List.getD_eq_getElem?_getD, List.getElem?_eq_getElem hi] <;> rfl⟩
  obtain ⟨c, tl, hmro⟩ := F.called_set.mro
  have hmade := F.called_set.made
  have hsub := F.called_set.sub
  have h1 := F.called_set.notType
  have h2 := F.called_set.canCreate
  have hct := F.typeCall_set_1 (.ref l)
  refine wpAny_call (codeAny_of_tree ?_)
  show wpAny _ _ (callAny (.type "set") _) _ _ _
  refine wpAny_pure ⟨Code.quiet_builtin _ (by decide +kernel), codeAny_builtin F.entry_type_call ?_⟩
  rw [Around.under_plain (weight_type_call_type "set" [.ref l] []) rfl]
  repeat (any_goals (first | assumption | wp_step))
  refine codeAny_mono (code_set_led1 (.ref l) (E := E) (Q₁ := fun obj s₁ => obj = .ref s.heap.objs.size ∧ s₁ = { s with heap := s.heap.push (newSet w) }) ⟨rfl, rfl⟩) fun r s₁ hr => ?_
  rcases r with e | (_ | _ | _ | obj) <;> first | exact hr | exact hr.elim | skip
  obtain ⟨rfl, rfl⟩ := hr
  have hT : Shared.TypeIs { s with heap := s.heap.push (newSet w) } (.ref s.heap.objs.size) "set" := ⟨_, hS, rfl⟩
  have hli := F.called_set.init.lookup
  have hbi := F.called_set.init.bind (.ref s.heap.objs.size)
  repeat (any_goals (first | assumption | wp_step))
  refine codeAny_mono (codeAny_call_builtin (R := wants (fun r s₂ => r = .none ∧ ∃ h' tk c, s₂ = { s with heap := h', toks := tk } ∧ SetR w h' s.heap.objs.size (fun j => decide (j ∈ ns)) c ∧ c ≤ ns.length ∧
    (∀ b o, s.heap.get? b = some o → h'.get? b = some o)) E) F.called_set.init.plain F.entry_set_init (check_set_init_1 hT ?_)) fun r₂ s₂ hr₂ => ?_
  · obtain ⟨⟨ocls, odict, odata, oslots⟩, hol, hcl, nl, hdl⟩ := id hl1
    simp only at hcl hdl
    subst hcl hdl
    have hsls := F.sub_list_set
    have hslf := F.sub_list_frozenset
    have hne : (Value.type "list" == Value.type "dict") = false := by decide
    unfold Builtin.«set.__init__» noKeywords Builtin.Frozenset.updateFrom
    generalize hPI : pyIter = PI
    wp_walk
    subst hPI
    refine wpAny_pyIter_list hl1 (wpAny_bind (wpAny_runValue ?_))
    have hh3 : A.in1.in1.in1.handled = none := by simp [hh]
    have hSf : s.heap.objs.size ∉ [(s.heap.push (newSet w)).objs.size, l] := by
      rw [hI]
      simp only [List.mem_cons, List.not_mem_nil, or_false, not_or]
      exact ⟨Nat.ne_of_lt (Nat.lt_succ_self _), Nat.ne_of_gt hlS⟩
    refine set_update_ints ((Walks.list hh3 _ l hneI items).toS) s.heap.objs.size hSf ns hisz hb hval (items.size - 0) 0 _ (by omega) (Nat.zero_le _) ⟨⟨_, Heap.get?_push_size _ rfl, rfl, rfl⟩, (hl1.push _)⟩
      ⟨0, Nat.le_refl 0, setR_new_at (Heap.get?_push_of_some _ hS)⟩ fun s' c' hm hc' hS' => ?_
    obtain ⟨h', g2, d', tk', os'⟩ := s'
    obtain rfl : g2 = s.gens := hm.gens
    obtain rfl : d' = s.drawn := hm.drawn
    obtain rfl : os' = s.os := hm.os
    show wpAny _ _ _ _ _ _
    refine wpAny_pure ?_
    show wpAny _ _ (ret Value.none) _ _ _
    rw [hisz] at hc'
    refine wpAny_pure ⟨rfl, h', tk', c', rfl, hS', hc', fun b o e => hm.heap b o ?_ (Heap.get?_push_of_some _ (Heap.get?_push_of_some _ e))⟩
    have hb0 : b < s.heap.objs.size := Heap.lt_size e
    rw [hI]
    simp only [List.mem_cons, List.not_mem_nil, or_false, not_or]
    exact ⟨Nat.ne_of_lt hb0, Nat.ne_of_lt (Nat.lt_succ_of_lt hb0)⟩
  · rcases r₂ with e | (_ | _ | _ | r) <;> first | exact hr₂ | exact hr₂.elim | skip
    obtain ⟨rfl, h', tk, c', rfl, hS', hc', hk'⟩ := hr₂
    repeat (any_goals (first | assumption | wp_step))
    exact h _ _ c' hS' hc' hk'
end

section
variable {X : Cx}
/-- set(xs), xs a list or a tuple of ints -/
def rSetI (K : PySem.W.Frag) (w : World) : List V → Hp → VK → Prop := fun xs H Q => ∃ (l : Addr) (ns : List Int), xs = [V.ref l] ∧ (SqL K H l (ns.map V.int) ∨ SqT K H l (ns.map V.int)) ∧ ns.length ≤ 1000 ∧
  ∀ p c, H p = none → c ≤ ns.length → Q (.ref p) (upd H p (SetO w p (fun j => decide (j ∈ ns)) c))
theorem cr_setI (hc : X.calm = true) : CallR X (.type "set") (rSetI X.K X.w) := by
  rintro pins s σ H xs us Q I r ⟨l, ns, rfl, hl, hz, q⟩
  rw [Vals.ref1 r]
  have hn : H s.heap.objs.size = none := I.hok.fresh (Nat.le_refl _)
  have fin : ∀ (h' : Heap) (tk c : Nat), SetR X.w h' s.heap.objs.size (fun j => decide (j ∈ ns)) c → c ≤ ns.length → (∀ b o, s.heap.get? b = some o → h'.get? b = some o) → EP X pins σ Q (.ref s.heap.objs.size) { s with heap := h', toks := tk } :=
    fun h' tk c R hcn k => ⟨.ref s.heap.objs.size, _, I.laid (t' := tk) k (Nat.le_refl _) (setO_new R), rfl, q _ c hn hcn⟩
  rcases hl with hl | hl
  · obtain ⟨its, rv, pl, hz2⟩ := I.list hl
    exact call_set_lstI ns (I.ok.hd hc) pl.isList (by simpa using ints_of_vals rv) (by unfold scanBound; omega) fin
  · obtain ⟨its, rv, pt, hz2⟩ := I.tuple hl
    exact call_set_tupI ns (I.ok.hd hc) pt (by simpa using ints_of_vals rv) (by unfold scanBound; omega) fin
/-- len of a set of ints -/
theorem call_lenSet : CallR X (.builtin "len") (fun xs H Q => ∃ (a : Addr) (S : Int → Bool) (n : Nat), xs = [V.ref a] ∧ H a = some (SetO X.w a S n) ∧ n ≤ 100000 ∧ Q (.int n) H) := by
  rintro pins s σ H xs us Q I r ⟨a, S, n, rfl, ha, hz, q⟩
  rw [Vals.ref1 r]
  obtain ⟨o, es, ep, t, ho, hex, hd, _, _, _, hf, hn⟩ := (setO_get I ha).setOf (P := X.prog)
  refine call_len_set ho hex hd hf (by rw [hn]; omega) ⟨.int n, H, I.tok _, ⟨_, by rw [hn]⟩, q⟩
end
end KR
/-! Rules, part 6: {elt for t in .. if .. for u in .. if ..}, elt an int. -/
namespace KR
open PySem PySem.Spec PyProof.Rows L2

theorem turnS2_out (elt t0 i0 t1 i1 : Expr) (f0 f1 : List Expr) (sc : Scope) (pos : Pos) (it acc : Value) (env : Env) :
    compTurn (.SetComp elt [⟨t0, i0, f0, 0⟩, ⟨t1, i1, f1, 0⟩] sc pos) 0 it acc env = (do
      standAt i0.pos
      match ← pyNext it with
      | none => pure (.done .next)
      | some v =>
        letOwnedTupleGo t0 it v
        assign t0 env v
        let mut ok := true
        for c in f0 do
          if ok then ok ← isTrue c env (eval c env)
        if ok then
          let x ← eval i1 env
          standAt i1.pos
          let x ← foldedSetIterable i1 env x
          let _ ← runOwn (.compStart (.SetComp elt [⟨t0, i0, f0, 0⟩, ⟨t1, i1, f1, 0⟩] sc pos) 1 (← holding [x] (pyIter x)) acc env) env
        again (.compLoop (.SetComp elt [⟨t0, i0, f0, 0⟩, ⟨t1, i1, f1, 0⟩] sc pos) 0 it acc env)) := by rfl
theorem turnS2_in (elt t0 i0 t1 i1 : Expr) (f0 f1 : List Expr) (sc : Scope) (pos : Pos) (it acc : Value) (env : Env) :
    compTurn (.SetComp elt [⟨t0, i0, f0, 0⟩, ⟨t1, i1, f1, 0⟩] sc pos) 1 it acc env = (do
      standAt i1.pos
      match ← pyNext it with
      | none => pure (.done .next)
      | some v =>
        letOwnedTupleGo t1 it v
        assign t1 env v
        let mut ok := true
        for c in f1 do
          if ok then ok ← isTrue c env (eval c env)
        if ok then
          (do let v ← eval elt env; standAt elt.pos; let _ ← call (.builtin "set.add") [acc, v])
        again (.compLoop (.SetComp elt [⟨t0, i0, f0, 0⟩, ⟨t1, i1, f1, 0⟩] sc pos) 1 it acc env)) := by rfl

section
variable {prog : Program} {w : World} {A : Around} {R : Result → Shared → Prop} {s : Shared} {elt t0 i0 t1 i1 : Expr} {f0 f1 : List Expr} {sc : Scope} {pos : Pos} {it acc : Value} {env : Env}
/-- what a turn's tests ask -/
abbrev tests (env : Env) (fs : List Expr) : Sem Bool := forIn fs true fun c r => if r = true then do let ok ← isTrue c env (eval c env); pure (ForInStep.yield ok) else pure (ForInStep.yield r)
/-- an exception of the block -/
abbrev Nb (prog : Program) (w : World) (A : Around) (env : Env) (R : Result → Shared → Prop) : Value → Shared → Prop := notedBy (model prog w) A env fun e s' => R (.error e) s'
theorem loopS2_out (hs : ∀ x, foldedSetIterable i1 env x = pure x) (I : Nat → Shared → Prop)
    (turn : ∀ n s, I n s → wpAny (model prog w) A (pyNext it) (fun r s₁ => match r with
      | none => R (.ok .next) s₁
      | some v => wpAny (model prog w) A (letOwnedTupleGo t0 it v) (fun _ s₁' => wpAny (model prog w) A (assign t0 env v) (fun _ s₂ => wpAny (model prog w) A (tests env f0) (fun ok s₃ =>
            if ok = true then wpAny (model prog w) A (eval i1 env) (fun x s₄ => wpAny (model prog w) A (pyIter x) (fun it1 s₅ =>
              codeAny (model prog w) A (.compStart (.SetComp elt [⟨t0, i0, f0, 0⟩, ⟨t1, i1, f1, 0⟩] sc pos) 1 it1 acc env) (fun r s' => match r with
                | .ok _ => ∃ m, m < n ∧ I m s'
                | .error _ => False) s₅) (Nb prog w A env R) s₄) (Nb prog w A env R) s₃
            else ∃ m, m < n ∧ I m s₃) (Nb prog w A env R) s₂) (Nb prog w A env R) s₁') (Nb prog w A env R) s₁) (Nb prog w A env R) s)
    (n : Nat) (h : I n s) : codeAny (model prog w) A (.compLoop (.SetComp elt [⟨t0, i0, f0, 0⟩, ⟨t1, i1, f1, 0⟩] sc pos) 0 it acc env) R s := by
  refine codeAny_loop rfl I (fun n s hI => ?_) n h
  show wpAny _ A ((compTurn (.SetComp elt [⟨t0, i0, f0, 0⟩, ⟨t1, i1, f1, 0⟩] sc pos) 0 it acc env).onRaise (fun x => do noteFrame x env; theTreesLotGoes x)) _ _ s
  refine wpAny_noted ?_
  rw [turnS2_out]
  refine wpAny_bind (wpAny_standAt (wpAny_bind (wpAny_mono (turn n s hI) (fun r s₁ h₁ => ?_) fun _ _ z => z)))
  rcases r with _ | v
  · exact wpAny_pure h₁
  · refine wpAny_bind (wpAny_mono h₁ (fun _ _ h2 => wpAny_bind (wpAny_mono h2 (fun _ _ h3 => wpAny_bind (wpAny_mono h3 (fun ok s₃ h4 => ?_) fun _ _ z => z)) fun _ _ z => z)) fun _ _ z => z)
    cases ok with
    | false => exact wpAny_pure ⟨rfl, h4⟩
    | true =>
      refine wpAny_bind (wpAny_mono h4 (fun x s₄ h5 => wpAny_bind (wpAny_standAt (wpAny_bind (wpAny_of_eq (hs x) (wpAny_bind (wpAny_holding (wpAny_mono h5 (fun it1 s₅ h6 => wpAny_bind (wpAny_runOwn ?_)) fun _ _ z => z))))))) fun _ _ z => z)
      rw [Around.mark_none]
      refine codeAny_mono h6 fun r s' hr => ?_
      rcases r with e | f
      · exact hr.elim
      · first
          | exact wpAny_pure ⟨rfl, hr⟩
          | exact wpAny_bind (wpAny_pure (wpAny_pure ⟨rfl, hr⟩))
theorem loopS2_in (I : Nat → Shared → Prop)
    (turn : ∀ n s, I n s → wpAny (model prog w) A (pyNext it) (fun r s₁ => match r with
      | none => R (.ok .next) s₁
      | some v => wpAny (model prog w) A (letOwnedTupleGo t1 it v) (fun _ s₁' => wpAny (model prog w) A (assign t1 env v) (fun _ s₂ => wpAny (model prog w) A (tests env f1) (fun ok s₃ =>
            if ok = true then wpAny (model prog w) A (eval elt env) (fun x s₄ =>
              wpAny (model prog w) A (call (.builtin "set.add") [acc, x]) (fun _ s₅ => ∃ m, m < n ∧ I m s₅) (Nb prog w A env R) s₄) (Nb prog w A env R) s₃
            else ∃ m, m < n ∧ I m s₃) (Nb prog w A env R) s₂) (Nb prog w A env R) s₁') (Nb prog w A env R) s₁) (Nb prog w A env R) s)
    (n : Nat) (h : I n s) : codeAny (model prog w) A (.compLoop (.SetComp elt [⟨t0, i0, f0, 0⟩, ⟨t1, i1, f1, 0⟩] sc pos) 1 it acc env) R s := by
  refine codeAny_loop rfl I (fun n s hI => ?_) n h
  show wpAny _ A ((compTurn (.SetComp elt [⟨t0, i0, f0, 0⟩, ⟨t1, i1, f1, 0⟩] sc pos) 1 it acc env).onRaise (fun x => do noteFrame x env; theTreesLotGoes x)) _ _ s
  refine wpAny_noted ?_
  rw [turnS2_in]
  refine wpAny_bind (wpAny_standAt (wpAny_bind (wpAny_mono (turn n s hI) (fun r s₁ h₁ => ?_) fun _ _ z => z)))
  rcases r with _ | v
  · exact wpAny_pure h₁
  · refine wpAny_bind (wpAny_mono h₁ (fun _ _ h2 => wpAny_bind (wpAny_mono h2 (fun _ _ h3 => wpAny_bind (wpAny_mono h3 (fun ok s₃ h4 => ?_) fun _ _ z => z)) fun _ _ z => z)) fun _ _ z => z)
    cases ok with
    | false => exact wpAny_pure ⟨rfl, h4⟩
    | true => exact wpAny_bind (wpAny_bind (wpAny_mono h4 (fun x s₄ h5 => wpAny_bind (wpAny_standAt (wpAny_bind (wpAny_mono h5 (fun _ s₅ h6 => wpAny_pure (wpAny_pure ⟨rfl, h6⟩)) fun _ _ z => z)))) fun _ _ z => z))
theorem startS1 (h0 : codeAny (model prog w) A (.compLoop (.SetComp elt [⟨t0, i0, f0, 0⟩, ⟨t1, i1, f1, 0⟩] sc pos) 1 it acc env) R s)
    (h : wpAny (model prog w) A (pyIter it) (fun it' s' => codeAny (model prog w) A (.compLoop (.SetComp elt [⟨t0, i0, f0, 0⟩, ⟨t1, i1, f1, 0⟩] sc pos) 1 it' acc env) R s') (Nb prog w A env R) s) :
    codeAny (model prog w) A (.compStart (.SetComp elt [⟨t0, i0, f0, 0⟩, ⟨t1, i1, f1, 0⟩] sc pos) 1 it acc env) R s := by
  refine codeAny_of_tree ?_
  show wpAny _ _ ((compStart (.SetComp elt [⟨t0, i0, f0, 0⟩, ⟨t1, i1, f1, 0⟩] sc pos) 1 it acc env).onRaise (fun x => do noteFrame x env; standAt theWindowsPlace)) _ _ s
  refine wpAny_notedAt ?_
  unfold compStart
  show wpAny _ _ (ask >>= _) _ _ s
  refine wpAny_bind (wpAny_askSetting (wpAny_ite ?_))
  split
  · first
      | exact wpAny_bind (wpAny_pure (wpAny_pure (And.intro rfl h0)))
      | exact wpAny_pure (And.intro rfl h0)
  · first
      | exact wpAny_bind (wpAny_rule (wpAny_bind (wpAny_standAt (wpAny_bind (wpAny_mono h (fun it' s' h' => wpAny_pure (And.intro rfl h')) fun _ _ x => x)))))
      | (refine wpAny_bind (wpAny_rule ?_); show wpAny _ _ (standAt i1.pos >>= _) _ _ s; exact wpAny_bind (wpAny_standAt (wpAny_bind (wpAny_mono h (fun it' s' h' => wpAny_pure (And.intro rfl h')) fun _ _ x => x))))
end

section
variable {X : Cx}
theorem addI_ok {pins : List (Addr × Obj)} {σ : L2.St} {H : Hp} {s : Shared} {E : Value → Shared → Prop} {D : Addr} {S : Int → Bool} {n : Nat} {k : Int} {tk : Tok} {Q : Value → Shared → Prop} (I : Inv X pins σ H s) (hD : H D = some (SetO X.w D S n)) (room : n + 1 < scanBound)
    (h : ∀ s', Inv X pins σ (upd H D (SetO X.w D (fun j => S j || decide (j = k)) (if S k = true then n else n + 1))) s' → Q .none s') : wpAny (model X.prog X.w) X.A (call (.builtin "set.add") [.ref D, .int k tk]) Q E s :=
  setR_add (setO_get I hD) room fun h' sb new => h _ (I.write (e := D) (t' := s.toks + 1) (by rw [hD]; trivial) (.inl rfl) (fun b u hb hu => (sb.2 b hb).trans hu) (let ⟨o, _, _, _, ho, _⟩ := new; ⟨o, ho⟩) (setO_new new))
/-- the reading: D the new set -/
def tSc2 (w : World) (wi : TI) (g : TG) (tt : TT) (wi1 : TI) (g1 : TG) (tt1 : TT) (te : TE) (vs vs1 : List Nat) : TE := fun σ H Q => wi σ H fun J H1 => ∀ D, H1 D = none → ∃ W : Nat → Nat → Hp → Prop, (∃ m, W 0 m (upd H1 D (SetO w D (fun _ => false) 0))) ∧ ∀ i m H, W i m H →
  (J.stop i H ∧ Q (.ref D) H) ∨ (J.go i H ∧ ∃ Nx : Hp → Prop, (∀ H', Nx H' → ∃ m', m' < m ∧ W (i + 1) m' H') ∧ ∀ x H', J.yld i H x H' → g x (wipe σ vs) H' fun σ2 H2 => wipe σ2 vs = wipe σ vs ∧ tt σ2 H2 fun b H3 =>
    if b = true then wi1 σ2 H3 fun J1 H4 => ∃ W1 : Nat → Nat → Hp → Prop, (∃ m, W1 0 m H4) ∧ ∀ j k H, W1 j k H →
      (J1.stop j H ∧ Nx H) ∨ (J1.go j H ∧ ∃ Nx1 : Hp → Prop, (∀ H', Nx1 H' → ∃ k', k' < k ∧ W1 (j + 1) k' H') ∧ ∀ x H', J1.yld j H x H' → g1 x (wipe σ2 vs1) H' fun σ3 H5 => wipe σ3 vs1 = wipe σ2 vs1 ∧ tt1 σ3 H5 fun b H6 =>
        if b = true then te σ3 H6 fun y H7 => ∃ (c : Int) (S : Int → Bool) (n : Nat), y = .int c ∧ H7 D = some (SetO w D S n) ∧ n + 1 < scanBound ∧ Nx1 (upd H7 D (SetO w D (fun j => S j || decide (j = c)) (if S c = true then n else n + 1))) else Nx1 H6)
    else Nx H3)
theorem pe_sc2 {elt tg iter tg1 iter1 : Expr} {ifs ifs1 : List Expr} {scope : Scope} {own : List (PySem.Str × Nat)} {vs1 : List Nat} {pos : Pos} {wi wi1 : TI} {g g1 : TG} {tt tt1 : TT} {te : TE} (hc : X.calm = true) (hN : X.N.Nodup) (hi : PI X tg iter wi)
    (ok : BlkOk X.N X.env.scope scope own) (hv : ∀ i ∈ vs1, i ∈ own.map (·.2))
    (hg : ∀ (s : Shared) (H : Hp) (C : Addr) (cl : List (PySem.Str × Addr)) (fp : List Addr), PG (X.blk s H scope (compEnvC scope cl C X.env) fp) tg g)
    (ht : ∀ (s : Shared) (H : Hp) (C : Addr) (cl : List (PySem.Str × Addr)) (fp : List Addr), PTs (X.blk s H scope (compEnvC scope cl C X.env) fp) ifs tt)
    (hi1 : ∀ (s : Shared) (H : Hp) (C : Addr) (cl : List (PySem.Str × Addr)) (fp : List Addr), PI (X.blk s H scope (compEnvC scope cl C X.env) fp) tg1 iter1 wi1)
    (hg1 : ∀ (s : Shared) (H : Hp) (C : Addr) (cl : List (PySem.Str × Addr)) (fp : List Addr), PG (X.blk s H scope (compEnvC scope cl C X.env) fp) tg1 g1)
    (ht1 : ∀ (s : Shared) (H : Hp) (C : Addr) (cl : List (PySem.Str × Addr)) (fp : List Addr), PTs (X.blk s H scope (compEnvC scope cl C X.env) fp) ifs1 tt1)
    (he : ∀ (s : Shared) (H : Hp) (C : Addr) (cl : List (PySem.Str × Addr)) (fp : List Addr), PE (X.blk s H scope (compEnvC scope cl C X.env) fp) elt te)
    (hs : ∀ x, foldedSetIterable iter X.env x = pure x := by intro _; rfl) (hs1 : ∀ env x, foldedSetIterable iter1 env x = pure x := by intro _ _; rfl) :
    PE X (.SetComp elt [⟨tg, iter, ifs, 0⟩, ⟨tg1, iter1, ifs1, 0⟩] scope pos) (tSc2 X.w wi g tt wi1 g1 tt1 te (own.map (·.2)) vs1) := by
  refine ⟨fun pins s σ H Q I h => ?_⟩
  have hfree : ∀ z ∈ scope.names, z.2 = .free → ∃ c, X.env.cells.lookup z.1 = some c := fun z hz e => (ok.free z hz e).elim (fun k => I.ok.has _ (.inl k)) (fun k => I.ok.has _ (.inr k))
  rw [PpSet.eval_SetComp]
  refine wpAny_comprehension_free (use := none) rfl hs (closure_ok hfree) ok.kind (fun z hz e => by rw [ok.uniq z hz, e]) (thn (hi.run pins s σ H _ I h) fun xv s1 hx => thn hx fun itv s2 h2 => ?_)
  obtain ⟨it, fp, tn, J, H2, e, I2, T, st2, f2, q⟩ := h2
  subst e
  refine PpSet.newSet_ok (newEnv_comp ?_)
  generalize hL : s2.heap.objs.size = L
  have freshL : H2 L = none := I2.hok.fresh (Nat.le_of_eq hL)
  obtain ⟨W, ⟨m0, w0⟩, turn⟩ := q L freshL
  -- the new set, at L
  generalize e3 : ({ s2 with heap := s2.heap.push { cls := .type "set", dict := none, data := .set #[] 0 (.fresh 0 0 (!X.w.params.followText "set-order")) } } : Shared) = s3
  have heap3 : s3.heap = s2.heap.push { cls := .type "set", dict := none, data := .set #[] 0 (.fresh 0 0 (!X.w.params.followText "set-order")) } := by rw [← e3]
  have I3 : Inv X pins σ (upd H2 L (SetO X.w L (fun _ => false) 0)) s3 := by
    rw [← e3]
    refine I2.laid (t' := s2.toks) (fun b o z => Heap.get?_push_of_some _ z) (Nat.le_of_eq hL) ?_
    rw [← hL]
    exact setO_new (setR_fresh X.w)
  have f3 : ∀ b ∈ fp, FpOk X pins (upd H2 L (SetO X.w L (fun _ => false) 0)) b ∧ b < s3.heap.objs.size := fun b hb => by
    obtain ⟨o, z, _⟩ := T.obj _ _ st2 b hb
    have lt := Heap.lt_size z
    refine ⟨⟨?_, (f2 b hb).2⟩, by rw [heap3, Heap.size_push]; exact Nat.lt_succ_of_lt lt⟩
    rw [upd_ne (by rw [← hL]; exact Nat.ne_of_lt lt)]
    exact (f2 b hb).1
  have t3 : tn 0 s3.heap := T.keep _ _ _ st2 fun b _ o z => by rw [heap3]; exact Heap.get?_push_of_some _ z
  have I4 := block_start I3 ok hN f3
  generalize hcl : cellsFrom (s3.heap.objs.size + 1) scope.names (cloFrom X.env.cells scope.names []) = cl0 at I4 ⊢
  have pg := hg s3 (upd H2 L (SetO X.w L (fun _ => false) 0)) s3.heap.objs.size cl0 fp
  have pt := ht s3 (upd H2 L (SetO X.w L (fun _ => false) 0)) s3.heap.objs.size cl0 fp
  have pe := he s3 (upd H2 L (SetO X.w L (fun _ => false) 0)) s3.heap.objs.size cl0 fp
  have pi1 := hi1 s3 (upd H2 L (SetO X.w L (fun _ => false) 0)) s3.heap.objs.size cl0 fp
  have pg1 := hg1 s3 (upd H2 L (SetO X.w L (fun _ => false) 0)) s3.heap.objs.size cl0 fp
  have pt1 := ht1 s3 (upd H2 L (SetO X.w L (fun _ => false) 0)) s3.heap.objs.size cl0 fp
  show codeAny _ _ (.compStart (.SetComp elt [⟨tg, iter, ifs, 0⟩, ⟨tg1, iter1, ifs1, 0⟩] scope pos) 0 (.ref it) (.ref L) (compEnvC scope cl0 s3.heap.objs.size X.env)) (compPost (model X.prog X.w) X.A X.xe none (EP X pins σ Q) (.ref L) s3.heap.objs.size)
    { s3 with heap := pushCells (s3.heap.push { cls := .type "dict", data := .dict #[] }) scope.names }
  have n3 : ∀ b ∈ fp, (upd H2 L (SetO X.w L (fun _ => false) 0)) b = none := fun b hb => (f3 b hb).1.1
  generalize hce : compEnvC scope cl0 s3.heap.objs.size X.env = ce at I4 pg pt pe pi1 pg1 pt1 ⊢
  have ceL : ce.locals = s3.heap.objs.size := by subst hce; rfl
  generalize hH3 : upd H2 L (SetO X.w L (fun _ => false) 0) = H3 at I3 I4 pg pt pe pi1 pg1 pt1 w0 n3 f3
  generalize e4 : ({ s3 with heap := pushCells (s3.heap.push { cls := .type "dict", data := .dict #[] }) scope.names } : Shared) = s4 at I4 ⊢
  have t4 : tn 0 s4.heap := T.keep _ _ _ t3 fun b _ o z => by rw [← e4]; exact pushCells_keeps _ _ _ _ (Heap.get?_push_of_some _ z)
  have stat : ∀ {σ' : L2.St} {H' : Hp} {s' : Shared}, Inv (X.blk s3 H3 scope ce fp) [] σ' H' s' → (∀ b ∈ fp, H' b = none) → ∀ b ∈ fp, FpOk (X.blk s3 H3 scope ce fp) [] H' b := fun {σ' H' s'} J' hn b hb =>
    ⟨hn b hb, (J'.ok.exf b hb).1, J'.ok.exfs b hb, .inl hb, fun x c z => (J'.ok.exf b hb).2 x c z, fun p hp => absurd (show p ∈ ([] : List (Addr × Obj)) ++ [] from hp) (by simp)⟩
  -- what the outer loop keeps
  let Wo : Nat → Shared → Prop := fun n s' => ∃ i H', Inv (X.blk s3 H3 scope ce fp) [] (wipe σ (own.map (·.2))) H' s' ∧ tn i s'.heap ∧ (∀ b ∈ fp, H' b = none) ∧ W i n H'
  have loop : codeAny (model X.prog X.w) X.A (.compLoop (.SetComp elt [⟨tg, iter, ifs, 0⟩, ⟨tg1, iter1, ifs1, 0⟩] scope pos) 0 (.ref it) (.ref L) ce) (compPost (model X.prog X.w) X.A X.xe none (EP X pins σ Q) (.ref L) s3.heap.objs.size) s4 := by
    refine loopS2_out (hs1 ce) Wo ?_ m0 ⟨0, H3, I4, t4, n3, w0⟩
    rintro n s5 ⟨i, H5, I5, t5, n5, w5⟩
    rcases turn i n H5 w5 with ⟨stop, qq⟩ | ⟨go, Nx, hNx, step⟩
    · refine thnF (T.done (X.blk s3 H3 scope ce fp) rfl rfl rfl hc i [] s5 _ H5 (fun _ _ => False) I5 (stat I5 n5) t5 stop) fun r s6 ⟨hr, I6⟩ => ?_
      subst hr
      have I7 : Inv X pins σ H5 s6 := I3.call' (ch := fp) I6.os I6.base I6.hok I6.bare fun b hb =>
        let z := (f3 b hb).1
        ⟨z.2.2.2.1, z.2.1, z.2.2.2.2.1, z.2.2.2.2.2⟩
      have nC : H5 s3.heap.objs.size = none := by rw [← ceL]; exact I6.free
      obtain ⟨m, hn, _⟩ := I6.loc
      have hn : s6.heap.Ns ce.locals m := hn
      rw [ceL] at hn
      obtain ⟨c0, c1, c2, c3, c4, c5⟩ := I3.fpOk (H' := H5) (Nat.le_refl _) nC
      exact ⟨m, hn, fun h'' sb => ⟨.ref L, H5, I7.turned (t' := s6.toks) (fun b o hb z => (sb.2 b hb).trans z) c0 c1 c3 c4 c5, rfl, qq⟩⟩
    · refine thnF (T.item (X.blk s3 H3 scope ce fp) rfl rfl rfl hc i [] s5 _ H5 (fun _ _ => False) I5 (stat I5 n5) t5 go) fun r s6 ⟨u, hr, h6⟩ => ?_
      subst hr
      refine thnF h6 fun _ s7 ⟨x, H7, I7, r7, y7, t7, n7⟩ => ?_
      have P7 := I7.pinned (stat I7 n7) (T.obj _ _ t7)
      refine thnF (pg.run _ s7 _ H7 x u _ P7 r7 (step x H7 y7)) fun _ s8 ⟨σ8, H8, I8, hw8, q8⟩ => ?_
      refine thnF (pt.run _ s8 σ8 H8 _ I8 q8) fun b s9 ⟨H9, I9, q9⟩ => ?_
      have fin : ∀ {σ9 : L2.St} {s' : Shared} {H' : Hp}, Inv (X.blk s3 H3 scope ce fp) ([] ++ pinsAt fp s7.heap) σ9 H' s' → (wipe σ (own.map (·.2))).length = σ9.length → (∀ (j : Nat) v, (wipe σ (own.map (·.2)))[j]? = some (some v) → σ9[j]? = some (some v)) → Nx H' → ∃ m, m < n ∧ Wo m s' :=
        fun {σ9 s' H'} J' hl hk nx => by
        obtain ⟨m', hm, w'⟩ := hNx H' nx
        have pin' : ∀ b ∈ fp, ∀ o, s7.heap.get? b = some o → s'.heap.get? b = some o ∧ H' b = none := fun b hb o z =>
          let p := J'.pin (b, o) (List.mem_append_right _ (List.mem_append_right _ (mem_pinsAt hb z)))
          ⟨p.1, p.2.1⟩
        exact ⟨m', hm, i + 1, H', (J'.unpinned (pins := [])).weak hl hk, T.keep _ _ _ t7 fun b hb o z => (pin' b hb o z).1, fun b hb => let ⟨o, z, _⟩ := T.obj _ _ t7 b hb; (pin' b hb o z).2, w'⟩
      have l8 : (wipe σ (own.map (·.2))).length = σ8.length := by rw [← hw8, wipe_length]
      have k8 : ∀ (j : Nat) v, (wipe σ (own.map (·.2)))[j]? = some (some v) → σ8[j]? = some (some v) := fun j v z => by
        rw [← hw8] at z
        exact (wipe_some z).1
      have k9 : ∀ (j : Nat) v, (wipe σ (own.map (·.2)))[j]? = some (some v) → (wipe σ8 vs1)[j]? = some (some v) := fun j v z => by
        rw [← hw8] at z
        obtain ⟨z1, z2⟩ := wipe_some z
        rw [wipe_out fun y => z2 (hv j y)]
        exact z1
      cases b with
      | false =>
        simp only [Bool.false_eq_true, if_false] at q9 ⊢
        exact fin I9 l8 k8 q9
      | true =>
        simp only [if_true] at q9 ⊢
        refine thnF (pi1.run _ s9 σ8 H9 _ I9 q9) fun xv s10 hx => thnF hx fun itv s11 h11 => ?_
        obtain ⟨it1, fp1, tn1, J1, H11, e1, I11, T1, st11, f11, W1, ⟨m1, w1⟩, turn1⟩ := h11
        subst e1
        have stat1 : ∀ {H' : Hp}, (∀ b ∈ fp1, H' b = none) → ∀ b ∈ fp1, FpOk (X.blk s3 H3 scope ce fp) ([] ++ pinsAt fp s7.heap) H' b := fun hn b hb => ⟨hn b hb, (f11 b hb).2⟩
        let Wi : Nat → Shared → Prop := fun k s' => ∃ j H', Inv (X.blk s3 H3 scope ce fp) ([] ++ pinsAt fp s7.heap) (wipe σ8 vs1) H' s' ∧ tn1 j s'.heap ∧ (∀ b ∈ fp1, H' b = none) ∧ W1 j k H'
        have loop1 : codeAny (model X.prog X.w) X.A (.compLoop (.SetComp elt [⟨tg, iter, ifs, 0⟩, ⟨tg1, iter1, ifs1, 0⟩] scope pos) 1 (.ref it1) (.ref L) ce)
            (fun r s' => match r with
              | .ok _ => ∃ m, m < n ∧ Wo m s'
              | .error _ => False) s11 := by
          refine loopS2_in Wi ?_ m1 ⟨0, H11, I11.weak (wipe_length _ _) (fun j v z => (wipe_some z).1), st11, fun b hb => (f11 b hb).1, w1⟩
          rintro k s12 ⟨j, H12, I12, st12, n12, w12⟩
          rcases turn1 j k H12 w12 with ⟨stop1, nx1⟩ | ⟨go1, Nx1, hNx1, step1⟩
          · refine thnF (T1.done (X.blk s3 H3 scope ce fp) rfl rfl rfl hc j _ s12 (wipe σ8 vs1) H12 (fun _ _ => False) I12 (stat1 n12) st12 stop1) fun r s13 ⟨hr, I13⟩ => ?_
            subst hr
            exact fin I13 (l8.trans (wipe_length σ8 vs1).symm) k9 nx1
          · refine thnF (T1.item (X.blk s3 H3 scope ce fp) rfl rfl rfl hc j _ s12 (wipe σ8 vs1) H12 (fun _ _ => False) I12 (stat1 n12) st12 go1) fun r s13 ⟨u1, hr, h13⟩ => ?_
            subst hr
            refine thnF h13 fun _ s14 ⟨x1, H14, I14, r14, y14, st14, n14⟩ => ?_
            have P14 := I14.pinned (stat1 n14) (T1.obj _ _ st14)
            refine thnF (pg1.run _ s14 (wipe σ8 vs1) H14 x1 u1 _ P14 r14 (step1 x1 H14 y14)) fun _ s15 ⟨σ15, H15, I15, hw15, q15⟩ => ?_
            refine thnF (pt1.run _ s15 σ15 H15 _ I15 q15) fun b1 s16 ⟨H16, I16, q16⟩ => ?_
            have fin1 : ∀ {s' : Shared} {H' : Hp}, Inv (X.blk s3 H3 scope ce fp) (([] ++ pinsAt fp s7.heap) ++ pinsAt fp1 s14.heap) σ15 H' s' → Nx1 H' → ∃ m, m < k ∧ Wi m s' := fun {s' H'} J' nx => by
              obtain ⟨m', hm, w'⟩ := hNx1 H' nx
              have pin' : ∀ b ∈ fp1, ∀ o, s14.heap.get? b = some o → s'.heap.get? b = some o ∧ H' b = none := fun b hb o z =>
                let p := J'.pin (b, o) (List.mem_append_right _ (List.mem_append_right _ (mem_pinsAt hb z)))
                ⟨p.1, p.2.1⟩
              exact ⟨m', hm, j + 1, H', J'.unpinned.weak (by rw [← hw15, wipe_length]) (fun j v z => by rw [← hw15] at z; exact (wipe_some z).1), T1.keep _ _ _ st14 fun b hb o z => (pin' b hb o z).1, fun b hb => let ⟨o, z, _⟩ := T1.obj _ _ st14 b hb; (pin' b hb o z).2, w'⟩
            cases b1 with
            | false =>
              simp only [Bool.false_eq_true, if_false] at q16 ⊢
              exact fin1 I16 q16
            | true =>
              simp only [if_true] at q16 ⊢
              refine thnF (pe.run _ s16 σ15 H16 _ I16 q16) fun z s17 ⟨yv, H17, I17, r17, cz, S0, n0, ey, hD17, hz17, nx⟩ => ?_
              subst ey
              obtain ⟨tk, rfl⟩ := r17
              exact addI_ok (X := X.blk s3 H3 scope ce fp) I17 hD17 hz17 fun s18 I18 => fin1 I18 nx
        exact startS1 loop1 (T1.self X.A 0 _ _ _ st11 loop1)
  exact PpSet.codeAny_compStart_set loop (T.self X.A 0 _ _ _ t4 loop)
end
end KR
/-! Rules, part 7: yield from a list. -/
namespace KR
open PySem PySem.Spec PyProof.Rows L2 GenW

section
variable {prog : Program} {w : World} {A : Around} {E : Value → Shared → Prop} {s : Shared}
theorem nx_list_item {it l : Addr} {i : Nat} {items : Array Value} {x : Value} {Q : Option Value → Shared → Prop} (hit : s.heap.IsListIter it l i) (hl : s.heap.IsList l items) (hx : items[i]? = some x)
    (hQ : ∀ h', h'.IsListIter it l (i + 1) → Heap.SameBut it s.heap h' → Q (some x) { s with heap := h' }) : wpAny (model prog w) A (callSpecial? (.ref it) "__next__") Q E s := by
  obtain ⟨o, ho, hc, hd⟩ := id hit
  obtain ⟨ol, hol, _, nl, hdl⟩ := hl
  refine wpAny_callSpecial?_slot (name := Str.ofString "__next__") hit.typeIs slot_listiter_next (wpAny_call_entry slot_listiter_next hit.typeIs entry_listiter_next ?_ (args_listiter_next _))
  show wpAny _ _ (field (.ref it) 0 >>= _) _ _ s
  refine wpAny_bind (wpAny_field ho hd (x := .ref l) rfl ?_)
  show wpAny _ _ (if (Value.ref l == Value.none) = true then _ else _) _ _ s
  rw [if_neg (show ¬ ((Value.ref l == Value.none) = true) from Bool.false_ne_true)]
  show wpAny _ _ (field (.ref it) 1 >>= _) _ _ s
  refine wpAny_bind (wpAny_field ho hd (x := .int i 0) rfl ?_)
  show wpAny _ _ (seqItems? (.ref l) >>= _) _ _ s
  refine wpAny_bind (wpAny_seqItems hol hdl ?_)
  simp only [Int.toNat_natCast, hx]
  refine wpAny_bind (wpAny_setField ho hd (by simp) (wpAny_pure ⟨x, rfl, hQ _ ?_ (Heap.SameBut.update ..)⟩))
  exact ⟨_, Heap.get?_update_self _ ho (Obj.isFreed_of_fields (Obj.data_mapFields hd _)), (Obj.cls_mapFields ..).trans hc, by rw [Obj.data_mapFields hd]; simp [rawInt]⟩
theorem nx_list_end {it l : Addr} {i : Nat} {items : Array Value} {Q : Option Value → Shared → Prop} (hh : A.handled = none) (hit : s.heap.IsListIter it l i) (hl : s.heap.IsList l items) (hx : items[i]? = none)
    (hE : ∀ e h', StopX e h' → Heap.ExtBut it s.heap h' → E e { s with heap := h' }) : wpAny (model prog w) A (callSpecial? (.ref it) "__next__") Q E s := by
  obtain ⟨o, ho, hc, hd⟩ := id hit
  obtain ⟨ol, hol, _, nl, hdl⟩ := hl
  refine wpAny_callSpecial?_slot (name := Str.ofString "__next__") hit.typeIs slot_listiter_next (wpAny_call_entry slot_listiter_next hit.typeIs entry_listiter_next ?_ (args_listiter_next _))
  show wpAny _ _ (field (.ref it) 0 >>= _) _ _ s
  refine wpAny_bind (wpAny_field ho hd (x := .ref l) rfl ?_)
  show wpAny _ _ (if (Value.ref l == Value.none) = true then _ else _) _ _ s
  rw [if_neg (show ¬ ((Value.ref l == Value.none) = true) from Bool.false_ne_true)]
  show wpAny _ _ (field (.ref it) 1 >>= _) _ _ s
  refine wpAny_bind (wpAny_field ho hd (x := .int i 0) rfl ?_)
  show wpAny _ _ (seqItems? (.ref l) >>= _) _ _ s
  refine wpAny_bind (wpAny_seqItems hol hdl ?_)
  simp only [Int.toNat_natCast, hx]
  refine wpAny_bind (wpAny_rule (wpAny_bind (wpAny_setField ho hd (by simp) ?_)))
  show wpAny _ _ (newExc (.type "StopIteration") [] >>= _) _ _ _
  refine wpAny_bind ?_
  simp only [newExc, newTuple]
  refine wpAny_bind (wpAny_newObj_type ?_ (by size_fits))
  refine wpAny_bind (m := firstArgMember _ _) (wpAny_of_eq (a := Value.none) (by first | rfl | (simp only [firstArgMember]; rfl)) ?_)
  refine wpAny_newObj_type ?_ (by size_fits)
  simp only [raiseNew]
  refine wpAny_bind (wpAny_handled ?_)
  first | rw [show A.in1.handled = none from hh] | rw [hh]
  refine wpAny_bind (wpAny_pure (wpAny_throw ?_))
  refine hE _ _ ⟨_, _, _, rfl, Heap.get?_push_size _ rfl, rfl, rfl, ?_⟩ (((Heap.SameBut.update ..).extBut.push _).push _)
  first
    | rfl
    | (rw [Array.getElem?_append_left (by decide)]; rfl)
    | kernel_rfl
end
section
variable {X : Cx} {e : Expr} {te : TE}
def tYfLst (te : TE) : TYf := fun σ H Q => te σ H fun x H1 => ∃ a xs, x = .ref a ∧ H1 a = some (.lst xs) ∧ Q xs H1
theorem close_lst : typeLookup (.type "list_iterator") "close" = pure none := by rw [typeLookup_type, builtinLookup_eq_fast]; kernel_rfl
theorem yf_list (he : PE X e te) : YfE X e (tYfLst te) := by
  refine ⟨fun pins s σ H Q I h => thn (he.run pins s σ H _ I h) fun v s1 ⟨x, H1, I1, r1, a, xs, ex, ha, hq⟩ => ?_⟩
  subst ex
  obtain rfl : v = Value.ref a := r1
  obtain ⟨hlen, its, nn, rits, ho⟩ := (show ObjOk X.prog X.w H1 s1.heap a (.lst xs) from I1.hok a _ ha)
  have hl : s1.heap.IsList a its.toArray := ⟨_, ho, rfl, nn, rfl⟩
  refine ⟨"list", hl.typeIs, by decide, wpAny_pyIter_list hl ?_⟩
  have ksz : ∀ b o, s1.heap.get? b = some o → b ≠ s1.heap.objs.size := fun b o e => Nat.ne_of_lt (Heap.lt_size e)
  have kp : ∀ b o, s1.heap.get? b = some o → (s1.heap.push { cls := .type "list_iterator", data := .fields #[.ref a, .int 0 0] }).get? b = some o := fun b o e => Heap.get?_push_of_some _ e
  refine ⟨s1.heap.objs.size, H1, xs, fun j h => h.IsListIter s1.heap.objs.size a j ∧ h.IsList a its.toArray, rfl, I1.kept (t' := s1.toks) kp, .inr I1.sz, Nat.ne_of_gt I1.lt, fun y c hy => ?_, I1.hok.fresh (Nat.le_refl _), fun p hp => ?_,
    ⟨⟨_, Heap.get?_push_size _ rfl, rfl, rfl⟩, hl.push _⟩, ⟨⟨"list_iterator", fun j h q => ?_, close_lst, by decide⟩, fun j h h' q hk => ?_, fun A' j x s2 Q' E' hA hx q hQ => ?_, fun A' s2 Q' E' hA q hE => ?_⟩, hq⟩
  · obtain ⟨v, o, ho, _⟩ := I1.cell y c hy
    exact ksz c o ho
  · exact ksz p.1 _ (I1.pin p hp).1
  · obtain ⟨⟨o, ho, hc, _⟩, _⟩ := q
    exact ⟨o, ho, hc⟩
  · obtain ⟨⟨o, ho, r⟩, o2, ho2, r2⟩ := q
    exact ⟨⟨o, hk _ o (.inl rfl) ho, r⟩, o2, hk _ o2 (.inr (by rw [ha]; exact fun z => by cases z)) ho2, r2⟩
  · obtain ⟨q1, q2⟩ := q
    obtain ⟨u, hu, ru⟩ := rits.get hx
    have hne : a ≠ s1.heap.objs.size := Nat.ne_of_lt (Heap.lt_size ho)
    exact nx_list_item q1 q2 (x := u) (by simpa using hu) fun h' q1' hs => hQ u h' s2.toks ru ⟨q1', q2.extBut hs.extBut hne⟩ fun b o hb eb => hs.extBut b o hb eb
  · obtain ⟨q1, q2⟩ := q
    have hnone : its.toArray[xs.length]? = none := by
      have e := rits.length
      have e2 : its[xs.length]? = none := List.getElem?_eq_none_iff.mpr (by omega)
      simpa using e2
    exact nx_list_end hA q1 q2 hnone fun e h' hS hk => hE e h' s2.toks hS fun b o hb eb => hk b o hb eb
end
section
variable {P : Program} {w : World} {K : PySem.W.Frag} {mg : PySem.Str → Option Value} {base : Heap} {x qual : PySem.Str} {params : Arguments} {body : List Stmt} {scope : Scope} {dvs : List V} {kws : List (PySem.Str × V)} {f : Addr} {fd : FuncData}
/-- a generator def that stands -/
theorem gfnD {N ps : List PySem.Str} {k : Nat} {sp : SpG} (F : FunD K x qual params body scope dvs kws f fd) (S : GScope N ps scope) (len : ∀ vs H Q E, sp vs H Q E → vs.length = ps.length)
    (hbody : ∀ (cdv : Value) (A : Around) (outer : List Env) (s : Shared) (H : Hp) (vs : List V) (Q : List V → Hp → Prop) (E : XK) (pn : List (Addr × Obj)), Room k (A.deeper (envOfC qual scope s.heap.objs.size f cdv)) → sp vs H Q E →
      ∃ t, GSs (gcxOf P w K mg base N qual scope f cdv A outer s H E pn) body t ∧ t { nx := fun ys _ H' => Q ys H', rt := fun ys v H' => v = .non ∧ Q ys H' } [] (start N vs) H) : GFn P w K mg base (k + 1) f fd ps sp := by
  obtain ⟨oc, od, dV, kV, doc, pm, an, cdv, ct, osl, rfl, lk, hcd, _, _⟩ := F.ex
  exact gfn_of lk hcd S len fun A outer s H vs Q E pn hr h => hbody cdv A outer s H vs Q E pn hr h
end
end KR
/-! Rules, part 8: an own error over OverflowError whose __init__(self, limit) stores limit. -/
namespace KR
open PySem PySem.Spec PyProof.Rows L2 PySem.HandSPX

abbrev ovTail : List Value := [.type "OverflowError", .type "ArithmeticError", .type "Exception", .type "BaseException", .type "object"]
def tmA (p1 p2 : Pos) : Arguments := { posonlyargs := [], args := [{ arg := "self", annotation := none, pos := p1 }, { arg := "limit", annotation := none, pos := p2 }], vararg := none, kwonlyargs := [], kw_defaults := [], kwarg := none, defaults := [] }
def tmB (q1 q2 q3 q4 : Pos) : List Stmt := [.Assign [.Attribute (.Name "self" q1) "limit" q2] (.Name "limit" q3) q4]
def tmS : Scope := { kind := .function, names := [(("self" : PySem.Str), .local), (("limit" : PySem.Str), .local)], isGenerator := false, isCoroutine := false, more := [] }
/-- what the written part says of the class at C and of its __init__ at fI -/
structure TmTxt (K : PySem.W.Frag) (C fI : Addr) : Prop where
  cls : PySem.W.excInitIn K C ovTail "OverflowError.__new__" = true
  over : PySem.W.excOver K C ovTail = true
  sa : PySem.W.findIn K (.ref C) "__setattr__" = some (some (.builtin "object.__setattr__"))
  noN : PySem.W.findIn K (.ref C) "limit" = some none
  hd : PySem.W.hasDictIn K C = true
  iC : PySem.W.findIn K (.ref C) "__init__" = some (some (.ref fI))
  tC : PySem.W.typeIn K (.ref fI) = some (.type "function")
  kC : PySem.W.keepIn K (.ref C) = true
  exC : PySem.W.subIn K (.ref C) (.type "BaseException") = some true
  tyC : PySem.W.typeIn K (.ref C) = some (.type "type")
  fn : ∃ (oc : Value) (od : Option Addr) (dV kV doc pm : Value) (an : Option Addr) (cdv ct : Value) (osl : Array (Option Value)) (p1 p2 q1 q2 q3 q4 : Pos),
    K.lookup fI = some ⟨oc, od, .func (PySem.W.fnOf "__init__" "TooManyCalls.__init__" (tmA p1 p2) (tmB q1 q2 q3 q4) tmS .none kV doc pm an cdv ct), osl⟩ ∧ PySem.W.codeIn K cdv "TooManyCalls.__init__" = true

section
open Builtin Builtin.ObjectAttr
variable {prog : Program} {w : World} {A : Around} {E : Value → Shared → Prop} {R : Result → Shared → Prop} {s : Shared} {K : PySem.W.Frag} {C fI : Addr}
/-- the first store into an exception: its dict is made -/
theorem tm_store {name : PySem.Str} {tk : Tok} {v : Value} {x : Addr} {fv : Array Value} (X : K.In s.heap) (hx : s.heap.get? x = some { cls := .ref C, data := .fields fv }) (T : TmTxt K C fI) (ha : PySem.W.findIn K (.ref C) name = some none)
    (hq : ∀ h' tk' dx, (∀ b o, b ≠ x → s.heap.get? b = some o → h'.get? b = some o) → s.heap.objs.size ≤ dx → dx ≠ x → h'.get? x = some { cls := .ref C, dict := some dx, data := .fields fv } →
      h'.Ns1 dx (fun y => if y = name then some v else none) → R (.ok (.ret .none)) { s with heap := h', toks := tk' }) :
    codeAny (model prog w) A (.call (.builtin "object.__setattr__") ⟨[.ref x, .str name tk, v], []⟩) R s := by
  obtain ⟨hp, g, d, t, os⟩ := s
  have I : PySem.W.InstAt hp x { cls := .ref C, data := .fields fv } C none := ⟨hx, rfl, rfl, trivial⟩
  have hxs : x ≠ hp.objs.size := Nat.ne_of_lt (Heap.lt_size hx)
  refine PySem.W.osa_openX F.store_OverflowError X I T.over (r := none) (by unfold PySem.W.takerIn; rw [ha]; rfl) fun b => ?_
  obtain ⟨cd, hcd, hh⟩ := PySem.W.any_some T.hd
  have hcls : PySem.W.Looks (model prog w) hp (classData C) cd := PySem.W.looks_clsIn X hcd
  show wpAny _ _ (storeInOwnDict (.ref x) (.ref C) (.str name tk) name v b) _ _ _
  obtain ⟨nm, bs, mro, ns, qn, hd, sn, sb, ab, col, del⟩ := cd
  dsimp only at hh
  subst hh
  unfold storeInOwnDict ownDictForStores
  repeat (first | with_reducible refine store_in_new ?_ ?_ | with_reducible refine wpAny_loadPart_at hx ?_ | with_reducible refine hcls.at ?_ | wp_step)
  · exact ⟨_, #[], _, (Heap.get?_update_ne _ _ _ _ hxs.symm).trans (Heap.get?_push_at rfl rfl), rfl, fun e he => absurd he (by simp), fun _ => rfl⟩
  · intro h' tk' hn' hs
    have hx₁ : (hp.push { cls := .type "dict", data := .dict #[] }).get? x = some { cls := .ref C, data := .fields fv } := Heap.get?_push_of_some _ hx
    exact hq h' tk' hp.objs.size (fun b o hb ho => (hs.2 b (Nat.ne_of_lt (Heap.lt_size ho))).trans ((Heap.get?_update_ne _ _ _ _ hb).trans (Heap.get?_push_of_some _ ho))) (Nat.le_refl _) hxs.symm
      ((hs.2 x hxs).trans (Heap.get?_update_self _ hx₁ rfl)) hn'
end

section
variable {prog : Program} {w : World} {A : Around} {E : Value → Shared → Prop} {R : Result → Shared → Prop} {s : Shared} {K : PySem.W.Frag} {C fI : Addr}
theorem ld_at {M : Model} {name : PySem.Str} {scope : Scope} {L a : Addr} {cd : Value} {m : PySem.Str → Option Value} {x : PySem.Str} {pos : Pos} {v : Value} {Q : Value → Shared → Prop} (hn : s.heap.Ns L m) (hv : m x = some v) (h : Q v s)
    (hk : scope.kind = .function := by rfl) (hl : (envOfC name scope L a cd).kindOf x = some .local := by rfl) (hd : (x == ("__debug__" : PySem.Str)) = false := by decide) :
    wpAny M A (eval (.Name x pos) (envOfC name scope L a cd)) Q E s := wpAny_Name (wpAny_loadName_local hk hl hn hv h) hd
/-- __init__ of a fresh exception at x -/
theorem tm_init (T : TmTxt K C fI) {x t0 : Addr} {v : Value} (X : K.In s.heap) (hlim : s.heap.NoLimit) (hx : s.heap.get? x = some (excO C t0)) (hroom : A.depth < recursionLimit)
    (hq : ∀ h' tk dx, (∀ b o, b ≠ x → s.heap.get? b = some o → h'.get? b = some o) → h'.get? x = some { cls := .ref C, dict := some dx, data := .fields #[.ref t0, .none, .none, .none, .bool false, .none] } →
      s.heap.objs.size ≤ dx → dx ≠ x → h'.Ns1 dx (fun y => if y = "limit" then some v else none) → R (.ok (.ret .none)) { s with heap := h', toks := tk }) :
    codeAny (model prog w) A (.call (.ref fI) ⟨[.ref x, v], []⟩) R s := by
  obtain ⟨oc, od, dV, kV, doc, pm, an, cdv, ct, osl, p1, p2, q1, q2, q3, q4, ho, hcd⟩ := T.fn
  refine Att.call_fn (binds := [("self", .ref x), ("limit", v)]) X hlim ho hcd hroom (BindsTo.of_eq (by first | rfl | with_unfolding_all rfl)) (by first | rfl | decide | with_unfolding_all rfl) (fun s₁ IC => ?_) rfl rfl rfl
  obtain ⟨h₁, tk₁, rfl⟩ := IC.toInCall.same
  have k : ∀ b o, s.heap.get? b = some o → h₁.get? b = some o := IC.toInCall.keep
  have hn := IC.toInCall.ns
  have hx₁ := k _ _ hx
  show wpAny _ _ (execs _ _) _ _ _
  refine wpAny_execs_cons (plainObj_wpAny_Assign_Attribute ?_)
  refine ld_at (v := v) hn (by first | rfl | with_unfolding_all rfl | kernel_rfl) (ld_at (v := .ref x) hn (by first | rfl | with_unfolding_all rfl | kernel_rfl) ?_)
  refine PySem.W.set_plain (X.keeps k) (ox := excO C t0) (od := none) ⟨hx₁, rfl, rfl, trivial⟩ T.sa ?_
  refine tm_store (X.keeps k) hx₁ T T.noN (fun h₃ tk₃ dx k₃ dn dne hx₃ hn₃ => ?_)
  show wpAny _ _ (execs _ _) _ _ _
  exact wpAny_execs_nil (hq h₃ tk₃ dx (fun b o hb e => k₃ b o hb (k b o e)) hx₃ (Nat.le_of_lt (Nat.lt_of_lt_of_le hn.lt dn)) dne hn₃)
/-- C(v) -/
theorem tm_made (T : TmTxt K C fI) {v : Value} (X : K.In s.heap) (hlim : s.heap.NoLimit) (hroom : A.depth + 1 < recursionLimit)
    (hq : ∀ h' tk e d t0, (∀ b o, s.heap.get? b = some o → h'.get? b = some o) → s.heap.objs.size ≤ e → h'.get? e = some { cls := .ref C, dict := some d, data := .fields #[.ref t0, .none, .none, .none, .bool false, .none] } →
      s.heap.objs.size ≤ d → d ≠ e → h'.Ns1 d (fun y => if y = "limit" then some v else none) → R (.ok (.ret (.ref e))) { s with heap := h', toks := tk }) :
    codeAny (model prog w) A (.call (.ref C) ⟨[v], []⟩) R s := by
  obtain ⟨nm, N, qn, bs, bm, hdct, sn, sub, ab, col, dd, k0, k1, k2, k3, k5, hC, hT⟩ := PySem.W.excInit_of X T.cls
  obtain ⟨hp, g, dr, tk, os⟩ := s
  have k : ∀ b o, hp.get? b = some o → ((hp.push (PySem.W.kdv_tup [v])).push (excO C hp.objs.size)).get? b = some o := fun b o e => Heap.get?_push_of_some _ (Heap.get?_push_of_some _ e)
  have hget : ((hp.push (PySem.W.kdv_tup [v])).push (excO C hp.objs.size)).get? (hp.objs.size + 1) = some (excO C hp.objs.size) := by heap_get
  refine call_own F.excBase_OverflowError hT hC (PySem.W.looks_findIn X T.iC) (fun self => PySem.W.bind_fn X self T.tC) (by rw [sizeLine_eq]; exact (by decide : 1 ≤ 16777216)) ?_
  refine tm_init (s := ⟨(hp.push (PySem.W.kdv_tup [v])).push (excO C hp.objs.size), g, dr, tk, os⟩) T (X.keeps k) (hlim.keeps k) hget (show A.depth + 1 < recursionLimit from hroom) fun h' tk' dx k' hx dn dne hns => ?_
  have sz : hp.objs.size + 1 + 1 ≤ dx := by
    first
      | (simpa only [Heap.size_push] using dn)
      | exact dn
  exact ⟨rfl, hq h' tk' (hp.objs.size + 1) dx hp.objs.size (fun b o e => k' b o (Nat.ne_of_lt (Nat.lt_succ_of_lt (Heap.lt_size e))) (k b o e)) (Nat.le_succ _) hx (Nat.le_trans (Nat.le_succ_of_le (Nat.le_succ _)) sz) dne hns⟩
end

theorem relO_limit {v : V} {v' : Value} (r : RelV v v') (f : PySem.Str) : RelO (List.lookup f [(("limit" : PySem.Str), v)]) (if f = "limit" then some v' else none) := by
  by_cases hw : f = "limit"
  · subst hw
    rw [if_pos rfl, show List.lookup ("limit" : PySem.Str) [(("limit" : PySem.Str), v)] = some v by simp [List.lookup]]
    exact r
  · rw [if_neg hw]
    have qw : (f == ("limit" : PySem.Str)) = false := by simpa using hw
    rw [show List.lookup f [(("limit" : PySem.Str), v)] = none by simp [List.lookup, qw]]
    trivial
section
variable {X : Cx} {C fI : Addr}
/-- C(e): a new error, its own dict at d -/
def tMkTm (C : Addr) (ta : TA) : L2.St → Hp → XK → Prop := fun σ H Q => ta σ H fun vs H1 => ∃ v, vs = [v] ∧ ∀ d, H1 d = none → Q (.ref C) (some d) (upd H1 d (.xd [(("limit" : PySem.Str), v)]))
theorem pmk_tm {a : Expr} {ta : TA} {x : PySem.Str} {p pos : Pos} {k : Nat} (T : TmTxt X.K C fI) (hr : Room k X.A) (ha : PA X [a] ta) (hg : Gl X x) (hm : X.mg x = some (.ref C)) (hdb : (x == ("__debug__" : PySem.Str)) = false := by decide)
    (he : starEach (a :: []) X.env = (false, eval a X.env) :: starEach [] X.env := by rfl) (hpl : (backTo pos (starEach [] X.env)).any (·.1) = false := by rfl) :
    PMk X (.Call (.Name x p) [a] [] pos) (tMkTm C ta) := by
  intro pins s σ H Q I h
  refine wpAny_Call_Name_kw (ld_glob I hg hm ?_ hdb)
  refine PySem.W.callWith_K (h₀ := X.base) I.ok.mod.kin T.kC (thn (ha.run pos pins s σ H _ I h) fun us s1 ⟨vs, H1, I1, r1, v, ev, q1⟩ => ⟨I1.kIn, ?_⟩) he hpl
  subst ev
  obtain ⟨v', rfl, rv⟩ := vals1 r1
  have hlim := I1.nolimit
  obtain ⟨hp, g, dr, tk, os⟩ := s1
  refine wpAny_call (tm_made T I1.kIn hlim (by have := hr.dp; omega) fun h' tk' e d t0 keep enew hoe dbig dne hns => ?_)
  show MkP X pins σ Q (.ref e) ⟨h', g, dr, tk', os⟩
  obtain ⟨G', g1, g2⟩ := restrict h' fun b => decide (b ≠ e)
  have gk : ∀ b, b ≠ e → G'.get? b = h'.get? b := fun b hb => g1 b (decide_eq_true hb)
  have ge : G'.get? e = none := g2 e (by simp)
  have old : ∀ b o, hp.get? b = some o → G'.get? b = some o := fun b o q => (gk b (Nat.ne_of_lt (Nat.lt_of_lt_of_le (Heap.lt_size q) enew))).trans (keep b o q)
  have ob : ObjOk X.prog X.w (upd H1 d (.xd [(("limit" : PySem.Str), v)])) G' d (.xd [(("limit" : PySem.Str), v)]) := ⟨_, hns.at (fun o q => (gk d dne).trans q), fun f => relO_limit rv f⟩
  have J : Inv X pins σ (upd H1 d (.xd [(("limit" : PySem.Str), v)])) ⟨G', g, dr, tk', os⟩ := I1.laid (t' := tk') old dbig ob
  refine ⟨e, _, _, ⟨G', g, dr, tk', os⟩, _, .ref C, some d, rfl, J, fun b o q => ?_, ge, hoe, ⟨rfl, rfl⟩, rfl, rfl, ?_, rfl, I1.bare, raises_own T.exC T.tyC, q1 d (I1.hok.fresh dbig)⟩
  · by_cases hb : b = e
    · have q' : G'.get? b = some o := q
      rw [hb, ge] at q'
      cases q'
    · exact (gk b hb).symm.trans q
  · rw [upd_ne (Ne.symm dne)]
    exact I1.hok.fresh enew
def tRaiseTm (C : Addr) (W : WX) (ta : TA) : TS := fun _ σ H => tMkTm C ta σ H fun cls d H' => W cls d σ H'
/-- raise C(e) -/
theorem ps_raiseTm {a : Expr} {ta : TA} {W : WX} {x : PySem.Str} {p pos pos2 : Pos} {k : Nat} (hc : X.calm = true) (T : TmTxt X.K C fI) (hr : Room k X.A) (tk : Takes X W) (ha : PA X [a] ta) (hg : Gl X x) (hm : X.mg x = some (.ref C)) (hdb : (x == ("__debug__" : PySem.Str)) = false := by decide)
    (he : starEach (a :: []) X.env = (false, eval a X.env) :: starEach [] X.env := by rfl) (hpl : (backTo pos (starEach [] X.env)).any (·.1) = false := by rfl) :
    PS X (.Raise (some (.Call (.Name x p) [a] [] pos)) none pos2) (tRaiseTm C W ta) := ps_raise hc tk (pmk_tm T hr ha hg hm hdb he hpl)
end
end KR
/-! Rules, part 9: len, repr, == and != of instances whose class tells them by an own def. -/
namespace KR
open PySem PySem.Spec PyProof.Rows L2

section
variable {X : Cx} {CX : CXT} {k : Nat} {C C' f : Addr} {fd : FuncData} {ps : List PySem.Str} {sp : Sp} {E : XK}
/-- the special def at f runs below the body, at the around A -/
theorem run_below {A : Around} {E1 : Value → Shared → Prop} {pins : List (Addr × Obj)} {σ : L2.St} {H : Hp} {s : Shared} {Q : VK} {us : List Value} {vs : List V} (F : FnOk X.prog X.w X.K X.mg X.base CX k f fd ps sp) (hr : Room k A) (hf : A.frames = X.A.frames) (hb : Binds X.K fd ps [])
    (hx : ∀ e s', CX X.stack H s E e s' → E1 e s') (I : Inv X pins σ H s) (r : Vals vs us) (h : sp vs H Q E) : wpAny (model X.prog X.w) A (call (.ref f) us) (EP X pins σ Q) E1 s := by
  have hl : us.length = ps.length := by rw [← r.length]; exact F.len _ _ _ _ h
  have hb' := hb s us I.kIn (by rw [List.append_nil]; exact hl)
  rw [List.append_nil] at hb'
  have e := I.env0
  have e0 : Env0 X.prog X.w X.K X.mg X.base A X.stack s H := ⟨by rw [hf]; exact e.frames, e.mod, e.bs, e.bsz, e.funs, e.frf, e.hok, e.bare⟩
  refine wpAny_call (codeAny_mono (F.run A X.stack s H ⟨us, []⟩ us vs Q E hr e0 hb' r h) fun r s' hq => ?_)
  match r, hq with
  | .error e, hq => exact hx e s' hq
  | .ok (.ret u), hq => exact I.after hq
  | .ok .next, hq => exact False.elim hq
  | .ok .brk, hq => exact False.elim hq
  | .ok .cont, hq => exact False.elim hq

/-- len(x), x of the class at C whose __len__ is the def at f -/
theorem call_lenI (hs : PySem.W.findIn X.K (.ref C) "__len__" = some (some (.ref f))) (hf : PySem.W.isFn X.K (.ref f) = true) (F : FnOk X.prog X.w X.K X.mg X.base CX k f fd ps sp) (hr : Room (k + 1) X.A) (hb : Binds X.K fd ps []) (hx : Passes CX X E) :
    CallR X (.builtin "len") (fun xs H Q => ∃ a dx fs, xs = [V.ref a] ∧ H a = some (.ins C dx fs) ∧ sp [.ref a] H (fun v H' => ∃ n : Nat, v = .int (n : Int) ∧ n < 1000000 ∧ Q v H') E) := by
  rintro pins s σ H xs us Q I r ⟨a, dx, fs, rfl, ha, h⟩
  obtain ⟨u, rfl, rfl⟩ := vals1 r
  obtain ⟨mA, O, _⟩ := ins_get I.hok ha
  obtain ⟨od, J, _⟩ := O.look
  obtain ⟨m, fr⟩ := I.fr
  refine PySem.W.len_K fr I.ok.mod.kin J hs hf (wpAny_mono (run_below F hr.in1 rfl hb (fun e s' c => hx pins σ H s e s' I c) I (vs := [V.ref a]) (.cons rfl .nil) h) (fun v s' q => ?_) fun _ _ z => z)
  obtain ⟨x, H', I', rv, n, rfl, hn, q⟩ := q
  obtain ⟨t, rfl⟩ := rv
  exact ⟨⟨by omega, by omega⟩, .int (n : Int), H', I'.tok _, ⟨_, rfl⟩, q⟩
/-- repr(x) likewise: a text -/
theorem call_reprI (hs : PySem.W.findIn X.K (.ref C) "__repr__" = some (some (.ref f))) (hf : PySem.W.isFn X.K (.ref f) = true) (F : FnOk X.prog X.w X.K X.mg X.base CX k f fd ps sp) (hr : Room (k + 1) X.A) (hb : Binds X.K fd ps []) (hx : Passes CX X E) :
    CallR X (.builtin "repr") (fun xs H Q => ∃ a dx fs, xs = [V.ref a] ∧ H a = some (.ins C dx fs) ∧ sp [.ref a] H (fun v H' => ∃ z : PySem.Str, v = .str z ∧ Q v H') E) := by
  rintro pins s σ H xs us Q I r ⟨a, dx, fs, rfl, ha, h⟩
  obtain ⟨u, rfl, rfl⟩ := vals1 r
  obtain ⟨mA, O, _⟩ := ins_get I.hok ha
  obtain ⟨od, J, _⟩ := O.look
  obtain ⟨m, fr⟩ := I.fr
  refine PySem.W.repr_K hr.in1.units0 fr I.ok.mod.kin J hs hf (wpAny_mono (run_below F hr.in1 rfl hb (fun e s' c => hx pins σ H s e s' I c) I (vs := [V.ref a]) (.cons rfl .nil) h) (fun v s' q => ?_) fun _ _ z => z)
  obtain ⟨x, H', I', rv, z, rfl, q⟩ := q
  obtain ⟨t, rfl⟩ := rv
  exact ⟨.str z, H', I', ⟨t, rfl⟩, q⟩

/-- x == y by the own __eq__ of x's class, y's class no subclass of it (or the same) -/
theorem op_eqI (hs : PySem.W.findIn X.K (.ref C) "__eq__" = some (some (.ref f))) (hf : PySem.W.isFn X.K (.ref f) = true) (hn : PySem.W.notFirst X.K C (.ref C') = true) (F : FnOk X.prog X.w X.K X.mg X.base CX k f fd ps sp) (hr : Room k X.A) (hb : Binds X.K fd ps []) (hx : Passes CX X E) :
    OpR X (compareOp .Eq) (fun x y H Q => ∃ a dx fs b dy gs, x = V.ref a ∧ y = V.ref b ∧ H a = some (.ins C dx fs) ∧ H b = some (.ins C' dy gs) ∧ sp [.ref a, .ref b] H (fun v H' => ∃ c, v = .bl c ∧ Q v H') E) := by
  rintro pins s σ H x y u v Q I rx ry ⟨a, dx, fs, b, dy, gs, rfl, rfl, ha, hb', h⟩
  obtain rfl : u = Value.ref a := rx
  obtain rfl : v = Value.ref b := ry
  obtain ⟨mA, O, _⟩ := ins_get I.hok ha
  obtain ⟨od, J, _⟩ := O.look
  obtain ⟨mB, O', _⟩ := ins_get I.hok hb'
  obtain ⟨od', J', _⟩ := O'.look
  obtain ⟨m, fr⟩ := I.fr
  show wpAny _ _ (richCompare .Eq (.ref a) (.ref b)) _ _ _
  refine PySem.W.cmp_K (op := .Eq) (tb := .ref C') hr.units0 fr I.ok.mod.kin J J'.type hn hs hf (wpAny_mono (run_below F hr rfl hb (fun e s' c => hx pins σ H s e s' I c) I (vs := [V.ref a, V.ref b]) (.cons rfl (.cons rfl .nil)) h) (fun z s' q => ?_) fun _ _ z => z)
  obtain ⟨x, H', I', rv, c, rfl, q⟩ := q
  obtain rfl : z = Value.bool c := rv
  exact ⟨.bl c, H', I', rfl, q⟩

/-- x != y where y's class is under x's: y's __ne__ is object's and asks y's own __eq__ -/
theorem op_neI (hs : PySem.W.findIn X.K (.ref C') "__eq__" = some (some (.ref f))) (hf : PySem.W.isFn X.K (.ref f) = true) (hne : PySem.W.findIn X.K (.ref C') "__ne__" = some (some (.builtin "object.__ne__")))
    (hCC : C' ≠ C) (hsub : PySem.W.mroIn X.K C' (.ref C) = some true) (hob : PySem.W.mroIn X.K C' (.type "object") = some true) (F : FnOk X.prog X.w X.K X.mg X.base CX k f fd ps sp) (hr : Room (k + 1) X.A) (hb : Binds X.K fd ps []) (hx : Passes CX X E) :
    OpR X (compareOp .NotEq) (fun x y H Q => ∃ a dx fs b dy gs, x = V.ref a ∧ y = V.ref b ∧ H a = some (.ins C dx fs) ∧ H b = some (.ins C' dy gs) ∧ sp [.ref b, .ref a] H (fun v H' => ∃ c, v = .bl c ∧ Q (.bl (!c)) H') E) := by
  rintro pins s σ H x y u v Q I rx ry ⟨a, dx, fs, b, dy, gs, rfl, rfl, ha, hb', h⟩
  obtain rfl : u = Value.ref a := rx
  obtain rfl : v = Value.ref b := ry
  obtain ⟨mA, O, _⟩ := ins_get I.hok ha
  obtain ⟨od, J, _⟩ := O.look
  obtain ⟨mB, O', _⟩ := ins_get I.hok hb'
  obtain ⟨od', J', _⟩ := O'.look
  have KX := I.kIn
  show wpAny _ _ (richCompare .NotEq (.ref a) (.ref b)) _ _ _
  have hu := hr.units
  have inner : wpAny (model X.prog X.w) X.A.in1 (Builtin.«object.__ne__» ⟨[.ref b, .ref a], []⟩) (fun fin s' => match fin with | .done f => wants (fun v s' => ∃ c, v = .bool (!c) ∧ EP X pins σ Q (.bool (!c)) s') X.xe (.ok f) s' | .again c' => c'.quiet = true ∧ codeAny (model X.prog X.w) X.A c' (wants (fun v s' => ∃ c, v = .bool (!c) ∧ EP X pins σ Q (.bool (!c)) s') X.xe) s')
      (fun e s' => wants (fun v s' => ∃ c, v = .bool (!c) ∧ EP X pins σ Q (.bool (!c)) s') X.xe (.error e) s') s := by
    unfold Builtin.«object.__ne__»
    refine wpAny_bind (m := slotArgs "__ne__" 1 _) (wpAny_of_eq (a := (.ref b, [.ref a])) (by first | rfl | kernel_rfl) ?_)
    refine wpAny_bind (wpAny_cRoomFor hr.in1.units0 ?_)
    refine wpAny_bind (m := callSpecialIfBound? (.ref b) "__eq__" [.ref a]) (PySem.W.ifBound_K KX J' hs hf (wpAny_mono (run_below F hr.in1 rfl hb (fun e s' c => hx pins σ H s e s' I c) I (vs := [V.ref b, V.ref a]) (.cons rfl (.cons rfl .nil)) h) (fun z s' q => ?_) fun _ _ z => z))
    obtain ⟨x, H', I', rv, c, rfl, q⟩ := q
    obtain rfl : z = Value.bool c := rv
    show wpAny _ _ (truthy (.bool c) >>= fun r => ret (.bool (!r))) _ _ _
    refine wpAny_bind (wpAny_truthy_bool (wpAny_pure ?_))
    exact ⟨c, rfl, .bl (!c), H', I', rfl, q⟩
  have one : wpAny (model X.prog X.w) X.A (tryCompare (.ref b) "__ne__" (.ref a)) (fun r s' => ∃ v, r = some v ∧ EP X pins σ Q v s') X.xe s := by
    unfold tryCompare
    have cl : wpAny (model X.prog X.w) X.A (call (.builtin "object.__ne__") [.ref b, .ref a]) (fun v s' => ∃ c, v = .bool (!c) ∧ EP X pins σ Q (.bool (!c)) s') X.xe s :=
      wpAny_call (codeAny_call_builtin PySem.F.slot_object_ne.plain PySem.F.cmpEntry_ne (PySem.W.check_slot PySem.F.cmpKind_ne PySem.F.cmpSplit_ne (J'.type.andThen (PySem.W.looks_mroIn KX hob)) (PySem.F.cmpArgs_ne _ _) inner))
    have fin : wpAny (model X.prog X.w) X.A (call (.builtin "object.__ne__") ([.ref b] ++ [.ref a]) >>= fun v => pure (some v)) (fun r s' => ∃ c, r = some (Value.bool (!c)) ∧ EP X pins σ Q (.bool (!c)) s') X.xe s :=
      wpAny_bind (wpAny_mono cl (fun v s' ⟨c, e, q⟩ => wpAny_pure ⟨c, by rw [e], q⟩) fun _ _ z => z)
    refine wpAny_bind (wpAny_mono (Q := fun r s' => ∃ c, r = some (Value.bool (!c)) ∧ EP X pins σ Q (.bool (!c)) s') ?_ (fun r s' ⟨c, e, q⟩ => ?_) fun _ _ z => z)
    · simp only [callSpecialIfBound?, bindSpecialIfBound?]
      refine wpAny_holding (wpAny_bind (wpAny_bind (wpAny_bind (J'.type.here ((PySem.W.looks_findIn KX hne).here ?_)))))
      refine wpAny_bind (wpAny_askSetting (wpAny_ite ?_))
      split
      · exact wpAny_bind (wpAny_of_eq (PySem.F.slot_object_ne.bind _) (wpAny_pure (by exact fin)))
      · exact wpAny_tryCatch (wpAny_bind (wpAny_of_eq (PySem.F.slot_object_ne.bind _) (wpAny_pure (by exact fin))))
    · rw [e]
      exact wpAny_pure ⟨_, rfl, q⟩
  unfold richCompare
  simp only [oneThing_ref]
  refine wpAny_holding (wpAny_bind (wpAny_cRoomFor hr.units0 ?_))
  refine wpAny_bind (J.type.here (wpAny_bind (J'.type.here ?_)))
  rw [if_pos (show (Value.ref C != Value.ref C') = true from by simp [Ne.symm hCC])]
  refine wpAny_bind ((PySem.W.looks_mroIn KX hsub).here ?_)
  simp only [if_true]
  refine wpAny_bind (wpAny_mono one (fun r s' z => ?_) fun _ _ e => e)
  obtain ⟨v, rfl, hq⟩ := z
  first
    | exact wpAny_bind (wpAny_rule (wpAny_pure hq))
    | exact wpAny_pure hq
end
end KR
/-! Rules, part 10: sum(tuple), enumerate(tuple), zip(tuple, list), tuple * n from n = 1 on. -/
namespace KR
open PySem PySem.Spec PyProof.Rows L2 Builtin

/-! ### sum -/
section
variable {X : Cx}
/-- sum(xs), xs a list or a tuple of ints -/
theorem cr_sumA (hc : X.calm = true) : CallR X (.builtin "sum") (fun vs H Q => ∃ (a : Addr) (ns : List Int), vs = [V.ref a] ∧ (SqL X.K H a (ns.map V.int) ∨ SqT X.K H a (ns.map V.int)) ∧ Q (.int ns.sum) H) := by
  rintro pins s σ H vs us Q I r ⟨a, ns, rfl, hs, q⟩
  rcases hs with hs | hs
  · exact cr_sum hc pins s σ H _ us Q I r ⟨a, ns, rfl, hs, q⟩
  · obtain ⟨its, rv, ht, _⟩ := I.tuple hs
    rw [Vals.ref1 r]
    have hi : IntsAre its ns := rv.ints
    obtain ⟨xs, e⟩ := hi.allInts.items
    have hn : numsOf (intItems xs).toList = ns := by rw [← e]; exact hi.numsOf
    rw [nums_intItems] at hn
    have ht' : s.heap.IsTuple a (intItems xs) := by rw [← e]; exact ht
    refine PySem.W.ktm_sumG (I.ok.hd hc) ht' fun h' tk t' hk => ?_
    rw [preSum_eq, List.take_of_length_le (by simp), hn]
    exact ⟨.int ns.sum, H, I.kept hk, ⟨t', rfl⟩, q⟩
end

/-! ### enumerate of a tuple -/
theorem enum_newT (l : Addr) (items : Array Value) (n : Nat) (dct : Option Addr) (sl : Array (Option Value)) :
    Meets (Builtin.«enumerate.__new__» ⟨[.type "enumerate", .ref l], []⟩) (fun _ R s => s.heap.get? l = some { cls := .type "tuple", dict := dct, data := .seq items n, slots := sl } ∧
      R (.ok (.ret (.ref (s.heap.push { cls := .type "tuple_iterator", data := .fields #[.ref l, .int 0 0] }).objs.size)))
        { s with heap := (s.heap.push { cls := .type "tuple_iterator", data := .fields #[.ref l, .int 0 0] }).push { cls := .type "enumerate", data := .fields #[.none, .bool false, .ref s.heap.objs.size, rawInt 0, .none, .none] } }) :=
  .of_wp fun prog w A R s h => by
    obtain ⟨hp, g, d, tk, os⟩ := s; obtain ⟨hl, h⟩ := h
    have hsub := sub_enumerate
    have hL : Heap.IsTuple (Shared.heap ⟨hp, g, d, tk, os⟩) l items := ⟨_, hl, rfl, n, rfl⟩
    wp_walk using AutoSeq1.wpAny_loadPart' hl
    refine wpAny_stack_any fun st => wpAny_pure ?_
    split
    · rename_i c _ _ _ _ _
      cases (c == Value.type "enumerate") <;> (wp_walk using AutoSeq1.wpAny_loadPart' hl, wpAny_pyIter_tuple hL; exact ⟨_, rfl, h⟩)
    · wp_walk using AutoSeq1.wpAny_loadPart' hl, wpAny_pyIter_tuple hL
      exact ⟨_, rfl, h⟩
section
variable {prog : Program} {w : World} {A : Around} {E : Value → Shared → Prop} {s : Shared}
theorem call_enumT {l : Addr} {items : Array Value} {Q : Value → Shared → Prop} (hL : s.heap.IsTuple l items)
    (h : ∀ h', IsEnum h' (s.heap.objs.size + 1) s.heap.objs.size 0 .none → h'.IsTupleIter s.heap.objs.size l 0 → (∀ b o, s.heap.get? b = some o → h'.get? b = some o) → Q (.ref (s.heap.objs.size + 1)) { s with heap := h' }) :
    wpAny (model prog w) A (call (.type "enumerate") [.ref l]) Q E s := by
  obtain ⟨⟨c, dct, dt, sl⟩, hl, hc, n, hd⟩ := hL
  obtain rfl : c = .type "tuple" := hc
  obtain rfl : dt = .seq items n := hd
  refine callType_new F.called_enumerate (by decide) (F.typeCall_enumerate_1 _) (F.newCall_enumerate_1 _) (fun obj => F.args_object_init_2 obj _) F.entry_enumerate_new (enum_newT l items n dct sl) ⟨hl, ?_⟩
  have hz : (s.heap.push { cls := .type "tuple_iterator", data := .fields #[.ref l, .int 0 0] }).objs.size = s.heap.objs.size + 1 := Heap.size_push ..
  show _ ∧ _
  rw [hz]
  have he : IsEnum ((s.heap.push { cls := .type "tuple_iterator", data := .fields #[.ref l, .int 0 0] }).push { cls := .type "enumerate", data := .fields #[.none, .bool false, .ref s.heap.objs.size, rawInt 0, .none, .none] }) (s.heap.objs.size + 1) s.heap.objs.size 0 .none := by
    have z := Heap.get?_push_size (s.heap.push { cls := .type "tuple_iterator", data := .fields #[.ref l, .int 0 0] }) (o := { cls := .type "enumerate", data := .fields #[.none, .bool false, .ref s.heap.objs.size, rawInt 0, .none, .none] }) rfl
    rw [hz] at z
    exact z
  exact ⟨⟨_, he, rfl⟩, h _ he ⟨_, Heap.get?_push_of_some _ (Heap.get?_push_size _ rfl), rfl, rfl⟩ fun b o x => Heap.get?_push_of_some _ (Heap.get?_push_of_some _ x)⟩
end
/-- the tuple at a, each item in a new pair -/
def IteT (a : Addr) : It :=
  ⟨fun i H => ∃ (xs : List V), H a = some (.tup xs) ∧ i < xs.length, fun i H v H' => ∃ T x, v = .ref T ∧ H T = none ∧ H' = upd H T (.tup [.int (i : Nat), x]) ∧ ∀ xs, H a = some (.tup xs) → xs[i]? = some x, fun i H => ∃ xs : List V, H a = some (.tup xs) ∧ xs.length = i⟩
theorem walk_enumT {a : Addr} {xs : List V} : Walk (IteT a) xs.length (fun H => H a = some (.tup xs)) (YPair (fun i => some (.int (i : Nat))) (fun i => xs[i]?)) := by
  refine ⟨fun i _ hi q => ⟨xs, q, hi⟩, fun _ q => ⟨xs, q, rfl⟩, fun i H v H' _ q y => ?_⟩
  obtain ⟨T, x, h1, h2, h3, h4⟩ := y
  exact ⟨T, .int (i : Nat), x, h1, h2, h3, rfl, h4 xs q⟩
theorem turn_enumT {P : Program} {w : World} {K : PySem.W.Frag} {elts : List Expr} {kk : Nat} {tpos : Pos} (a e it : Addr) :
    Turn P w K (.Tuple elts kk tpos) (IteT a) [e, it] e (fun i h => (∃ old, IsEnum h e it ((i : Nat) : Int) old) ∧ h.IsTupleIter it a i ∧ e ≠ it) where
  mem := by simp
  obj := fun i h st b hb => by
    obtain ⟨⟨old, he⟩, ⟨o, ho, hc, hd⟩, _⟩ := st
    have e' : b = e ∨ b = it := by simpa using hb
    rcases e' with z | z
    · rw [z]; exact ⟨_, he, fun v q => nomatch q⟩
    · rw [z]; exact ⟨o, ho, fun v q => by rw [hd] at q; cases q⟩
  keep := fun i h h' st k => let ⟨⟨old, he⟩, hi, hne⟩ := st; ⟨⟨old, k e (by simp) _ he⟩, hi.at fun o q => k it (by simp) o q, hne⟩
  item := by
    intro X hP hw hK hc i pins s σ H E I hf st hg
    subst hP hw hK
    obtain ⟨hen, hit, hne⟩ := st
    obtain ⟨xs, hq, hi⟩ := hg
    obtain ⟨hz, its, rv, p⟩ := (show ObjOk X.prog X.w H s.heap a (.tup xs) from I.hok a _ hq)
    have hl := rv.length
    have na : ∀ b ∈ [e, it], a ≠ b := fun b hb z => by
      have := (hf b hb).1
      rw [← z, hq] at this
      cases this
    have hai : a ≠ it := na it (by simp)
    have hae : e ∉ [it, a] := by simp [hne, Ne.symm (na e (by simp))]
    have G := GoesN.enumFrom (prog := X.prog) (w := X.w) (A := X.A) (elts := elts) (x1 := kk) (pos := tpos) 0 (Draws.tuple (A := X.A.in1) (I.ok.hd hc) it a hai its.toArray) e hne hae (by simp)
    have sz : ∀ b ∈ [e, it], b < s.heap.objs.size := fun b hb => by
      rcases List.mem_cons.mp hb with z | z
      · obtain ⟨old, he⟩ := hen
        rw [z]; exact Heap.lt_size he
      · obtain ⟨o, ho, _⟩ := hit
        rw [List.mem_singleton.mp z]; exact Heap.lt_size ho
    refine G.goes i s _ E (by simp; omega) ⟨by simpa using hen, hit, p⟩ fun v h' tk hY st' hk htk => ?_
    obtain ⟨T, t, x, rfl, hT, hx, hTT⟩ := hY
    obtain ⟨hen', hit', _⟩ := st'
    have hxi : xs[i]? = some xs[i] := List.getElem?_eq_getElem hi
    obtain ⟨u, hu, ru⟩ := rv.get hxi
    have eu : u = x := by
      have h1 : its.toArray[i]? = some u := by simpa using hu
      rw [h1] at hx
      exact Option.some.inj hx
    subst eu
    have new : ObjOk X.prog X.w (upd H T (.tup [.int (i : Nat), xs[i]])) h' T (.tup [.int (i : Nat), xs[i]]) :=
      ⟨by show 2 ≤ sizeLine; decide, [.int (0 + (i : Int)) t, u], .cons ⟨t, by rw [Int.zero_add]⟩ (.cons ru .nil), hTT⟩
    have I1 : Inv X pins σ (upd H T (.tup [.int (i : Nat), xs[i]])) { s with heap := h', toks := tk } := I.turnedNew (ch := [e, it]) hk hf hT new
    refine ⟨.ref T, _, I1, rfl, ⟨T, xs[i], rfl, I.hok.fresh hT, rfl, fun ys hy => by rw [hq] at hy; cases hy; exact hxi⟩, ⟨by obtain ⟨old, z⟩ := hen'; exact ⟨old, by simpa using z⟩, hit', hne⟩, fun b hb => ?_⟩
    rw [upd_ne (Nat.ne_of_lt (Nat.lt_of_lt_of_le (sz b hb) hT))]
    exact (hf b hb).1
  done := by
    intro X hP hw hK hc i pins s σ H E I hf st hg
    subst hP hw hK
    obtain ⟨hen, hit, hne⟩ := st
    obtain ⟨xs, hq, rfl⟩ := hg
    obtain ⟨hz, its, rv, p⟩ := (show ObjOk X.prog X.w H s.heap a (.tup xs) from I.hok a _ hq)
    have hl := rv.length
    have na : ∀ b ∈ [e, it], a ≠ b := fun b hb z => by
      have := (hf b hb).1
      rw [← z, hq] at this
      cases this
    have hai : a ≠ it := na it (by simp)
    have hae : e ∉ [it, a] := by simp [hne, Ne.symm (na e (by simp))]
    have G := GoesN.enumFrom (prog := X.prog) (w := X.w) (A := X.A) (elts := elts) (x1 := kk) (pos := tpos) 0 (Draws.tuple (A := X.A.in1) (I.ok.hd hc) it a hai its.toArray) e hne hae (by simp)
    have ez : its.toArray.size = xs.length := by simp [hl]
    refine G.stops s (fun s1 => Inv X pins σ H s1) E ?_ fun h' tk hk htk => I.turnedL (ch := [e, it]) hk hf
    rw [ez]
    exact ⟨by simpa using hen, hit, p⟩
  self := fun A i s Q E st h => let ⟨⟨_, he⟩, _⟩ := st; wpAny_pyIter_enum he h
def iEnumT (ta : TA) : TI := fun σ H R => ta σ H fun vs H1 => ∃ a xs, vs = [.ref a] ∧ H1 a = some (.tup xs) ∧ R (IteT a) H1
theorem pi_enumT {X : Cx} {e : Expr} {ta : TA} {p pos tpos : Pos} {elts : List Expr} {kk : Nat} (hg : Gl X "enumerate") (hm : X.mg "enumerate" = none) (ha : PA X [e] ta) (hs : starEach [e] X.env = [(false, eval e X.env)] := by rfl) :
    PI X (.Tuple elts kk tpos) (.Call (.Name "enumerate" p) [e] [] pos) (iEnumT ta) := by
  refine ⟨fun pins s σ H R I h => ?_⟩
  refine Call_ (ld_blt I hg hm boot_enumerate (PyProof.Rows.callWith_type1 (thn (ha.run pos pins s σ H _ I h) fun us s1 ⟨vs, H1, I1, r1, a, xs, ex, hq, q⟩ => ?_) hs rfl))
  subst ex
  rw [Vals.ref1 r1]
  obtain ⟨hz, its, rv, pt⟩ := (show ObjOk X.prog X.w H1 s1.heap a (.tup xs) from I1.hok a _ hq)
  refine call_enumT (show s1.heap.IsTuple a its.toArray from pt) fun h' he hit hk => wpAny_pyIter_enum he ?_
  have I2 : Inv X pins σ H1 { s1 with heap := h' } := I1.kept (t' := s1.toks) hk
  refine ⟨s1.heap.objs.size + 1, [s1.heap.objs.size + 1, s1.heap.objs.size], _, _, H1, rfl, I2, turn_enumT a (s1.heap.objs.size + 1) s1.heap.objs.size, ⟨⟨.none, he⟩, hit, Nat.succ_ne_self _⟩, fun b hb => ?_, q⟩
  have e' : b = s1.heap.objs.size + 1 ∨ b = s1.heap.objs.size := by simpa using hb
  have hle : s1.heap.objs.size ≤ b := by
    rcases e' with z | z
    · rw [z]; exact Nat.le_add_right _ _
    · rw [z]; exact Nat.le_refl _
  exact I1.fpOk hle (I1.hok.fresh hle)

/-! ### zip of a tuple and a list -/
def ItzTL (a b : Addr) : It :=
  ⟨fun i H => ∃ (xs ys : List V), H a = some (.tup xs) ∧ H b = some (.lst ys) ∧ i < xs.length ∧ i < ys.length,
    fun i H v H' => ∃ T x y, v = .ref T ∧ H T = none ∧ H' = upd H T (.tup [x, y]) ∧ (∀ xs, H a = some (.tup xs) → xs[i]? = some x) ∧ ∀ ys, H b = some (.lst ys) → ys[i]? = some y,
    fun i H => ∃ xs ys : List V, H a = some (.tup xs) ∧ H b = some (.lst ys) ∧ min xs.length ys.length = i⟩
theorem walk_zipTL {a b : Addr} {xs ys : List V} {n : Nat} (hn : n = min xs.length ys.length) : Walk (ItzTL a b) n (fun H => H a = some (.tup xs) ∧ H b = some (.lst ys)) (YPair (fun i => xs[i]?) (fun i => ys[i]?)) := by
  subst hn
  refine ⟨fun i _ hi q => ⟨xs, ys, q.1, q.2, by omega, by omega⟩, fun _ q => ⟨xs, ys, q.1, q.2, rfl⟩, fun i H v H' _ q y => ?_⟩
  obtain ⟨T, x, z, h1, h2, h3, h4, h5⟩ := y
  exact ⟨T, x, z, h1, h2, h3, h4 xs q.1, h5 ys q.2⟩
theorem turn_zipTL {P : Program} {w : World} {K : PySem.W.Frag} {elts : List Expr} {kk : Nat} {tpos : Pos} {a b N : Addr} (ha : a < N) (hb : b < N) :
    Turn P w K (.Tuple elts kk tpos) (ItzTL a b) [N + 4, N + 2, N + 3, N, N + 1] (N + 4) (fun i h => IsZip h (N + 4) (N + 2) (N + 3) .none ∧ IsTupOf2 h (N + 2) (.ref N) (.ref (N + 1)) ∧ (∃ x y, IsTupOf2 h (N + 3) x y) ∧ h.IsTupleIter N a i ∧ h.IsListIter (N + 1) b i) where
  mem := by simp
  obj := fun i h st c hc => by
    obtain ⟨hz, hTI, ⟨x, y, hTO⟩, ⟨o1, e1, _, d1⟩, ⟨o2, e2, _, d2⟩⟩ := st
    have e' : c = N + 4 ∨ c = N + 2 ∨ c = N + 3 ∨ c = N ∨ c = N + 1 := by simpa using hc
    rcases e' with q | q | q | q | q
    · rw [q]; exact ⟨_, hz, fun v q => nomatch q⟩
    · rw [q]; exact ⟨_, hTI, fun v q => nomatch q⟩
    · rw [q]; exact ⟨_, hTO, fun v q => nomatch q⟩
    · rw [q]; exact ⟨o1, e1, fun v q => by rw [d1] at q; cases q⟩
    · rw [q]; exact ⟨o2, e2, fun v q => by rw [d2] at q; cases q⟩
  keep := fun i h h' st k => by
    obtain ⟨hz, hTI, ⟨x, y, hTO⟩, h1, h2⟩ := st
    exact ⟨k (N + 4) (by simp) _ hz, k (N + 2) (by simp) _ hTI, ⟨x, y, k (N + 3) (by simp) _ hTO⟩, h1.at fun o q => k N (by simp) o q, h2.at fun o q => k (N + 1) (by simp) o q⟩
  item := by
    intro X hP hw hK hc i pins s σ H E I hf st hg
    subst hP hw hK
    obtain ⟨hz, hTI, hTO, h1, h2⟩ := st
    obtain ⟨xs, ys, hqx, hqy, hix, hiy⟩ := hg
    obtain ⟨_, its, rv, p⟩ := (show ObjOk X.prog X.w H s.heap a (.tup xs) from I.hok a _ hqx)
    obtain ⟨_, its2, n2, rv2, p2⟩ := (show ObjOk X.prog X.w H s.heap b (.lst ys) from I.hok b _ hqy)
    have l1 := rv.length
    have l2 := rv2.length
    have hh : X.A.in1.handled = none := I.ok.hd hc
    have D1 := Draws.tuple (prog := X.prog) (w := X.w) (A := X.A.in1) hh N a (Nat.ne_of_lt ha) its.toArray
    have D2 := Draws.list (prog := X.prog) (w := X.w) (A := X.A.in1) hh (N + 1) b (Nat.ne_of_lt (Nat.lt_succ_of_lt hb)) its2.toArray
    have G := GoesN.zip2 (A := X.A) (elts := elts) (x1 := kk) (pos := tpos) (zip_sep2 (N := N) (fp1 := [a]) (fp2 := [b]) (fun c hc => by rw [List.mem_singleton.mp hc]; exact ha) (fun c hc => by rw [List.mem_singleton.mp hc]; exact hb)) D1 D2
    have sz : ∀ c ∈ [N + 4, N + 2, N + 3, N, N + 1], c < s.heap.objs.size := fun c hcm => by
      have z4 : N + 4 < s.heap.objs.size := Heap.lt_size hz
      have e' : c = N + 4 ∨ c = N + 2 ∨ c = N + 3 ∨ c = N ∨ c = N + 1 := by simpa using hcm
      have z5 : (N : Nat) + 4 < s.heap.objs.size := z4
      have : (c : Nat) ≤ N + 4 := by
        rcases e' with q | q | q | q | q <;> rw [q]
        · exact Nat.le_refl _
        · exact Nat.add_le_add_left (by decide) _
        · exact Nat.add_le_add_left (by decide) _
        · exact Nat.le_add_right _ _
        · exact Nat.add_le_add_left (by decide) _
      exact Nat.lt_of_le_of_lt this z5
    have sub : ∀ c, c ∉ [N + 4, N + 2, N + 3, N, N + 1] → c ∉ [N + 4, N + 3, N, N + 1] := fun c h z => h (by simp at z ⊢; rcases z with z | z | z | z <;> simp [z])
    refine G.goes i s _ E (by simp; omega) ⟨hz, hTI, hTO, ⟨h1, p⟩, ⟨h2, ⟨_, p2, rfl, n2, rfl⟩⟩⟩ fun v h' tk hY st' hk htk => ?_
    obtain ⟨T, x, y, rfl, hT, hx, hy, hTT⟩ := hY
    obtain ⟨hz', hTI', hTO', ⟨h1', _⟩, ⟨h2', _⟩⟩ := st'
    have hxi : xs[i]? = some xs[i] := List.getElem?_eq_getElem hix
    have hyi : ys[i]? = some ys[i] := List.getElem?_eq_getElem hiy
    obtain ⟨u, hu, ru⟩ := rv.get hxi
    obtain ⟨u2, hu2, ru2⟩ := rv2.get hyi
    obtain rfl : u = x := by
      have h1 : its.toArray[i]? = some u := by simpa using hu
      rw [h1] at hx
      exact Option.some.inj hx
    obtain rfl : u2 = y := by
      have h1 : its2.toArray[i]? = some u2 := by simpa using hu2
      rw [h1] at hy
      exact Option.some.inj hy
    have new : ObjOk X.prog X.w (upd H T (.tup [xs[i], ys[i]])) h' T (.tup [xs[i], ys[i]]) := ⟨by show 2 ≤ sizeLine; decide, [u, u2], .cons ru (.cons ru2 .nil), hTT⟩
    have I1 : Inv X pins σ (upd H T (.tup [xs[i], ys[i]])) { s with heap := h', toks := tk } := I.turnedNew (ch := [N + 4, N + 2, N + 3, N, N + 1]) (fun c o hc q => hk c o (sub c hc) q) hf hT new
    refine ⟨.ref T, _, I1, rfl, ⟨T, xs[i], ys[i], rfl, I.hok.fresh hT, rfl, fun zs hy => by rw [hqx] at hy; cases hy; exact hxi, fun zs hy => by rw [hqy] at hy; cases hy; exact hyi⟩, ⟨hz', hTI', hTO', h1', h2'⟩, fun c hcm => ?_⟩
    rw [upd_ne (Nat.ne_of_lt (Nat.lt_of_lt_of_le (sz c hcm) hT))]
    exact (hf c hcm).1
  done := by
    intro X hP hw hK hc i pins s σ H E I hf st hg
    subst hP hw hK
    obtain ⟨hz, hTI, hTO, h1, h2⟩ := st
    obtain ⟨xs, ys, hqx, hqy, hi⟩ := hg
    obtain ⟨_, its, rv, p⟩ := (show ObjOk X.prog X.w H s.heap a (.tup xs) from I.hok a _ hqx)
    obtain ⟨_, its2, n2, rv2, p2⟩ := (show ObjOk X.prog X.w H s.heap b (.lst ys) from I.hok b _ hqy)
    have l1 := rv.length
    have l2 := rv2.length
    have hh : X.A.in1.handled = none := I.ok.hd hc
    have D1 := Draws.tuple (prog := X.prog) (w := X.w) (A := X.A.in1) hh N a (Nat.ne_of_lt ha) its.toArray
    have D2 := Draws.list (prog := X.prog) (w := X.w) (A := X.A.in1) hh (N + 1) b (Nat.ne_of_lt (Nat.lt_succ_of_lt hb)) its2.toArray
    have G := GoesN.zip2 (A := X.A) (elts := elts) (x1 := kk) (pos := tpos) (zip_sep2 (N := N) (fp1 := [a]) (fp2 := [b]) (fun c hc => by rw [List.mem_singleton.mp hc]; exact ha) (fun c hc => by rw [List.mem_singleton.mp hc]; exact hb)) D1 D2
    have sub : ∀ c, c ∉ [N + 4, N + 2, N + 3, N, N + 1] → c ∉ [N + 4, N + 3, N, N + 1] := fun c h z => h (by simp at z ⊢; rcases z with z | z | z | z <;> simp [z])
    have ez : min its.toArray.size its2.toArray.size = i := by rw [← hi]; simp [l1, l2]
    refine G.stops s (fun s1 => Inv X pins σ H s1) E ?_ fun h' tk hk htk => I.turnedL (ch := [N + 4, N + 2, N + 3, N, N + 1]) (fun c o hc q => hk c o (sub c hc) q) hf
    rw [ez]
    exact ⟨hz, hTI, hTO, ⟨h1, p⟩, ⟨h2, ⟨_, p2, rfl, n2, rfl⟩⟩⟩
  self := fun A i s Q E st h => wpAny_pyIter_zip st.1 h
def iZipTL (ta : TA) : TI := fun σ H R => ta σ H fun vs H1 => ∃ a b xs ys, vs = [.ref a, .ref b] ∧ H1 a = some (.tup xs) ∧ H1 b = some (.lst ys) ∧ R (ItzTL a b) H1
theorem pi_zipTL {X : Cx} {e e2 : Expr} {ta : TA} {p pos tpos : Pos} {elts : List Expr} {kk : Nat} (hg : Gl X "zip") (hm : X.mg "zip" = none) (ha : PA X [e, e2] ta)
    (hs : starEach [e, e2] X.env = (false, eval e X.env) :: starEach [e2] X.env := by rfl) (hpl : (backTo pos (starEach [e2] X.env)).any (·.1) = false := by rfl) :
    PI X (.Tuple elts kk tpos) (.Call (.Name "zip" p) [e, e2] [] pos) (iZipTL ta) := by
  refine ⟨fun pins s σ H R I h => ?_⟩
  refine Call_ (ld_blt I hg hm PyProof.Rows.boot_zip (PyProof.Rows.callWith_type1 (thn (ha.run pos pins s σ H _ I h) fun us s1 ⟨vs, H1, I1, r1, a, b, xs, ys, ex, hqx, hqy, q⟩ => ?_) hs hpl))
  subst ex
  obtain ⟨u, u', rfl, rfl, rfl⟩ := vals2 r1
  obtain ⟨_, its, rv, p1⟩ := (show ObjOk X.prog X.w H1 s1.heap a (.tup xs) from I1.hok a _ hqx)
  obtain ⟨_, its2, n2, rv2, p2⟩ := (show ObjOk X.prog X.w H1 s1.heap b (.lst ys) from I1.hok b _ hqy)
  refine zip_begins2 (begins_tuple a its.toArray) (begins_list b its2.toArray) p1 ⟨_, p2, rfl, n2, rfl⟩ fun h' hz hTI hTO g1 g2 hsz hk => wpAny_pyIter_zip hz ?_
  have I2 : Inv X pins σ H1 { s1 with heap := h' } := I1.kept (t' := s1.toks) hk
  refine ⟨s1.heap.objs.size + 4, [s1.heap.objs.size + 4, s1.heap.objs.size + 2, s1.heap.objs.size + 3, s1.heap.objs.size, s1.heap.objs.size + 1], _, _, H1, rfl, I2, turn_zipTL (I1.hok.lt hqx) (I1.hok.lt hqy), ⟨hz, hTI, ⟨_, _, hTO⟩, ⟨_, g1, rfl, rfl⟩, ⟨_, g2, rfl, rfl⟩⟩, fun c hcm => ?_, q⟩
  have e' : c = s1.heap.objs.size + 4 ∨ c = s1.heap.objs.size + 2 ∨ c = s1.heap.objs.size + 3 ∨ c = s1.heap.objs.size ∨ c = s1.heap.objs.size + 1 := by simpa using hcm
  have hle : s1.heap.objs.size ≤ c := by
    rcases e' with z | z | z | z | z <;> rw [z]
    · exact Nat.le_add_right _ _
    · exact Nat.le_add_right _ _
    · exact Nat.le_add_right _ _
    · exact Nat.le_refl _
    · exact Nat.le_add_right _ _
  exact I1.fpOk hle (I1.hok.fresh hle)
end KR
/-! Rules, part 11: tuple * n from n = 1 on. -/
namespace KR
open PySem PySem.Spec PyProof.Rows L2
theorem tuple_mul1 (l : Addr) (items : Array Value) (n : Nat) (dd : Option Addr) (sl : Array (Option Value)) (u : Tok) :
    Meets (Builtin.«tuple.__mul__» ⟨[.ref l, .int 1 u], []⟩) (fun _ R s => s.heap.get? l = some { cls := .type "tuple", dict := dd, data := .seq items n, slots := sl } ∧ R (.ok (.ret (Value.ref l))) s) :=
  .of_wp fun prog w A R s h => by
    obtain ⟨hp, g, d, tk, os⟩ := s
    obtain ⟨hl, h⟩ := h
    have f1 := AutoSeq1.idx_int
    have c1 : (items.isEmpty || (1 : Int) == 1) = true := by simp
    wp_walk using AutoSeq1.wpAny_loadPart' hl
    all_goals first
      | exact ⟨_, rfl, h⟩
      | (refine wpAny_ite_true (decide_eq_true c1) ?_; wp_walk using AutoSeq1.wpAny_loadPart' hl; exact ⟨_, rfl, h⟩)
section
variable {X : Cx}
/-- tuple * n: 1 ≤ n -/
def rRepN : R2 := fun x y H Q => ∃ l k xs, x = .ref l ∧ y = .int k ∧ H l = some (.tup xs) ∧ xs ≠ [] ∧ 1 ≤ k ∧ k ≤ 1000 ∧ xs.length ≤ 1000 ∧ ∀ p H', H' p = some (.tup (List.replicate k.toNat xs).flatten) → (∀ a o, H a = some o → H' a = some o) → Q (.ref p) H'
theorem op_repN : OpR X (binaryOp .Mult) rRepN := by
  rintro pins s σ H x y v u Q I rx ry ⟨l, k, xs, rfl, rfl, hT, hne, h1, h2, hz, q⟩
  by_cases hk : k = 1
  · subst hk
    obtain rfl : v = Value.ref l := rx
    obtain ⟨t, rfl⟩ := ry
    obtain ⟨its, r, ⟨⟨cls, dd, data, sl⟩, ho, hc, n, hd⟩, hs⟩ := I.tuple (SqT.of hT)
    simp only at hc hd
    subst hc hd
    refine wpAny_binaryOp_repeat_ref (T := "tuple") (U := "int") (by decide) ⟨_, ho, rfl⟩ (fun s' => typeIs_int s' 1 t) noFill_tuple_mul F.fills_int_mul F.slot_int_rmul repeat_tuple F.slot_int_index.lookup
      (call_meets F.slot_int_rmul (typeIs_int s 1 t) F.entry_int_rmul (F.args_int_rmul_2 _ _) (int_rmul_tuple 1 t l its.toArray n dd sl)
        ⟨ho, rfl, ⟨_, ho, rfl⟩, call_meets F.slot_tuple_mul ⟨_, ho, rfl⟩ F.entry_tuple_mul (F.args_tuple_mul_2 _ _) (tuple_mul1 l its.toArray n dd sl t) ⟨ho, ?_⟩⟩)
    exact ⟨.ref l, H, I, rfl, q l H (by rw [hT]; simp) fun _ _ e => e⟩
  · exact op_repT pins s σ H _ _ v u Q I rx ry ⟨l, k, xs, rfl, rfl, SqT.of hT, hne, by omega, h2, hz, fun p hp => q p _ upd_same fun a o e => by rw [upd_ne (ne_of_none e hp)]; exact e⟩
end
end KR
/-! Rules, part 12: o.m(e, .., k = v, ..); C( *y), C a class, by its name or by a variable. -/
namespace KR
open PySem PySem.Spec PyProof.Rows L2 StX
section
variable {X : Cx} {CX : CXT} {j k i n : Nat} {f C : Addr} {fd : FuncData} {ps ks : List PySem.Str} {sp : Sp} {E : XK} {x m : PySem.Str} {e o : Expr} {es : List Expr} {kws : List Keyword} {te ta : TE} {t tk : TA} {p sp_ pos apos : Pos} {g : List Value → List Value → List Value} {gV : List V → List V → List V}
/-- o.m(e, .., k = v, ..) -/
def tMethN (C : Addr) (m : PySem.Str) (n nk : Nat) (sp : Sp) (gV : List V → List V → List V) (E : XK) (ta : TE) (t tk : TA) : TE := fun σ H Q => ta σ H fun x H1 => ∃ a dx fs, x = .ref a ∧ H1 a = some (.ins C dx fs) ∧ fs.lookup m = none ∧
  t σ H1 fun vs H2 => tk σ H2 fun zs H3 => vs.length = n ∧ zs.length = nk ∧ sp (gV (x :: vs) zs) H3 Q E
theorem pe_methN {pl : Sem Bool} (he : PE X o ta) (c : Cls X.K C) (hm : Meth X.K C m f) (F : FnOk X.prog X.w X.K X.mg X.base CX k f fd ps sp) (hr : Room k X.A) (hb : KBn X.K fd ps (n + 1) ks g gV) (hx : Passes CX X E)
    (ha : PA X (e :: es) t) (hkw : PK X kws tk) (hall : (backToKw pos (keywordEach kws X.env)).all (·.1.isSome) = true := by rfl) (hks : (backToKw pos (keywordEach kws X.env)).filterMap (·.1) = ks := by rfl)
    (hst : starEach (e :: es) X.env = (false, eval e X.env) :: starEach es X.env := by rfl) (hpl : ((backTo pos (starEach (e :: es) X.env)).any (·.1) || (backToKw pos (keywordEach kws X.env)).any (·.1.isNone)) = false := by rfl)
    (ht : eval (.Call (.Attribute o m apos) (e :: es) kws pos) X.env = (do
      let ov ← eval o X.env
      standAt apos.atName
      let (f, first) ← holding [ov] (getMethod ov m pl)
      callWith pos f first (backTo pos (starEach (e :: es) X.env)) (backToKw pos (keywordEach kws X.env))) := by rfl) :
    PE X (.Call (.Attribute o m apos) (e :: es) kws pos) (tMethN C m n ks.length sp gV E ta t tk) := by
  refine ⟨fun pins s σ H Q I h => ?_⟩
  refine PySem.W.methodCall_KW (pl := pl) (thn (he.run pins s σ H _ I h) fun u s1 ⟨x, H1, I1, rx, a, dx, fs, ex, ea, l, q⟩ => ?_) ht
  subst ex
  obtain rfl : u = Value.ref a := rx
  refine getmeth_ok I1 ea c hm l ?_
  refine PySem.W.callWith_KW (first := [.ref a]) (h₀ := X.base) I.ok.mod.kin hm.kp hall (thn (ha.run pos pins s1 σ H1 _ I1 q) fun us s2 ⟨vs, H2, I2, r, q2⟩ => ?_) hpl hst
  refine thn (hkw.run pos pins s2 σ H2 _ I2 q2) fun ws s3 ⟨zs, H3, I3, rz, l1, l2, q3⟩ => ⟨I3.kIn, ?_⟩
  rw [hks]
  exact run_fnN (us := .ref a :: us) (vs := .ref a :: vs) F hr hb hx I3 (.cons rfl r) rz (congrArg Nat.succ l1) l2 q3
/-- C( *y): a new instance, __init__ by a positional promise -/
def tMakeS (K : PySem.W.Frag) (C : Addr) (sp : Sp) (E : XK) (te : TE) : TE := fun σ H Q => te σ H fun y H1 => ∃ a xs, y = V.ref a ∧ (SqT K H1 a xs ∨ SqL K H1 a xs) ∧ ∀ x dx, H1 x = Option.none → H1 dx = Option.none → dx ≠ x →
  sp (V.ref x :: xs) (upd (upd H1 dx (.own x)) x (.ins C dx [])) (fun v H2 => v = .non ∧ Q (.ref x) H2) E
theorem pe_makeS (M : Mk X.K C f) (F : FnR X.prog X.w X.K X.mg X.base CX k f sp) (hr : Room (k + 1) X.A) (hg : Gl X x) (hm : X.mg x = some (.ref C)) (hx : Passes CX X E) (he : PE X e te) (hdb : (x == ("__debug__" : PySem.Str)) = false := by decide)
    (hst : starEach [.Starred e sp_] X.env = [(true, eval e X.env)] := by rfl) : PE X (.Call (.Name x p) [.Starred e sp_] [] pos) (tMakeS X.K C sp E te) := by
  refine ⟨fun pins s σ H Q I h => ?_⟩
  refine wpAny_Call_Name_kw (ld_glob I hg hm ?_ hdb)
  refine PySem.W.callWith_S (h₀ := X.base) I.ok.mod.kin M.kp (thn (he.run pins s σ H _ I h) fun v s1 ⟨y, H1, I1, ry, a, xs, ey, hxs, q⟩ => ?_) hst
  subst ey
  obtain rfl : v = Value.ref a := ry
  exact star_any I1 hxs fun us s2 I2 rv => ⟨I2.kIn, run_makeR M F hr hx I2 rv q⟩
/-- .. by a variable -/
theorem pe_makeSV (M : Mk X.K C f) (F : FnR X.prog X.w X.K X.mg X.base CX k f sp) (hr : Room (k + 1) X.A) (hN : X.N[i]? = some x) (hv : Vis X.env.scope x) (hx : Passes CX X E) (he : PE X e te) (hd : (x == ("__debug__" : PySem.Str)) = false := by decide)
    (hcd : (x == ("__classdict__" : PySem.Str)) = false := by decide) (hst : starEach [.Starred e sp_] X.env = [(true, eval e X.env)] := by rfl) :
    PE X (.Call (.Name x p) [.Starred e sp_] [] pos) (fun σ H Q => σ[i]? = some (some (.ref C)) ∧ tMakeS X.K C sp E te σ H Q) := by
  refine ⟨fun pins s σ H Q I h => ?_⟩
  obtain ⟨hs, h⟩ := h
  refine wpAny_Call_Name_kw (thn ((pe_var (pos := p) (i := i) hN hv hd hcd).run pins s σ H (fun v H1 => v = .ref C ∧ H1 = H) I ⟨.ref C, hs, rfl, rfl⟩) fun u s0 ⟨v, H0, I0, r0, ev, eH⟩ => ?_)
  subst ev
  rw [eH] at I0
  cases r0
  refine PySem.W.callWith_S (h₀ := X.base) I.ok.mod.kin M.kp (thn (he.run pins s0 σ H _ I0 h) fun v s1 ⟨y, H1, I1, ry, a, xs, ey, hxs, q⟩ => ?_) hst
  subst ey
  obtain rfl : v = Value.ref a := ry
  exact star_any I1 hxs fun us s2 I2 rv => ⟨I2.kIn, run_makeR M F hr hx I2 rv q⟩
end
end KR
/-! Rules, part 13: how many a set of ints has. -/
namespace KR
open PySem PySem.Spec PyProof.Rows L2
theorem sub_len {α : Type} [DecidableEq α] : ∀ {l m : List α}, l.Nodup → (∀ x ∈ l, x ∈ m) → l.length ≤ m.length
  | [], _, _, _ => Nat.zero_le _
  | a :: l, m, hn, h => by
    have hn' := List.nodup_cons.mp hn
    have ha : a ∈ m := h a List.mem_cons_self
    have q := sub_len (l := l) (m := m.erase a) hn'.2 fun x hx =>
      (List.mem_erase_of_ne (by rintro rfl; exact hn'.1 hx)).mpr (h x (List.mem_cons_of_mem _ hx))
    rw [List.length_erase_of_mem ha] at q
    have := List.length_pos_of_mem ha
    rw [List.length_cons]
    omega
section
variable {X : Cx}
/-- len of a set of ints, its members told by a list without doubles -/
theorem call_lenSetN (w : World) (hw : X.w = w) : CallR X (.builtin "len") (fun xs H Q => ∃ (a : Addr) (S : Int → Bool) (n : Nat) (ns : List Int), xs = [V.ref a] ∧ H a = some (SetO w a S n) ∧ ns.Nodup ∧ (∀ j, S j = true ↔ j ∈ ns) ∧ ns.length ≤ 100000 ∧ Q (.int ns.length) H) := by
  subst hw
  rintro pins s σ H xs us Q I r ⟨a, S, n, ns, rfl, ha, hnd, hm, hz, q⟩
  obtain ⟨o, es, ep, t, ho, hx, hd, g, nd, hm2, hb, hf, hn, _⟩ := setO_get I ha
  have e : n = ns.length := by
    rw [← hn, ← Array.length_toList, ← List.length_map (as := es.toList) (f := keyOf)]
    exact Nat.le_antisymm (sub_len nd fun x hx => (hm x).mp ((hm2 x).mpr hx)) (sub_len hnd fun x hx => (hm2 x).mp ((hm x).mpr hx))
  exact call_lenSet pins s σ H _ us Q I r ⟨a, S, n, rfl, ha, by omega, by rw [e]; exact q⟩
end
end KR
/-! Rules, part 14: set(xs) of ints, its size bounded by any list that covers it. -/
namespace KR
open PySem PySem.Spec PyProof.Rows L2
def rSetN (K : PySem.W.Frag) (w : World) : List V → Hp → VK → Prop := fun xs H Q => ∃ (l : Addr) (ns : List Int), xs = [V.ref l] ∧ (SqL K H l (ns.map V.int) ∨ SqT K H l (ns.map V.int)) ∧ ns.length ≤ 1000 ∧
  ∀ p c, H p = none → (∀ ms : List Int, (∀ j ∈ ns, j ∈ ms) → c ≤ ms.length) → Q (.ref p) (upd H p (SetO w p (fun j => decide (j ∈ ns)) c))
theorem cr_setN {X : Cx} (hc : X.calm = true) : CallR X (.type "set") (rSetN X.K X.w) := by
  rintro pins s σ H xs us Q I r ⟨l, ns, rfl, hl, hz, q⟩
  rw [Vals.ref1 r]
  have hn : H s.heap.objs.size = none := I.hok.fresh (Nat.le_refl _)
  have fin : ∀ (h' : Heap) (tk c : Nat), SetR X.w h' s.heap.objs.size (fun j => decide (j ∈ ns)) c → c ≤ ns.length → (∀ b o, s.heap.get? b = some o → h'.get? b = some o) → EP X pins σ Q (.ref s.heap.objs.size) { s with heap := h', toks := tk } :=
    fun h' tk c R hcn k => ⟨.ref s.heap.objs.size, _, I.laid (t' := tk) k (Nat.le_refl _) (setO_new R), rfl, q _ c hn fun ms hm => by
      obtain ⟨o, es, ep, t, ho, hx, hd, g, nd, hm2, hb, hf, hn', _⟩ := R
      rw [← hn', ← Array.length_toList, ← List.length_map (as := es.toList) (f := keyOf)]
      exact sub_len nd fun x hx => hm x (of_decide_eq_true ((hm2 x).mpr hx))⟩
  rcases hl with hl | hl
  · obtain ⟨its, rv, pl, hz2⟩ := I.list hl
    exact call_set_lstI ns (I.ok.hd hc) pl.isList (by simpa using ints_of_vals rv) (by unfold scanBound; omega) fin
  · obtain ⟨its, rv, pt, hz2⟩ := I.tuple hl
    exact call_set_tupI ns (I.ok.hd hc) pt (by simpa using ints_of_vals rv) (by unfold scanBound; omega) fin
end KR
/-! The walk, part 0: places, rules in short. -/
namespace KW
open PySem PySem.Spec PyProof.Rows L2 KR K19 StX
def top (i : Nat) : Stmt := PySem.Challenge.pw_busyguess_k19_whole_exact_results.main.body.getD i (.Pass ⟨0, 0, 0, 0⟩)
/-- a def by its statement, where it stands -/
structure Df where
  ad : PySem.W.Frag → Addr
  name : PySem.Str
  qual : PySem.Str
  params : Arguments
  body : List Stmt
  scope : Scope
  dfl : List He.Dv := []
  kwd : List (PySem.Str × He.Dv) := []
def Df.dvs (K : PySem.W.Frag) (d : Df) : List V := d.dfl.map (He.Dv.v K)
def Df.kws (K : PySem.W.Frag) (d : Df) : List (PySem.Str × V) := d.kwd.map fun q => (q.1, q.2.v K)
/-- the function within a property or a classmethod -/
def wfA (K : PySem.W.Frag) (C : PySem.Str) (T : String) (m : PySem.Str) : Addr := match PySem.W.recIn K (He.ma K (He.ga K C) m) T with
  | some (.ref g :: _) => g
  | _ => 0
abbrev dOf (at_ : PySem.Str × Option PySem.Str) (name qual : PySem.Str) (st : Stmt) (kwd : List (PySem.Str × He.Dv) := []) : Df := ⟨fun K => He.fAd K at_, name, qual, defArgs st, defBody st, defScope st, [], kwd⟩
abbrev dIn (C : PySem.Str) (T : String) (name qual : PySem.Str) (st : Stmt) : Df := ⟨fun K => wfA K C T name, name, qual, defArgs st, defBody st, defScope st, [], []⟩
/-- the def d stands and keeps the promise sp -/
structure FD (P : Program) (w : World) (K : PySem.W.Frag) (mg : PySem.Str → Option Value) (base : Heap) (CX : CXT) (k : Nat) (d : Df) (ps : List PySem.Str) (sp : Sp) : Prop where
  ex : ∃ fd, FunD K d.name d.qual d.params d.body d.scope (d.dvs K) (d.kws K) (d.ad K) fd ∧ FnOk P w K mg base CX k (d.ad K) fd ps sp
abbrev Stands (K : PySem.W.Frag) (d : Df) : Prop := ∃ fd, FunD K d.name d.qual d.params d.body d.scope (d.dvs K) (d.kws K) (d.ad K) fd
/-- how a def without defaults binds -/
abbrev BindN (d : Df) (ps : List PySem.Str) : Prop := ∀ (kV doc pm : Value) (an : Option Addr) (cdv ct : Value) (us : List Value), us.length = ps.length → bindArgs (PySem.W.fnOf d.name d.qual d.params d.body d.scope .none kV doc pm an cdv ct) ⟨us, []⟩ = pure (ps.zip us)
section
variable {X : Cx} {CX : CXT} {j k : Nat} {d : Df} {ps : List PySem.Str} {sp : Sp} {x m : PySem.Str} {p pos apos : Pos} {e o : Expr} {es : List Expr} {t : TA} {ta : TE} {C : Addr} {E : XK}
theorem FD.mono {P : Program} {w : World} {K : PySem.W.Frag} {mg : PySem.Str → Option Value} {base : Heap} (D : FD P w K mg base CX j d ps sp) (h : j ≤ k) : FD P w K mg base CX k d ps sp := let ⟨fd, F, G⟩ := D.ex; ⟨fd, F, G.mono h⟩
/-- f(e, ..) of such a def -/
theorem pe_defX (D : FD X.prog X.w X.K X.mg X.base CX k d ps sp) (hr : Room j X.A) (hx : Passes CX X E) (hg : Gl X x) (hm : X.mg x = some (.ref (d.ad X.K))) (hd : d.dfl = []) (hb : BindN d ps) (ha : PA X (e :: es) t) (hk : k ≤ j := by decide) (hdb : (x == ("__debug__" : PySem.Str)) = false := by decide)
    (he : starEach (e :: es) X.env = (false, eval e X.env) :: starEach es X.env := by rfl) (hpl : (backTo pos (starEach es X.env)).any (·.1) = false := by rfl) : PE X (.Call (.Name x p) (e :: es) [] pos) (tCall sp [] E t) := by
  obtain ⟨fd, F, G⟩ := D.ex
  have e0 : d.dvs X.K = [] := by unfold Df.dvs; rw [hd]; rfl
  rw [e0] at F
  exact pe_call G (hr.mono hk) hg hm F.kp (F.bindsN hb) .nil hx ha hdb he hpl
theorem pe_defX0 (D : FD X.prog X.w X.K X.mg X.base CX k d ps sp) (hr : Room j X.A) (hx : Passes CX X E) (hg : Gl X x) (hm : X.mg x = some (.ref (d.ad X.K))) (hd : d.dfl = []) (hb : BindN d ps) (hk : k ≤ j := by decide) (hdb : (x == ("__debug__" : PySem.Str)) = false := by decide) :
    PE X (.Call (.Name x p) [] [] pos) (tCall sp [] E tNil) := by
  obtain ⟨fd, F, G⟩ := D.ex
  have e0 : d.dvs X.K = [] := by unfold Df.dvs; rw [hd]; rfl
  rw [e0] at F
  exact pe_call0 G (hr.mono hk) hg hm F.kp (F.bindsN hb) .nil hx hdb
theorem pe_def (D : FD X.prog X.w X.K X.mg X.base CX0 k d ps sp) (hr : Room j X.A) (hg : Gl X x) (hm : X.mg x = some (.ref (d.ad X.K))) (hd : d.dfl = []) (hb : BindN d ps) (ha : PA X (e :: es) t) (hk : k ≤ j := by decide) (hdb : (x == ("__debug__" : PySem.Str)) = false := by decide)
    (he : starEach (e :: es) X.env = (false, eval e X.env) :: starEach es X.env := by rfl) (hpl : (backTo pos (starEach es X.env)).any (·.1) = false := by rfl) : PE X (.Call (.Name x p) (e :: es) [] pos) (tCall sp [] E0 t) :=
  pe_defX D hr pass0 hg hm hd hb ha hk hdb he hpl
theorem pe_def0 (D : FD X.prog X.w X.K X.mg X.base CX0 k d ps sp) (hr : Room j X.A) (hg : Gl X x) (hm : X.mg x = some (.ref (d.ad X.K))) (hd : d.dfl = []) (hb : BindN d ps) (hk : k ≤ j := by decide) (hdb : (x == ("__debug__" : PySem.Str)) = false := by decide) :
    PE X (.Call (.Name x p) [] [] pos) (tCall sp [] E0 tNil) := pe_defX0 D hr pass0 hg hm hd hb hk hdb
/-- o.m(e, ..) -/
theorem pe_mdX {pl : Sem Bool} (D : FD X.prog X.w X.K X.mg X.base CX k d ps sp) (hr : Room j X.A) (hx : Passes CX X E) (c : Cls X.K C) (hm : Meth X.K C m (d.ad X.K)) (hd : d.dfl = []) (hb : BindN d ps) (ho : PE X o ta) (ha : PA X (e :: es) t) (hk : k ≤ j := by decide)
    (hst : starEach (e :: es) X.env = (false, eval e X.env) :: starEach es X.env := by rfl) (hpl : (backTo pos (starEach es X.env)).any (·.1) = false := by rfl)
    (ht : eval (.Call (.Attribute o m apos) (e :: es) [] pos) X.env = (do
      let ov ← eval o X.env
      standAt apos.atName
      let (f, first) ← holding [ov] (getMethod ov m pl)
      callWith pos f first (backTo pos (starEach (e :: es) X.env)) (backToKw pos (keywordEach [] X.env))) := by rfl) :
    PE X (.Call (.Attribute o m apos) (e :: es) [] pos) (tMeth C m sp [] E ta t) := by
  obtain ⟨fd, F, G⟩ := D.ex
  have e0 : d.dvs X.K = [] := by unfold Df.dvs; rw [hd]; rfl
  rw [e0] at F
  exact pe_meth (pl := pl) ho c hm G (hr.mono hk) (F.bindsN hb) .nil hx ha hst hpl ht
theorem pe_mdX0 {pl : Sem Bool} (D : FD X.prog X.w X.K X.mg X.base CX k d ps sp) (hr : Room j X.A) (hx : Passes CX X E) (c : Cls X.K C) (hm : Meth X.K C m (d.ad X.K)) (hd : d.dfl = []) (hb : BindN d ps) (ho : PE X o ta) (hk : k ≤ j := by decide)
    (ht : eval (.Call (.Attribute o m apos) [] [] pos) X.env = (do
      let ov ← eval o X.env
      standAt apos.atName
      let (f, first) ← holding [ov] (getMethod ov m pl)
      callWith pos f first (backTo pos (starEach [] X.env)) (backToKw pos (keywordEach [] X.env))) := by rfl) :
    PE X (.Call (.Attribute o m apos) [] [] pos) (tMeth C m sp [] E ta tNil) := by
  obtain ⟨fd, F, G⟩ := D.ex
  have e0 : d.dvs X.K = [] := by unfold Df.dvs; rw [hd]; rfl
  rw [e0] at F
  exact pe_meth0 (pl := pl) ho c hm G (hr.mono hk) (F.bindsN hb) .nil hx ht
theorem pe_gint {i : Int} (hg : Gl X x) (hm : ∃ t, X.mg x = some (.int i t)) (hd : (x == ("__debug__" : PySem.Str)) = false := by decide) : PE X (.Name x pos) (tC (.int i)) := let ⟨t, h⟩ := hm; pe_glob (v := .int i) hg h ⟨t, rfl⟩ hd
theorem pe_gstr {z : PySem.Str} (hg : Gl X x) (hm : ∃ t, X.mg x = some (.str z t)) (hd : (x == ("__debug__" : PySem.Str)) = false := by decide) : PE X (.Name x pos) (tC (.str z)) := let ⟨t, h⟩ := hm; pe_glob (v := .str z) hg h ⟨t, rfl⟩ hd
theorem pe_gref {a : Addr} (hg : Gl X x) (hm : X.mg x = some (.ref a)) (hd : (x == ("__debug__" : PySem.Str)) = false := by decide) : PE X (.Name x pos) (tC (.ref a)) := pe_glob (v := .ref a) hg hm rfl hd
end
section
variable {X : Cx} {j k : Nat} {d : Df} {ps : List PySem.Str} {sp : Sp} {C C' : Addr}
/-- len(x), x of the class at C -/
theorem call_lenD (D : FD X.prog X.w X.K X.mg X.base CX0 k d ps sp) (hm : Meth X.K C "__len__" (d.ad X.K)) (hr : Room j X.A) (hd : d.dfl = []) (hb : BindN d ps) (hk : k + 1 ≤ j := by decide) :
    CallR X (.builtin "len") (fun xs H Q => ∃ a dx fs, xs = [V.ref a] ∧ H a = some (.ins C dx fs) ∧ sp [.ref a] H (fun v H' => ∃ n : Nat, v = .int (n : Int) ∧ n < 1000000 ∧ Q v H') E0) := by
  obtain ⟨fd, F, G⟩ := D.ex
  have e0 : d.dvs X.K = [] := by unfold Df.dvs; rw [hd]; rfl
  rw [e0] at F
  exact call_lenI hm.at_ hm.fn G (hr.mono hk) (F.bindsN hb) pass0
theorem call_reprD (D : FD X.prog X.w X.K X.mg X.base CX0 k d ps sp) (hm : Meth X.K C "__repr__" (d.ad X.K)) (hr : Room j X.A) (hd : d.dfl = []) (hb : BindN d ps) (hk : k + 1 ≤ j := by decide) :
    CallR X (.builtin "repr") (fun xs H Q => ∃ a dx fs, xs = [V.ref a] ∧ H a = some (.ins C dx fs) ∧ sp [.ref a] H (fun v H' => ∃ z : PySem.Str, v = .str z ∧ Q v H') E0) := by
  obtain ⟨fd, F, G⟩ := D.ex
  have e0 : d.dvs X.K = [] := by unfold Df.dvs; rw [hd]; rfl
  rw [e0] at F
  exact call_reprI hm.at_ hm.fn G (hr.mono hk) (F.bindsN hb) pass0
theorem op_eqO (D : FD X.prog X.w X.K X.mg X.base CX0 k d ps sp) (hm : Meth X.K C "__eq__" (d.ad X.K)) (hn : PySem.W.notFirst X.K C (.ref C') = true) (hr : Room j X.A) (hd : d.dfl = []) (hb : BindN d ps) (hk : k ≤ j := by decide) :
    OpR X (compareOp .Eq) (fun x y H Q => ∃ a dx fs b dy gs, x = V.ref a ∧ y = V.ref b ∧ H a = some (.ins C dx fs) ∧ H b = some (.ins C' dy gs) ∧ sp [.ref a, .ref b] H (fun v H' => ∃ c, v = .bl c ∧ Q v H') E0) := by
  obtain ⟨fd, F, G⟩ := D.ex
  have e0 : d.dvs X.K = [] := by unfold Df.dvs; rw [hd]; rfl
  rw [e0] at F
  exact op_eqI hm.at_ hm.fn hn G (hr.mono hk) (F.bindsN hb) pass0
end
/-- the def d, of a star parameter -/
structure FR (P : Program) (w : World) (K : PySem.W.Frag) (mg : PySem.Str → Option Value) (base : Heap) (CX : CXT) (k : Nat) (d : Df) (sp : Sp) : Prop where
  fn : FnR P w K mg base CX k (d.ad K) sp
  kp : PySem.W.keepIn K (.ref (d.ad K)) = true
abbrev BindS (d : Df) (ps : List PySem.Str) (pv : PySem.Str) : Prop := ∀ (kV doc pm : Value) (an : Option Addr) (cdv ct : Value) (us rest : List Value), us.length = ps.length →
  bindArgs (PySem.W.fnOf d.name d.qual d.params d.body d.scope .none kV doc pm an cdv ct) ⟨us ++ rest, []⟩ = (newTuple rest >>= fun t => pure (ps.zip us ++ [(pv, t)]))
theorem fr_of {P : Program} {w : World} {K : PySem.W.Frag} {mg : PySem.Str → Option Value} {base : Heap} {k : Nat} {d : Df} {N ps : List PySem.Str} {pv : PySem.Str} {sp : Sp} (F : Stands K d) (S : FnScope N (ps ++ [pv]) d.scope) (hd : d.dfl = []) (hb : BindS d ps pv)
    (hbody : ∀ (cdv : Value) (A : Around) (outer : List Env) (s : Shared) (H : Hp) (vs : List V) (Q : VK) (E : XK), Room k (A.deeper (envOfC d.qual d.scope s.heap.objs.size (d.ad K) cdv)) → sp vs H Q E →
      ∃ t, PSs (cxOf CX0 P w K mg base N d.qual d.scope (d.ad K) cdv A outer s H E).nox d.body t ∧ t { nx := fun _ H' => Q .non H', rt := Q } (start N vs) H) :
    FR P w K mg base CX0 (k + 1) d (fun vs H Q E => ∃ ws rest, vs = ws ++ rest ∧ ws.length = ps.length ∧ rest.length ≤ sizeLine ∧ ∀ p, H p = Option.none → sp (ws ++ [V.ref p]) (upd H p (.tup rest)) Q E) := by
  obtain ⟨fd, F⟩ := F
  have e0 : d.dvs K = [] := by unfold Df.dvs; rw [hd]; rfl
  rw [e0] at F
  obtain ⟨oc, od, dV, kV, doc, pm, an, cdv, ct, osl, rfl, lk, hcd, hD, _⟩ := F.ex
  obtain rfl : dV = .none := by
    rcases hD with ⟨_, h⟩ | ⟨h, _⟩
    · exact h
    · exact absurd rfl h
  refine ⟨fn_star lk hcd S cxUp_none (fun us rest h => hb _ _ _ _ _ _ us rest h) fun A outer s H vs Q E hr h => ?_, F.kp⟩
  obtain ⟨t, h1, h2⟩ := hbody cdv A outer s H vs Q E hr h
  exact ⟨t, h1.nox, h2⟩
/-! ### rules whose reading names K itself (within a comprehension's block) -/
section
variable {X : Cx} {K : PySem.W.Frag} {e : Expr} {es : List Expr} {pos p : Pos} {te : TE} {t : TGs} {f : PySem.Str} {tg : Expr} {tA : TA}
theorem op_inK (K : PySem.W.Frag) (h : X.K = K) : OpR X (compareOp .In) (rIn K false) := h ▸ op_in_seq
theorem op_ninK (K : PySem.W.Frag) (h : X.K = K) : OpR X (compareOp .NotIn) (rIn K true) := h ▸ op_notIn_seq
theorem op_eqDK (K : PySem.W.Frag) (h : X.K = K) (hu : X.A.units + 64 < cLine) : OpR X (compareOp .Eq) (rEqD K) := h ▸ op_eqD hu
theorem op_neDK (K : PySem.W.Frag) (h : X.K = K) (hu : X.A.units + 64 < cLine) : OpR X (compareOp .NotEq) (rNeD K) := h ▸ op_neD hu
theorem ix_K (K : PySem.W.Frag) (h : X.K = K) : IxR X (rIx K) := h ▸ ix_seq
theorem pe_fldK (K : PySem.W.Frag) (h : X.K = K) (he : PE X e te) (hb : attributeBase e f X.env (eval e X.env) = eval e X.env) : PE X (.Attribute e f pos) (tFld K te f) := h ▸ pe_fld he hb
theorem pe_conK (K : PySem.W.Frag) (h : X.K = K) (he : PE X e te) (hb : attributeBase e f X.env (eval e X.env) = eval e X.env) : PE X (.Attribute e f pos) (tCon K te f) := h ▸ pe_con he hb
theorem pg_tupK {n k : Nat} (K : PySem.W.Frag) (h : X.K = K) (hc : X.calm = true) (hg : PGs X es t)
    (hn : (assignEach es X.env).length = n := by rfl) (hst : (assignEach es X.env).findIdx? (·.1) = none := by rfl) : PG X (.Tuple es k pos) (gTup K n t) := h ▸ pg_tup hc hg hn hst
theorem call_lenK (K : PySem.W.Frag) (h : X.K = K) : CallR X (.builtin "len") (fun xs H Q => ∃ p ys, xs = [.ref p] ∧ (SqL K H p ys ∨ SqT K H p ys) ∧ Q (.int ys.length) H) := h ▸ call_len_seq
theorem pi_listK (K : PySem.W.Frag) (h : X.K = K) (hl : PE X e te) : PI X tg e (iList K te) := h ▸ pi_list hl
theorem pi_tupK (K : PySem.W.Frag) (h : X.K = K) (hl : PE X e te) : PI X tg e (iTup K te) := h ▸ pi_tup hl
theorem call_isiK' (K : PySem.W.Frag) (h : X.K = K) : CallR X (.builtin "isinstance") (rIsi K) := h ▸ call_isi
theorem cr_allK (K : PySem.W.Frag) (h : X.K = K) (hc : X.calm = true) : CallR X (.builtin "all") (rAll K) := h ▸ cr_all hc
theorem sl_listK (K : PySem.W.Frag) (h : X.K = K) : SlR X (rSlL K) := h ▸ sl_list
theorem sl_tupK (K : PySem.W.Frag) (h : X.K = K) : SlR X (rSlA K) := h ▸ sl_tupA
end
/-- the rule for a def without positional defaults that lets no exception out -/
theorem fd_of {P : Program} {w : World} {K : PySem.W.Frag} {mg : PySem.Str → Option Value} {base : Heap} {k : Nat} {d : Df} {N ps : List PySem.Str} {sp : Sp} (F : Stands K d) (S : FnScope N ps d.scope) (len : ∀ vs H Q E, sp vs H Q E → vs.length = ps.length)
    (hbody : ∀ (cdv : Value) (A : Around) (outer : List Env) (s : Shared) (H : Hp) (vs : List V) (Q : VK) (E : XK), Room k (A.deeper (envOfC d.qual d.scope s.heap.objs.size (d.ad K) cdv)) → sp vs H Q E →
      ∃ t, PSs (cxOf CX0 P w K mg base N d.qual d.scope (d.ad K) cdv A outer s H E).nox d.body t ∧ t { nx := fun _ H' => Q .non H', rt := Q } (start N vs) H) : FD P w K mg base CX0 (k + 1) d ps sp := by
  obtain ⟨fd, F⟩ := F
  refine ⟨fd, F, F.ok S len fun cdv A outer s H vs Q E hr h => ?_⟩
  obtain ⟨t, h1, h2⟩ := hbody cdv A outer s H vs Q E hr h
  exact ⟨t, h1.nox, h2⟩
/-- .. that may raise -/
theorem fdX_of {P : Program} {w : World} {K : PySem.W.Frag} {mg : PySem.Str → Option Value} {base : Heap} {CX : CXT} {k : Nat} {d : Df} {N ps : List PySem.Str} {sp : Sp} (F : Stands K d) (S : FnScope N ps d.scope) (len : ∀ vs H Q E, sp vs H Q E → vs.length = ps.length)
    (hbody : ∀ (cdv : Value) (A : Around) (outer : List Env) (s : Shared) (H : Hp) (vs : List V) (Q : VK) (E : XK), Room k (A.deeper (envOfC d.qual d.scope s.heap.objs.size (d.ad K) cdv)) → sp vs H Q E →
      ∃ t, PSs (cxOf CX P w K mg base N d.qual d.scope (d.ad K) cdv A outer s H E) d.body t ∧ t { nx := fun _ H' => Q .non H', rt := Q } (start N vs) H) : FD P w K mg base CX (k + 1) d ps sp := by
  obtain ⟨fd, F⟩ := F
  exact ⟨fd, F, F.ok S len hbody⟩
/-- the empty tuple that Run.__init__ takes for busy -/
def busyAd (K : PySem.W.Frag) : Addr := match K.lookup (He.fAd K ("Run", some "__init__")) with
  | some ⟨_, _, .func fd, _⟩ => (match fd.kwdefaults with
    | .ref D => (match PySem.W.nsIn K D "busy" with
      | some (some (.ref a)) => a
      | _ => 0)
    | _ => 0)
  | _ => 0
abbrev d_value_of : Df := dOf ("value_of", none) "value_of" "value_of" (top 22)
end KW
/-! The walk, part 1: the text's facts, each def. -/
namespace KW
open PySem PySem.Spec PyProof.Rows L2 KR K19

abbrev d_is_integer : Df := dOf ("is_integer", none) "is_integer" "is_integer" (top 17)
abbrev d_is_level : Df := dOf ("is_level", none) "is_level" "is_level" (top 18)
abbrev d_is_function : Df := dOf ("is_function", none) "is_function" "is_function" (top 19)
abbrev d_capped_sum : Df := dOf ("capped_sum", none) "capped_sum" "capped_sum" (top 20)
abbrev d_turned : Df := dOf ("turned", none) "turned" "turned" (top 21)
abbrev d_reach_among : Df := dOf ("reach_among", none) "reach_among" "reach_among" (top 24)
abbrev d_all_cells : Df := dOf ("all_cells", none) "all_cells" "all_cells" (top 25)
abbrev d_reach : Df := dOf ("reach", none) "reach" "reach" (top 26)
abbrev d_dependents : Df := dOf ("dependents", none) "dependents" "dependents" (top 27)
abbrev d_unordered_components : Df := dOf ("unordered_components", none) "unordered_components" "unordered_components" (top 28)
abbrev d_leads_outside : Df := dOf ("leads_outside", none) "leads_outside" "leads_outside" (top 29)
abbrev d_components_among : Df := dOf ("components_among", none) "components_among" "components_among" (top 30)
abbrev d_components : Df := dOf ("components", none) "components" "components" (top 31)
abbrev d_need_small_components : Df := dOf ("need_small_components", none) "need_small_components" "need_small_components" (top 39)
abbrev d_need_fitting : Df := dOf ("need_fitting", none) "need_fitting" "need_fitting" (top 41)
abbrev d_is_kept : Df := dOf ("is_kept", none) "is_kept" "is_kept" (top 42)
abbrev d_joined_taint : Df := dOf ("joined_taint", none) "joined_taint" "joined_taint" (top 44)
abbrev d_are_operands : Df := dOf ("are_operands", none) "are_operands" "are_operands" (top 73)
abbrev d_is_cell : Df := dOf ("is_cell", none) "is_cell" "is_cell" (top 74)
abbrev d__law_pen : Df := dOf ("_law_pen", none) "_law_pen" "_law_pen" (top 77)
abbrev d__law_draw : Df := dOf ("_law_draw", none) "_law_draw" "_law_draw" (top 78)
abbrev d__law_some : Df := dOf ("_law_some", none) "_law_some" "_law_some" (top 79)
abbrev d__law_function : Df := dOf ("_law_function", none) "_law_function" "_law_function" (top 80)
abbrev d__law_cells : Df := dOf ("_law_cells", none) "_law_cells" "_law_cells" (top 81)
abbrev d__law_small : Df := dOf ("_law_small", none) "_law_small" "_law_small" (top 82)
abbrev d__law_value : Df := dOf ("_law_value", none) "_law_value" "_law_value" (top 83)
abbrev d__law_call : Df := dOf ("_law_call", none) "_law_call" "_law_call" (top 84)
abbrev d__law_exact : Df := dOf ("_law_exact", none) "_law_exact" "_law_exact" (top 85)
abbrev d__law_reused_right : Df := dOf ("_law_reused_right", none) "_law_reused_right" "_law_reused_right" (top 86)
abbrev d__law_all_right : Df := dOf ("_law_all_right", none) "_law_all_right" "_law_all_right" (top 87)
abbrev d__law_limited : Df := dOf ("_law_limited", none) "_law_limited" "_law_limited" (top 88)
abbrev d__law_asks : Df := dOf ("_law_asks", none) "_law_asks" "_law_asks" (top 89)
abbrev d__law_late_right : Df := dOf ("_law_late_right", none) "_law_late_right" "_law_late_right" (top 90)
abbrev d_law : Df := dOf ("law", none) "law" "law" (top 91)
abbrev d_Run_init : Df := dOf ("Run", some "__init__") "__init__" "Run.__init__" (inClass (top 45) 0) (kwd := [("busy", .adr busyAd), ("most", .non)])
abbrev d_Run_call : Df := dOf ("Run", some "call") "call" "Run.call" (inClass (top 45) 1)
abbrev d_Run_evaluate : Df := dOf ("Run", some "evaluate") "evaluate" "Run.evaluate" (inClass (top 45) 2)
abbrev d_Memo_init : Df := dOf ("Memo", some "__init__") "__init__" "Memo.__init__" (inClass (top 47) 1)
abbrev d_Memo_system : Df := dIn "Memo" "property" "system" "Memo.system" (inClass (top 47) 3)
abbrev d_Memo_table : Df := dIn "Memo" "property" "table" "Memo.table" (inClass (top 47) 4)
abbrev d_Memo_calls : Df := dIn "Memo" "property" "calls" "Memo.calls" (inClass (top 47) 5)
abbrev d_Memo_most_calls : Df := dIn "Memo" "property" "most_calls" "Memo.most_calls" (inClass (top 47) 6)
abbrev d_Memo_set_limit : Df := dOf ("Memo", some "set_limit") "set_limit" "Memo.set_limit" (inClass (top 47) 7)
abbrev d_Memo_run : Df := dOf ("Memo", some "run") "run" "Memo.run" (inClass (top 47) 8)
abbrev d_Memo_ask : Df := dOf ("Memo", some "ask") "ask" "Memo.ask" (inClass (top 47) 10)
abbrev d_Memo_twin : Df := dOf ("Memo", some "twin") "twin" "Memo.twin" (inClass (top 47) 11)
abbrev d_Memo_restore : Df := dOf ("Memo", some "restore") "restore" "Memo.restore" (inClass (top 47) 12)
abbrev d_Memo_tried : Df := dOf ("Memo", some "tried") "tried" "Memo.tried" (inClass (top 47) 13)
abbrev d_Memo_answers : Df := dOf ("Memo", some "answers") "answers" "Memo.answers" (inClass (top 47) 14)
abbrev d_Memo_events : Df := dOf ("Memo", some "events") "events" "Memo.events" (inClass (top 47) 15)
abbrev d_Memo_edit : Df := dOf ("Memo", some "edit") "edit" "Memo.edit" (inClass (top 47) 16) (kwd := [("operands", .non), ("function", .non), ("guess", .non)])
abbrev d_Memo_eq : Df := dOf ("Memo", some "__eq__") "__eq__" "Memo.__eq__" (inClass (top 47) 17)
abbrev d_KeepClean_repr : Df := dOf ("KeepClean", some "__repr__") "__repr__" "KeepClean.__repr__" (inClass (top 49) 1)
abbrev d_KeepExact_repr : Df := dOf ("KeepExact", some "__repr__") "__repr__" "KeepExact.__repr__" (inClass (top 54) 0)
abbrev d_KeepExact_run : Df := dOf ("KeepExact", some "run") "run" "KeepExact.run" (inClass (top 54) 1)
abbrev d_KeepExact_empty : Df := dOf ("KeepExact", some "empty") "empty" "KeepExact.empty" (inClass (top 54) 2)
abbrev d_ExactRun_is_exact : Df := dOf ("ExactRun", some "is_exact") "is_exact" "ExactRun.is_exact" (inClass (top 53) 1)
abbrev d_System_init : Df := dOf ("System", some "__init__") "__init__" "System.__init__" (inClass (top 75) 2)
abbrev d_System_of : Df := dIn "System" "classmethod" "of" "System.of" (inClass (top 75) 3)
abbrev d_System_triple : Df := dOf ("System", some "triple") "triple" "System.triple" (inClass (top 75) 6)
abbrev d_System_operands : Df := dOf ("System", some "operands") "operands" "System.operands" (inClass (top 75) 7)
abbrev d_System_function : Df := dOf ("System", some "function") "function" "System.function" (inClass (top 75) 8)
abbrev d_System_guess : Df := dOf ("System", some "guess") "guess" "System.guess" (inClass (top 75) 9)
abbrev d_System_replaced : Df := dOf ("System", some "replaced") "replaced" "System.replaced" (inClass (top 75) 10) (kwd := [("operands", .non), ("function", .non), ("guess", .non)])
abbrev d_System_eq : Df := dOf ("System", some "__eq__") "__eq__" "System.__eq__" (inClass (top 75) 11)
abbrev d_System_len : Df := dOf ("System", some "__len__") "__len__" "System.__len__" (inClass (top 75) 12)
structure Txt (K : PySem.W.Frag) (mg : PySem.Str → Option Value) : Prop where
  f_isinstance : mg "isinstance" = none
  f_int : mg "int" = none
  f_bool : mg "bool" = none
  f_str : mg "str" = none
  f_tuple : mg "tuple" = none
  f_list : mg "list" = none
  f_len : mg "len" = none
  f_min : mg "min" = none
  f_max : mg "max" = none
  f_sum : mg "sum" = none
  f_enumerate : mg "enumerate" = none
  f_zip : mg "zip" = none
  f_range : mg "range" = none
  f_sorted : mg "sorted" = none
  f_set : mg "set" = none
  f_all : mg "all" = none
  f_abs : mg "abs" = none
  f_repr : mg "repr" = none
  f_super : mg "super" = none
  g_MOST_LEVEL : ∃ t, mg "MOST_LEVEL" = some (.int 7 t)
  g_LEVELS : ∃ t, mg "LEVELS" = some (.int 8 t)
  g_MOST_VALUES : ∃ t, mg "MOST_VALUES" = some (.int 8 t)
  g_MOST_IN_COMPONENT : ∃ t, mg "MOST_IN_COMPONENT" = some (.int 6 t)
  g_MOST_IN_SYSTEM : ∃ t, mg "MOST_IN_SYSTEM" = some (.int 24 t)
  g_ALL : ∃ t, mg "ALL" = some (.str "all" t)
  g_CLEAN : ∃ t, mg "CLEAN" = some (.str "clean" t)
  g_NOTHING : ∃ t, mg "NOTHING" = some (.str "nothing" t)
  g_KINDS : mg "KINDS" = some (.ref (He.ga K "KINDS"))
  t_KINDS : ∀ H, SqT K H (He.ga K "KINDS") [.str "always", .str "max", .str "min", .str "sum", .str "turn", .str "choose"]
  g_is_integer : mg "is_integer" = some (.ref (d_is_integer.ad K))
  d_is_integer : Stands K d_is_integer
  g_is_level : mg "is_level" = some (.ref (d_is_level.ad K))
  d_is_level : Stands K d_is_level
  g_is_function : mg "is_function" = some (.ref (d_is_function.ad K))
  d_is_function : Stands K d_is_function
  g_capped_sum : mg "capped_sum" = some (.ref (d_capped_sum.ad K))
  d_capped_sum : Stands K d_capped_sum
  g_turned : mg "turned" = some (.ref (d_turned.ad K))
  d_turned : Stands K d_turned
  g_reach_among : mg "reach_among" = some (.ref (d_reach_among.ad K))
  d_reach_among : Stands K d_reach_among
  g_all_cells : mg "all_cells" = some (.ref (d_all_cells.ad K))
  d_all_cells : Stands K d_all_cells
  g_reach : mg "reach" = some (.ref (d_reach.ad K))
  d_reach : Stands K d_reach
  g_dependents : mg "dependents" = some (.ref (d_dependents.ad K))
  d_dependents : Stands K d_dependents
  g_unordered_components : mg "unordered_components" = some (.ref (d_unordered_components.ad K))
  d_unordered_components : Stands K d_unordered_components
  g_leads_outside : mg "leads_outside" = some (.ref (d_leads_outside.ad K))
  d_leads_outside : Stands K d_leads_outside
  g_components_among : mg "components_among" = some (.ref (d_components_among.ad K))
  d_components_among : Stands K d_components_among
  g_components : mg "components" = some (.ref (d_components.ad K))
  d_components : Stands K d_components
  g_need_small_components : mg "need_small_components" = some (.ref (d_need_small_components.ad K))
  d_need_small_components : Stands K d_need_small_components
  g_need_fitting : mg "need_fitting" = some (.ref (d_need_fitting.ad K))
  d_need_fitting : Stands K d_need_fitting
  g_is_kept : mg "is_kept" = some (.ref (d_is_kept.ad K))
  d_is_kept : Stands K d_is_kept
  g_joined_taint : mg "joined_taint" = some (.ref (d_joined_taint.ad K))
  d_joined_taint : Stands K d_joined_taint
  g_are_operands : mg "are_operands" = some (.ref (d_are_operands.ad K))
  d_are_operands : Stands K d_are_operands
  g_is_cell : mg "is_cell" = some (.ref (d_is_cell.ad K))
  d_is_cell : Stands K d_is_cell
  g__law_pen : mg "_law_pen" = some (.ref (d__law_pen.ad K))
  d__law_pen : Stands K d__law_pen
  g__law_draw : mg "_law_draw" = some (.ref (d__law_draw.ad K))
  d__law_draw : Stands K d__law_draw
  g__law_some : mg "_law_some" = some (.ref (d__law_some.ad K))
  d__law_some : Stands K d__law_some
  g__law_function : mg "_law_function" = some (.ref (d__law_function.ad K))
  d__law_function : Stands K d__law_function
  g__law_cells : mg "_law_cells" = some (.ref (d__law_cells.ad K))
  d__law_cells : Stands K d__law_cells
  g__law_small : mg "_law_small" = some (.ref (d__law_small.ad K))
  d__law_small : Stands K d__law_small
  g__law_value : mg "_law_value" = some (.ref (d__law_value.ad K))
  d__law_value : Stands K d__law_value
  g__law_call : mg "_law_call" = some (.ref (d__law_call.ad K))
  d__law_call : Stands K d__law_call
  g__law_exact : mg "_law_exact" = some (.ref (d__law_exact.ad K))
  d__law_exact : Stands K d__law_exact
  g__law_reused_right : mg "_law_reused_right" = some (.ref (d__law_reused_right.ad K))
  d__law_reused_right : Stands K d__law_reused_right
  g__law_all_right : mg "_law_all_right" = some (.ref (d__law_all_right.ad K))
  d__law_all_right : Stands K d__law_all_right
  g__law_limited : mg "_law_limited" = some (.ref (d__law_limited.ad K))
  d__law_limited : Stands K d__law_limited
  g__law_asks : mg "_law_asks" = some (.ref (d__law_asks.ad K))
  d__law_asks : Stands K d__law_asks
  g__law_late_right : mg "_law_late_right" = some (.ref (d__law_late_right.ad K))
  d__law_late_right : Stands K d__law_late_right
  g_law : mg "law" = some (.ref (d_law.ad K))
  d_law : Stands K d_law
  g_Run : mg "Run" = some (.ref (He.ga K "Run"))
  g_Memo : mg "Memo" = some (.ref (He.ga K "Memo"))
  g_KeepClean : mg "KeepClean" = some (.ref (He.ga K "KeepClean"))
  g_ExactRun : mg "ExactRun" = some (.ref (He.ga K "ExactRun"))
  g_KeepExact : mg "KeepExact" = some (.ref (He.ga K "KeepExact"))
  g_System : mg "System" = some (.ref (He.ga K "System"))
  g_value_of : mg "value_of" = some (.ref (d_value_of.ad K))
  d_value_of : Stands K d_value_of
  c_Run : Cls K (He.ga K "Run")
  c_KeepClean : Cls K (He.ga K "KeepClean")
  c_ExactRun : Cls K (He.ga K "ExactRun")
  c_KeepExact : Cls K (He.ga K "KeepExact")
  c_System : Cls K (He.ga K "System")
  n_Run_net : NoAttr K (He.ga K "Run") "net"
  n_Run_board : NoAttr K (He.ga K "Run") "board"
  n_Run_rule : NoAttr K (He.ga K "Run") "rule"
  n_Run_busy : NoAttr K (He.ga K "Run") "busy"
  n_Run_allowed : NoAttr K (He.ga K "Run") "allowed"
  n_Run_begun : NoAttr K (He.ga K "Run") "begun"
  n_Run_happened : NoAttr K (He.ga K "Run") "happened"
  n_ExactRun_net : NoAttr K (He.ga K "ExactRun") "net"
  n_ExactRun_board : NoAttr K (He.ga K "ExactRun") "board"
  n_ExactRun_rule : NoAttr K (He.ga K "ExactRun") "rule"
  n_ExactRun_busy : NoAttr K (He.ga K "ExactRun") "busy"
  n_ExactRun_allowed : NoAttr K (He.ga K "ExactRun") "allowed"
  n_ExactRun_begun : NoAttr K (He.ga K "ExactRun") "begun"
  n_ExactRun_happened : NoAttr K (He.ga K "ExactRun") "happened"
  n_ExactRun_remembered : NoAttr K (He.ga K "ExactRun") "remembered"
  n_ExactRun_gathered : NoAttr K (He.ga K "ExactRun") "gathered"
  n_KeepClean_present : NoAttr K (He.ga K "KeepClean") "present"
  n_KeepClean_stored : NoAttr K (He.ga K "KeepClean") "stored"
  n_KeepClean_counted : NoAttr K (He.ga K "KeepClean") "counted"
  n_KeepClean_latest : NoAttr K (He.ga K "KeepClean") "latest"
  n_KeepClean_most : NoAttr K (He.ga K "KeepClean") "most"
  n_KeepExact_present : NoAttr K (He.ga K "KeepExact") "present"
  n_KeepExact_stored : NoAttr K (He.ga K "KeepExact") "stored"
  n_KeepExact_counted : NoAttr K (He.ga K "KeepExact") "counted"
  n_KeepExact_latest : NoAttr K (He.ga K "KeepExact") "latest"
  n_KeepExact_most : NoAttr K (He.ga K "KeepExact") "most"
  n_System_triples : NoAttr K (He.ga K "System") "triples"
  d_Run_init : Stands K d_Run_init
  d_Run_call : Stands K d_Run_call
  d_Run_evaluate : Stands K d_Run_evaluate
  d_Memo_init : Stands K d_Memo_init
  d_Memo_system : Stands K d_Memo_system
  d_Memo_table : Stands K d_Memo_table
  d_Memo_calls : Stands K d_Memo_calls
  d_Memo_most_calls : Stands K d_Memo_most_calls
  d_Memo_set_limit : Stands K d_Memo_set_limit
  d_Memo_run : Stands K d_Memo_run
  d_Memo_ask : Stands K d_Memo_ask
  d_Memo_twin : Stands K d_Memo_twin
  d_Memo_restore : Stands K d_Memo_restore
  d_Memo_tried : Stands K d_Memo_tried
  d_Memo_answers : Stands K d_Memo_answers
  d_Memo_events : Stands K d_Memo_events
  d_Memo_edit : Stands K d_Memo_edit
  d_Memo_eq : Stands K d_Memo_eq
  d_KeepClean_repr : Stands K d_KeepClean_repr
  d_KeepExact_repr : Stands K d_KeepExact_repr
  d_KeepExact_run : Stands K d_KeepExact_run
  d_KeepExact_empty : Stands K d_KeepExact_empty
  d_ExactRun_is_exact : Stands K d_ExactRun_is_exact
  d_System_init : Stands K d_System_init
  d_System_of : Stands K d_System_of
  d_System_triple : Stands K d_System_triple
  d_System_operands : Stands K d_System_operands
  d_System_function : Stands K d_System_function
  d_System_guess : Stands K d_System_guess
  d_System_replaced : Stands K d_System_replaced
  d_System_eq : Stands K d_System_eq
  d_System_len : Stands K d_System_len
  m_Run_call : Meth K (He.ga K "Run") "call" (He.fAd K ("Run", some "call"))
  m_Run_evaluate : Meth K (He.ga K "Run") "evaluate" (He.fAd K ("Run", some "evaluate"))
  m_ExactRun_call : Meth K (He.ga K "ExactRun") "call" (He.fAd K ("Run", some "call"))
  m_ExactRun_evaluate : Meth K (He.ga K "ExactRun") "evaluate" (He.fAd K ("ExactRun", some "evaluate"))
  m_ExactRun_is_exact : Meth K (He.ga K "ExactRun") "is_exact" (He.fAd K ("ExactRun", some "is_exact"))
  m_KeepClean_eq : Meth K (He.ga K "KeepClean") "__eq__" (He.fAd K ("Memo", some "__eq__"))
  m_KeepClean_len : Meth K (He.ga K "KeepClean") "__len__" (He.fAd K ("Memo", some "__len__"))
  m_KeepClean_repr : Meth K (He.ga K "KeepClean") "__repr__" (He.fAd K ("KeepClean", some "__repr__"))
  m_KeepClean_answers : Meth K (He.ga K "KeepClean") "answers" (He.fAd K ("Memo", some "answers"))
  m_KeepClean_ask : Meth K (He.ga K "KeepClean") "ask" (He.fAd K ("Memo", some "ask"))
  m_KeepClean_edit : Meth K (He.ga K "KeepClean") "edit" (He.fAd K ("Memo", some "edit"))
  m_KeepClean_empty : Meth K (He.ga K "KeepClean") "empty" (He.fAd K ("Memo", some "empty"))
  m_KeepClean_events : Meth K (He.ga K "KeepClean") "events" (He.fAd K ("Memo", some "events"))
  m_KeepClean_restore : Meth K (He.ga K "KeepClean") "restore" (He.fAd K ("Memo", some "restore"))
  m_KeepClean_run : Meth K (He.ga K "KeepClean") "run" (He.fAd K ("Memo", some "run"))
  m_KeepClean_set_limit : Meth K (He.ga K "KeepClean") "set_limit" (He.fAd K ("Memo", some "set_limit"))
  m_KeepClean_tried : Meth K (He.ga K "KeepClean") "tried" (He.fAd K ("Memo", some "tried"))
  m_KeepClean_twin : Meth K (He.ga K "KeepClean") "twin" (He.fAd K ("Memo", some "twin"))
  m_KeepExact_eq : Meth K (He.ga K "KeepExact") "__eq__" (He.fAd K ("Memo", some "__eq__"))
  m_KeepExact_len : Meth K (He.ga K "KeepExact") "__len__" (He.fAd K ("Memo", some "__len__"))
  m_KeepExact_repr : Meth K (He.ga K "KeepExact") "__repr__" (He.fAd K ("KeepExact", some "__repr__"))
  m_KeepExact_answers : Meth K (He.ga K "KeepExact") "answers" (He.fAd K ("Memo", some "answers"))
  m_KeepExact_ask : Meth K (He.ga K "KeepExact") "ask" (He.fAd K ("Memo", some "ask"))
  m_KeepExact_edit : Meth K (He.ga K "KeepExact") "edit" (He.fAd K ("Memo", some "edit"))
  m_KeepExact_empty : Meth K (He.ga K "KeepExact") "empty" (He.fAd K ("KeepExact", some "empty"))
  m_KeepExact_events : Meth K (He.ga K "KeepExact") "events" (He.fAd K ("Memo", some "events"))
  m_KeepExact_restore : Meth K (He.ga K "KeepExact") "restore" (He.fAd K ("Memo", some "restore"))
  m_KeepExact_run : Meth K (He.ga K "KeepExact") "run" (He.fAd K ("KeepExact", some "run"))
  m_KeepExact_set_limit : Meth K (He.ga K "KeepExact") "set_limit" (He.fAd K ("Memo", some "set_limit"))
  m_KeepExact_tried : Meth K (He.ga K "KeepExact") "tried" (He.fAd K ("Memo", some "tried"))
  m_KeepExact_twin : Meth K (He.ga K "KeepExact") "twin" (He.fAd K ("Memo", some "twin"))
  m_System_eq : Meth K (He.ga K "System") "__eq__" (He.fAd K ("System", some "__eq__"))
  m_System_len : Meth K (He.ga K "System") "__len__" (He.fAd K ("System", some "__len__"))
  m_System_repr : Meth K (He.ga K "System") "__repr__" (He.fAd K ("System", some "__repr__"))
  m_System_function : Meth K (He.ga K "System") "function" (He.fAd K ("System", some "function"))
  m_System_guess : Meth K (He.ga K "System") "guess" (He.fAd K ("System", some "guess"))
  m_System_operands : Meth K (He.ga K "System") "operands" (He.fAd K ("System", some "operands"))
  m_System_replaced : Meth K (He.ga K "System") "replaced" (He.fAd K ("System", some "replaced"))
  m_System_triple : Meth K (He.ga K "System") "triple" (He.fAd K ("System", some "triple"))
  k_KeepClean_POLICY : ∃ u, Con K (He.ga K "KeepClean") "POLICY" (.str "clean") u
  p_KeepClean_table : ∃ q, PropOf K (He.ga K "KeepClean") "table" q (KW.d_Memo_table.ad K)
  p_KeepClean_calls : ∃ q, PropOf K (He.ga K "KeepClean") "calls" q (KW.d_Memo_calls.ad K)
  p_KeepClean_most_calls : ∃ q, PropOf K (He.ga K "KeepClean") "most_calls" q (KW.d_Memo_most_calls.ad K)
  p_KeepClean_system : ∃ q, PropOf K (He.ga K "KeepClean") "system" q (KW.d_Memo_system.ad K)
  k_KeepExact_POLICY : ∃ u, Con K (He.ga K "KeepExact") "POLICY" (.str "clean") u
  p_KeepExact_table : ∃ q, PropOf K (He.ga K "KeepExact") "table" q (KW.d_Memo_table.ad K)
  p_KeepExact_calls : ∃ q, PropOf K (He.ga K "KeepExact") "calls" q (KW.d_Memo_calls.ad K)
  p_KeepExact_most_calls : ∃ q, PropOf K (He.ga K "KeepExact") "most_calls" q (KW.d_Memo_most_calls.ad K)
  p_KeepExact_system : ∃ q, PropOf K (He.ga K "KeepExact") "system" q (KW.d_Memo_system.ad K)
  k_System : Mk K (He.ga K "System") (He.fAd K ("System", some "__init__"))
  k_KeepClean : Mk K (He.ga K "KeepClean") (He.fAd K ("Memo", some "__init__"))
  k_KeepExact : Mk K (He.ga K "KeepExact") (He.fAd K ("Memo", some "__init__"))
  k_Run : Mk K (He.ga K "Run") (He.fAd K ("Run", some "__init__"))
  k_ExactRun : Mk K (He.ga K "ExactRun") (He.fAd K ("ExactRun", some "__init__"))
  cm_System : ∃ mc q, ClX.CRead K (He.ga K "System") mc ∧ ClX.CMet K (He.ga K "System") mc "of" q (KW.d_System_of.ad K)
  cv_KeepExact : ∃ mc u, ClX.CRead K (He.ga K "KeepExact") mc ∧ ClX.CVal K (He.ga K "KeepExact") mc "POLICY" (.str "clean") u
  ty_System : ∀ (H : Hp) (a dx : Addr) (fs : List (PySem.Str × V)), H a = some (.ins (He.ga K "System") dx fs) → TyX K H (.ref a) (.ref (He.ga K "System"))
  ty_KeepClean : ∀ (H : Hp) (a dx : Addr) (fs : List (PySem.Str × V)), H a = some (.ins (He.ga K "KeepClean") dx fs) → TyX K H (.ref a) (.ref (He.ga K "KeepClean"))
  ty_KeepExact : ∀ (H : Hp) (a dx : Addr) (fs : List (PySem.Str × V)), H a = some (.ins (He.ga K "KeepExact") dx fs) → TyX K H (.ref a) (.ref (He.ga K "KeepExact"))
  ki_System_System : PySem.W.kitOne K (.ref (He.ga K "System")) (.ref (He.ga K "System")) = some true
  ki_KeepClean_Memo : PySem.W.kitOne K (.ref (He.ga K "KeepClean")) (.ref (He.ga K "Memo")) = some true
  ki_KeepExact_Memo : PySem.W.kitOne K (.ref (He.ga K "KeepExact")) (.ref (He.ga K "Memo")) = some true
  ki_KeepExact_KeepClean : PySem.W.kitOne K (.ref (He.ga K "KeepExact")) (.ref (He.ga K "KeepClean")) = some true
  ki_KeepClean_KeepExact : PySem.W.kitOne K (.ref (He.ga K "KeepClean")) (.ref (He.ga K "KeepExact")) = some false
  ne_Run : He.ga K "Run" ≠ He.ga K "System"
  ne_ExactRun : He.ga K "ExactRun" ≠ He.ga K "System"
  ne_KeepClean : He.ga K "KeepClean" ≠ He.ga K "System"
  ne_KeepExact : He.ga K "KeepExact" ≠ He.ga K "System"
  g_TooManyCalls : mg "TooManyCalls" = some (.ref (He.ga K "TooManyCalls"))
  tm : TmTxt K (He.ga K "TooManyCalls") (He.fAd K ("TooManyCalls", some "__init__"))
  x_tm : XfC K (He.ga K "TooManyCalls")
  e_tm : PySem.W.exmOne K (.ref (He.ga K "TooManyCalls")) (.ref (He.ga K "TooManyCalls")) = some true
  nq_Keep : PySem.W.findIn K (.ref (He.ga K "KeepExact")) "__ne__" = some (some (.builtin "object.__ne__"))
  nk_Keep : He.ga K "KeepExact" ≠ He.ga K "KeepClean"
  mr_Keep : PySem.W.mroIn K (He.ga K "KeepExact") (.ref (He.ga K "KeepClean")) = some true
  mo_Keep : PySem.W.mroIn K (He.ga K "KeepExact") (.type "object") = some true
  t_busy : ∀ H, SqT K H (busyAd K) []
  nf_System : PySem.W.notFirst K (He.ga K "System") (.ref (He.ga K "System")) = true
  nf_Keep : PySem.W.notFirst K (He.ga K "KeepExact") (.ref (He.ga K "KeepClean")) = true
/-- the two methods that say super() -/
structure TxtS (P : Program) (K : PySem.W.Frag) : Prop where
  f_init : ∃ cc cda fd, SFn P K (He.fAd K ("ExactRun", some "__init__")) cc cda (He.ga K "ExactRun") "__init__" "ExactRun.__init__" (defArgs (inClass (top 53) 0)) (defBody (inClass (top 53) 0)) (defScope (inClass (top 53) 0)) fd ∧ fd.defaults = .none
  f_evaluate : ∃ cc cda fd, SFn P K (He.fAd K ("ExactRun", some "evaluate")) cc cda (He.ga K "ExactRun") "evaluate" "ExactRun.evaluate" (defArgs (inClass (top 53) 2)) (defBody (inClass (top 53) 2)) (defScope (inClass (top 53) 2)) fd ∧ fd.defaults = .none
  top : (P.main.scope.names.lookup ("super" : PySem.Str)).isSome = false
  s_init : Sup K (He.ga K "ExactRun") (He.ga K "ExactRun") (He.fAd K ("Run", some "__init__")) "__init__"
  s_evaluate : Sup K (He.ga K "ExactRun") (He.ga K "ExactRun") (He.fAd K ("Run", some "evaluate")) "evaluate"
section
variable {K : PySem.W.Frag} {mg : PySem.Str → Option Value}
theorem sc_is_integer : FnScope ["thing"] ["thing"] (defScope (top 17)) := ⟨rfl, rfl, rfl, by decide +kernel, rfl, by decide +kernel, by decide +kernel⟩
theorem b_is_integer : BindN d_is_integer ["thing"] := fun _ _ _ _ _ _ us hl => match us, hl with | [_], _ => rfl
theorem sc_is_level : FnScope ["thing"] ["thing"] (defScope (top 18)) := ⟨rfl, rfl, rfl, by decide +kernel, rfl, by decide +kernel, by decide +kernel⟩
theorem b_is_level : BindN d_is_level ["thing"] := fun _ _ _ _ _ _ us hl => match us, hl with | [_], _ => rfl
theorem sc_is_function : FnScope ["thing", "kind", "part", "entry"] ["thing"] (defScope (top 19)) := ⟨rfl, rfl, rfl, by decide +kernel, rfl, by decide +kernel, by decide +kernel⟩
theorem b_is_function : BindN d_is_function ["thing"] := fun _ _ _ _ _ _ us hl => match us, hl with | [_], _ => rfl
theorem sc_capped_sum : FnScope ["values"] ["values"] (defScope (top 20)) := ⟨rfl, rfl, rfl, by decide +kernel, rfl, by decide +kernel, by decide +kernel⟩
theorem b_capped_sum : BindN d_capped_sum ["values"] := fun _ _ _ _ _ _ us hl => match us, hl with | [_], _ => rfl
theorem sc_turned : FnScope ["start", "values", "index", "value"] ["start", "values"] (defScope (top 21)) := ⟨rfl, rfl, rfl, by decide +kernel, rfl, by decide +kernel, by decide +kernel⟩
theorem b_turned : BindN d_turned ["start", "values"] := fun _ _ _ _ _ _ us hl => match us, hl with | [_, _], _ => rfl
theorem sc_reach_among : FnScope ["system", "cell", "cells", "found", "waiting", "here", "operand"] ["system", "cell", "cells"] (defScope (top 24)) := ⟨rfl, rfl, rfl, by decide +kernel, rfl, by decide +kernel, by decide +kernel⟩
theorem b_reach_among : BindN d_reach_among ["system", "cell", "cells"] := fun _ _ _ _ _ _ us hl => match us, hl with | [_, _, _], _ => rfl
theorem sc_all_cells : FnScope ["system"] ["system"] (defScope (top 25)) := ⟨rfl, rfl, rfl, by decide +kernel, rfl, by decide +kernel, by decide +kernel⟩
theorem b_all_cells : BindN d_all_cells ["system"] := fun _ _ _ _ _ _ us hl => match us, hl with | [_], _ => rfl
theorem sc_reach : FnScope ["system", "cell"] ["system", "cell"] (defScope (top 26)) := ⟨rfl, rfl, rfl, by decide +kernel, rfl, by decide +kernel, by decide +kernel⟩
theorem b_reach : BindN d_reach ["system", "cell"] := fun _ _ _ _ _ _ us hl => match us, hl with | [_, _], _ => rfl
theorem sc_dependents : FnScope ["system", "cell", "other"] ["system", "cell"] (defScope (top 27)) := ⟨rfl, rfl, rfl, by decide +kernel, rfl, by decide +kernel, by decide +kernel⟩
theorem b_dependents : BindN d_dependents ["system", "cell"] := fun _ _ _ _ _ _ us hl => match us, hl with | [_, _], _ => rfl
theorem sc_unordered_components : FnScope ["system", "cells", "reached", "found", "cell", "component", "other"] ["system", "cells"] (defScope (top 28)) := ⟨rfl, rfl, rfl, by decide +kernel, rfl, by decide +kernel, by decide +kernel⟩
theorem b_unordered_components : BindN d_unordered_components ["system", "cells"] := fun _ _ _ _ _ _ us hl => match us, hl with | [_, _], _ => rfl
theorem sc_leads_outside : FnScope ["system", "component", "cells", "cell", "operand"] ["system", "component", "cells"] (defScope (top 29)) := ⟨rfl, rfl, rfl, by decide +kernel, rfl, by decide +kernel, by decide +kernel⟩
theorem b_leads_outside : BindN d_leads_outside ["system", "component", "cells"] := fun _ _ _ _ _ _ us hl => match us, hl with | [_, _, _], _ => rfl
theorem sc_components_among : FnScope ["system", "cells", "waiting", "found", "left", "ready", "component", "cell"] ["system", "cells"] (defScope (top 30)) := ⟨rfl, rfl, rfl, by decide +kernel, rfl, by decide +kernel, by decide +kernel⟩
theorem b_components_among : BindN d_components_among ["system", "cells"] := fun _ _ _ _ _ _ us hl => match us, hl with | [_, _], _ => rfl
theorem sc_components : FnScope ["system"] ["system"] (defScope (top 31)) := ⟨rfl, rfl, rfl, by decide +kernel, rfl, by decide +kernel, by decide +kernel⟩
theorem b_components : BindN d_components ["system"] := fun _ _ _ _ _ _ us hl => match us, hl with | [_], _ => rfl
theorem sc_need_small_components : FnScope ["system", "component"] ["system"] (defScope (top 39)) := ⟨rfl, rfl, rfl, by decide +kernel, rfl, by decide +kernel, by decide +kernel⟩
theorem b_need_small_components : BindN d_need_small_components ["system"] := fun _ _ _ _ _ _ us hl => match us, hl with | [_], _ => rfl
theorem sc_need_fitting : FnScope ["policy", "system"] ["policy", "system"] (defScope (top 41)) := ⟨rfl, rfl, rfl, by decide +kernel, rfl, by decide +kernel, by decide +kernel⟩
theorem b_need_fitting : BindN d_need_fitting ["policy", "system"] := fun _ _ _ _ _ _ us hl => match us, hl with | [_, _], _ => rfl
theorem sc_is_kept : FnScope ["policy", "taint"] ["policy", "taint"] (defScope (top 42)) := ⟨rfl, rfl, rfl, by decide +kernel, rfl, by decide +kernel, by decide +kernel⟩
theorem b_is_kept : BindN d_is_kept ["policy", "taint"] := fun _ _ _ _ _ _ us hl => match us, hl with | [_, _], _ => rfl
theorem sc_joined_taint : FnScope ["parts", "cell", "part", "dirty"] ["parts", "cell"] (defScope (top 44)) := ⟨rfl, rfl, rfl, by decide +kernel, rfl, by decide +kernel, by decide +kernel⟩
theorem b_joined_taint : BindN d_joined_taint ["parts", "cell"] := fun _ _ _ _ _ _ us hl => match us, hl with | [_, _], _ => rfl
theorem sc_are_operands : FnScope ["thing", "many", "cell"] ["thing", "many"] (defScope (top 73)) := ⟨rfl, rfl, rfl, by decide +kernel, rfl, by decide +kernel, by decide +kernel⟩
theorem b_are_operands : BindN d_are_operands ["thing", "many"] := fun _ _ _ _ _ _ us hl => match us, hl with | [_, _], _ => rfl
theorem sc_is_cell : FnScope ["thing", "many", "operands", "function", "guess"] ["thing", "many"] (defScope (top 74)) := ⟨rfl, rfl, rfl, by decide +kernel, rfl, by decide +kernel, by decide +kernel⟩
theorem b_is_cell : BindN d_is_cell ["thing", "many"] := fun _ _ _ _ _ _ us hl => match us, hl with | [_, _], _ => rfl
theorem sc__law_pen : FnScope ["_law_script"] ["_law_script"] (defScope (top 77)) := ⟨rfl, rfl, rfl, by decide +kernel, rfl, by decide +kernel, by decide +kernel⟩
theorem b__law_pen : BindN d__law_pen ["_law_script"] := fun _ _ _ _ _ _ us hl => match us, hl with | [_], _ => rfl
theorem sc__law_draw : FnScope ["_law_pen_here", "_law_size", "_law_digit", "_law_turn", "_law_spot", "_law_whole", "_law_mixed"] ["_law_pen_here", "_law_size"] (defScope (top 78)) := ⟨rfl, rfl, rfl, by decide +kernel, rfl, by decide +kernel, by decide +kernel⟩
theorem b__law_draw : BindN d__law_draw ["_law_pen_here", "_law_size"] := fun _ _ _ _ _ _ us hl => match us, hl with | [_, _], _ => rfl
theorem sc__law_some : FnScope ["_law_pen_here", "_law_things", "_law_size", "_law_left", "_law_k"] ["_law_pen_here", "_law_things", "_law_size"] (defScope (top 79)) := ⟨rfl, rfl, rfl, by decide +kernel, rfl, by decide +kernel, by decide +kernel⟩
theorem b__law_some : BindN d__law_some ["_law_pen_here", "_law_things", "_law_size"] := fun _ _ _ _ _ _ us hl => match us, hl with | [_, _, _], _ => rfl
theorem sc__law_function : FnScope ["_law_pen_here", "_law_kind", "_law_k"] ["_law_pen_here"] (defScope (top 80)) := ⟨rfl, rfl, rfl, by decide +kernel, rfl, by decide +kernel, by decide +kernel⟩
theorem b__law_function : BindN d__law_function ["_law_pen_here"] := fun _ _ _ _ _ _ us hl => match us, hl with | [_], _ => rfl
theorem sc__law_cells : FnScope ["_law_pen_here", "_law_size", "_law_way", "_law_found", "_law_spot", "_law_some_here", "_law_second"] ["_law_pen_here", "_law_size"] (defScope (top 81)) := ⟨rfl, rfl, rfl, by decide +kernel, rfl, by decide +kernel, by decide +kernel⟩
theorem b__law_cells : BindN d__law_cells ["_law_pen_here", "_law_size"] := fun _ _ _ _ _ _ us hl => match us, hl with | [_, _], _ => rfl
theorem sc__law_small : FnScope ["_law_pen_here", "_law_size", "_law_most", "_law_order", "_law_block", "_law_dense", "_law_found", "_law_at", "_law_start", "_law_some_here"] ["_law_pen_here", "_law_size", "_law_most"] (defScope (top 82)) := ⟨rfl, rfl, rfl, by decide +kernel, rfl, by decide +kernel, by decide +kernel⟩
theorem b__law_small : BindN d__law_small ["_law_pen_here", "_law_size", "_law_most"] := fun _ _ _ _ _ _ us hl => match us, hl with | [_, _, _], _ => rfl
theorem sc__law_value : FnScope ["_law_rule", "_law_values", "_law_kind", "_law_part", "_law_total", "_law_k"] ["_law_rule", "_law_values"] (defScope (top 83)) := ⟨rfl, rfl, rfl, by decide +kernel, rfl, by decide +kernel, by decide +kernel⟩
theorem b__law_value : BindN d__law_value ["_law_rule", "_law_values"] := fun _ _ _ _ _ _ us hl => match us, hl with | [_, _], _ => rfl
theorem sc__law_call : FnScope ["_law_triples", "_law_board", "_law_under", "_law_spot", "_law_mode", "_law_values", "_law_taint", "_law_operand", "_law_value_here", "_law_part", "_law_one"] ["_law_triples", "_law_board", "_law_under", "_law_spot", "_law_mode"] (defScope (top 84)) := ⟨rfl, rfl, rfl, by decide +kernel, rfl, by decide +kernel, by decide +kernel⟩
theorem b__law_call : BindN d__law_call ["_law_triples", "_law_board", "_law_under", "_law_spot", "_law_mode"] := fun _ _ _ _ _ _ us hl => match us, hl with | [_, _, _, _, _], _ => rfl
theorem sc__law_exact : FnScope ["_law_triples", "_law_board", "_law_under", "_law_spot", "_law_known", "_law_log", "_law_row", "_law_wrong", "_law_values", "_law_taint", "_law_used", "_law_second", "_law_value_here", "_law_part", "_law_more", "_law_one"] ["_law_triples", "_law_board", "_law_under", "_law_spot", "_law_known", "_law_log"] (defScope (top 85)) := ⟨rfl, rfl, rfl, by decide +kernel, rfl, by decide +kernel, by decide +kernel⟩
theorem b__law_exact : BindN d__law_exact ["_law_triples", "_law_board", "_law_under", "_law_spot", "_law_known", "_law_log"] := fun _ _ _ _ _ _ us hl => match us, hl with | [_, _, _, _, _, _], _ => rfl
theorem sc__law_reused_right : FnScope ["_law_triples", "_law_board", "_law_log", "_law_under", "_law_left", "_law_event", "_law_value_here", "_law_taint"] ["_law_triples", "_law_board", "_law_log"] (defScope (top 86)) := ⟨rfl, rfl, rfl, by decide +kernel, rfl, by decide +kernel, by decide +kernel⟩
theorem b__law_reused_right : BindN d__law_reused_right ["_law_triples", "_law_board", "_law_log"] := fun _ _ _ _ _ _ us hl => match us, hl with | [_, _, _], _ => rfl
theorem sc__law_all_right : FnScope ["_law_triples", "_law_rows", "_law_ahead", "_law_log"] ["_law_triples", "_law_rows"] (defScope (top 87)) := ⟨rfl, rfl, rfl, by decide +kernel, rfl, by decide +kernel, by decide +kernel⟩
theorem b__law_all_right : BindN d__law_all_right ["_law_triples", "_law_rows"] := fun _ _ _ _ _ _ us hl => match us, hl with | [_, _], _ => rfl
theorem sc__law_limited : FnScope ["_law_memo", "_law_spot", "_law_need", "_law_before", "_law_found", "e"] ["_law_memo", "_law_spot", "_law_need"] (defScope (top 88)) := ⟨rfl, rfl, rfl, by decide +kernel, rfl, by decide +kernel, by decide +kernel⟩
theorem b__law_limited : BindN d__law_limited ["_law_memo", "_law_spot", "_law_need"] := fun _ _ _ _ _ _ us hl => match us, hl with | [_, _, _], _ => rfl
theorem sc__law_asks : FnScope ["_law_triples", "_law_board", "_law_spots", "_law_values", "_law_rows", "_law_spot", "_law_log", "_law_ahead", "_law_value_here", "_law_taint", "_law_used"] ["_law_triples", "_law_board", "_law_spots"] (defScope (top 89)) := ⟨rfl, rfl, rfl, by decide +kernel, rfl, by decide +kernel, by decide +kernel⟩
theorem b__law_asks : BindN d__law_asks ["_law_triples", "_law_board", "_law_spots"] := fun _ _ _ _ _ _ us hl => match us, hl with | [_, _, _], _ => rfl
theorem sc__law_late_right : FnScope ["_law_late", "_law_exact_here", "_law_clean", "_law_both"] [] (defScope (top 90)) := ⟨rfl, rfl, rfl, by decide +kernel, rfl, by decide +kernel, by decide +kernel⟩
theorem b__law_late_right : BindN d__law_late_right [] := fun _ _ _ _ _ _ us hl => match us, hl with | [], _ => rfl
theorem sc_law : FnScope ["_law_script", "_law_pen_here", "_law_turn", "_law_size", "_law_triples", "_law_clean", "_law_exact_here", "_law_board", "_law_step", "_law_spot", "_law_hunch", "_law_lost", "_law_spots", "_law_values", "_law_rows", "_law_needs", "_law_costs", "_law_told", "_law_k", "_law_ahead", "_law_log", "_law_event", "_law_one"] ["_law_script"] (defScope (top 91)) := ⟨rfl, rfl, rfl, by decide +kernel, rfl, by decide +kernel, by decide +kernel⟩
theorem b_law : BindN d_law ["_law_script"] := fun _ _ _ _ _ _ us hl => match us, hl with | [_], _ => rfl
theorem sc_Run_init : FnScope ["self", "system", "table", "policy", "busy", "most"] ["self", "system", "table", "policy", "busy", "most"] (defScope (inClass (top 45) 0)) := ⟨rfl, rfl, rfl, by decide +kernel, rfl, by decide +kernel, by decide +kernel⟩
theorem sc_Run_call : FnScope ["self", "cell", "value"] ["self", "cell"] (defScope (inClass (top 45) 1)) := ⟨rfl, rfl, rfl, by decide +kernel, rfl, by decide +kernel, by decide +kernel⟩
theorem b_Run_call : BindN d_Run_call ["self", "cell"] := fun _ _ _ _ _ _ us hl => match us, hl with | [_, _], _ => rfl
theorem sc_Run_evaluate : FnScope ["self", "cell", "results", "values", "value", "taint", "kept", "operand", "one", "part"] ["self", "cell"] (defScope (inClass (top 45) 2)) := ⟨rfl, rfl, rfl, by decide +kernel, rfl, by decide +kernel, by decide +kernel⟩
theorem b_Run_evaluate : BindN d_Run_evaluate ["self", "cell"] := fun _ _ _ _ _ _ us hl => match us, hl with | [_, _], _ => rfl
theorem sc_Memo_init : FnScope ["self", "system"] ["self", "system"] (defScope (inClass (top 47) 1)) := ⟨rfl, rfl, rfl, by decide +kernel, rfl, by decide +kernel, by decide +kernel⟩
theorem b_Memo_init : BindN d_Memo_init ["self", "system"] := fun _ _ _ _ _ _ us hl => match us, hl with | [_, _], _ => rfl
theorem sc_Memo_system : FnScope ["self"] ["self"] (defScope (inClass (top 47) 3)) := ⟨rfl, rfl, rfl, by decide +kernel, rfl, by decide +kernel, by decide +kernel⟩
theorem b_Memo_system : BindN d_Memo_system ["self"] := fun _ _ _ _ _ _ us hl => match us, hl with | [_], _ => rfl
theorem sc_Memo_table : FnScope ["self"] ["self"] (defScope (inClass (top 47) 4)) := ⟨rfl, rfl, rfl, by decide +kernel, rfl, by decide +kernel, by decide +kernel⟩
theorem b_Memo_table : BindN d_Memo_table ["self"] := fun _ _ _ _ _ _ us hl => match us, hl with | [_], _ => rfl
theorem sc_Memo_calls : FnScope ["self"] ["self"] (defScope (inClass (top 47) 5)) := ⟨rfl, rfl, rfl, by decide +kernel, rfl, by decide +kernel, by decide +kernel⟩
theorem b_Memo_calls : BindN d_Memo_calls ["self"] := fun _ _ _ _ _ _ us hl => match us, hl with | [_], _ => rfl
theorem sc_Memo_most_calls : FnScope ["self"] ["self"] (defScope (inClass (top 47) 6)) := ⟨rfl, rfl, rfl, by decide +kernel, rfl, by decide +kernel, by decide +kernel⟩
theorem b_Memo_most_calls : BindN d_Memo_most_calls ["self"] := fun _ _ _ _ _ _ us hl => match us, hl with | [_], _ => rfl
theorem sc_Memo_set_limit : FnScope ["self", "limit"] ["self", "limit"] (defScope (inClass (top 47) 7)) := ⟨rfl, rfl, rfl, by decide +kernel, rfl, by decide +kernel, by decide +kernel⟩
theorem b_Memo_set_limit : BindN d_Memo_set_limit ["self", "limit"] := fun _ _ _ _ _ _ us hl => match us, hl with | [_, _], _ => rfl
theorem sc_Memo_run : FnScope ["self"] ["self"] (defScope (inClass (top 47) 8)) := ⟨rfl, rfl, rfl, by decide +kernel, rfl, by decide +kernel, by decide +kernel⟩
theorem b_Memo_run : BindN d_Memo_run ["self"] := fun _ _ _ _ _ _ us hl => match us, hl with | [_], _ => rfl
theorem sc_Memo_ask : FnScope ["self", "cell", "run", "answer", "taint"] ["self", "cell"] (defScope (inClass (top 47) 10)) := ⟨rfl, rfl, rfl, by decide +kernel, rfl, by decide +kernel, by decide +kernel⟩
theorem b_Memo_ask : BindN d_Memo_ask ["self", "cell"] := fun _ _ _ _ _ _ us hl => match us, hl with | [_, _], _ => rfl
theorem sc_Memo_twin : FnScope ["self", "found"] ["self"] (defScope (inClass (top 47) 11)) := ⟨rfl, rfl, rfl, by decide +kernel, rfl, by decide +kernel, by decide +kernel⟩
theorem b_Memo_twin : BindN d_Memo_twin ["self"] := fun _ _ _ _ _ _ us hl => match us, hl with | [_], _ => rfl
theorem sc_Memo_restore : FnScope ["self", "other"] ["self", "other"] (defScope (inClass (top 47) 12)) := ⟨rfl, rfl, rfl, by decide +kernel, rfl, by decide +kernel, by decide +kernel⟩
theorem b_Memo_restore : BindN d_Memo_restore ["self", "other"] := fun _ _ _ _ _ _ us hl => match us, hl with | [_, _], _ => rfl
theorem sc_Memo_edit : FnScope ["self", "cell", "operands", "function", "guess", "later", "lost", "other", "value"] ["self", "cell", "operands", "function", "guess"] (defScope (inClass (top 47) 16)) := ⟨rfl, rfl, rfl, by decide +kernel, rfl, by decide +kernel, by decide +kernel⟩
theorem sc_Memo_eq : FnScope ["self", "other"] ["self", "other"] (defScope (inClass (top 47) 17)) := ⟨rfl, rfl, rfl, by decide +kernel, rfl, by decide +kernel, by decide +kernel⟩
theorem b_Memo_eq : BindN d_Memo_eq ["self", "other"] := fun _ _ _ _ _ _ us hl => match us, hl with | [_, _], _ => rfl
theorem sc_KeepClean_repr : FnScope ["self"] ["self"] (defScope (inClass (top 49) 1)) := ⟨rfl, rfl, rfl, by decide +kernel, rfl, by decide +kernel, by decide +kernel⟩
theorem b_KeepClean_repr : BindN d_KeepClean_repr ["self"] := fun _ _ _ _ _ _ us hl => match us, hl with | [_], _ => rfl
theorem sc_KeepExact_repr : FnScope ["self"] ["self"] (defScope (inClass (top 54) 0)) := ⟨rfl, rfl, rfl, by decide +kernel, rfl, by decide +kernel, by decide +kernel⟩
theorem b_KeepExact_repr : BindN d_KeepExact_repr ["self"] := fun _ _ _ _ _ _ us hl => match us, hl with | [_], _ => rfl
theorem sc_KeepExact_run : FnScope ["self"] ["self"] (defScope (inClass (top 54) 1)) := ⟨rfl, rfl, rfl, by decide +kernel, rfl, by decide +kernel, by decide +kernel⟩
theorem b_KeepExact_run : BindN d_KeepExact_run ["self"] := fun _ _ _ _ _ _ us hl => match us, hl with | [_], _ => rfl
theorem sc_KeepExact_empty : FnScope ["self"] ["self"] (defScope (inClass (top 54) 2)) := ⟨rfl, rfl, rfl, by decide +kernel, rfl, by decide +kernel, by decide +kernel⟩
theorem b_KeepExact_empty : BindN d_KeepExact_empty ["self"] := fun _ _ _ _ _ _ us hl => match us, hl with | [_], _ => rfl
theorem sc_ExactRun_is_exact : FnScope ["self", "taint", "used", "spot"] ["self", "taint", "used"] (defScope (inClass (top 53) 1)) := ⟨rfl, rfl, rfl, by decide +kernel, rfl, by decide +kernel, by decide +kernel⟩
theorem b_ExactRun_is_exact : BindN d_ExactRun_is_exact ["self", "taint", "used"] := fun _ _ _ _ _ _ us hl => match us, hl with | [_, _, _], _ => rfl
theorem sc_System_of : FnScope ["cls", "parts"] ["cls", "parts"] (defScope (inClass (top 75) 3)) := ⟨rfl, rfl, rfl, by decide +kernel, rfl, by decide +kernel, by decide +kernel⟩
theorem b_System_of : BindN d_System_of ["cls", "parts"] := fun _ _ _ _ _ _ us hl => match us, hl with | [_, _], _ => rfl
theorem sc_System_triple : FnScope ["self", "cell"] ["self", "cell"] (defScope (inClass (top 75) 6)) := ⟨rfl, rfl, rfl, by decide +kernel, rfl, by decide +kernel, by decide +kernel⟩
theorem b_System_triple : BindN d_System_triple ["self", "cell"] := fun _ _ _ _ _ _ us hl => match us, hl with | [_, _], _ => rfl
theorem sc_System_operands : FnScope ["self", "cell"] ["self", "cell"] (defScope (inClass (top 75) 7)) := ⟨rfl, rfl, rfl, by decide +kernel, rfl, by decide +kernel, by decide +kernel⟩
theorem b_System_operands : BindN d_System_operands ["self", "cell"] := fun _ _ _ _ _ _ us hl => match us, hl with | [_, _], _ => rfl
theorem sc_System_function : FnScope ["self", "cell"] ["self", "cell"] (defScope (inClass (top 75) 8)) := ⟨rfl, rfl, rfl, by decide +kernel, rfl, by decide +kernel, by decide +kernel⟩
theorem b_System_function : BindN d_System_function ["self", "cell"] := fun _ _ _ _ _ _ us hl => match us, hl with | [_, _], _ => rfl
theorem sc_System_guess : FnScope ["self", "cell"] ["self", "cell"] (defScope (inClass (top 75) 9)) := ⟨rfl, rfl, rfl, by decide +kernel, rfl, by decide +kernel, by decide +kernel⟩
theorem b_System_guess : BindN d_System_guess ["self", "cell"] := fun _ _ _ _ _ _ us hl => match us, hl with | [_, _], _ => rfl
theorem sc_System_replaced : FnScope ["self", "cell", "operands", "function", "guess", "parts", "found", "cells", "old", "new"] ["self", "cell", "operands", "function", "guess"] (defScope (inClass (top 75) 10)) := ⟨rfl, rfl, rfl, by decide +kernel, rfl, by decide +kernel, by decide +kernel⟩
theorem sc_System_eq : FnScope ["self", "other"] ["self", "other"] (defScope (inClass (top 75) 11)) := ⟨rfl, rfl, rfl, by decide +kernel, rfl, by decide +kernel, by decide +kernel⟩
theorem b_System_eq : BindN d_System_eq ["self", "other"] := fun _ _ _ _ _ _ us hl => match us, hl with | [_, _], _ => rfl
theorem sc_System_len : FnScope ["self"] ["self"] (defScope (inClass (top 75) 12)) := ⟨rfl, rfl, rfl, by decide +kernel, rfl, by decide +kernel, by decide +kernel⟩
theorem b_System_len : BindN d_System_len ["self"] := fun _ _ _ _ _ _ us hl => match us, hl with | [_], _ => rfl
end
end KW
/-! The head: what the top leaves, read by a Hook. -/
namespace KW
open PySem PySem.Spec PyProof.Rows L2 KR K19
/-! ### facts of K, each a Bool -/
def eqB {α : Type} [DecidableEq α] (a b : α) : Bool := decide (a = b)
theorem ba {a b : Bool} (h : (a && b) = true) : a = true ∧ b = true := Bool.and_eq_true_iff.mp h
def methB (C m : PySem.Str) (p : PySem.Str × Option PySem.Str) (K : PySem.W.Frag) : Bool := He.eqO (PySem.W.findIn K (.ref (He.ga K C)) m) (some (some (.ref (He.fAd K p)))) && (PySem.W.isFn K (.ref (He.fAd K p)) && PySem.W.keepIn K (.ref (He.fAd K p)))
theorem methB_ok {C m : PySem.Str} {p : PySem.Str × Option PySem.Str} {K : PySem.W.Frag} (h : methB C m p K = true) : Meth K (He.ga K C) m (He.fAd K p) := by
  obtain ⟨h1, h⟩ := ba h
  obtain ⟨h2, h3⟩ := ba h
  exact ⟨He.eqO_ok h1, h2, h3⟩
def mkB (C : PySem.Str) (p : PySem.Str × Option PySem.Str) (K : PySem.W.Frag) : Bool := PySem.W.makesIn K (He.ga K C) && (He.eqO (PySem.W.findIn K (.ref (He.ga K C)) "__init__") (some (some (.ref (He.fAd K p)))) && (PySem.W.isFn K (.ref (He.fAd K p)) && PySem.W.keepIn K (.ref (He.ga K C))))
theorem mkB_ok {C : PySem.Str} {p : PySem.Str × Option PySem.Str} {K : PySem.W.Frag} (h : mkB C p K = true) : Mk K (He.ga K C) (He.fAd K p) := by
  obtain ⟨h1, h⟩ := ba h
  obtain ⟨h2, h⟩ := ba h
  obtain ⟨h3, h4⟩ := ba h
  exact ⟨h1, He.eqO_ok h2, h3, h4⟩
def recB (K : PySem.W.Frag) (q : Addr) (T : String) (g : Addr) : Bool := match PySem.W.recIn K q T with
  | some (.ref g' :: _) => decide (g' = g)
  | _ => false
theorem recB_ok {K : PySem.W.Frag} {q : Addr} {T : String} {g : Addr} (h : recB K q T g = true) : ∃ rest, PySem.W.recIn K q T = some (.ref g :: rest) := by
  unfold recB at h
  split at h
  · rename_i g' rest e
    obtain rfl := of_decide_eq_true h
    exact ⟨rest, e⟩
  · cases h
def propB (C f : PySem.Str) (d : Df) (K : PySem.W.Frag) : Bool := He.eqO (PySem.W.findIn K (.ref (He.ga K C)) f) (some (some (.ref (He.ma K (He.ga K C) f)))) && (He.eqO (PySem.W.specialIn K (.ref (He.ma K (He.ga K C) f)) "__get__") (some (some (.builtin "property.__get__"))) && (decide (PySem.W.takesIn K (.ref (He.ma K (He.ga K C) f)) = some true) && recB K (He.ma K (He.ga K C) f) "property" (d.ad K)))
theorem propB_ok {C f : PySem.Str} {d : Df} {K : PySem.W.Frag} (h : propB C f d K = true) : ∃ q, PropOf K (He.ga K C) f q (d.ad K) := by
  obtain ⟨h1, h⟩ := ba h
  obtain ⟨h2, h⟩ := ba h
  obtain ⟨h3, h4⟩ := ba h
  exact ⟨_, He.eqO_ok h1, He.eqO_ok h2, of_decide_eq_true h3, recB_ok h4⟩
def creB (K : PySem.W.Frag) (C : Addr) : Bool := PySem.W.readsIn K C (.type "type") && He.eqO (PySem.W.specialIn K (.ref C) "__getattribute__") (some (some (.builtin "type.__getattribute__")))
theorem creB_ok {K : PySem.W.Frag} {C : Addr} (h : creB K C = true) : ClX.CRead K C (.type "type") := by
  obtain ⟨h1, h2⟩ := ba h
  exact ⟨h1, He.eqO_ok h2⟩
def cmB (K : PySem.W.Frag) : Bool := creB K (He.ga K "System") && ((match PySem.W.findCls K (.ref (He.ga K "System")) (.type "type") "of" with
  | some (.get (.builtin b) (.ref q) .none (.ref C)) => decide (b = "classmethod.__get__") && (decide (q = He.ma K (He.ga K "System") "of") && decide (C = He.ga K "System"))
  | _ => false) && (recB K (He.ma K (He.ga K "System") "of") "classmethod" (d_System_of.ad K) && PySem.W.fnIn K (d_System_of.ad K)))
theorem cmB_ok {K : PySem.W.Frag} (h : cmB K = true) : ∃ mc q, ClX.CRead K (He.ga K "System") mc ∧ ClX.CMet K (He.ga K "System") mc "of" q (KW.d_System_of.ad K) := by
  obtain ⟨h1, h⟩ := ba h
  obtain ⟨h2, h⟩ := ba h
  obtain ⟨h3, h4⟩ := ba h
  refine ⟨_, He.ma K (He.ga K "System") "of", creB_ok h1, ?_, recB_ok h3, h4⟩
  split at h2
  · rename_i b q C e
    obtain ⟨g1, g⟩ := ba h2
    obtain ⟨g2, g3⟩ := ba g
    rw [of_decide_eq_true g1, of_decide_eq_true g2, of_decide_eq_true g3] at e
    exact e
  · cases h2
def cvB (K : PySem.W.Frag) : Bool := creB K (He.ga K "KeepExact") && (match PySem.W.findCls K (.ref (He.ga K "KeepExact")) (.type "type") "POLICY" with
  | some (.val u) => He.relB (.str "clean") u
  | _ => false)
theorem cvB_ok {K : PySem.W.Frag} (h : cvB K = true) : ∃ mc u, ClX.CRead K (He.ga K "KeepExact") mc ∧ ClX.CVal K (He.ga K "KeepExact") mc "POLICY" (.str "clean") u := by
  obtain ⟨h1, h2⟩ := ba h
  split at h2
  · rename_i u e
    exact ⟨_, u, creB_ok h1, e, He.relB_ok h2⟩
  · cases h2
def tyB (C : PySem.Str) (K : PySem.W.Frag) : Bool := He.eqO (PySem.W.findIn K (.ref (He.ga K C)) "__class__") (some (some (.builtin "object.__class__"))) && (He.eqO (PySem.W.specialIn K (.builtin "object.__class__") "__get__") (some (some (.builtin "getset_descriptor.__get__"))) && (decide (PySem.W.takesIn K (.builtin "object.__class__") = some true) && decide (PySem.W.mroIn K (He.ga K C) (.type "object") = some true)))
theorem tyB_ok {C : PySem.Str} {K : PySem.W.Frag} {H : Hp} {a dx : Addr} {fs : List (PySem.Str × V)} (cl : Cls K (He.ga K C)) (h : tyB C K = true) (e : H a = some (.ins (He.ga K C) dx fs)) : TyX K H (.ref a) (.ref (He.ga K C)) := by
  obtain ⟨h1, h⟩ := ba h
  obtain ⟨h2, h⟩ := ba h
  obtain ⟨h3, h4⟩ := ba h
  exact .base (.ins e cl (He.eqO_ok h1) (He.eqO_ok h2) (of_decide_eq_true h3) (of_decide_eq_true h4))
def busyB (K : PySem.W.Frag) : Bool := match K.lookup (busyAd K) with
  | some ⟨.type c, _, .seq its _, _⟩ => decide (c = "tuple") && (decide (its.size ≤ sizeLine) && He.relAll [] its.toList)
  | _ => false
theorem busyB_ok {K : PySem.W.Frag} (h : busyB K = true) (H : Hp) : SqT K H (busyAd K) [] := by
  unfold busyB at h
  split at h
  · rename_i c d its n sl e
    obtain ⟨h1, h⟩ := ba h
    obtain ⟨h2, h3⟩ := ba h
    exact .inr ⟨_, its, n, e, congrArg Value.type (of_decide_eq_true h1), rfl, of_decide_eq_true h2, He.relAll_ok h3⟩
  · cases h
abbrev d_tm : Df := dOf ("TooManyCalls", some "__init__") "__init__" "TooManyCalls.__init__" (inClass (top 11) 0)
def tmFB (K : PySem.W.Frag) : Bool := PySem.W.excInitIn K (He.ga K "TooManyCalls") ovTail "OverflowError.__new__" && (PySem.W.excOver K (He.ga K "TooManyCalls") ovTail && (He.eqO (PySem.W.findIn K (.ref (He.ga K "TooManyCalls")) "__setattr__") (some (some (.builtin "object.__setattr__"))) &&
  (He.eqO (PySem.W.findIn K (.ref (He.ga K "TooManyCalls")) "limit") (some none) && (PySem.W.hasDictIn K (He.ga K "TooManyCalls") && (He.eqO (PySem.W.findIn K (.ref (He.ga K "TooManyCalls")) "__init__") (some (some (.ref (d_tm.ad K)))) &&
  (decide (PySem.W.typeIn K (.ref (d_tm.ad K)) = some (.type "function")) && (PySem.W.keepIn K (.ref (He.ga K "TooManyCalls")) && (decide (PySem.W.subIn K (.ref (He.ga K "TooManyCalls")) (.type "BaseException") = some true) && decide (PySem.W.typeIn K (.ref (He.ga K "TooManyCalls")) = some (.type "type"))))))))))
theorem tm_ok {K : PySem.W.Frag} (hd : Stands K d_tm) (h : tmFB K = true) : TmTxt K (He.ga K "TooManyCalls") (He.fAd K ("TooManyCalls", some "__init__")) := by
  obtain ⟨h1, h⟩ := ba h
  obtain ⟨h2, h⟩ := ba h
  obtain ⟨h3, h⟩ := ba h
  obtain ⟨h4, h⟩ := ba h
  obtain ⟨h5, h⟩ := ba h
  obtain ⟨h6, h⟩ := ba h
  obtain ⟨h7, h⟩ := ba h
  obtain ⟨h8, h⟩ := ba h
  obtain ⟨h9, h10⟩ := ba h
  refine ⟨h1, h2, He.eqO_ok h3, He.eqO_ok h4, h5, He.eqO_ok h6, of_decide_eq_true h7, h8, of_decide_eq_true h9, of_decide_eq_true h10, ?_⟩
  obtain ⟨fd, F⟩ := hd
  obtain ⟨oc, od, dV, kV, doc, pm, an, cdv, ct, osl, rfl, lk, hcd, hD, _⟩ := F.ex
  obtain rfl : dV = .none := by
    rcases hD with ⟨_, h⟩ | ⟨h, _⟩
    · exact h
    · exact absurd rfl h
  exact ⟨oc, od, .none, kV, doc, pm, an, cdv, ct, osl, _, _, _, _, _, _, lk, hcd⟩
/-! ### super -/
def supB (m : PySem.Str) (K : PySem.W.Frag) : Bool := He.eqO (PySem.W.nsIn K cStatics "thirdparty.any") (some none) && (decide (PySem.W.mroIn K (He.ga K "ExactRun") (.ref (He.ga K "ExactRun")) = some true) && ((PySem.W.clsIn K (He.ga K "ExactRun")).isSome && (He.eqO (PySem.W.ks_superIn K (He.ga K "ExactRun") (He.ga K "ExactRun") m) (some (some (.ref (He.fAd K ("Run", some m))))) &&
  (decide (PySem.W.typeIn K (.ref (He.fAd K ("Run", some m))) = some (.type "function")) && PySem.W.fnIn K (He.fAd K ("Run", some m))))))
theorem supB_ok {m : PySem.Str} {K : PySem.W.Frag} (h : supB m K = true) : Sup K (He.ga K "ExactRun") (He.ga K "ExactRun") (He.fAd K ("Run", some m)) m := by
  obtain ⟨h1, h⟩ := ba h
  obtain ⟨h2, h⟩ := ba h
  obtain ⟨h3, h⟩ := ba h
  obtain ⟨h4, h⟩ := ba h
  obtain ⟨h5, h6⟩ := ba h
  exact ⟨He.eqO_ok h1, of_decide_eq_true h2, Option.isSome_iff_exists.mp h3, He.eqO_ok h4, of_decide_eq_true h5, h6⟩
abbrev PB : Program := (PySem.Challenge.rw_busyguess_k19_whole_exact_results).prog
abbrev FnQ : Type := Option (PySem.Str × PySem.Str × Arguments × FuncBody × Scope × Addr × List PySem.Str × Addr)
def fnSv (K : PySem.W.Frag) (a : Addr) : FnQ := match K.lookup a with
  | some ⟨_, _, .func fd, _⟩ => some (fd.name, fd.qualname, fd.params, fd.body, fd.scope, fd.globals, fd.closure.map (·.1), fd.builtins)
  | _ => none
def Df.valS (d : Df) : FnQ := some (d.name, d.qual, d.params, .stmts d.body, d.scope, mainGlobals, ["__class__"], builtinsNs)
def sfB (K : PySem.W.Frag) (d : Df) : Bool := match K.lookup (d.ad K) with
  | some ⟨_, _, .func fd, _⟩ => (match fd.closure with
    | [(_, cc)] => (match K.lookup cc with
      | some ⟨_, _, .cell (some (.ref D)), _⟩ => decide (D = He.ga K "ExactRun")
      | _ => false)
    | _ => false) && (PySem.W.codeIn K fd.code d.qual && ((match fd.code with
    | .ref cda => (match K.lookup cda with
      | some ⟨_, _, .fields vs, _⟩ => (match (vs[2]? : Option Value) with
        | some (.str f _) => ((PB.main.file : PySem.Str) == f)
        | _ => false)
      | _ => false)
    | _ => false) && (match fd.defaults with
    | .none => true
    | _ => false)))
  | _ => false
theorem sf_ok {K : PySem.W.Frag} {d : Df} (e : fnSv K (d.ad K) = d.valS) (c : sfB K d = true) : ∃ cc cda fd, SFn PB K (d.ad K) cc cda (He.ga K "ExactRun") d.name d.qual d.params d.body d.scope fd ∧ fd.defaults = .none := by
  unfold fnSv at e
  unfold sfB at c
  split at c
  · rename_i oc od fd osl q
    rw [q] at e
    obtain ⟨n1, n2, n3, n4, n5, n6, n7, n8, n9, n10, n11, n12, n13, n14, n15⟩ := fd
    have e2 : @Eq FnQ (some (n1, n2, n3, n4, n5, n6, n7.map (fun z => z.1), n15)) (some (d.name, d.qual, d.params, .stmts d.body, d.scope, mainGlobals, ["__class__"], builtinsNs)) := e
    simp only [Option.some.injEq, Prod.mk.injEq] at e2
    obtain ⟨h1, h2, h3, h4, h5, h6, h7, h8⟩ := e2
    subst h1 h2 h3 h4 h5 h6 h8
    obtain ⟨c1, c⟩ := ba c
    obtain ⟨c2, c⟩ := ba c
    obtain ⟨c3, c4⟩ := ba c
    dsimp only at c1 c2 c3 c4
    match n7, h7, c1, q with
    | [(x, cc)], h7, c1, q =>
      have hx : x = "__class__" := (List.cons.inj h7).1
      subst hx
      cases n13 with
      | ref cda =>
        refine ⟨cc, cda, _, ⟨⟨oc, od, n8, n9, n10, n11, n12, n14, osl, rfl, q⟩, c2, ?_, ?_⟩, ?_⟩
        · dsimp only at c1
          split at c1
          · rename_i cl cld D csl e3
            rw [of_decide_eq_true c1] at e3
            exact ⟨cl, cld, csl, e3⟩
          · cases c1
        · dsimp only at c3
          split at c3
          · rename_i ccl cdd vs ccs e3
            split at c3
            · rename_i f tf e4
              exact ⟨ccl, cdd, vs, ccs, f, tf, e3, e4, c3⟩
            · cases c3
          · cases c3
        · cases n8 with
          | none => rfl
          | _ => cases c4
      | _ => cases c3
    | [], h7, c1, q => cases c1
    | _ :: _ :: _, h7, c1, q => cases c1
  · cases c
/-! ### defs -/
def fnA (K : PySem.W.Frag) (a : Addr) : He.FnW := match K.lookup a with
  | some ⟨_, _, .func fd, _⟩ => some (fd.name, fd.qualname, fd.params, fd.body, fd.scope, fd.globals, fd.closure, fd.builtins)
  | _ => none
def Df.val (d : Df) : He.FnW := some (d.name, d.qual, d.params, .stmts d.body, d.scope, mainGlobals, [], builtinsNs)
def Df.okB (K : PySem.W.Frag) (d : Df) : Bool := PySem.W.keepIn K (.ref (d.ad K)) && (match K.lookup (d.ad K) with
  | some ⟨_, _, .func fd, _⟩ => PySem.W.codeIn K fd.code d.qual && (He.dflB K fd.defaults (d.dvs K) && He.kwdB K fd.kwdefaults (d.kws K))
  | _ => false)
theorem Df.stands {K : PySem.W.Frag} {d : Df} (e : fnA K (d.ad K) = d.val) (c : d.okB K = true) : Stands K d := by
  obtain ⟨kp, c2⟩ := ba c
  unfold fnA at e
  split at c2
  · rename_i oc od fd osl q
    rw [q] at e
    obtain ⟨n1, n2, n3, n4, n5, n6, n7, n8, n9, n10, n11, n12, n13, n14, n15⟩ := fd
    have e2 : (some (n1, n2, n3, n4, n5, n6, n7, n15) : He.FnW) = some (d.name, d.qual, d.params, .stmts d.body, d.scope, mainGlobals, [], builtinsNs) := e
    simp only [Option.some.injEq, Prod.mk.injEq] at e2
    obtain ⟨h1, h2, h3, h4, h5, h6, h7, h8⟩ := e2
    subst h1 h2 h3 h4 h5 h6 h7 h8
    obtain ⟨k1, k2⟩ := ba c2
    obtain ⟨k3, k4⟩ := ba k2
    exact ⟨_, ⟨oc, od, n8, n9, n10, n11, n12, n13, n14, osl, rfl, q, k1, He.dflB_ok k3, He.kwdB_ok k4⟩, kp⟩
  · cases c2
/-! ### the part of the heap -/
def refsM (o : Obj) : List Addr := match o.data with
  | .dict es _ => es.toList.flatMap fun e => He.refV e.val
  | .func fd => He.refV fd.code ++ (He.refV fd.defaults ++ (He.refV fd.kwdefaults ++ fd.closure.map (·.2)))
  | .cls cd => [cd.ns]
  | .fields vs => (match o.cls with
    | .type n => (match n == "property" || n == "classmethod" with
      | true => vs.toList.flatMap He.refV
      | false => [])
    | _ => [])
  | _ => []
def nxtM (g : Addr → Option Obj) (l : List Addr) : List Addr := l.flatMap fun a => match g a with
  | some o => refsM o
  | none => []
def asM (g : Addr → Option Obj) : Nat → List Addr → List Addr
  | 0, l => l
  | n + 1, l => l ++ asM g n (nxtM g l)
def fs0 : List (PySem.W.Frag → Bool) := [(He.Fa.free "isinstance").ok,
  (He.Fa.free "int").ok,
  (He.Fa.free "bool").ok,
  (He.Fa.free "str").ok,
  (He.Fa.free "tuple").ok,
  (He.Fa.free "list").ok,
  (He.Fa.free "len").ok,
  (He.Fa.free "min").ok,
  (He.Fa.free "max").ok,
  (He.Fa.free "sum").ok,
  (He.Fa.free "enumerate").ok,
  (He.Fa.free "zip").ok,
  (He.Fa.free "range").ok,
  (He.Fa.free "sorted").ok,
  (He.Fa.free "set").ok,
  (He.Fa.free "all").ok,
  (He.Fa.free "abs").ok,
  (He.Fa.free "repr").ok,
  (He.Fa.free "super").ok,
  (He.Fa.int "MOST_LEVEL" 7).ok,
  (He.Fa.int "LEVELS" 8).ok,
  (He.Fa.int "MOST_VALUES" 8).ok,
  (He.Fa.int "MOST_IN_COMPONENT" 6).ok,
  (He.Fa.int "MOST_IN_SYSTEM" 24).ok,
  (He.Fa.str "ALL" "all").ok]
def fs1 : List (PySem.W.Frag → Bool) := [(He.Fa.str "CLEAN" "clean").ok,
  (He.Fa.str "NOTHING" "nothing").ok,
  (He.Fa.glo "KINDS").ok,
  (fun K => He.tupB K "KINDS" [.str "always", .str "max", .str "min", .str "sum", .str "turn", .str "choose"]),
  (He.Fa.glo "is_integer").ok,
  (He.Fa.glo "is_level").ok,
  (He.Fa.glo "is_function").ok,
  (He.Fa.glo "capped_sum").ok,
  (He.Fa.glo "turned").ok,
  (He.Fa.glo "reach_among").ok,
  (He.Fa.glo "all_cells").ok,
  (He.Fa.glo "reach").ok,
  (He.Fa.glo "dependents").ok,
  (He.Fa.glo "unordered_components").ok,
  (He.Fa.glo "leads_outside").ok,
  (He.Fa.glo "components_among").ok,
  (He.Fa.glo "components").ok,
  (He.Fa.glo "need_small_components").ok,
  (He.Fa.glo "need_fitting").ok,
  (He.Fa.glo "is_kept").ok,
  (He.Fa.glo "joined_taint").ok,
  (He.Fa.glo "are_operands").ok,
  (He.Fa.glo "is_cell").ok,
  (He.Fa.glo "_law_pen").ok,
  (He.Fa.glo "_law_draw").ok]
def fs2 : List (PySem.W.Frag → Bool) := [(He.Fa.glo "_law_some").ok,
  (He.Fa.glo "_law_function").ok,
  (He.Fa.glo "_law_cells").ok,
  (He.Fa.glo "_law_small").ok,
  (He.Fa.glo "_law_value").ok,
  (He.Fa.glo "_law_call").ok,
  (He.Fa.glo "_law_exact").ok,
  (He.Fa.glo "_law_reused_right").ok,
  (He.Fa.glo "_law_all_right").ok,
  (He.Fa.glo "_law_limited").ok,
  (He.Fa.glo "_law_asks").ok,
  (He.Fa.glo "_law_late_right").ok,
  (He.Fa.glo "law").ok,
  (He.Fa.glo "Run").ok,
  (He.Fa.glo "Memo").ok,
  (He.Fa.glo "KeepClean").ok,
  (He.Fa.glo "ExactRun").ok,
  (He.Fa.glo "KeepExact").ok,
  (He.Fa.glo "System").ok,
  (He.Fa.glo "value_of").ok,
  (He.Fa.cls "Run").ok,
  (He.Fa.cls "KeepClean").ok,
  (He.Fa.cls "ExactRun").ok,
  (He.Fa.cls "KeepExact").ok,
  (He.Fa.cls "System").ok]
def fs3 : List (PySem.W.Frag → Bool) := [(He.Fa.noat "Run" "net").ok,
  (He.Fa.noat "Run" "board").ok,
  (He.Fa.noat "Run" "rule").ok,
  (He.Fa.noat "Run" "busy").ok,
  (He.Fa.noat "Run" "allowed").ok,
  (He.Fa.noat "Run" "begun").ok,
  (He.Fa.noat "Run" "happened").ok,
  (He.Fa.noat "ExactRun" "net").ok,
  (He.Fa.noat "ExactRun" "board").ok,
  (He.Fa.noat "ExactRun" "rule").ok,
  (He.Fa.noat "ExactRun" "busy").ok,
  (He.Fa.noat "ExactRun" "allowed").ok,
  (He.Fa.noat "ExactRun" "begun").ok,
  (He.Fa.noat "ExactRun" "happened").ok,
  (He.Fa.noat "ExactRun" "remembered").ok,
  (He.Fa.noat "ExactRun" "gathered").ok,
  (He.Fa.noat "KeepClean" "present").ok,
  (He.Fa.noat "KeepClean" "stored").ok,
  (He.Fa.noat "KeepClean" "counted").ok,
  (He.Fa.noat "KeepClean" "latest").ok,
  (He.Fa.noat "KeepClean" "most").ok,
  (He.Fa.noat "KeepExact" "present").ok,
  (He.Fa.noat "KeepExact" "stored").ok,
  (He.Fa.noat "KeepExact" "counted").ok,
  (He.Fa.noat "KeepExact" "latest").ok]
def fs4 : List (PySem.W.Frag → Bool) := [(He.Fa.noat "KeepExact" "most").ok,
  (He.Fa.noat "System" "triples").ok,
  (methB "Run" "call" ("Run", some "call")),
  (methB "Run" "evaluate" ("Run", some "evaluate")),
  (methB "ExactRun" "call" ("Run", some "call")),
  (methB "ExactRun" "evaluate" ("ExactRun", some "evaluate")),
  (methB "ExactRun" "is_exact" ("ExactRun", some "is_exact")),
  (methB "KeepClean" "__eq__" ("Memo", some "__eq__")),
  (methB "KeepClean" "__len__" ("Memo", some "__len__")),
  (methB "KeepClean" "__repr__" ("KeepClean", some "__repr__")),
  (methB "KeepClean" "answers" ("Memo", some "answers")),
  (methB "KeepClean" "ask" ("Memo", some "ask")),
  (methB "KeepClean" "edit" ("Memo", some "edit")),
  (methB "KeepClean" "empty" ("Memo", some "empty")),
  (methB "KeepClean" "events" ("Memo", some "events")),
  (methB "KeepClean" "restore" ("Memo", some "restore")),
  (methB "KeepClean" "run" ("Memo", some "run")),
  (methB "KeepClean" "set_limit" ("Memo", some "set_limit")),
  (methB "KeepClean" "tried" ("Memo", some "tried")),
  (methB "KeepClean" "twin" ("Memo", some "twin")),
  (methB "KeepExact" "__eq__" ("Memo", some "__eq__")),
  (methB "KeepExact" "__len__" ("Memo", some "__len__")),
  (methB "KeepExact" "__repr__" ("KeepExact", some "__repr__")),
  (methB "KeepExact" "answers" ("Memo", some "answers")),
  (methB "KeepExact" "ask" ("Memo", some "ask"))]
def fs5 : List (PySem.W.Frag → Bool) := [(methB "KeepExact" "edit" ("Memo", some "edit")),
  (methB "KeepExact" "empty" ("KeepExact", some "empty")),
  (methB "KeepExact" "events" ("Memo", some "events")),
  (methB "KeepExact" "restore" ("Memo", some "restore")),
  (methB "KeepExact" "run" ("KeepExact", some "run")),
  (methB "KeepExact" "set_limit" ("Memo", some "set_limit")),
  (methB "KeepExact" "tried" ("Memo", some "tried")),
  (methB "KeepExact" "twin" ("Memo", some "twin")),
  (methB "System" "__eq__" ("System", some "__eq__")),
  (methB "System" "__len__" ("System", some "__len__")),
  (methB "System" "__repr__" ("System", some "__repr__")),
  (methB "System" "function" ("System", some "function")),
  (methB "System" "guess" ("System", some "guess")),
  (methB "System" "operands" ("System", some "operands")),
  (methB "System" "replaced" ("System", some "replaced")),
  (methB "System" "triple" ("System", some "triple")),
  (fun K => He.conB K "KeepClean" "POLICY" (.str "clean")),
  (propB "KeepClean" "table" d_Memo_table),
  (propB "KeepClean" "calls" d_Memo_calls),
  (propB "KeepClean" "most_calls" d_Memo_most_calls),
  (propB "KeepClean" "system" d_Memo_system),
  (fun K => He.conB K "KeepExact" "POLICY" (.str "clean")),
  (propB "KeepExact" "table" d_Memo_table),
  (propB "KeepExact" "calls" d_Memo_calls),
  (propB "KeepExact" "most_calls" d_Memo_most_calls)]
def fs6 : List (PySem.W.Frag → Bool) := [(propB "KeepExact" "system" d_Memo_system),
  (mkB "System" ("System", some "__init__")),
  (mkB "KeepClean" ("Memo", some "__init__")),
  (mkB "KeepExact" ("Memo", some "__init__")),
  (mkB "Run" ("Run", some "__init__")),
  (mkB "ExactRun" ("ExactRun", some "__init__")),
  cmB,
  cvB,
  (tyB "System"),
  (tyB "KeepClean"),
  (tyB "KeepExact"),
  (fun K => decide (PySem.W.kitOne K (.ref (He.ga K "System")) (.ref (He.ga K "System")) = some true)),
  (fun K => decide (PySem.W.kitOne K (.ref (He.ga K "KeepClean")) (.ref (He.ga K "Memo")) = some true)),
  (fun K => decide (PySem.W.kitOne K (.ref (He.ga K "KeepExact")) (.ref (He.ga K "Memo")) = some true)),
  (fun K => decide (PySem.W.kitOne K (.ref (He.ga K "KeepExact")) (.ref (He.ga K "KeepClean")) = some true)),
  (fun K => decide (PySem.W.kitOne K (.ref (He.ga K "KeepClean")) (.ref (He.ga K "KeepExact")) = some false)),
  (fun K => decide (He.ga K "Run" ≠ He.ga K "System")),
  (fun K => decide (He.ga K "ExactRun" ≠ He.ga K "System")),
  (fun K => decide (He.ga K "KeepClean" ≠ He.ga K "System")),
  (fun K => decide (He.ga K "KeepExact" ≠ He.ga K "System")),
  (He.Fa.glo "TooManyCalls").ok,
  tmFB,
  (fun K => xfB K (He.ga K "TooManyCalls")),
  (He.Fa.exm "TooManyCalls" "TooManyCalls" true).ok,
  (fun K => He.eqO (PySem.W.findIn K (.ref (He.ga K "KeepExact")) "__ne__") (some (some (.builtin "object.__ne__"))))]
def fs7 : List (PySem.W.Frag → Bool) := [(fun K => decide (He.ga K "KeepExact" ≠ He.ga K "KeepClean")),
  (fun K => decide (PySem.W.mroIn K (He.ga K "KeepExact") (.ref (He.ga K "KeepClean")) = some true)),
  (fun K => decide (PySem.W.mroIn K (He.ga K "KeepExact") (.type "object") = some true)),
  busyB,
  (fun K => PySem.W.notFirst K (He.ga K "System") (.ref (He.ga K "System"))),
  (fun K => PySem.W.notFirst K (He.ga K "KeepExact") (.ref (He.ga K "KeepClean")))]
def fsL : List (PySem.W.Frag → Bool) := fs0 ++ (fs1 ++ (fs2 ++ (fs3 ++ (fs4 ++ (fs5 ++ (fs6 ++ (fs7)))))))
def dl0 : List Df := [d_is_integer, d_is_level, d_is_function, d_capped_sum, d_turned, d_reach_among, d_all_cells, d_reach, d_dependents, d_unordered_components, d_leads_outside, d_components_among, d_components, d_need_small_components, d_need_fitting, d_is_kept, d_joined_taint, d_are_operands, d_is_cell, d__law_pen, d__law_draw, d__law_some, d__law_function, d__law_cells, d__law_small]
def dl1 : List Df := [d__law_value, d__law_call, d__law_exact, d__law_reused_right, d__law_all_right, d__law_limited, d__law_asks, d__law_late_right, d_law, d_value_of, d_Run_init, d_Run_call, d_Run_evaluate, d_Memo_init, d_Memo_system, d_Memo_table, d_Memo_calls, d_Memo_most_calls, d_Memo_set_limit, d_Memo_run, d_Memo_ask, d_Memo_twin, d_Memo_restore, d_Memo_tried, d_Memo_answers]
def dl2 : List Df := [d_Memo_events, d_Memo_edit, d_Memo_eq, d_KeepClean_repr, d_KeepExact_repr, d_KeepExact_run, d_KeepExact_empty, d_ExactRun_is_exact, d_System_init, d_System_of, d_System_triple, d_System_operands, d_System_function, d_System_guess, d_System_replaced, d_System_eq, d_System_len]
def dfL : List Df := dl0 ++ (dl1 ++ (dl2))
def names0 : List PySem.Str := ["MemoError", "InvalidCell", "InvalidLimit", "InvalidPolicy", "InvalidText", "MissingError", "NoCell", "SizeError", "TooManyCells", "LargeComponent", "TooManyCalls", "MOST_LEVEL", "LEVELS", "MOST_VALUES", "KINDS", "is_integer", "is_level", "is_function", "capped_sum", "turned"]
def names1 : List PySem.Str := ["value_of", "reach_among", "all_cells", "reach", "dependents", "unordered_components", "leads_outside", "components_among", "components", "ALL", "CLEAN", "NOTHING", "POLICIES", "MOST_IN_COMPONENT", "need_policy", "need_small_components", "need_few_cells", "need_fitting", "is_kept", "joined_taint"]
def names2 : List PySem.Str := ["Run", "Memo", "KeepAll", "KeepClean", "KeepNothing", "empty_memo", "ExactRun", "KeepExact", "numbers_text", "function_text", "cell_line", "MOST_LINES", "MOST_DIGITS", "TABLE", "LEVEL_WORDS", "number_read", "levels_of", "function_read", "numbers_read", "operands_read"]
def names3 : List PySem.Str := ["cell_read", "cells_read", "MOST_IN_SYSTEM", "are_operands", "is_cell", "System", "_law_pen", "_law_draw", "_law_some", "_law_function", "_law_cells", "_law_small", "_law_value", "_law_call", "_law_exact", "_law_reused_right", "_law_all_right", "_law_limited", "_law_asks", "_law_late_right"]
def names : List PySem.Str := names0 ++ (names1 ++ (names2 ++ (names3)))
end KW
/-! The head: what the top leaves, read by a Hook. -/
namespace KW
open PySem PySem.Spec PyProof.Rows L2 KR K19
def dfA : List Df := dfL ++ [d_tm]
def spL : List Df := [dOf ("ExactRun", some "__init__") "__init__" "ExactRun.__init__" (inClass (top 53) 0), dOf ("ExactRun", some "evaluate") "evaluate" "ExactRun.evaluate" (inClass (top 53) 2)]
abbrev AlM : Type := Bool × List He.FnW × List FnQ
def obsM (K : PySem.W.Frag) : AlM := (fsL.all (fun f => f K) && (dfA.all (fun d => d.okB K) && (spL.all (fun d => sfB K d) && (supB "__init__" K && supB "evaluate" K))), dfA.map (fun d => fnA K (d.ad K)), spL.map (fun d => fnSv K (d.ad K)))
def valM : AlM := (true, dfA.map Df.val, spL.map Df.valS)
def SaysM (K : PySem.W.Frag) : Prop := obsM K = valM
def obsMG (g : Addr → Option Obj) : AlM := obsM (He.frG g (asM g 5 [mainGlobals] ++ [cStatics]))
def hkM : PySem.W.Hook where
  α := AlM
  obs := fun s => obsMG s.heap.get?
  val := fun _ => valM
  says := fun _ h => ∃ K : PySem.W.Frag, K.In h ∧ SaysM K
  of := fun _ _ e => ⟨_, He.frG_in, e⟩
  keeps := fun _ _ _ ⟨K, hK, c⟩ k => ⟨K, PySem.W.Frag.In.keeps hK k, c⟩
def obM (s : PySem.W.SharedT) : AlM := obsMG (HandSHeadRun.getT s)
theorem obM_eq (s : PySem.W.SharedT) : obM s = hkM.obs s.abs := by
  have e : HandSHeadRun.getT s = s.abs.heap.get? := funext (HandSHeadRun.getT_eq s)
  show obsMG (HandSHeadRun.getT s) = obsMG s.abs.heap.get?
  rw [e]
abbrev RM : PySem.W.OpenRow := PySem.W.OpenLaw.row PySem.Challenge.rw_busyguess_k19_whole_exact_results
abbrev qM : Program := PySem.W.view RM.prog [91]
theorem runM_eq (w : World) : HandSHeadRun.RunEq RM qM hkM obM 100000 names w := by
  intro os
  kernel_rfl
section
variable {K : PySem.W.Frag}
theorem SaysM.all (c : SaysM K) : fsL.all (fun f => f K) = true ∧ dfA.all (fun d => d.okB K) = true ∧ spL.all (fun d => sfB K d) = true ∧ supB "__init__" K = true ∧ supB "evaluate" K = true := by
  have c0 := congrArg (fun z : AlM => z.1) c
  obtain ⟨c1, c2⟩ := ba (show (fsL.all (fun f => f K) && (dfA.all (fun d => d.okB K) && (spL.all (fun d => sfB K d) && (supB "__init__" K && supB "evaluate" K)))) = true from c0)
  obtain ⟨c3, c4⟩ := ba c2
  obtain ⟨c5, c6⟩ := ba c4
  obtain ⟨c7, c8⟩ := ba c6
  exact ⟨c1, c3, c5, c7, c8⟩
theorem SaysM.fact (c : SaysM K) (i : Nat) {f : PySem.W.Frag → Bool} (h : fsL[i]? = some f) : f K = true := List.all_eq_true.mp c.all.1 f (List.mem_of_getElem? h)
theorem SaysM.def_ (c : SaysM K) (i : Nat) {d : Df} (h : dfA[i]? = some d) : Stands K d := by
  have e : dfA.map (fun d => fnA K (d.ad K)) = dfA.map Df.val := congrArg (fun z : AlM => z.2.1) c
  have e2 : (dfA.map (fun d => fnA K (d.ad K)))[i]? = (dfA.map Df.val)[i]? := by rw [e]
  rw [List.getElem?_map, List.getElem?_map, h] at e2
  exact Df.stands (Option.some.inj e2) (List.all_eq_true.mp c.all.2.1 d (List.mem_of_getElem? h))
theorem SaysM.sup_ (c : SaysM K) (i : Nat) {d : Df} (h : spL[i]? = some d) : ∃ cc cda fd, SFn PB K (d.ad K) cc cda (He.ga K "ExactRun") d.name d.qual d.params d.body d.scope fd ∧ fd.defaults = .none := by
  have e : spL.map (fun d => fnSv K (d.ad K)) = spL.map Df.valS := congrArg (fun z : AlM => z.2.2) c
  have e2 : (spL.map (fun d => fnSv K (d.ad K)))[i]? = (spL.map Df.valS)[i]? := by rw [e]
  rw [List.getElem?_map, List.getElem?_map, h] at e2
  exact sf_ok (Option.some.inj e2) (List.all_eq_true.mp c.all.2.2.1 d (List.mem_of_getElem? h))
end
end KW
/-! The walk, part 1: levels, functions, values. -/
namespace KW
open PySem PySem.Spec PyProof.Rows L2 KR K19
/-! ### values -/
abbrev zV (l : List Int) : List V := l.map V.int
abbrev lV (l : List Nat) : List V := l.map fun n => V.int (n : Nat)
def bV : Option Int → V
  | none => .non
  | some v => .int v
def kName : Kd → PySem.Str
  | .always => "always"
  | .max => "max"
  | .min => "min"
  | .sum => "sum"
  | .turn => "turn"
  | .choose => "choose"
/-- the tuple of a function -/
def FnV (K : PySem.W.Frag) (H : Hp) (a : Addr) : Fn → Prop
  | .lv k c => SqT K H a [.str (kName k), .int c]
  | .tb t => ∃ b, SqT K H a [.str "table", .ref b] ∧ SqT K H b (zV t)
/-- tuples stay -/
def TK (K : PySem.W.Frag) (H H' : Hp) : Prop := ∀ a xs, SqT K H a xs → SqT K H' a xs
theorem same_tk {K : PySem.W.Frag} {H H' : Hp} (h : Same H H') : TK K H H' := fun a xs q => by
  rcases q with (q | ⟨o, q⟩) | q
  · exact .inl (.inl (h _ _ q))
  · exact .inl (.inr ⟨o, h _ _ q⟩)
  · exact .inr q
theorem TK.refl (K : PySem.W.Frag) (H : Hp) : TK K H H := fun _ _ h => h
theorem TK.trans {K : PySem.W.Frag} {H H1 H2 : Hp} (a : TK K H H1) (b : TK K H1 H2) : TK K H H2 := fun c o h => b c o (a c o h)
theorem FnV.mono {K : PySem.W.Frag} {H H' : Hp} (h : TK K H H') {a : Addr} : ∀ {f : Fn}, FnV K H a f → FnV K H' a f
  | .lv _ _, q => h _ _ q
  | .tb _, ⟨b, q, r⟩ => ⟨b, h _ _ q, h _ _ r⟩
theorem same_upd {H : Hp} {p : Addr} {o : HO} (h : H p = none) : Same H (upd H p o) := fun b u q => by
  rw [upd_ne (ne_of_none q h)]; exact q
theorem sqT_upd {K : PySem.W.Frag} {H : Hp} {p : Addr} {xs : List V} : SqT K (upd H p (.tup xs)) p xs := .inl (.inl upd_same)
theorem sqL_upd {K : PySem.W.Frag} {H : Hp} {p : Addr} {xs : List V} : SqL K (upd H p (.lst xs)) p xs := .inl (.inl upd_same)
theorem iteFb {b : Bool} {A B : Prop} (e : b = false) (h : B) : if b = true then A else B := by
  rw [e]; exact iteF h
theorem iteTb {b : Bool} {A B : Prop} (e : b = true) (h : A) : if b = true then A else B := by
  rw [e]; exact iteT h
theorem q_bl {Q : VK} {H : Hp} {a b : Bool} (e : a = b) (h : Q (.bl b) H) : Q (.bl a) H := by rw [e]; exact h
theorem yes {te : TE} {σ : L2.St} {H : Hp} {K1 : VK} {K0 : Hp → Prop} (h : te σ H K1) : tYes σ H fun b H3 => if b = true then te σ H3 K1 else K0 H3 := iteT (B := K0 H) h
/-! ### comprehensions that only add to the heap -/
/-- all but D as it was -/
def But (D : Addr) (H H' : Hp) : Prop := ∀ a o, a ≠ D → H a = some o → H' a = some o
theorem lc_same {J : It} {n : Nat} {G : Hp → Prop} {Y : Nat → Hp → V → Hp → Prop} (wk : Walk J n G Y) {g : TG} {tt : TT} {te : TE} {vs : List Nat} {σ : L2.St} {H1 : Hp} {D : Addr} {Qd : Hp → Prop} (A : Nat → List V → Hp → Prop) (hD : H1 D = none) (hn : n < sizeLine)
    (hG : ∀ H, Same H1 H → G H) (h0 : ∀ H, Same H1 H → A 0 [] H)
    (hs : ∀ i x H H' acc (K1 : VK) (K0 : Hp → Prop), i < n → Same H1 H → H D = some (.lst acc) → acc.length ≤ i → A i acc H → Y i H x H' → (∀ y H4, Same H H4 → (∀ H5, But D H4 H5 → A (i + 1) (acc ++ [y]) H5) → K1 y H4) → (∀ H3, Same H H3 → A (i + 1) acc H3 → K0 H3) →
      g x (wipe σ vs) H' fun σ2 H2 => wipe σ2 vs = wipe σ vs ∧ tt σ2 H2 fun b H3 => if b = true then te σ2 H3 K1 else K0 H3)
    (hd : ∀ H acc, Same H1 H → H D = some (.lst acc) → A n acc H → Qd H) :
    ∃ W : Nat → Nat → Hp → Prop, (∃ m, W 0 m (upd H1 D (.lst []))) ∧ ∀ i m H, W i m H →
      (J.stop i H ∧ Qd H) ∨ (J.go i H ∧ ∃ Nx : Hp → Prop, (∀ H', Nx H' → ∃ m', m' < m ∧ W (i + 1) m' H') ∧ ∀ x H', J.yld i H x H' → g x (wipe σ vs) H' fun σ2 H2 => wipe σ2 vs = wipe σ vs ∧ tt σ2 H2 fun b H3 =>
        if b = true then te σ2 H3 fun y H4 => ∃ acc, H4 D = some (.lst acc) ∧ acc.length < sizeLine ∧ Nx (upd H4 D (.lst (acc ++ [y]))) else Nx H3) := by
  refine lc_it wk (fun i H => Same H1 H ∧ ∃ acc, H D = some (.lst acc) ∧ acc.length ≤ i ∧ A i acc H) ⟨same_upd hD, [], upd_same, Nat.le_refl _, h0 _ (same_upd hD)⟩ (fun i H _ p => hG H p.1) (fun i x H H' hi p y => ?_) (fun H p => ?_)
  · obtain ⟨s1, acc, ea, hl, ha⟩ := p
    refine hs i x H H' acc _ _ hi s1 ea hl ha y (fun y H4 q1 q2 => ?_) (fun H3 q1 q2 => ⟨Same.trans s1 q1, acc, q1 _ _ ea, Nat.le_succ_of_le hl, q2⟩)
    refine ⟨acc, q1 _ _ ea, by omega, fun a o h => ?_, acc ++ [y], upd_same, by rw [List.length_append]; exact Nat.succ_le_succ hl, q2 _ fun a o hne h => ?_⟩
    · have hne : a ≠ D := ne_of_none h hD
      rw [upd_ne hne]
      exact q1 _ _ (s1 _ _ h)
    · rw [upd_ne hne]; exact h
  · obtain ⟨s1, acc, ea, _, ha⟩ := p
    exact hd H acc s1 ea ha
section
variable {P : Program} {w : World} {K : PySem.W.Frag} {mg : PySem.Str → Option Value} {base : Heap}
theorem kit_ii {K : PySem.W.Frag} : PySem.W.kitOne K (.type "int") (.type "int") = some true := kit_ty (by decide +kernel)
theorem kit_ib {K : PySem.W.Frag} : PySem.W.kitOne K (.type "int") (.type "bool") = some false := kit_ty (by decide +kernel)
theorem kit_tt {K : PySem.W.Frag} : PySem.W.kitOne K (.type "tuple") (.type "tuple") = some true := kit_ty (by decide +kernel)
theorem kit_ss {K : PySem.W.Frag} : PySem.W.kitOne K (.type "str") (.type "str") = some true := kit_ty (by decide +kernel)
def spInt : Sp := fun vs H Q _ => ∃ i : Int, vs = [.int i] ∧ Q (.bl true) H
theorem ok_is_integer (T : Txt K mg) : FD P w K mg base CX0 1 d_is_integer ["thing"] spInt := by
  refine fd_of T.d_is_integer sc_is_integer (fun vs H Q E h => ?_) (fun cdv A outer s H vs Q E hr h => ?_)
  · obtain ⟨i, rfl, _⟩ := h
    rfl
  · obtain ⟨i, rfl, hQ⟩ := h
    refine ⟨_, (pss_one (ps_ret (pe_and (pe_callB (call_isiK' K rfl) rfl T.f_isinstance boot_isinstance (pa_cons (pv 0) (pa_cons (pe_bltn (v := .ty "int") rfl T.f_int boot_int rfl) pa_nil))) (pe_one (pe_not (pe_callB (call_isiK' K rfl) rfl T.f_isinstance boot_isinstance (pa_cons (pv 0) (pa_cons (pe_bltn (v := .ty "bool") rfl T.f_bool boot_bool rfl) pa_nil)))))))), ?_⟩
    refine ⟨_, rfl, _, _, _, _, true, rfl, .ty _, .base (.int _), kit_ii, true, rfl, iteT ?_⟩
    exact ⟨_, rfl, _, _, _, _, false, rfl, .ty _, .base (.int _), kit_ib, false, rfl, hQ⟩
def spLevel : Sp := fun vs H Q _ => ∃ i : Int, vs = [.int i] ∧ Lev i ∧ Q (.bl true) H
theorem ok_is_level (T : Txt K mg) : FD P w K mg base CX0 2 d_is_level ["thing"] spLevel := by
  refine fd_of T.d_is_level sc_is_level (fun vs H Q E h => ?_) (fun cdv A outer s H vs Q E hr h => ?_)
  · obtain ⟨i, rfl, _⟩ := h
    rfl
  · obtain ⟨i, rfl, hl, hQ⟩ := h
    refine ⟨_, (pss_one (ps_ret (pe_and (pe_def (ok_is_integer T) hr rfl T.g_is_integer rfl b_is_integer (pa_cons (pv 0) pa_nil)) (pe_one (pe_chain op_le op_le pe_int (pv 0) (pe_gint rfl T.g_MOST_LEVEL)))))), ?_⟩
    refine ⟨_, rfl, _, rfl, true, rfl, iteT ?_⟩
    refine ⟨_, rfl, _, _, rfl, rfl, _, rfl, ?_⟩
    rw [decide_eq_true hl.1]
    refine iteT ⟨_, _, rfl, rfl, ?_⟩
    show Q (.bl (decide (i ≤ 7))) H
    rwa [decide_eq_true hl.2]
/-- a tuple's type -/
theorem ty_tup {H : Hp} {a : Addr} {xs : List V} (h : SqT K H a xs) : TyX K H (.ref a) (.type "tuple") := by
  rcases h with (h | ⟨o, h⟩) | ⟨o, its, n, h, hc, _⟩
  · exact .base (.tup h)
  · exact .fTuple h
  · exact .kTuple h hc
theorem at_zero {α : Type} {x : α} {xs : List α} : atI (x :: xs) 0 = some x := by
  unfold atI ixN
  rw [if_pos (Int.le_refl 0), if_pos (by simp only [List.length_cons]; omega)]
  rfl
def spFun : Sp := fun vs H Q _ => ∃ (a : Addr) (f : Fn), vs = [.ref a] ∧ FnV K H a f ∧ FnOk1 f ∧ ∀ H', Same H H' → Q (.bl true) H'
theorem name_ne (k : Kd) : decide (V.str (kName k) = .str "table") = false := by cases k <;> decide +kernel
theorem name_in (k : Kd) : inV (.str (kName k)) [.str "always", .str "max", .str "min", .str "sum", .str "turn", .str "choose"] = true := by cases k <;> decide +kernel
theorem ok_is_function (T : Txt K mg) : FD P w K mg base CX0 3 d_is_function ["thing"] (spFun (K := K)) := by
  refine fd_of T.d_is_function sc_is_function (fun vs H Q E h => ?_) (fun cdv A outer s H vs Q E hr h => ?_)
  · obtain ⟨a, f, rfl, _⟩ := h
    rfl
  · obtain ⟨a, f, rfl, hf, ho, hQ⟩ := h
    refine ⟨_, (pss_cons (ps_if (PW.pt (pw_or (pt_not (pt_val (pe_callB (call_isiK' K rfl) rfl T.f_isinstance boot_isinstance (pa_cons (pv 0) (pa_cons (pe_bltn (v := .ty "tuple") rfl T.f_tuple boot_tuple rfl) pa_nil))))) (pw_or (pt_cmpR op_ne (pe_callB (call_lenK K rfl) rfl T.f_len boot_len (pa_cons (pv 0) pa_nil)) pe_int (nomark _)) (pw_or1 (pt_not (pt_val (pe_callB (call_isiK' K rfl) rfl T.f_isinstance boot_isinstance (pa_cons (pe_ix (ix_K K rfl) (pv 0) pe_int (fun _ _ => rfl)) (pa_cons (pe_bltn (v := .ty "str") rfl T.f_str boot_str rfl) pa_nil))))))))) (pss_one (ps_ret pe_bl)) pss_nil) (pss_cons (ps_asg (pv 0) (pg_tupK (n := 2) K rfl rfl (pgs_cons (pg_name (i := 1) sc_is_function.nd rfl (by first | exact Or.inl rfl | exact Or.inr rfl | exact Or.inr (Or.inl rfl))) (pgs_cons (pg_name (i := 2) sc_is_function.nd rfl (by first | exact Or.inl rfl | exact Or.inr rfl | exact Or.inr (Or.inl rfl))) pgs_nil)))) (pss_cons (ps_if (pt_cmpR op_eq (pv 1) pe_str (nomark _)) (pss_one (ps_ret (pe_and (pe_callB (call_isiK' K rfl) rfl T.f_isinstance boot_isinstance (pa_cons (pv 2) (pa_cons (pe_bltn (v := .ty "tuple") rfl T.f_tuple boot_tuple rfl) pa_nil))) (pe_and (pe_cmpR op_eq (pe_callB (call_lenK K rfl) rfl T.f_len boot_len (pa_cons (pv 2) pa_nil)) (pe_gint rfl T.g_LEVELS) (nomark _)) (pe_one (pe_callB (cr_allK K rfl rfl) rfl T.f_all boot_all (pa_cons (pe_lc rfl sc_is_function.nd (pi_tupK K rfl (pv 2)) (own := [("entry", 3)]) (blkOk_by (by kernel_rfl)) (fun _ _ _ _ _ => (pg_name (i := 3) sc_is_function.nd rfl (by first | exact Or.inl rfl | exact Or.inr rfl | exact Or.inr (Or.inl rfl)))) (fun _ _ _ _ _ => pts_nil) (fun _ _ _ _ _ => (pe_def (ok_is_level T) hr rfl T.g_is_level rfl b_is_level (pa_cons (pv 3) pa_nil)))) pa_nil))))))) pss_nil) (pss_one (ps_ret (pe_and (pe_cmpR (op_inK K rfl) (pv 1) (pe_gref rfl T.g_KINDS) rfl) (pe_one (pe_def (ok_is_level T) hr rfl T.g_is_level rfl b_is_level (pa_cons (pv 2) pa_nil))))))))), ?_⟩
    cases f with
    | lv k c =>
      refine ⟨_, rfl, _, _, _, _, true, rfl, .ty _, ty_tup hf, kit_tt, true, rfl, iteF ?_⟩
      refine ⟨_, rfl, _, _, rfl, .inr hf, rfl, _, rfl, iteF ?_⟩
      refine ⟨_, rfl, .inr (.inl ⟨_, _, _, _, rfl, rfl, hf, at_zero, ?_⟩)⟩
      refine ⟨_, _, _, _, true, rfl, .ty _, .base (.str _), kit_ss, true, rfl, iteF ?_⟩
      refine ⟨_, rfl, _, _, rfl, hf, rfl, _, _, rfl, _, _, rfl, rfl, ?_⟩
      refine ⟨_, rfl, rfl, _, rfl, iteFb (name_ne k) ?_⟩
      refine ⟨_, rfl, _, _, rfl, .inr (T.t_KINDS _), rfl, rfl, ?_⟩
      refine ⟨_, rfl, iteTb (name_in k) ?_⟩
      exact ⟨_, rfl, _, rfl, ho, hQ _ (Same.refl _)⟩
    | tb t =>
      obtain ⟨b, h3, h4⟩ := hf
      refine ⟨_, rfl, _, _, _, _, true, rfl, .ty _, ty_tup h3, kit_tt, true, rfl, iteF ?_⟩
      refine ⟨_, rfl, _, _, rfl, .inr h3, rfl, _, rfl, iteF ?_⟩
      refine ⟨_, rfl, .inr (.inl ⟨_, _, _, _, rfl, rfl, h3, at_zero, ?_⟩)⟩
      refine ⟨_, _, _, _, true, rfl, .ty _, .base (.str _), kit_ss, true, rfl, iteF ?_⟩
      refine ⟨_, rfl, _, _, rfl, h3, rfl, _, _, rfl, _, _, rfl, rfl, ?_⟩
      refine ⟨_, rfl, rfl, _, rfl, iteTb (by decide +kernel) ?_⟩
      refine ⟨_, rfl, _, _, _, _, true, rfl, .ty _, ty_tup h4, kit_tt, true, rfl, iteT ?_⟩
      have e8 : (zV t).length = 8 := by rw [List.length_map, ho.1]
      refine ⟨_, rfl, _, _, rfl, .inr h4, rfl, true, by rw [e8]; rfl, iteT ?_⟩
      refine ⟨_, rfl, _, rfl, ⟨_, h4⟩, fun D hD => ?_⟩
      refine lc_same walk_tup (fun i acc _ => acc = (List.replicate i true).map V.bl) hD (by rw [e8]; decide) (fun H' s => same_tk s _ _ h4) (fun _ _ => rfl) (fun i x H1 H2 acc K1 K0 hi s1 _ _ ea y k1 k0 => ?_) (fun H1 acc s1 ed ea => ?_)
      · obtain ⟨rfl, hx⟩ := y
        refine ⟨rfl, yes ⟨_, rfl, ?_⟩⟩
        obtain ⟨v, hv, rfl⟩ : ∃ v, v ∈ t ∧ V.int v = x := by
          rw [List.getElem?_map] at hx
          obtain ⟨v, h1, h2⟩ := Option.map_eq_some_iff.mp hx
          exact ⟨v, List.mem_of_getElem? h1, h2⟩
        refine ⟨_, rfl, ho.2 v hv, k1 _ _ (Same.refl _) fun H5 _ => ?_⟩
        rw [ea, List.replicate_succ', List.map_append]
        rfl
      · refine ⟨_, _, rfl, .inl (.inl (by rw [ed, ea])), ?_⟩
        refine q_bl ?_ (hQ _ s1)
        rw [List.all_replicate]
        split <;> rfl
/-- a list or tuple of ints -/
def Ints (K : PySem.W.Frag) (H : Hp) (a : Addr) (ns : List Int) : Prop := SqL K H a (zV ns) ∨ SqT K H a (zV ns)
def spCapped : Sp := fun vs H Q _ => ∃ (a : Addr) (ns : List Int), vs = [.ref a] ∧ Ints K H a ns ∧ Q (.int (cap ns.sum)) H
theorem ok_capped_sum (T : Txt K mg) : FD P w K mg base CX0 1 d_capped_sum ["values"] (spCapped (K := K)) := by
  refine fd_of T.d_capped_sum sc_capped_sum (fun vs H Q E h => ?_) (fun cdv A outer s H vs Q E hr h => ?_)
  · obtain ⟨a, f, rfl, _⟩ := h
    rfl
  · obtain ⟨a, ns, rfl, hs, hQ⟩ := h
    refine ⟨_, (pss_one (ps_ret (pe_callB (call_min2 rfl) rfl T.f_min boot_min (pa_cons (pe_gint rfl T.g_MOST_LEVEL) (pa_cons (pe_callB (cr_sumA rfl) rfl T.f_sum boot_sum (pa_cons (pv 0) pa_nil)) pa_nil))))), ?_⟩
    refine ⟨_, rfl, _, _, rfl, hs, ?_⟩
    refine ⟨_, _, rfl, ?_⟩
    exact hQ
theorem wsum_snoc : ∀ (i : Nat) (l : List Int) (v : Int), wsum i (l ++ [v]) = wsum i l + ((i + l.length : Nat) + 1) * v
  | i, [], v => by simp [wsum]
  | i, x :: l, v => by
    rw [List.cons_append]
    unfold wsum
    rw [wsum_snoc (i + 1) l v, List.length_cons, show i + 1 + l.length = i + (l.length + 1) from by omega]
    omega
def spTurned : Sp := fun vs H Q _ => ∃ (c : Int) (a : Addr) (ns : List Int), vs = [.int c, .ref a] ∧ H a = some (.tup (zV ns)) ∧ ns.length ≤ 1000 ∧ (∀ v ∈ ns, Lev v) ∧ ∀ H', Same H H' → Q (.int ((c + wsum 0 ns) % 8)) H'
theorem ok_turned (T : Txt K mg) : FD P w K mg base CX0 1 d_turned ["start", "values"] spTurned := by
  refine fd_of T.d_turned sc_turned (fun vs H Q E h => ?_) (fun cdv A outer s H vs Q E hr h => ?_)
  · obtain ⟨c, a, f, rfl, _⟩ := h
    rfl
  · obtain ⟨c, a, ns, rfl, ha, hz, hl, hQ⟩ := h
    refine ⟨_, (pss_one (ps_ret (pe_op op_mod (pe_op op_add (pv 0) (pe_callB (cr_sumA rfl) rfl T.f_sum boot_sum (pa_cons (pe_lc rfl sc_turned.nd (pi_enumT rfl T.f_enumerate (pa_cons (pv 1) pa_nil)) (own := [("index", 2), ("value", 3)]) (blkOk_by (by kernel_rfl)) (fun _ _ _ _ _ => (pg_tupK (n := 2) K rfl rfl (pgs_cons (pg_name (i := 2) sc_turned.nd rfl (by first | exact Or.inl rfl | exact Or.inr rfl | exact Or.inr (Or.inl rfl))) (pgs_cons (pg_name (i := 3) sc_turned.nd rfl (by first | exact Or.inl rfl | exact Or.inr rfl | exact Or.inr (Or.inl rfl))) pgs_nil)))) (fun _ _ _ _ _ => pts_nil) (fun _ _ _ _ _ => (pe_op op_mul (pe_op op_add (pv 2) pe_int) (pv 3)))) pa_nil))) (pe_gint rfl T.g_LEVELS)))), ?_⟩
    refine ⟨_, rfl, _, rfl, _, _, rfl, ha, fun D hD => ?_⟩
    refine lc_same (walk_enumT (xs := zV ns)) (fun i acc _ => ∃ ms, acc = zV ms ∧ ms.sum = wsum 0 (ns.take i)) hD (Nat.lt_of_le_of_lt (by simpa using hz) (by decide)) (fun H' s1 => s1 _ _ ha) (fun _ _ => ⟨[], rfl, rfl⟩) (fun i x H1 H2 acc K1 K0 hi s1 _ _ ea y k1 k0 => ?_) (fun H1 acc s1 ed ea => ?_)
    · obtain ⟨T0, x0, y0, rfl, hT, rfl, e1, e2⟩ := y
      obtain ⟨ms, rfl, em⟩ := ea
      cases e1
      obtain ⟨v, hv, rfl⟩ : ∃ v, ns[i]? = some v ∧ V.int v = y0 := by
        have hx : (zV ns)[i]? = some y0 := e2
        rw [List.getElem?_map] at hx
        exact Option.map_eq_some_iff.mp hx
      refine ⟨_, _, rfl, sqT_upd, rfl, _, _, rfl, _, _, rfl, rfl, rfl, yes ?_⟩
      refine ⟨_, rfl, _, _, rfl, rfl, _, rfl, _, _, rfl, rfl, ?_, ?_⟩
      · have := hl v (List.mem_of_getElem? hv)
        exact .inr (by unfold Lev at this; omega)
      · have hi' : i < ns.length := by simpa using hi
        refine k1 _ _ (same_upd hT) fun H5 _ => ⟨ms ++ [((i : Int) + 1) * v], by simp [zV], ?_⟩
        have e3 : ns.take (i + 1) = ns.take i ++ [v] := by rw [List.take_add_one, hv]; rfl
        rw [e3, wsum_snoc, List.sum_append, em, List.length_take, Nat.min_eq_left (Nat.le_of_lt hi'), Nat.zero_add]
        simp
    · obtain ⟨ms, rfl, em⟩ := ea
      refine ⟨_, _, rfl, .inl (.inl (.inl ed)), _, _, rfl, rfl, _, _, rfl, rfl, (by decide : (0:Int) < 8), ?_⟩
      have e4 : ns.take (zV ns).length = ns := by rw [List.length_map]; exact List.take_length
      rw [em, e4]
      exact hQ _ s1
end
end KW
/-! The walk, part 2: value_of. -/
namespace KW
open PySem PySem.Spec PyProof.Rows L2 KR K19 StX
theorem hit1 {z x : PySem.Str} {t : TS} {r : List (PySem.Str × TS)} {D : Ends} {σ : L2.St} {H : Hp} (e : z = x) (h : t D σ H) : tCases z ((x, t) :: r) D σ H := ⟨fun _ => h, fun n => absurd e n⟩
theorem skip1 {z x : PySem.Str} {t : TS} {r : List (PySem.Str × TS)} {D : Ends} {σ : L2.St} {H : Hp} (e : z ≠ x) (h : tCases z r D σ H) : tCases z ((x, t) :: r) D σ H := ⟨fun n => absurd n e, fun _ => h⟩
section
variable {P : Program} {w : World} {K : PySem.W.Frag} {mg : PySem.Str → Option Value} {base : Heap}
theorem b_value_of : BindS d_value_of ["function"] "values" := fun kV doc pm an cdv ct => bind_star1 (B := fun us => bindArgs (PySem.W.fnOf d_value_of.name d_value_of.qual d_value_of.params d_value_of.body d_value_of.scope .none kV doc pm an cdv ct) ⟨us, []⟩) (fun _ => rfl) (fun _ _ _ => rfl)
theorem sc_value_of : FnScope ["function", "values", "kind", "part"] ([("function" : PySem.Str)] ++ [("values" : PySem.Str)]) (defScope (top 22)) := ⟨rfl, rfl, rfl, by decide +kernel, rfl, by decide +kernel, by decide +kernel⟩
theorem maxL_spec : ∀ (l : List Int) (c : Int), maxL c l ∈ c :: l ∧ ∀ y ∈ c :: l, y ≤ maxL c l
  | [], c => ⟨List.mem_cons_self, fun y hy => by rw [List.mem_singleton.mp hy]; exact Int.le_refl _⟩
  | v :: r, c => by
    unfold maxL
    by_cases h : v > c
    · rw [if_pos h]
      obtain ⟨h1, h2⟩ := maxL_spec r v
      refine ⟨List.mem_cons_of_mem _ h1, fun y hy => ?_⟩
      rcases List.mem_cons.mp hy with rfl | hy
      · have := h2 v List.mem_cons_self; omega
      · exact h2 y hy
    · rw [if_neg h]
      obtain ⟨h1, h2⟩ := maxL_spec r c
      refine ⟨?_, fun y hy => ?_⟩
      · rcases List.mem_cons.mp h1 with e | e
        · rw [e]; exact List.mem_cons_self
        · exact List.mem_cons_of_mem _ (List.mem_cons_of_mem _ e)
      · rcases List.mem_cons.mp hy with rfl | hy
        · exact h2 _ List.mem_cons_self
        · rcases List.mem_cons.mp hy with rfl | hy
          · have := h2 c List.mem_cons_self; omega
          · exact h2 y (List.mem_cons_of_mem _ hy)
theorem minL_spec : ∀ (l : List Int) (c : Int), minL c l ∈ c :: l ∧ ∀ y ∈ c :: l, minL c l ≤ y
  | [], c => ⟨List.mem_cons_self, fun y hy => by rw [List.mem_singleton.mp hy]; exact Int.le_refl _⟩
  | v :: r, c => by
    unfold minL
    by_cases h : v < c
    · rw [if_pos h]
      obtain ⟨h1, h2⟩ := minL_spec r v
      refine ⟨List.mem_cons_of_mem _ h1, fun y hy => ?_⟩
      rcases List.mem_cons.mp hy with rfl | hy
      · have := h2 v List.mem_cons_self; omega
      · exact h2 y hy
    · rw [if_neg h]
      obtain ⟨h1, h2⟩ := minL_spec r c
      refine ⟨?_, fun y hy => ?_⟩
      · rcases List.mem_cons.mp h1 with e | e
        · rw [e]; exact List.mem_cons_self
        · exact List.mem_cons_of_mem _ (List.mem_cons_of_mem _ e)
      · rcases List.mem_cons.mp hy with rfl | hy
        · exact h2 _ List.mem_cons_self
        · rcases List.mem_cons.mp hy with rfl | hy
          · have := h2 c List.mem_cons_self; omega
          · exact h2 y (List.mem_cons_of_mem _ hy)
theorem sum_lev : ∀ {l : List Int}, (∀ v ∈ l, Lev v) → 0 ≤ l.sum
  | [], _ => Int.le_refl 0
  | v :: l, h => by
    have := sum_lev (l := l) fun x hx => h x (List.mem_cons_of_mem _ hx)
    have h0 := (h v List.mem_cons_self).1
    rw [List.sum_cons]; omega
theorem cap_lev {n : Int} (h : 0 ≤ n) : Lev (cap n) := by unfold cap Lev; split <;> omega
theorem at_nat {α : Type} {xs : List α} {i : Int} {x : α} (h0 : 0 ≤ i) (h : xs[i.toNat]? = some x) : atI xs i = some x := by
  have hl : i.toNat < xs.length := (List.getElem?_eq_some_iff.mp h).1
  unfold atI ixN
  rw [if_pos h0, if_pos (by omega)]
  exact h
theorem getD_at {l : List Int} {i : Nat} (h : i < l.length) : (zV l)[i]? = some (.int (l.getD i 0)) := by
  rw [List.getElem?_map, List.getElem?_eq_getElem h, List.getD_eq_getElem?_getD, List.getElem?_eq_getElem h]
  rfl
def spValue0 : Sp := fun vs H Q _ => ∃ (a p : Addr) (f : Fn) (ns : List Int), vs = [.ref a, .ref p] ∧ FnV K H a f ∧ FnOk1 f ∧ H p = some (.tup (zV ns)) ∧ ns.length ≤ 100 ∧ (∀ v ∈ ns, Lev v) ∧ ∀ H', Same H H' → Q (.int (valueOf f ns)) H'
def spValue : Sp := fun vs H Q _ => ∃ (a : Addr) (f : Fn) (ns : List Int), vs = .ref a :: zV ns ∧ FnV K H a f ∧ FnOk1 f ∧ ns.length ≤ 100 ∧ (∀ v ∈ ns, Lev v) ∧ ∀ H', Same H H' → Q (.int (valueOf f ns)) H'
theorem ok_value0 (T : Txt K mg) : FR P w K mg base CX0 3 d_value_of (fun vs H Q E => ∃ ws rest, vs = ws ++ rest ∧ ws.length = ["function"].length ∧ rest.length ≤ sizeLine ∧ ∀ p, H p = Option.none → spValue0 (K := K) (ws ++ [V.ref p]) (upd H p (.tup rest)) Q E) := by
  refine fr_of T.d_value_of sc_value_of rfl b_value_of (fun cdv A outer s H vs Q E hr h => ?_)
  obtain ⟨a, p, f, ns, rfl, hf, ho, hp, hz, hl, hQ⟩ := h
  refine ⟨_, (pss_cons (ps_asg (pv 0) (pg_tupK (n := 2) K rfl rfl (pgs_cons (pg_name (i := 2) sc_value_of.nd rfl (by first | exact Or.inl rfl | exact Or.inr rfl | exact Or.inr (Or.inl rfl))) (pgs_cons (pg_name (i := 3) sc_value_of.nd rfl (by first | exact Or.inl rfl | exact Or.inr rfl | exact Or.inr (Or.inl rfl))) pgs_nil)))) (pss_cons (ps_match (pv 2) (pcs_cons (pss_one (ps_ret (pv 3))) (pcs_cons (pss_one (ps_ret (pe_callB (cr_max rfl) rfl T.f_max boot_max (pa_cons (pe_lst (pa_cons (pv 3) (pa_star (pv 1) pa_nil))) pa_nil)))) (pcs_cons (pss_one (ps_ret (pe_callB (cr_min rfl) rfl T.f_min boot_min (pa_cons (pe_lst (pa_cons (pv 3) (pa_star (pv 1) pa_nil))) pa_nil)))) (pcs_cons (pss_one (ps_ret (pe_def (ok_capped_sum T) hr rfl T.g_capped_sum rfl b_capped_sum (pa_cons (pe_lst (pa_cons (pv 3) (pa_star (pv 1) pa_nil))) pa_nil)))) (pcs_cons (pss_one (ps_ret (pe_def (ok_turned T) hr rfl T.g_turned rfl b_turned (pa_cons (pv 3) (pa_cons (pv 1) pa_nil))))) (pcs_cons (pss_one (ps_ret (pe_ix (ix_K K rfl) (pv 3) (pe_def (ok_capped_sum T) hr rfl T.g_capped_sum rfl b_capped_sum (pa_cons (pv 1) pa_nil)) (fun _ _ => rfl)))) pcs_nil))))))) (pss_one (ps_ret (pe_ifExp (pt_cmpR op_gt (pe_callB (call_lenK K rfl) rfl T.f_len boot_len (pa_cons (pv 1) pa_nil)) pe_int (nomark _)) (pe_ix (ix_K K rfl) (pv 1) (pe_op op_mod (pe_ix (ix_K K rfl) (pv 1) pe_int (fun _ _ => rfl)) (pe_callB (call_lenK K rfl) rfl T.f_len boot_len (pa_cons (pv 1) pa_nil))) (fun _ _ => rfl)) (pv 3)))))), ?_⟩
  have hq : SqT K H p (zV ns) := .inl (.inl hp)
  have hs0 := sum_lev hl
  have lz : ∀ c : Int, (V.int c :: (zV ns ++ [])) = zV (c :: ns) := fun c => by simp [zV]
  have sq1 : ∀ (q : Addr) (c : Int), SqL K (upd H q (HO.lst (V.int c :: (zV ns ++ [])))) q (zV (c :: ns)) := fun q c => by rw [← lz]; exact sqL_upd
  cases f with
  | tb t =>
    obtain ⟨b, h1, h2⟩ := hf
    refine ⟨_, rfl, _, _, rfl, h1, rfl, _, _, rfl, _, _, rfl, rfl, ?_⟩
    refine ⟨_, rfl, _, rfl, ?_⟩
    refine skip1 (by decide +kernel) (skip1 (by decide +kernel) (skip1 (by decide +kernel) (skip1 (by decide +kernel) (skip1 (by decide +kernel) (hit1 rfl ?_)))))
    refine ⟨_, rfl, _, rfl, _, _, rfl, .inr hq, ?_⟩
    have cl := cap_lev hs0
    have e8 : (cap ns.sum).toNat < t.length := by rw [ho.1]; unfold Lev at cl; omega
    exact .inr (.inl ⟨_, _, _, _, rfl, rfl, h2, at_nat cl.1 (getD_at e8), hQ _ (Same.refl _)⟩)
  | lv k c =>
    refine ⟨_, rfl, _, _, rfl, hf, rfl, _, _, rfl, _, _, rfl, rfl, ?_⟩
    refine ⟨_, rfl, _, rfl, ?_⟩
    cases k with
    | always => exact hit1 rfl ⟨_, rfl, hQ _ (Same.refl _)⟩
    | max =>
      refine skip1 (by decide +kernel) (hit1 rfl ?_)
      refine ⟨_, rfl, _, rfl, _, _, rfl, .inl hq, (by show (V.int c :: (zV ns ++ [])).length ≤ _; rw [lz, List.length_map]; exact Nat.le_trans (Nat.succ_le_succ hz) (by decide)), fun q hn => ?_⟩
      refine ⟨q, c :: ns, rfl, sq1 q c, Nat.succ_pos _, fun m h1 h2 => ?_⟩
      obtain ⟨g1, g2⟩ := maxL_spec ns c
      have e : m = maxL c ns := Int.le_antisymm (g2 m h1) (h2 _ g1)
      rw [e]
      exact hQ _ (same_upd hn)
    | min =>
      refine skip1 (by decide +kernel) (skip1 (by decide +kernel) (hit1 rfl ?_))
      refine ⟨_, rfl, _, rfl, _, _, rfl, .inl hq, (by show (V.int c :: (zV ns ++ [])).length ≤ _; rw [lz, List.length_map]; exact Nat.le_trans (Nat.succ_le_succ hz) (by decide)), fun q hn => ?_⟩
      refine ⟨q, c :: ns, rfl, sq1 q c, Nat.succ_pos _, fun m h1 h2 => ?_⟩
      obtain ⟨g1, g2⟩ := minL_spec ns c
      have e : m = minL c ns := Int.le_antisymm (h2 _ g1) (g2 m h1)
      rw [e]
      exact hQ _ (same_upd hn)
    | sum =>
      refine skip1 (by decide +kernel) (skip1 (by decide +kernel) (skip1 (by decide +kernel) (hit1 rfl ?_)))
      refine ⟨_, rfl, _, rfl, _, _, rfl, .inl hq, (by show (V.int c :: (zV ns ++ [])).length ≤ _; rw [lz, List.length_map]; exact Nat.le_trans (Nat.succ_le_succ hz) (by decide)), fun q hn => ?_⟩
      refine ⟨q, c :: ns, rfl, Or.inl (sq1 q c), ?_⟩
      rw [List.sum_cons]
      exact hQ _ (same_upd hn)
    | turn =>
      refine skip1 (by decide +kernel) (skip1 (by decide +kernel) (skip1 (by decide +kernel) (skip1 (by decide +kernel) (hit1 rfl ?_))))
      exact ⟨_, rfl, _, rfl, c, p, ns, rfl, hp, Nat.le_trans hz (by decide), hl, hQ⟩
    | choose =>
      refine skip1 (by decide +kernel) (skip1 (by decide +kernel) (skip1 (by decide +kernel) (skip1 (by decide +kernel) (skip1 (by decide +kernel) (skip1 (by decide +kernel) ?_)))))
      refine ⟨_, rfl, _, _, rfl, .inr hq, _, _, rfl, rfl, _, rfl, ?_⟩
      cases ns with
      | nil => exact iteF ⟨_, rfl, hQ _ (Same.refl _)⟩
      | cons v r =>
        have e : decide ((0 : Int) < ((zV (v :: r)).length : Nat)) = true := decide_eq_true (by simp only [List.length_map, List.length_cons]; omega)
        refine iteTb e ?_
        have hlen : ((zV (v :: r)).length : Int) = ((v :: r).length : Nat) := by rw [List.length_map]
        have hpos : (0 : Int) < ((zV (v :: r)).length : Nat) := by rw [hlen, List.length_cons]; omega
        refine ⟨_, rfl, _, rfl, .inr (.inl ⟨_, _, _, _, rfl, rfl, hq, at_zero, ?_⟩)⟩
        refine ⟨_, rfl, _, _, rfl, .inr hq, _, _, rfl, rfl, hpos, ?_⟩
        have h1 := Int.emod_nonneg v (show ((zV (v :: r)).length : Int) ≠ 0 by omega)
        have h2 := Int.emod_lt_of_pos v hpos
        have hi : (v % ((zV (v :: r)).length : Int)).toNat < (v :: r).length := by rw [hlen] at h1 h2 ⊢; omega
        refine .inr (.inl ⟨_, _, _, _, rfl, rfl, hq, at_nat h1 (getD_at hi), ?_⟩)
        rw [hlen]
        exact hQ _ (Same.refl _)
theorem FR.imp {P : Program} {w : World} {K : PySem.W.Frag} {mg : PySem.Str → Option Value} {base : Heap} {CX : CXT} {k : Nat} {d : Df} {sp sp' : Sp} (F : FR P w K mg base CX k d sp) (h : ∀ vs H Q E, sp' vs H Q E → sp vs H Q E) : FR P w K mg base CX k d sp' :=
  ⟨fun A outer s H us vs Q E hr he hv hs => F.fn A outer s H us vs Q E hr he hv (h _ _ _ _ hs), F.kp⟩
theorem ok_value_of (T : Txt K mg) : FR P w K mg base CX0 3 d_value_of (spValue (K := K)) := (ok_value0 T).imp fun vs H Q E ⟨a, f, ns, e, hf, ho, hz, hl, hQ⟩ =>
  ⟨[.ref a], zV ns, e, rfl, by rw [List.length_map]; exact Nat.le_trans hz (by decide), fun p hp => ⟨a, p, f, ns, rfl, hf.mono (same_tk (same_upd hp)), ho, upd_same, hz, hl, fun H' s => hQ H' (Same.trans (same_upd hp) s)⟩⟩
end
end KW
/-! The walk, part 3: systems read. -/
namespace KW
open PySem PySem.Spec PyProof.Rows L2 KR K19 StX
/-! ### what stays -/
def Stb (K : PySem.W.Frag) : HO → Prop
  | .tup _ => True
  | .frz _ (.tup _) => True
  | .ins C _ _ => C = He.ga K "System"
  | _ => False
def SK (K : PySem.W.Frag) (H H' : Hp) : Prop := ∀ a o, Stb K o → H a = some o → H' a = some o
theorem SK.refl (K : PySem.W.Frag) (H : Hp) : SK K H H := fun _ _ _ h => h
theorem SK.trans {K : PySem.W.Frag} {H H1 H2 : Hp} (a : SK K H H1) (b : SK K H1 H2) : SK K H H2 := fun c o s h => b c o s (a c o s h)
theorem SK.tk {K : PySem.W.Frag} {H H' : Hp} (h : SK K H H') : TK K H H' := fun a xs q => by
  rcases q with (q | ⟨o, q⟩) | q
  · exact .inl (.inl (h _ _ trivial q))
  · exact .inl (.inr ⟨o, h _ _ trivial q⟩)
  · exact .inr q
theorem same_sk {K : PySem.W.Frag} {H H' : Hp} (h : Same H H') : SK K H H' := fun a o _ q => h a o q
theorem SK.upd {K : PySem.W.Frag} {H : Hp} {a : Addr} {o u : HO} (h : H a = some u) (n : ¬ Stb K u) : SK K H (upd H a o) := fun b v s q => by
  rw [upd_ne (ne_of q h fun e => n (e ▸ s))]; exact q
/-- all but R as it was, tuples and systems in any case -/
structure Kp (K : PySem.W.Frag) (R : List Addr) (H H' : Hp) : Prop where
  sk : SK K H H'
  kp : ∀ a o, a ∉ R → H a = some o → H' a = some o
theorem Kp.refl (K : PySem.W.Frag) (R : List Addr) (H : Hp) : Kp K R H H := ⟨SK.refl K H, fun _ _ _ h => h⟩
theorem same_kp {K : PySem.W.Frag} {R : List Addr} {H H' : Hp} (h : Same H H') : Kp K R H H' := ⟨same_sk h, fun a o _ q => h a o q⟩
theorem Kp.same {K : PySem.W.Frag} {H H' : Hp} (h : Kp K [] H H') : Same H H' := fun a o q => h.kp a o (List.not_mem_nil) q
/-- R' lies in R, or is new -/
theorem Kp.trans {K : PySem.W.Frag} {R R' : List Addr} {H H1 H2 : Hp} (x : Kp K R H H1) (y : Kp K R' H1 H2) (h : ∀ a ∈ R', a ∈ R ∨ H a = none) : Kp K R H H2 :=
  ⟨x.sk.trans y.sk, fun a o n q => y.kp a o (fun m => (h a m).elim n fun e => by rw [q] at e; cases e) (x.kp a o n q)⟩
theorem Kp.trans1 {K : PySem.W.Frag} {R : List Addr} {H H1 H2 : Hp} (x : Kp K R H H1) (y : Kp K R H1 H2) : Kp K R H H2 := x.trans y fun _ m => .inl m
theorem Kp.mono {K : PySem.W.Frag} {R R' : List Addr} {H H1 : Hp} (x : Kp K R H H1) (h : ∀ a ∈ R, a ∈ R') : Kp K R' H H1 := ⟨x.sk, fun a o n q => x.kp a o (fun m => n (h a m)) q⟩
theorem Kp.upd {K : PySem.W.Frag} {R : List Addr} {H : Hp} {a : Addr} {o u : HO} (m : a ∈ R) (h : H a = some u) (n : ¬ Stb K u) : Kp K R H (upd H a o) :=
  ⟨.upd h n, fun b v nb q => by rw [upd_ne (by rintro rfl; exact nb m)]; exact q⟩
theorem Kp.new {K : PySem.W.Frag} {R : List Addr} {H : Hp} {a : Addr} {o : HO} (h : H a = none) : Kp K R H (L2.upd H a o) := same_kp (same_upd h)
/-! ### systems -/
def Trip (K : PySem.W.Frag) (H : Hp) (p : Addr) (c : Cell) : Prop := ∃ o f, H p = some (.tup [.ref o, .ref f, .int c.g]) ∧ SqT K H o (lV c.ops) ∧ FnV K H f c.fn
abbrev rV (ps : List Addr) : List V := ps.map V.ref
def Trips (K : PySem.W.Frag) (H : Hp) (ps : List Addr) (S : Sys) : Prop := ps.length = S.length ∧ ∀ i p, ps[i]? = some p → Trip K H p (S.at i)
def SysAt (K : PySem.W.Frag) (H : Hp) (a : Addr) (S : Sys) : Prop := ∃ dx t ps, H a = some (.ins (He.ga K "System") dx [("triples", .ref t)]) ∧ SqT K H t (rV ps) ∧ Trips K H ps S
theorem Trip.mono {K : PySem.W.Frag} {H H' : Hp} (h : SK K H H') {p : Addr} {c : Cell} : Trip K H p c → Trip K H' p c := fun ⟨o, f, h1, h2, h3⟩ => ⟨o, f, h _ _ trivial h1, h.tk _ _ h2, h3.mono h.tk⟩
theorem Trips.mono {K : PySem.W.Frag} {H H' : Hp} (h : SK K H H') {ps : List Addr} {S : Sys} : Trips K H ps S → Trips K H' ps S := fun ⟨h1, h2⟩ => ⟨h1, fun i p e => (h2 i p e).mono h⟩
theorem SysAt.mono {K : PySem.W.Frag} {H H' : Hp} (h : SK K H H') {a : Addr} {S : Sys} : SysAt K H a S → SysAt K H' a S := fun ⟨dx, t, ps, h1, h2, h3⟩ => ⟨dx, t, ps, h _ _ rfl h1, h.tk _ _ h2, h3.mono h⟩
section
variable {P : Program} {w : World} {K : PySem.W.Frag} {mg : PySem.Str → Option Value} {base : Heap}
def spTriple : Sp := fun vs H Q _ => ∃ (a : Addr) (S : Sys) (c : Nat), vs = [.ref a, .int c] ∧ SysAt K H a S ∧ c < S.length ∧ ∀ p, Trip K H p (S.at c) → Q (.ref p) H
theorem ok_System_triple (T : Txt K mg) : FD P w K mg base CX0 3 d_System_triple ["self", "cell"] (spTriple (K := K)) := by
  refine fd_of T.d_System_triple sc_System_triple (fun vs H Q E h => ?_) (fun cdv A outer s H vs Q E hr h => ?_)
  · obtain ⟨a, f, c, rfl, _⟩ := h
    rfl
  · obtain ⟨a, S, c, rfl, ⟨dx, t, ps, h1, h2, h3⟩, hc, hQ⟩ := h
    have hl : c < ps.length := by rw [h3.1]; exact hc
    have el : (rV ps).length = S.length := by rw [List.length_map]; exact h3.1
    refine ⟨_, (pss_cons (ps_if (PW.pt (pw_or (pt_not (pt_val (pe_def (ok_is_integer T) hr rfl T.g_is_integer rfl b_is_integer (pa_cons (pv 1) pa_nil)))) (pw_or1 (pt_not (pt_chain op_le op_lt pe_int (pv 1) (pe_callB (call_lenK K rfl) rfl T.f_len boot_len (pa_cons (pe_fldK K rfl (pv 0) rfl) pa_nil))))))) (pss_one ps_never) pss_nil) (pss_one (ps_ret (pe_ix (ix_K K rfl) (pe_fldK K rfl (pv 0) rfl) (pv 1) (fun _ _ => rfl))))), ?_⟩
    refine ⟨_, rfl, _, rfl, _, rfl, iteF ?_⟩
    refine ⟨_, rfl, _, _, rfl, rfl, true, congrArg V.bl (decide_eq_true (by omega : (0 : Int) ≤ c)), iteT ?_⟩
    refine ⟨_, rfl, a, _, dx, _, _, rfl, h1, T.c_System, T.n_System_triples, rfl, _, _, rfl, .inr h2, _, _, rfl, rfl, _, rfl, ?_⟩
    rw [decide_eq_true (by rw [el]; omega)]
    refine iteF ?_
    refine ⟨_, rfl, a, _, dx, _, _, rfl, h1, T.c_System, T.n_System_triples, rfl, _, rfl, .inr (.inl ⟨_, _, _, .ref ps[c], rfl, rfl, h2, at_nat (by omega) ?_, hQ _ (h3.2 c _ (List.getElem?_eq_getElem hl))⟩)⟩
    rw [Int.toNat_natCast, List.getElem?_map, List.getElem?_eq_getElem hl]
    rfl
theorem at_one {α : Type} {x y : α} {xs : List α} : atI (x :: y :: xs) 1 = some y := at_nat (by decide) rfl
theorem at_two {α : Type} {x y z : α} {xs : List α} : atI (x :: y :: z :: xs) 2 = some z := at_nat (by decide) rfl
def spOperands : Sp := fun vs H Q _ => ∃ (a : Addr) (S : Sys) (c : Nat), vs = [.ref a, .int c] ∧ SysAt K H a S ∧ c < S.length ∧ ∀ p, SqT K H p (lV (S.at c).ops) → Q (.ref p) H
theorem ok_System_operands (T : Txt K mg) : FD P w K mg base CX0 4 d_System_operands ["self", "cell"] (spOperands (K := K)) := by
  refine fd_of T.d_System_operands sc_System_operands (fun vs H Q E h => ?_) (fun cdv A outer s H vs Q E hr h => ?_)
  · obtain ⟨a, f, c, rfl, _⟩ := h
    rfl
  · obtain ⟨a, S, c, rfl, hs, hc, hQ⟩ := h
    refine ⟨_, (pss_one (ps_ret (pe_ix (ix_K K rfl) (pe_mdX (ok_System_triple T) hr pass0 T.c_System T.m_System_triple rfl b_System_triple (pv 0) (pa_cons (pv 1) pa_nil)) pe_int (fun _ _ => rfl)))), ?_⟩
    have ⟨dx, t, ps, h1, _⟩ := hs
    refine ⟨_, rfl, a, dx, _, rfl, h1, rfl, _, rfl, a, S, c, rfl, hs, hc, fun p ⟨o, f, hp, ho, hf⟩ => ?_⟩
    exact .inr (.inl ⟨_, _, _, _, rfl, rfl, .inl (.inl hp), at_zero, hQ _ ho⟩)
def spFunction : Sp := fun vs H Q _ => ∃ (a : Addr) (S : Sys) (c : Nat), vs = [.ref a, .int c] ∧ SysAt K H a S ∧ c < S.length ∧ ∀ p, FnV K H p (S.at c).fn → Q (.ref p) H
theorem ok_System_function (T : Txt K mg) : FD P w K mg base CX0 4 d_System_function ["self", "cell"] (spFunction (K := K)) := by
  refine fd_of T.d_System_function sc_System_function (fun vs H Q E h => ?_) (fun cdv A outer s H vs Q E hr h => ?_)
  · obtain ⟨a, f, c, rfl, _⟩ := h
    rfl
  · obtain ⟨a, S, c, rfl, hs, hc, hQ⟩ := h
    refine ⟨_, (pss_one (ps_ret (pe_ix (ix_K K rfl) (pe_mdX (ok_System_triple T) hr pass0 T.c_System T.m_System_triple rfl b_System_triple (pv 0) (pa_cons (pv 1) pa_nil)) pe_int (fun _ _ => rfl)))), ?_⟩
    have ⟨dx, t, ps, h1, _⟩ := hs
    refine ⟨_, rfl, a, dx, _, rfl, h1, rfl, _, rfl, a, S, c, rfl, hs, hc, fun p ⟨o, f, hp, ho, hf⟩ => ?_⟩
    exact .inr (.inl ⟨_, _, _, _, rfl, rfl, .inl (.inl hp), at_one, hQ _ hf⟩)
def spGuess : Sp := fun vs H Q _ => ∃ (a : Addr) (S : Sys) (c : Nat), vs = [.ref a, .int c] ∧ SysAt K H a S ∧ c < S.length ∧ Q (.int (S.at c).g) H
theorem ok_System_guess (T : Txt K mg) : FD P w K mg base CX0 4 d_System_guess ["self", "cell"] (spGuess (K := K)) := by
  refine fd_of T.d_System_guess sc_System_guess (fun vs H Q E h => ?_) (fun cdv A outer s H vs Q E hr h => ?_)
  · obtain ⟨a, f, c, rfl, _⟩ := h
    rfl
  · obtain ⟨a, S, c, rfl, hs, hc, hQ⟩ := h
    refine ⟨_, (pss_one (ps_ret (pe_ix (ix_K K rfl) (pe_mdX (ok_System_triple T) hr pass0 T.c_System T.m_System_triple rfl b_System_triple (pv 0) (pa_cons (pv 1) pa_nil)) pe_int (fun _ _ => rfl)))), ?_⟩
    have ⟨dx, t, ps, h1, _⟩ := hs
    refine ⟨_, rfl, a, dx, _, rfl, h1, rfl, _, rfl, a, S, c, rfl, hs, hc, fun p ⟨o, f, hp, ho, hf⟩ => ?_⟩
    exact .inr (.inl ⟨_, _, _, _, rfl, rfl, .inl (.inl hp), at_two, hQ⟩)
def spSysLen : Sp := fun vs H Q _ => ∃ (a : Addr) (S : Sys), vs = [.ref a] ∧ SysAt K H a S ∧ Q (.int S.length) H
theorem ok_System_len (T : Txt K mg) : FD P w K mg base CX0 1 d_System_len ["self"] (spSysLen (K := K)) := by
  refine fd_of T.d_System_len sc_System_len (fun vs H Q E h => ?_) (fun cdv A outer s H vs Q E hr h => ?_)
  · obtain ⟨a, S, rfl, _⟩ := h
    rfl
  · obtain ⟨a, S, rfl, ⟨dx, t, ps, h1, h2, h3⟩, hQ⟩ := h
    refine ⟨_, (pss_one (ps_ret (pe_callB (call_lenK K rfl) rfl T.f_len boot_len (pa_cons (pe_fldK K rfl (pv 0) rfl) pa_nil)))), ?_⟩
    refine ⟨_, rfl, a, _, dx, _, _, rfl, h1, T.c_System, T.n_System_triples, rfl, _, _, rfl, .inr h2, ?_⟩
    have el : (rV ps).length = S.length := by rw [List.length_map]; exact h3.1
    rw [el]
    exact hQ
end
end KW
/-! The walk, part 4: data compared; what a cell reaches. -/
namespace KW
open PySem PySem.Spec PyProof.Rows L2 KR K19 StX
/-! ### data without bools: == is equality -/
mutual
def nb : PyData → Bool
  | .none => true
  | .int _ => true
  | .str _ => true
  | .list xs => nbA xs
  | .tuple xs => nbA xs
  | .bool _ => false
  | .dict _ => false
def nbA : List PyData → Bool
  | [] => true
  | x :: xs => nb x && nbA xs
end
mutual
theorem eqv_of : ∀ (a b : PyData), nb a = true → nb b = true → PyData.eqv a b = true → a = b
  | .none, b, _, hb, h => by cases b <;> first | rfl | (simp [PyData.eqv] at h)
  | .int i, b, _, hb, h => by cases b <;> simp_all [PyData.eqv, nb]
  | .str x, b, _, hb, h => by cases b <;> simp_all [PyData.eqv, nb]
  | .list xs, b, ha, hb, h => by
    cases b with
    | list ys =>
      rw [nb] at ha hb
      rw [PyData.eqv] at h
      rw [eqvA_of xs ys ha hb h]
    | _ => simp [PyData.eqv] at h
  | .tuple xs, b, ha, hb, h => by
    cases b with
    | tuple ys =>
      rw [nb] at ha hb
      rw [PyData.eqv] at h
      rw [eqvA_of xs ys ha hb h]
    | _ => simp [PyData.eqv] at h
  | .bool _, _, h, _, _ => by simp [nb] at h
  | .dict _, _, h, _, _ => by simp [nb] at h
theorem eqvA_of : ∀ (a b : List PyData), nbA a = true → nbA b = true → PyData.eqvAll a b = true → a = b
  | [], [], _, _, _ => rfl
  | [], _ :: _, _, _, h => by simp [PyData.eqvAll] at h
  | _ :: _, [], _, _, h => by simp [PyData.eqvAll] at h
  | x :: xs, y :: ys, ha, hb, h => by
    rw [nbA, Bool.and_eq_true] at ha hb
    rw [PyData.eqvAll, Bool.and_eq_true] at h
    rw [eqv_of x y ha.1 hb.1 h.1, eqvA_of xs ys ha.2 hb.2 h.2]
end
theorem eqv_eq {a b : PyData} (ha : nb a = true) (hb : nb b = true) (hc : a.canLay0 = true) : PyData.eqv a b = true ↔ a = b :=
  ⟨eqv_of a b ha hb, fun e => by rw [← e]; exact SeqAt.eqv_refl a hc⟩
abbrev dN (n : Nat) : PyData := .int n
abbrev dL (l : List Nat) : PyData := .list (l.map dN)
abbrev dT (l : List Nat) : PyData := .tuple (l.map dN)
theorem nbA_ints : ∀ l : List Nat, nbA (l.map dN) = true
  | [] => rfl
  | x :: l => by rw [List.map_cons, nbA, nbA_ints l]; rfl
theorem cl_ints : ∀ l : List Nat, PyData.canLayAll0 (l.map dN) = true
  | [] => rfl
  | x :: l => by rw [List.map_cons, PyData.canLayAll0, cl_ints l]; rfl
theorem dp_ints : ∀ l : List Nat, PyData.depthAll (l.map dN) = 0
  | [] => rfl
  | x :: l => by rw [List.map_cons, PyData.depthAll, dp_ints l]; rfl
theorem dpAll_ints {K : PySem.W.Frag} {H : Hp} : ∀ l : List Nat, DpAll K H (lV l) (l.map dN)
  | [] => .nil
  | x :: l => .cons (.int _) (dpAll_ints l)
theorem dp_lst {K : PySem.W.Frag} {H : Hp} {a : Addr} {l : List Nat} (h : SqL K H a (lV l)) : Dp K H (.ref a) (dL l) := .lst h (dpAll_ints l)
theorem dp_tup {K : PySem.W.Frag} {H : Hp} {a : Addr} {l : List Nat} (h : SqT K H a (lV l)) : Dp K H (.ref a) (dT l) := .tup h (dpAll_ints l)
theorem sh_dL (l : List Nat) : SeqAt.shaped (dL l) = true := by
  unfold SeqAt.shaped
  rw [PyData.canLay0, cl_ints, PyData.depth, dp_ints]; rfl
theorem sh_dT (l : List Nat) : SeqAt.shaped (dT l) = true := by
  unfold SeqAt.shaped
  rw [PyData.canLay0, cl_ints, PyData.depth, dp_ints]; rfl
theorem dN_inj {l m : List Nat} (h : l.map dN = m.map dN) : l = m := by
  induction l generalizing m with
  | nil => cases m with
    | nil => rfl
    | cons => simp at h
  | cons x l ih => cases m with
    | nil => simp at h
    | cons y m =>
      rw [List.map_cons, List.map_cons, List.cons.injEq] at h
      rw [ih h.2]
      have := h.1
      simp only [dN, PyData.int.injEq] at this
      rw [Int.ofNat.inj this]
theorem eqv_dL {l m : List Nat} : PyData.eqv (dL l) (dL m) = decide (l = m) := by
  by_cases h : l = m
  · rw [decide_eq_true h, h]
    exact SeqAt.eqv_refl _ (by rw [PyData.canLay0]; exact cl_ints m)
  · rw [decide_eq_false h]
    cases e : PyData.eqv (dL l) (dL m) with
    | false => rfl
    | true =>
      have := eqv_of _ _ (by rw [nb]; exact nbA_ints l) (by rw [nb]; exact nbA_ints m) e
      rw [PyData.list.injEq] at this
      exact absurd (dN_inj this) h
theorem eqv_dT {l m : List Nat} : PyData.eqv (dT l) (dT m) = decide (l = m) := by
  by_cases h : l = m
  · rw [decide_eq_true h, h]
    exact SeqAt.eqv_refl _ (by rw [PyData.canLay0]; exact cl_ints m)
  · rw [decide_eq_false h]
    cases e : PyData.eqv (dT l) (dT m) with
    | false => rfl
    | true =>
      have := eqv_of _ _ (by rw [nb]; exact nbA_ints l) (by rw [nb]; exact nbA_ints m) e
      rw [PyData.tuple.injEq] at this
      exact absurd (dN_inj this) h
theorem lV_app (l m : List Nat) : lV (l ++ m) = lV l ++ lV m := List.map_append
theorem inV_nat {c : Nat} {l : List Nat} : inV (.int c) (lV l) = decide (c ∈ l) := by
  unfold inV
  induction l with
  | nil => simp
  | cons x l ih =>
    rw [show lV (x :: l) = .int (x : Nat) :: lV l from rfl, List.any_cons, ih]
    show (((x : Int) == (c : Int)) || _) = _
    by_cases h : c = x
    · subst h; simp
    · have : ((x : Int) == (c : Int)) = false := by simp; omega
      rw [this]; simp [h]
theorem flat_nat (l : List Nat) : (lV l).all flatV = true := by rw [List.all_map]; exact List.all_eq_true.mpr fun _ _ => rfl
section
variable {P : Program} {w : World} {K : PySem.W.Frag} {mg : PySem.Str → Option Value} {base : Heap}
theorem Room.u64 {k : Nat} {A : Around} (r : Room k A) : A.units + 64 < cLine := by have := r.un; omega
theorem same_trans_upd {H H' : Hp} {p : Addr} {o : HO} (s : Same H H') (h : H p = none) : Same H (upd H' p o) := fun b u q => by
  rw [upd_ne (ne_of_none q h)]; exact s b u q
def lenAt (H : Hp) (a : Addr) : Nat := match H a with
  | some (.lst xs) => xs.length
  | _ => 0
def NL (K : PySem.W.Frag) (H : Hp) (a : Addr) (l : List Nat) : Prop := SqL K H a (lV l) ∨ SqT K H a (lV l)
def spReachA : Sp := fun vs H Q _ => ∃ (a cs : Addr) (S : Sys) (rk : Nat → Nat) (bs c : Nat), vs = [.ref a, .int c, .ref cs] ∧ SysAt K H a S ∧ SysOk S rk bs ∧ NL K H cs (List.range S.length) ∧ c < S.length ∧
  ∀ p H' F, Same H H' → H p = none → H' p = some (.lst (lV F)) → F.Nodup → (∀ x, x ∈ F ↔ Rch S c x) → Q (.ref p) H'
theorem ok_reach_among (T : Txt K mg) : FD P w K mg base CX0 5 d_reach_among ["system", "cell", "cells"] (spReachA (K := K)) := by
  refine fd_of T.d_reach_among sc_reach_among (fun vs H Q E h => ?_) (fun cdv A outer s H vs Q E hr h => ?_)
  · obtain ⟨a, cs, S, rk, bs, c, rfl, _⟩ := h
    rfl
  · obtain ⟨a, cs, S, rk, bs, c, rfl, hs, ok, hcs, hc, hQ⟩ := h
    have hu := Room.u64 hr
    refine ⟨_, (pss_cons (ps_set (i := 3) sc_reach_among.nd rfl (by first | exact Or.inl rfl | exact Or.inr rfl | exact Or.inr (Or.inl rfl)) (pe_lst pa_nil)) (pss_cons (ps_set (i := 4) sc_reach_among.nd rfl (by first | exact Or.inl rfl | exact Or.inr rfl | exact Or.inr (Or.inl rfl)) (pe_lst (pa_cons (pv 1) pa_nil))) (pss_cons (ps_while PassesOwn.never (pt_cmpR (op_neDK K rfl hu) (pv 4) (pe_lst pa_nil) (nomark _)) (pss_cons (ps_set (i := 5) sc_reach_among.nd rfl (by first | exact Or.inl rfl | exact Or.inr rfl | exact Or.inr (Or.inl rfl)) (pe_bm0 PySem.F.plainAttrs_list PySem.F.slot_list_pop PySem.F.type_list_pop mt_pop (pv 4))) (pss_one (ps_if (pt_cmpR (op_ninK K rfl) (pv 5) (pv 3) rfl) (pss_cons (ps_expr (pe_bm PySem.F.plainAttrs_list PySem.F.slot_list_append PySem.F.type_list_append mt_append (pv 3) (pa_cons (pv 5) pa_nil))) (pss_one (ps_expr (pe_bm PySem.F.plainAttrs_list PySem.F.slot_list_extend PySem.F.type_list_extend mt_extend (pv 4) (pa_cons (pe_lc rfl sc_reach_among.nd (pi_tupK K rfl (pe_mdX (ok_System_operands T) hr pass0 T.c_System T.m_System_operands rfl b_System_operands (pv 0) (pa_cons (pv 5) pa_nil))) (own := [("operand", 6)]) (blkOk_by (by kernel_rfl)) (fun _ _ _ _ _ => (pg_name (i := 6) sc_reach_among.nd rfl (by first | exact Or.inl rfl | exact Or.inr rfl | exact Or.inr (Or.inl rfl)))) (fun _ _ _ _ _ => (pts_one (pt_cmpR (op_inK K rfl) (pv 6) (pv 2) rfl))) (fun _ _ _ _ _ => (pv 6))) pa_nil))))) pss_nil)))) (pss_one (ps_ret (pv 3)))))), ?_⟩
    have hsz : ∀ l : List Nat, l.length ≤ 1000 → (lV l).length < sizeLine := fun l h => by rw [List.length_map]; exact Nat.lt_of_le_of_lt h (by decide)
    have ⟨dx, t, ps, hs1, _⟩ := hs
    refine ⟨Nat.zero_le _, fun p hp => ?_⟩
    refine ⟨_, rfl, (by show 1 ≤ sizeLine; decide), fun q hq => ?_⟩
    have hpq : p ≠ q := fun e => by subst e; rw [upd_same] at hq; cases hq
    have hq0 : H q = none := by rw [← upd_ne (o := HO.lst []) (H := H) (Ne.symm hpq)]; exact hq
    refine while_by (fun σ H' => ∃ F Wt x6 x7, σ = [some (.ref a), some (.int c), some (.ref cs), some (.ref p), some (.ref q), x6, x7] ∧ Same H H' ∧ H' p = some (.lst (lV F)) ∧ H' q = some (.lst (lV Wt)) ∧ F.Nodup ∧ (∀ x ∈ F, Rch S c x) ∧ (∀ x ∈ Wt, Rch S c x) ∧
        (c ∈ F ∨ c ∈ Wt) ∧ (∀ x ∈ F, ∀ o ∈ (S.at x).ops, o ∈ F ∨ o ∈ Wt) ∧ Wt.length ≤ 1 + 8 * F.length)
      (fun _ H' => (20 - lenAt H' p) * 10 + lenAt H' q) ?_ ?_ ?_
    · refine ⟨[], [c], none, none, rfl, same_trans_upd (same_upd hp) hq0, ?_, upd_same, List.nodup_nil, fun x hx => absurd hx List.not_mem_nil, fun x hx => ?_, .inr List.mem_cons_self, fun x hx => absurd hx List.not_mem_nil, Nat.le_refl 1⟩
      · rw [upd_ne hpq, upd_same]; rfl
      · rw [List.mem_singleton.mp hx]; exact .refl
    · rintro σ H1 ⟨F, Wt, x6, x7, rfl, s1, h1p, h1q, nd, rF, rW, rc, cl, wl⟩
      have fN : ∀ x ∈ F, x < S.length := fun x hx => (rF x hx).lt ok hc
      have fl : F.length ≤ 12 := Nat.le_trans (nodup_le nd fN) ok.len
      refine ⟨_, rfl, Nat.zero_le _, fun r hr0 => ?_⟩
      have s2 : Same H1 (upd H1 r (.lst [])) := same_upd hr0
      refine ⟨dL Wt, dL [], dp_lst (.inl (.inl (s2 _ _ h1q))), dp_lst (l := []) sqL_upd, sh_dL _, sh_dL _, _, rfl, ?_⟩
      rw [eqv_dL]
      rcases List.eq_nil_or_concat Wt with rfl | ⟨Wi, h, eW⟩
      · refine iteF ⟨_, rfl, ?_⟩
        refine hQ p _ F (Same.trans s1 s2) hp (s2 _ _ h1p) nd fun x => ⟨rF x, fun q => rch_of_closed (rc.elim id fun z => absurd z List.not_mem_nil) (fun y hy o ho => (cl y hy o ho).elim id fun z => absurd z List.not_mem_nil) q⟩
      · rw [List.concat_eq_append] at eW
        subst eW
        refine iteTb (by rw [decide_eq_false (by simp)]; rfl) ?_
        have e1 : lV (Wi ++ [h]) = lV Wi ++ [.int (h : Nat)] := by rw [lV_app]; rfl
        have hR : Rch S c h := rW h (by simp)
        have hN : h < S.length := hR.lt ok hc
        have wl' : Wi.length ≤ 8 * F.length := by rw [List.length_append] at wl; simp only [List.length_cons, List.length_nil] at wl; omega
        refine ⟨_, rfl, .inl ⟨rfl, _, .inl (.inl (s2 _ _ h1q))⟩, q, _, .int (h : Nat), rfl, rfl, s2 _ _ h1q, by rw [e1, List.length_append]; simp, ?_⟩
        rw [e1, List.dropLast_concat]
        generalize hH2 : upd (upd H1 r (.lst [])) q (.lst (lV Wi)) = H2
        have b2 : But q H1 H2 := fun b o nb z => by rw [← hH2, upd_ne nb]; exact s2 _ _ z
        have q2 : H2 q = some (.lst (lV Wi)) := by rw [← hH2]; exact upd_same
        have p2 : H2 p = some (.lst (lV F)) := b2 _ _ hpq h1p
        have s02 : Same H H2 := fun b o z => b2 _ _ (ne_of_none z hq0) (s1 _ _ z)
        have meas : lenAt H1 p = F.length ∧ lenAt H1 q = Wi.length + 1 := by
          unfold lenAt; rw [h1p, h1q]; simp
        refine ⟨_, rfl, _, rfl, p, _, rfl, .inl (.inl (.inl p2)), rfl, flat_nat F, _, rfl, ?_⟩
        rw [inV_nat]
        by_cases hF : h ∈ F
        · rw [decide_eq_true hF]
          refine iteF ⟨⟨F, Wi, _, _, rfl, s02, p2, q2, nd, rF, fun x hx => rW x (by simp [hx]), ?_, fun x hx o ho => ?_, by omega⟩, ?_⟩
          · rcases rc with k | k
            · exact .inl k
            · rcases List.mem_append.mp k with k | k
              · exact .inr k
              · rw [List.mem_singleton.mp k]; exact .inl hF
          · rcases cl x hx o ho with k | k
            · exact .inl k
            · rcases List.mem_append.mp k with k | k
              · exact .inr k
              · rw [List.mem_singleton.mp k]; exact .inl hF
          · rw [meas.1, meas.2]
            unfold lenAt
            rw [p2, q2]
            simp only [List.length_map]
            omega
        · rw [decide_eq_false hF]
          refine iteT ?_
          have nd' : (F ++ [h]).Nodup := List.nodup_append.mpr ⟨nd, (by simp), fun x hx y hy e => hF (by rw [List.mem_singleton.mp hy] at e; rw [← e]; exact hx)⟩
          have fN' : ∀ x ∈ F ++ [h], x < S.length := fun x hx => (List.mem_append.mp hx).elim (fN x) fun k => by rw [List.mem_singleton.mp k]; exact hN
          have fl' : (F ++ [h]).length ≤ 12 := Nat.le_trans (nodup_le nd' fN') ok.len
          have fl2 : F.length + 1 ≤ 12 := by rw [List.length_append] at fl'; exact fl'
          refine ⟨_, rfl, .inl ⟨rfl, _, .inl (.inl p2)⟩, _, rfl, p, _, _, rfl, rfl, p2, hsz F (by omega), ?_⟩
          generalize hH3 : upd H2 p (.lst (lV F ++ [.int (h : Nat)])) = H3
          have b3 : But p H2 H3 := fun b o nb z => by rw [← hH3, upd_ne nb]; exact z
          have p3 : H3 p = some (.lst (lV (F ++ [h]))) := by rw [← hH3, upd_same, lV_app]; rfl
          have q3 : H3 q = some (.lst (lV Wi)) := b3 _ _ (Ne.symm hpq) q2
          have s03 : Same H H3 := fun b o z => b3 _ _ (ne_of_none z hp) (s02 _ _ z)
          have hs3 : SysAt K H3 a S := hs.mono (same_sk s03)
          have ⟨dx3, t3, ps3, hs31, _⟩ := hs3
          refine ⟨_, rfl, .inl ⟨rfl, _, .inl (.inl q3)⟩, _, rfl, a, dx3, _, rfl, hs31, rfl, _, rfl, a, S, h, rfl, hs3, hN, fun o ho => ⟨o, rfl, ⟨_, ho⟩, fun D hD => ?_⟩⟩
          have o8 := ok.ops8 h hN
          have hcs3 : NL K H3 cs (List.range S.length) := hcs.elim (fun z => .inl (s03.seq z)) fun z => .inr (same_tk s03 _ _ z)
          refine lc_same walk_tup (fun i acc _ => acc = (lV (S.at h).ops).take i) hD (hsz _ (by omega)) (fun H' s => same_tk s _ _ ho) (fun _ _ => rfl) (fun i x H4 H5 acc K1 K0 hi s4 _ _ ea y k1 k0 => ?_) (fun H4 acc s4 ed ea => ?_)
          · obtain ⟨rfl, hx⟩ := y
            obtain ⟨v, hv, rfl⟩ : ∃ v, v ∈ (S.at h).ops ∧ V.int (v : Nat) = x := by
              rw [List.getElem?_map] at hx
              obtain ⟨v, h1, h2⟩ := Option.map_eq_some_iff.mp hx
              exact ⟨v, List.mem_of_getElem? h1, h2⟩
            have hvN := ok.opsL h hN v hv
            refine ⟨rfl, _, rfl, _, rfl, cs, lV (List.range S.length), rfl, ?_, rfl, flat_nat _, _, rfl, ?_⟩
            · exact hcs3.elim (fun z => .inl (s4.seq z)) fun z => .inr (same_tk s4 _ _ z)
            · rw [inV_nat, decide_eq_true (List.mem_range.mpr hvN)]
              refine iteT ⟨_, rfl, k1 _ _ (Same.refl _) fun H6 _ => ?_⟩
              rw [ea, List.take_add_one, hx]
              rfl
          · have e9 : acc = lV (S.at h).ops := by rw [ea]; exact List.take_length
            subst e9
            have hqD : q ≠ D := ne_of_none q3 hD
            have q4 := s4 _ _ q3
            refine ⟨q, D, _, _, rfl, rfl, q4, ed, ?_, ?_⟩
            · rw [List.length_map, List.length_map]
              exact Nat.le_trans (show _ ≤ 1000 by omega) (by decide)
            · generalize hH5 : upd H4 q (.lst (lV Wi ++ lV (S.at h).ops)) = H5
              have b5 : But q H4 H5 := fun b o nb z => by rw [← hH5, upd_ne nb]; exact z
              have q5 : H5 q = some (.lst (lV (Wi ++ (S.at h).ops))) := by rw [← hH5, upd_same, lV_app]
              have p5 : H5 p = some (.lst (lV (F ++ [h]))) := b5 _ _ hpq (s4 _ _ p3)
              refine ⟨⟨F ++ [h], Wi ++ (S.at h).ops, _, _, rfl, fun b o z => b5 _ _ (ne_of_none z hq0) (s4 _ _ (s03 _ _ z)), p5, q5, nd', fun x hx => ?_, fun x hx => ?_, ?_, fun x hx o ho => ?_, ?_⟩, ?_⟩
              · rcases List.mem_append.mp hx with k | k
                · exact rF x k
                · rw [List.mem_singleton.mp k]; exact hR
              · rcases List.mem_append.mp hx with k | k
                · exact rW x (by simp [k])
                · exact hR.step k
              · rcases rc with k | k
                · exact .inl (List.mem_append_left _ k)
                · rcases List.mem_append.mp k with k | k
                  · exact .inr (List.mem_append_left _ k)
                  · exact .inl (List.mem_append_right _ k)
              · rcases List.mem_append.mp hx with k | k
                · rcases cl x k o ho with k | k
                  · exact .inl (List.mem_append_left _ k)
                  · rcases List.mem_append.mp k with k | k
                    · exact .inr (List.mem_append_left _ k)
                    · exact .inl (List.mem_append_right _ k)
                · rw [List.mem_singleton.mp k] at ho
                  exact .inr (List.mem_append_right _ ho)
              · rw [List.length_append, List.length_append]
                simp only [List.length_cons, List.length_nil]
                omega
              · rw [meas.1, meas.2]
                unfold lenAt
                rw [p5, q5]
                simp only [List.length_map, List.length_append, List.length_cons, List.length_nil]
                omega
    · rintro σ H1 Q1 Q2 hQQ ⟨v, e, l0, k⟩
      refine ⟨v, e, l0, fun r hr0 => ?_⟩
      obtain ⟨d, e', k1, k2, k3, k4, b, eb, k5⟩ := k r hr0
      exact ⟨d, e', k1, k2, k3, k4, b, eb, hQQ _ _ k5⟩
end
end KW
/-! The walk, part 5: graphs. -/
namespace KW
open PySem PySem.Spec PyProof.Rows L2 KR K19 StX
section
variable {P : Program} {w : World} {K : PySem.W.Frag} {mg : PySem.Str → Option Value} {base : Heap}
theorem rgV_nat (n : Nat) : rgV 0 (n : Int) = lV (List.range n) := by
  unfold rgV
  rw [show ((n : Int) - 0).toNat = n from by omega]
  exact List.map_congr_left fun i _ => by rw [Int.zero_add]
def spAllCells : Sp := fun vs H Q _ => ∃ (a : Addr) (S : Sys), vs = [.ref a] ∧ SysAt K H a S ∧ S.length ≤ 12 ∧ ∀ q, H q = none → Q (.ref q) (upd H q (.tup (lV (List.range S.length))))
theorem ok_all_cells (T : Txt K mg) : FD P w K mg base CX0 3 d_all_cells ["system"] (spAllCells (K := K)) := by
  refine fd_of T.d_all_cells sc_all_cells (fun vs H Q E h => ?_) (fun cdv A outer s H vs Q E hr h => ?_)
  · obtain ⟨a, S, rfl, _⟩ := h
    rfl
  · obtain ⟨a, S, rfl, hs, hn, hQ⟩ := h
    refine ⟨_, (pss_one (ps_ret (pe_tupRg rfl rfl T.f_tuple (prg_1 rfl T.f_range (pe_callB (call_lenD (ok_System_len T) T.m_System_len hr rfl b_System_len) rfl T.f_len boot_len (pa_cons (pv 0) pa_nil)))))), ?_⟩
    have ⟨dx, t, ps, hs1, _⟩ := hs
    refine ⟨_, rfl, a, dx, _, rfl, hs1, a, S, rfl, hs, S.length, rfl, by omega, S.length, rfl, .of_le (by decide) (by omega) (by decide) (by omega), fun q hq => ?_⟩
    rw [rgV_nat]
    exact hQ q hq
abbrev iN (l : List Nat) : List Int := l.map fun n : Nat => (n : Int)
theorem nat_perm {F : List Nat} {ns : List Int} (h : ns.Perm (iN F)) : ∃ l : List Nat, zV ns = lV l ∧ l.Perm F := by
  refine ⟨ns.map Int.toNat, ?_, ?_⟩
  · show List.map V.int ns = List.map _ (List.map Int.toNat ns)
    rw [List.map_map]
    refine List.map_congr_left fun x hx => ?_
    obtain ⟨n, _, rfl⟩ := List.mem_map.mp (h.mem_iff.mp hx)
    rfl
  · have := h.map Int.toNat
    rw [List.map_map] at this
    simpa [Function.comp_def] using this
theorem zl (l : List Nat) : zV (iN l) = lV l := by unfold iN; show List.map V.int (List.map _ l) = _; rw [List.map_map]; rfl
def spReach : Sp := fun vs H Q _ => ∃ (a : Addr) (S : Sys) (rk : Nat → Nat) (bs c : Nat), vs = [.ref a, .int c] ∧ SysAt K H a S ∧ SysOk S rk bs ∧ c < S.length ∧
  ∀ p H' l, Same H H' → SqT K H' p (lV l) → (∀ x, x ∈ l ↔ Rch S c x) → Q (.ref p) H'
theorem ok_reach (T : Txt K mg) : FD P w K mg base CX0 6 d_reach ["system", "cell"] (spReach (K := K)) := by
  refine fd_of T.d_reach sc_reach (fun vs H Q E h => ?_) (fun cdv A outer s H vs Q E hr h => ?_)
  · obtain ⟨a, S, rk, bs, c, rfl, _⟩ := h
    rfl
  · obtain ⟨a, S, rk, bs, c, rfl, hs, ok, hc, hQ⟩ := h
    refine ⟨_, (pss_one (ps_ret (pe_callTy call_tuple_of rfl T.f_tuple boot_tuple (pa_cons (pe_callB cr_sortedI rfl T.f_sorted boot_sorted (pa_cons (pe_def (ok_reach_among T) hr rfl T.g_reach_among rfl b_reach_among (pa_cons (pv 0) (pa_cons (pv 1) (pa_cons (pe_def (ok_all_cells T) hr rfl T.g_all_cells rfl b_all_cells (pa_cons (pv 0) pa_nil)) pa_nil)))) pa_nil)) pa_nil)))), ?_⟩
    refine ⟨_, rfl, _, rfl, _, rfl, a, S, rfl, hs, ok.len, fun q hq => ?_⟩
    have s1 := same_upd (o := .tup (lV (List.range S.length))) hq
    refine ⟨a, q, S, rk, bs, c, rfl, hs.mono (same_sk s1), ok, .inr sqT_upd, hc, fun p H1 F s2 hp hp1 nd hF => ?_⟩
    refine ⟨p, iN F, rfl, .inl (.inl (by rw [hp1, ← zl])), fun ns p2 hperm hpw hp2 => ?_⟩
    obtain ⟨l, el, pl⟩ := nat_perm hperm
    refine ⟨p2, lV l, rfl, .inl ⟨by rw [← el]; exact sqL_upd, fun p3 hp3 => ?_⟩⟩
    exact hQ p3 _ l (Same.trans s1 (Same.trans s2 (Same.trans (same_upd hp2) (same_upd hp3)))) sqT_upd fun x => by rw [pl.mem_iff]; exact hF x
theorem take_range {n i : Nat} (h : i < n) : (List.range n).take (i + 1) = (List.range n).take i ++ [i] := by
  rw [List.take_add_one, List.getElem?_range h]; rfl
theorem nat_at {l : List Nat} {i : Nat} {x : V} (h : (lV l)[i]? = some x) : ∃ v, l[i]? = some v ∧ x = .int (v : Nat) := by
  rw [List.getElem?_map] at h
  obtain ⟨v, h1, h2⟩ := Option.map_eq_some_iff.mp h
  exact ⟨v, h1, h2.symm⟩
def spDependents : Sp := fun vs H Q _ => ∃ (a : Addr) (S : Sys) (rk : Nat → Nat) (bs c : Nat), vs = [.ref a, .int c] ∧ SysAt K H a S ∧ SysOk S rk bs ∧ c < S.length ∧
  ∀ p H', Same H H' → SqT K H' p (lV (deps S c)) → Q (.ref p) H'
theorem ok_dependents (T : Txt K mg) : FD P w K mg base CX0 7 d_dependents ["system", "cell"] (spDependents (K := K)) := by
  refine fd_of T.d_dependents sc_dependents (fun vs H Q E h => ?_) (fun cdv A outer s H vs Q E hr h => ?_)
  · obtain ⟨a, S, rk, bs, c, rfl, _⟩ := h
    rfl
  · obtain ⟨a, S, rk, bs, c, rfl, hs, ok, hc, hQ⟩ := h
    refine ⟨_, (pss_one (ps_ret (pe_callTy call_tuple_of rfl T.f_tuple boot_tuple (pa_cons (pe_lc rfl sc_dependents.nd (pi_tupK K rfl (pe_def (ok_all_cells T) hr rfl T.g_all_cells rfl b_all_cells (pa_cons (pv 0) pa_nil))) (own := [("other", 2)]) (blkOk_by (by kernel_rfl)) (fun _ _ _ _ _ => (pg_name (i := 2) sc_dependents.nd rfl (by first | exact Or.inl rfl | exact Or.inr rfl | exact Or.inr (Or.inl rfl)))) (fun _ _ _ _ _ => (pts_one (pt_cmpR (op_inK K rfl) (pv 1) (pe_def (ok_reach T) hr rfl T.g_reach rfl b_reach (pa_cons (pv 0) (pa_cons (pv 2) pa_nil))) rfl))) (fun _ _ _ _ _ => (pv 2))) pa_nil)))), ?_⟩
    refine ⟨_, rfl, a, S, rfl, hs, ok.len, fun q hq => ⟨q, rfl, ⟨_, sqT_upd⟩, fun D hD => ?_⟩⟩
    generalize hH1 : upd H q (.tup (lV (List.range S.length))) = H1 at *
    have s1 : Same H H1 := by rw [← hH1]; exact same_upd hq
    have q1 : SqT K H1 q (lV (List.range S.length)) := by rw [← hH1]; exact sqT_upd
    refine lc_same walk_tup (fun i acc _ => acc = lV (((List.range S.length).take i).filter fun o => rchB S o c)) hD (by rw [List.length_map, List.length_range]; exact Nat.lt_of_le_of_lt ok.len (by decide)) (fun H' s => same_tk s _ _ q1) (fun _ _ => rfl) (fun i x H4 H5 acc K1 K0 hi s4 _ _ ea y k1 k0 => ?_) (fun H4 acc s4 ed ea => ?_)
    · obtain ⟨rfl, hx⟩ := y
      have hi' : i < S.length := by simpa using hi
      obtain ⟨v, hv, rfl⟩ := nat_at hx
      rw [List.getElem?_range hi'] at hv
      obtain rfl := Option.some.inj hv
      refine ⟨rfl, _, rfl, _, rfl, _, rfl, a, S, rk, bs, i, rfl, hs.mono (same_sk (Same.trans s1 s4)), ok, hi', fun p H6 l s6 hp hl => ?_⟩
      refine ⟨p, lV l, rfl, .inr hp, rfl, flat_nat _, _, rfl, ?_⟩
      rw [inV_nat]
      have e1 : decide (c ∈ l) = rchB S i c := by
        cases e : rchB S i c with
        | true => exact decide_eq_true ((hl c).mpr (rchB_iff.mp e))
        | false => exact decide_eq_false fun k => by rw [rchB_iff.mpr ((hl c).mp k)] at e; cases e
      rw [e1]
      cases e : rchB S i c with
      | true =>
        refine iteT ⟨_, rfl, k1 _ _ s6 fun H7 _ => ?_⟩
        rw [ea, take_range hi', List.filter_append]
        simp [lV, e]
      | false =>
        refine iteF (k0 _ s6 ?_)
        rw [ea, take_range hi', List.filter_append]
        simp [e]
    · refine ⟨D, acc, rfl, .inl ⟨.inl (.inl ed), fun p hp => hQ p _ (Same.trans s1 (Same.trans s4 (same_upd hp))) ?_⟩⟩
      have e9 : acc = lV (deps S c) := by rw [ea, List.length_map, List.length_range, List.take_of_length_le (by rw [List.length_range]; exact Nat.le_refl _)]; rfl
      rw [← e9]
      exact sqT_upd
def spOutside : Sp := fun vs H Q _ => ∃ (a b l : Addr) (S : Sys) (rk : Nat → Nat) (bs : Nat) (C left : List Nat), vs = [.ref a, .ref b, .ref l] ∧ SysAt K H a S ∧ SysOk S rk bs ∧ SqT K H b (lV C) ∧ SqL K H l (lV left) ∧ (∀ x ∈ C, x < S.length) ∧
  ∀ H', Same H H' → Q (.bl (outside S C left)) H'
theorem ok_leads_outside (T : Txt K mg) : FD P w K mg base CX0 5 d_leads_outside ["system", "component", "cells"] (spOutside (K := K)) := by
  refine fd_of T.d_leads_outside sc_leads_outside (fun vs H Q E h => ?_) (fun cdv A outer s H vs Q E hr h => ?_)
  · obtain ⟨a, b, l, S, rk, bs, C, left, rfl, _⟩ := h
    rfl
  · obtain ⟨a, b, l, S, rk, bs, C, left, rfl, hs, ok, hb, hl, hC, hQ⟩ := h
    refine ⟨_, (pss_cons (ps_for PassesOwn.never rfl (pi_tupK K rfl (pv 1)) (pg_name (i := 3) sc_leads_outside.nd rfl (by first | exact Or.inl rfl | exact Or.inr rfl | exact Or.inr (Or.inl rfl))) (pss_one (ps_for PassesOwn.never rfl (pi_tupK K rfl (pe_mdX (ok_System_operands T) hr pass0 T.c_System T.m_System_operands rfl b_System_operands (pv 0) (pa_cons (pv 3) pa_nil))) (pg_name (i := 4) sc_leads_outside.nd rfl (by first | exact Or.inl rfl | exact Or.inr rfl | exact Or.inr (Or.inl rfl))) (pss_one (ps_if (PW.pt (pw_and (pt_cmpR (op_inK K rfl) (pv 4) (pv 2) rfl) (pw_and1 (pt_cmpR (op_ninK K rfl) (pv 4) (pv 1) rfl)))) (pss_one (ps_ret pe_bl)) pss_nil))))) (pss_one (ps_ret pe_bl))), ?_⟩
    have ⟨dx, t, ps, hs1, _⟩ := hs
    refine ⟨_, rfl, b, rfl, ⟨_, hb⟩, ?_⟩
    refine for_tup (fun i σ H' => H' = H ∧ (∃ x3 x4, σ = [some (.ref a), some (.ref b), some (.ref l), x3, x4]) ∧ outside S (C.take i) left = outside S (C.take i) left ∧ ∀ x ∈ C.take i, ∀ o ∈ (S.at x).ops, o ∈ left → o ∈ C) ⟨rfl, ⟨_, _, rfl⟩, rfl, fun x hx => by simp at hx⟩ (fun i σ H' _ p => by rw [p.1]; exact hb) (fun i x σ H' hx p => ?_) (fun σ H' p => ?_)
    · obtain ⟨rfl, ⟨x3, x4, rfl⟩, _, hno⟩ := p
      obtain ⟨v, hv, rfl⟩ := nat_at hx
      have hvC : v ∈ C := List.mem_of_getElem? hv
      refine ⟨_, rfl, a, dx, _, rfl, hs1, rfl, _, rfl, a, S, v, rfl, hs, hC v hvC, fun o ho => ⟨o, rfl, ⟨_, ho⟩, ?_⟩⟩
      refine for_tup (fun j σ H'' => H'' = H' ∧ (∃ x4, σ = [some (.ref a), some (.ref b), some (.ref l), some (.int (v : Nat)), x4]) ∧ ∀ y ∈ (S.at v).ops.take j, y ∈ left → y ∈ C) ⟨rfl, ⟨_, rfl⟩, fun x hx => by simp at hx⟩ (fun i σ H'' _ p => by rw [p.1]; exact ho) (fun j y σ H'' hy p => ?_) (fun σ H'' p => ?_)
      · obtain ⟨rfl, ⟨x4', rfl⟩, hno2⟩ := p
        obtain ⟨u, hu, rfl⟩ := nat_at hy
        refine ⟨_, rfl, _, rfl, l, lV left, rfl, .inl hl, rfl, flat_nat _, _, rfl, ?_⟩
        rw [inV_nat]
        have stepT : ∀ (h : u ∈ left → u ∈ C), ∀ y ∈ (S.at v).ops.take (j + 1), y ∈ left → y ∈ C := fun h y hy => by
          rw [List.take_add_one, hu] at hy
          rcases List.mem_append.mp hy with k | k
          · exact hno2 y k
          · rw [List.mem_singleton.mp k]; exact h
        by_cases h1 : u ∈ left
        · rw [decide_eq_true h1]
          refine iteT ⟨_, rfl, _, rfl, b, lV C, rfl, .inr hb, rfl, flat_nat _, _, rfl, ?_⟩
          rw [inV_nat]
          by_cases h2 : u ∈ C
          · rw [decide_eq_true h2]
            exact iteF ⟨rfl, ⟨_, rfl⟩, stepT fun _ => h2⟩
          · rw [decide_eq_false h2]
            refine iteT ?_
            have e : outside S C left = true := outside_iff.mpr ⟨v, hvC, u, List.mem_of_getElem? hu, h1, h2⟩
            rw [← e]
            exact hQ _ (Same.refl _)
        · rw [decide_eq_false h1]
          exact iteF ⟨rfl, ⟨_, rfl⟩, stepT fun z => absurd z h1⟩
      · obtain ⟨rfl, ⟨x4', rfl⟩, hno2⟩ := p
        refine ⟨rfl, ⟨_, _, rfl⟩, rfl, fun x hx => ?_⟩
        rw [List.take_add_one, hv] at hx
        rcases List.mem_append.mp hx with k | k
        · exact hno x k
        · rw [List.mem_singleton.mp k]
          rw [List.length_map, List.take_length] at hno2
          exact hno2
    · obtain ⟨rfl, ⟨x3, x4, rfl⟩, _, hno⟩ := p
      rw [List.length_map, List.take_length] at hno
      have e : outside S C left = false := by
        cases e : outside S C left with
        | false => rfl
        | true =>
          obtain ⟨x, hx, o, ho, h1, h2⟩ := outside_iff.mp e
          exact absurd (hno x hx o ho h1) h2
      have := hQ H' (Same.refl _)
      rw [e] at this
      exact this
end
end KW
/-! The walk, part 6: components. -/
namespace KW
open PySem PySem.Spec PyProof.Rows L2 KR K19 StX
section
variable {P : Program} {w : World} {K : PySem.W.Frag} {mg : PySem.Str → Option Value} {base : Heap}
theorem yesP {σ : L2.St} {H : Hp} {A : Bool → Hp → Prop} (h : A true H) : tYes σ H A := h
/-- tuples of cells -/
abbrev TupsAt (K : PySem.W.Frag) (H : Hp) (ps : List Addr) (Cs : List (List Nat)) : Prop := Paired (fun p C => SqT K H p (lV C)) ps Cs
theorem TupsAt.mono {H H' : Hp} (h : TK K H H') {ps : List Addr} {Cs : List (List Nat)} (t : TupsAt K H ps Cs) : TupsAt K H' ps Cs := Paired.mapP t fun _ _ q => h _ _ q
theorem paired_at {α β : Type} {F : α → β → Prop} : ∀ {l : List α} {m : List β}, Paired F l m → ∀ {i : Nat} {x : α}, l[i]? = some x → ∃ y, m[i]? = some y ∧ F x y
  | _, _, .nil, i, x, h => by simp at h
  | _, _, .cons r t, 0, x, h => ⟨_, rfl, by simp at h; rw [← h]; exact r⟩
  | _, _, .cons r t, i + 1, x, h => by
    obtain ⟨y, h1, h2⟩ := paired_at (i := i) t (by simpa using h)
    exact ⟨y, by simpa using h1, h2⟩
def ReachD (S : Sys) (H : Hp) (D : Addr) (i : Nat) : Prop := ∃ kvs : List (Key × V), H D = some (.dK kvs) ∧ kvs.length ≤ i ∧ ∀ j, j < i → ∃ p F, valV kvs (.inl (j : Int)) = some (.ref p) ∧ H p = some (.lst (lV F)) ∧ ∀ x, x ∈ F ↔ Rch S j x
theorem ReachD.mono {S : Sys} {H H' : Hp} {D : Addr} {i : Nat} (r : ReachD S H D i) (s : Same H H') : ReachD S H' D i := by
  obtain ⟨kvs, h1, h2, h3⟩ := r
  refine ⟨kvs, s _ _ h1, h2, fun j hj => ?_⟩
  obtain ⟨p, F, k1, k2, k3⟩ := h3 j hj
  exact ⟨p, F, k1, s _ _ k2, k3⟩
theorem rV_app (l m : List Addr) : rV (l ++ m) = rV l ++ rV m := List.map_append
theorem comp_head {S : Sys} {c : Nat} (hc : c < S.length) : ∃ h t, comp S c = h :: t := by
  cases e : comp S c with
  | nil => have := self_comp (S := S) hc; rw [e] at this; simp at this
  | cons h t => exact ⟨h, t, rfl⟩
def spUcomps : Sp := fun vs H Q _ => ∃ (a cs : Addr) (S : Sys) (rk : Nat → Nat) (bs : Nat), vs = [.ref a, .ref cs] ∧ SysAt K H a S ∧ SysOk S rk bs ∧ SqT K H cs (lV (List.range S.length)) ∧
  ∀ p H' fs, Same H H' → H p = none → H' p = some (.lst (rV fs)) → TupsAt K H' fs (ucomps S) → Q (.ref p) H'
theorem ok_unordered_components (T : Txt K mg) : FD P w K mg base CX0 6 d_unordered_components ["system", "cells"] (spUcomps (K := K)) := by
  refine fd_of T.d_unordered_components sc_unordered_components (fun vs H Q E h => ?_) (fun cdv A outer s H vs Q E hr h => ?_)
  · obtain ⟨a, cs, S, rk, bs, rfl, _⟩ := h
    rfl
  · obtain ⟨a, cs, S, rk, bs, rfl, hs, ok, hcs, hQ⟩ := h
    have hu1 := hu_of hr
    refine ⟨_, (pss_cons (ps_set (i := 2) sc_unordered_components.nd rfl (by first | exact Or.inl rfl | exact Or.inr rfl | exact Or.inr (Or.inl rfl)) (pe_dc rfl sc_unordered_components.nd (pi_tupK K rfl (pv 1)) (own := [("cell", 4)]) (blkOk_by (by kernel_rfl)) (fun _ _ _ _ _ => (pg_name (i := 4) sc_unordered_components.nd rfl (by first | exact Or.inl rfl | exact Or.inr rfl | exact Or.inr (Or.inl rfl)))) (fun _ _ _ _ _ => pts_nil) (fun _ _ _ _ _ => (pv 4)) (fun _ _ _ _ _ => (pe_def (ok_reach_among T) hr rfl T.g_reach_among rfl b_reach_among (pa_cons (pv 0) (pa_cons (pv 4) (pa_cons (pv 1) pa_nil))))))) (pss_cons (ps_set (i := 3) sc_unordered_components.nd rfl (by first | exact Or.inl rfl | exact Or.inr rfl | exact Or.inr (Or.inl rfl)) (pe_lst pa_nil)) (pss_cons (ps_for PassesOwn.never rfl (pi_tupK K rfl (pv 1)) (pg_name (i := 4) sc_unordered_components.nd rfl (by first | exact Or.inl rfl | exact Or.inr rfl | exact Or.inr (Or.inl rfl))) (pss_cons (ps_set (i := 5) sc_unordered_components.nd rfl (by first | exact Or.inl rfl | exact Or.inr rfl | exact Or.inr (Or.inl rfl)) (pe_callTy call_tuple_of rfl T.f_tuple boot_tuple (pa_cons (pe_lc rfl sc_unordered_components.nd (pi_tupK K rfl (pv 1)) (own := [("other", 6)]) (blkOk_by (by kernel_rfl)) (fun _ _ _ _ _ => (pg_name (i := 6) sc_unordered_components.nd rfl (by first | exact Or.inl rfl | exact Or.inr rfl | exact Or.inr (Or.inl rfl)))) (fun _ _ _ _ _ => (pts_one (PW.pt (pw_and (pt_cmpR (op_inK K rfl) (pv 6) (pe_dget hu1 (pv 2) (pv 4) (fun _ _ => rfl)) rfl) (pw_and1 (pt_cmpR (op_inK K rfl) (pv 4) (pe_dget hu1 (pv 2) (pv 6) (fun _ _ => rfl)) rfl)))))) (fun _ _ _ _ _ => (pv 6))) pa_nil))) (pss_one (ps_if (pt_cmpR op_eq (pe_ix (ix_K K rfl) (pv 5) pe_int (fun _ _ => rfl)) (pv 4) (nomark _)) (pss_one (ps_expr (pe_bm PySem.F.plainAttrs_list PySem.F.slot_list_append PySem.F.type_list_append mt_append (pv 3) (pa_cons (pv 5) pa_nil)))) pss_nil)))) (pss_one (ps_ret (pv 3)))))), ?_⟩
    have ln : (lV (List.range S.length)).length = S.length := by rw [List.length_map, List.length_range]
    have at_i : ∀ {i : Nat} {x : V}, (lV (List.range S.length))[i]? = some x → i < S.length ∧ x = .int (i : Nat) := fun {i x} hx => by
      obtain ⟨v, hv, rfl⟩ := nat_at hx
      have hi : i < S.length := by rw [← List.length_range (n := S.length)]; exact (List.getElem?_eq_some_iff.mp hv).1
      rw [List.getElem?_range hi] at hv
      exact ⟨hi, by rw [Option.some.inj hv]⟩
    have small : S.length < sizeLine := Nat.lt_of_le_of_lt ok.len (by decide)
    refine ⟨_, rfl, cs, rfl, ⟨_, hcs⟩, fun D hD => ?_⟩
    refine dc_tup (xs := lV (List.range S.length)) (fun i H' => Same H H' ∧ ReachD S H' D i) ⟨same_upd hD, [], upd_same, Nat.zero_le _, fun j hj => absurd hj (Nat.not_lt_zero _)⟩ (fun i H' _ p => same_tk p.1 _ _ hcs) (fun i x H' hx p => ?_) (fun H1 p1 => ?_)
    · obtain ⟨hi, rfl⟩ := at_i hx
      obtain ⟨s1, kvs, e1, l1, r1⟩ := p
      refine ⟨rfl, yesP (iteT ⟨_, rfl, ?_⟩)⟩
      refine ⟨_, rfl, _, rfl, _, rfl, a, cs, S, rk, bs, i, rfl, hs.mono (same_sk s1), ok, .inr (same_tk s1 _ _ hcs), hi, fun p H2 F s2 hp hp2 nd hF => ?_⟩
      have nk : ∀ j, j < i → ((.inl (j : Int)) : Key) ≠ .inl (i : Int) := fun j hj e => by
        have : (j : Int) = i := Sum.inl.inj e
        omega
      have pD : p ≠ D := fun e => by subst e; rw [hp] at e1; cases e1
      refine ⟨kvs, .inl (i : Int), rfl, s2 _ _ e1, Nat.lt_of_le_of_lt l1 (Nat.lt_trans hi small), same_trans_upd (Same.trans s1 s2) hD, putK kvs (.inl (i : Int)) (.ref p), upd_same, Nat.le_trans (length_putK _ _ _) (Nat.succ_le_succ l1), fun j hj => ?_⟩
      by_cases hji : j = i
      · subst hji
        exact ⟨p, F, by rw [valV_put, if_pos rfl], by rw [upd_ne pD]; exact hp2, hF⟩
      · have hj' : j < i := by omega
        obtain ⟨p', F', k1, k2, k3⟩ := r1 j hj'
        refine ⟨p', F', by rw [valV_put, if_neg (nk j hj')]; exact k1, ?_, k3⟩
        have : p' ≠ D := fun e => by subst e; rw [e1] at k2; cases k2
        rw [upd_ne this]
        exact s2 _ _ k2
    · rw [ln] at p1
      obtain ⟨s1, rd⟩ := p1
      refine ⟨Nat.zero_le _, fun p hp => ?_⟩
      have hp0 : H p = none := s1.free hp
      have nKey : ∀ {y : Key}, y ≠ y → False := fun h => h rfl
      have dget : ∀ {H' : Hp} {j : Nat}, j < S.length → ReachD S H' D S.length → ∃ q F, DGet H' D (.int (j : Nat)) (some (.ref q)) ∧ H' q = some (.lst (lV F)) ∧ ∀ x, x ∈ F ↔ Rch S j x := fun {H' j} hj r => by
        obtain ⟨kvs, h1, _, h3⟩ := r
        obtain ⟨q, F, k1, k2, k3⟩ := h3 j hj
        refine ⟨q, F, ?_, k2, k3⟩
        have := DGet.k (k := .inl (j : Int)) h1
        rw [k1] at this
        exact this
      refine ⟨_, rfl, cs, rfl, ⟨_, same_tk (Same.trans s1 (same_upd hp)) _ _ hcs⟩, ?_⟩
      refine for_tup (xs := lV (List.range S.length)) (fun i σ H' => (∃ x4 x5 x6, σ = [some (.ref a), some (.ref cs), some (.ref D), some (.ref p), x4, x5, x6]) ∧ Same H1 H' ∧ ∃ fs, H' p = some (.lst (rV fs)) ∧ fs.length ≤ i ∧ TupsAt K H' fs ((((List.range S.length).take i).filter fun c => (comp S c).head? == some c).map (comp S)))
        ⟨⟨_, _, _, rfl⟩, same_upd hp, [], upd_same, Nat.le_refl _, .nil⟩ (fun i σ H' _ q => same_tk (Same.trans s1 q.2.1) _ _ hcs) (fun i x σ H2 hx q => ?_) (fun σ H2 q => ?_)
      · obtain ⟨hi, rfl⟩ := at_i hx
        obtain ⟨⟨x4, x5, x6, rfl⟩, s12, fs, hfs, lfs, tfs⟩ := q
        have rd2 := rd.mono s12
        have s2 := Same.trans s1 s12
        refine ⟨_, rfl, cs, rfl, ⟨_, same_tk s2 _ _ hcs⟩, fun E1 hE1 => ?_⟩
        have hE0 : H E1 = none := s2.free hE1
        refine lc_same (walk_tup (xs := lV (List.range S.length))) (fun j acc _ => acc = lV (((List.range S.length).take j).filter fun o => rchB S i o && rchB S o i)) hE1 (by rw [ln]; exact small) (fun H' s => same_tk (Same.trans s2 s) _ _ hcs) (fun _ _ => rfl) (fun j y H3 H4 acc K1 K0 _ s3 _ _ ea yy k1 k0 => ?_) (fun H3 acc s3 ed ea => ?_)
        · obtain ⟨rfl, hy⟩ := yy
          obtain ⟨hj, rfl⟩ := at_i hy
          obtain ⟨q1, F1, g1, f1, m1⟩ := dget hi (rd2.mono s3)
          obtain ⟨q2, F2, g2, f2, m2⟩ := dget hj (rd2.mono s3)
          have b1 : decide (j ∈ F1) = rchB S i j := by
            cases e : rchB S i j with
            | true => exact decide_eq_true ((m1 j).mpr (rchB_iff.mp e))
            | false => exact decide_eq_false fun k => by rw [rchB_iff.mpr ((m1 j).mp k)] at e; cases e
          have b2 : decide (i ∈ F2) = rchB S j i := by
            cases e : rchB S j i with
            | true => exact decide_eq_true ((m2 i).mpr (rchB_iff.mp e))
            | false => exact decide_eq_false fun k => by rw [rchB_iff.mpr ((m2 i).mp k)] at e; cases e
          refine ⟨rfl, _, rfl, _, rfl, _, rfl, D, _, rfl, g1, q1, lV F1, rfl, .inl (.inl (.inl f1)), rfl, flat_nat _, _, rfl, ?_⟩
          rw [inV_nat, b1]
          cases e1 : rchB S i j with
          | false =>
            refine iteF (iteF (k0 _ (Same.refl _) ?_))
            rw [ea, take_range hj, List.filter_append]
            simp [e1]
          | true =>
            refine iteT ⟨_, rfl, _, rfl, _, rfl, D, _, rfl, g2, q2, lV F2, rfl, .inl (.inl (.inl f2)), rfl, flat_nat _, _, rfl, ?_⟩
            rw [inV_nat, b2]
            cases e2 : rchB S j i with
            | false =>
              refine iteF (k0 _ (Same.refl _) ?_)
              rw [ea, take_range hj, List.filter_append]
              simp [e1, e2]
            | true =>
              refine iteT ⟨_, rfl, k1 _ _ (Same.refl _) fun H7 _ => ?_⟩
              rw [ea, take_range hj, List.filter_append]
              simp [lV, e1, e2]
        · have e9 : acc = lV (comp S i) := by rw [ea, ln, List.take_of_length_le (by rw [List.length_range]; exact Nat.le_refl _)]; rfl
          subst e9
          refine ⟨E1, _, rfl, .inl ⟨.inl (.inl ed), fun q hq => ?_⟩⟩
          have s4 := same_upd (o := .tup (lV (comp S i))) hq
          have s24 : Same H2 (upd H3 q (.tup (lV (comp S i)))) := Same.trans s3 s4
          obtain ⟨h, t, eh⟩ := comp_head hi
          have q4 : SqT K (upd H3 q (.tup (lV (comp S i)))) q (.int (h : Nat) :: lV t) := by rw [eh]; exact sqT_upd
          refine ⟨_, rfl, .inr (.inl ⟨q, _, _, _, rfl, rfl, q4, at_zero, _, rfl, rfl, _, rfl, ?_⟩)⟩
          have hb : decide (V.int (h : Nat) = .int (i : Nat)) = ((comp S i).head? == some i) := by
            rw [eh, List.head?_cons]
            by_cases e : h = i
            · subst e; simp
            · have : ¬ (V.int (h : Nat) = .int (i : Nat)) := fun k => e (Int.ofNat.inj (V.int.inj k))
              rw [decide_eq_false this]
              simp [e]
          rw [hb]
          cases e1 : ((comp S i).head? == some i) with
          | false =>
            refine iteF ⟨⟨_, _, _, rfl⟩, Same.trans s12 s24, fs, s24 _ _ hfs, Nat.le_succ_of_le lfs, ?_⟩
            rw [take_range hi, List.filter_append]
            have : [i].filter (fun c => (comp S c).head? == some c) = [] := by simp [e1]
            rw [this, List.append_nil]
            exact tfs.mono (same_tk s24)
          | true =>
            have hfs4 := s24 _ _ hfs
            refine iteT ⟨_, rfl, .inl ⟨rfl, _, .inl (.inl hfs4)⟩, _, rfl, p, _, _, rfl, rfl, hfs4, by rw [List.length_map]; exact Nat.lt_of_le_of_lt lfs (Nat.lt_trans hi small), ?_⟩
            generalize hH5 : upd (upd H3 q (.tup (lV (comp S i)))) p (.lst (rV fs ++ [.ref q])) = H5
            have b5 : But p (upd H3 q (.tup (lV (comp S i)))) H5 := fun b o nb z => by rw [← hH5, upd_ne nb]; exact z
            have t5 : SK K (upd H3 q (.tup (lV (comp S i)))) H5 := by rw [← hH5]; exact .upd hfs4 (fun z => z)
            refine ⟨⟨_, _, _, rfl⟩, fun b o z => b5 _ _ (ne_of_none z hp) (s24 _ _ (s12 _ _ z)), fs ++ [q], by rw [← hH5, upd_same, rV_app]; rfl, by rw [List.length_append]; exact Nat.succ_le_succ lfs, ?_⟩
            rw [take_range hi, List.filter_append]
            have : [i].filter (fun c => (comp S c).head? == some c) = [i] := by simp [e1]
            rw [this, List.map_append]
            exact ((tfs.mono (same_tk s24)).mono t5.tk).snoc (t5.tk _ _ sqT_upd)
      · obtain ⟨⟨x4, x5, x6, rfl⟩, s12, fs, hfs, lfs, tfs⟩ := q
        rw [ln, List.take_of_length_le (by rw [List.length_range]; exact Nat.le_refl _)] at tfs
        exact ⟨_, rfl, hQ p H2 fs (Same.trans s1 s12) hp0 hfs tfs⟩
end
end KW
/-! The walk, part 7: components in order; what a policy asks. -/
namespace KW
open PySem PySem.Spec PyProof.Rows L2 KR K19 StX
/-- any loop that tells its turns by a walk -/
theorem turns {J : It} {n : Nat} {G : Hp → Prop} {Y : Nat → Hp → V → Hp → Prop} (wk : Walk J n G Y) {Body : V → Hp → (Hp → Prop) → Prop} {Qd : Hp → Prop} {H0 : Hp} (Pv : Nat → Hp → Prop) (h0 : Pv 0 H0) (hG : ∀ i H, i ≤ n → Pv i H → G H)
    (hs : ∀ i x H H', i < n → Pv i H → Y i H x H' → Body x H' (Pv (i + 1))) (hd : ∀ H, Pv n H → Qd H) :
    ∃ W : Nat → Nat → Hp → Prop, (∃ m, W 0 m H0) ∧ ∀ i m H, W i m H → (J.stop i H ∧ Qd H) ∨ (J.go i H ∧ ∃ Nx : Hp → Prop, (∀ H', Nx H' → ∃ m', m' < m ∧ W (i + 1) m' H') ∧ ∀ x H', J.yld i H x H' → Body x H' Nx) := by
  refine ⟨fun i m H => m = n - i ∧ i ≤ n ∧ Pv i H, ⟨n, by simp, Nat.zero_le _, h0⟩, ?_⟩
  rintro i m H ⟨rfl, hi, p⟩
  have q := hG i H hi p
  by_cases hlt : i < n
  · refine .inr ⟨wk.goes i H hlt q, Pv (i + 1), fun H' p' => ⟨n - (i + 1), by omega, rfl, hlt, p'⟩, fun x H' y => hs i x H H' hlt p (wk.yields i H x H' hlt q y)⟩
  · have e : i = n := by omega
    subst e
    exact .inl ⟨wk.stops H q, hd H p⟩
section
variable {P : Program} {w : World} {K : PySem.W.Frag} {mg : PySem.Str → Option Value} {base : Heap}
theorem but_tk {D : Addr} {H H' : Hp} {xs : List V} (b : But D H H') (e : H D = some (.lst xs)) : TK K H H' := fun a ys q => by
  rcases q with (q | ⟨o, q⟩) | q
  · exact .inl (.inl (b _ _ (ne_of q e (by simp)) q))
  · exact .inl (.inr ⟨o, b _ _ (ne_of q e (by simp)) q⟩)
  · exact .inr q
theorem paired_sub {α β : Type} {F : α → β → Prop} : ∀ {l : List α} {m : List β} (i : Nat), Paired F l m → Paired F (l.take i) (m.take i)
  | _, _, 0, _ => .nil
  | _, _, _ + 1, .nil => .nil
  | _, _, i + 1, .cons r t => .cons r (paired_sub i t)
theorem ref_at {l : List Addr} {i : Nat} {x : V} (h : (rV l)[i]? = some x) : ∃ v, l[i]? = some v ∧ x = .ref v := by
  rw [List.getElem?_map] at h
  obtain ⟨v, h1, h2⟩ := Option.map_eq_some_iff.mp h
  exact ⟨v, h1, h2.symm⟩
abbrev dTs (Cs : List (List Nat)) : List PyData := Cs.map dT
theorem dpAll_tups {H : Hp} : ∀ {ps : List Addr} {Cs : List (List Nat)}, TupsAt K H ps Cs → DpAll K H (rV ps) (dTs Cs)
  | _, _, .nil => .nil
  | _, _, .cons r t => .cons (dp_tup r) (dpAll_tups t)
theorem sh_dTs (Cs : List (List Nat)) : SeqAt.shaped (.list (dTs Cs)) = true := by
  have h1 : ∀ l : List (List Nat), PyData.canLayAll0 (dTs l) = true := fun l => by
    induction l with
    | nil => rfl
    | cons C l ih => rw [dTs, List.map_cons, PyData.canLayAll0, PyData.canLay0, cl_ints, Bool.true_and]; exact ih
  have h2 : ∀ l : List (List Nat), PyData.depthAll (dTs l) ≤ 1 := fun l => by
    induction l with
    | nil => exact Nat.zero_le _
    | cons C l ih => rw [dTs, List.map_cons, PyData.depthAll, PyData.depth, dp_ints]; exact Nat.max_le.mpr ⟨Nat.le_refl _, ih⟩
  unfold SeqAt.shaped
  rw [PyData.canLay0, h1, PyData.depth, Bool.true_and]
  have := h2 Cs
  exact decide_eq_true (by omega)
theorem eqv_nil (ds : List PyData) : PyData.eqv (.list ds) (.list []) = ds.isEmpty := by
  rw [PyData.eqv]
  cases ds <;> rfl
theorem sum_flat {α : Type} {L : List (List α)} {k : Nat} (h : ∀ C ∈ L, C.length ≤ k) : L.flatten.length ≤ k * L.length := by
  induction L with
  | nil => simp
  | cons C L ih =>
    have h1 := h C List.mem_cons_self
    have h2 := ih fun D hD => h D (List.mem_cons_of_mem _ hD)
    rw [List.flatten_cons, List.length_append, List.length_cons, Nat.mul_succ]
    omega
def lenOf (σ : L2.St) (i : Nat) (H : Hp) : Nat := match σ[i]? with
  | some (some (.ref a)) => lenAt H a
  | _ => 0
def spCompsA : Sp := fun vs H Q _ => ∃ (a cs : Addr) (S : Sys) (rk : Nat → Nat) (bs : Nat), vs = [.ref a, .ref cs] ∧ SysAt K H a S ∧ SysOk S rk bs ∧ SqT K H cs (lV (List.range S.length)) ∧
  ∀ p H' fs Fs, Same H H' → SqT K H' p (rV fs) → TupsAt K H' fs Fs → (∀ C ∈ Fs, C.length ≤ 6) → Q (.ref p) H'
theorem ok_components_among (T : Txt K mg) : FD P w K mg base CX0 7 d_components_among ["system", "cells"] (spCompsA (K := K)) := by
  refine fd_of T.d_components_among sc_components_among (fun vs H Q E h => ?_) (fun cdv A outer s H vs Q E hr h => ?_)
  · obtain ⟨a, cs, S, rk, bs, rfl, _⟩ := h
    rfl
  · obtain ⟨a, cs, S, rk, bs, rfl, hs, ok, hcs, hQ⟩ := h
    have hu := Room.u64 hr
    refine ⟨_, (pss_cons (ps_set (i := 2) sc_components_among.nd rfl (by first | exact Or.inl rfl | exact Or.inr rfl | exact Or.inr (Or.inl rfl)) (pe_def (ok_unordered_components T) hr rfl T.g_unordered_components rfl b_unordered_components (pa_cons (pv 0) (pa_cons (pv 1) pa_nil)))) (pss_cons (ps_set (i := 3) sc_components_among.nd rfl (by first | exact Or.inl rfl | exact Or.inr rfl | exact Or.inr (Or.inl rfl)) (pe_lst pa_nil)) (pss_cons (ps_while PassesOwn.never (pt_cmpR (op_neDK K rfl hu) (pv 2) (pe_lst pa_nil) (nomark _)) (pss_cons (ps_set (i := 4) sc_components_among.nd rfl (by first | exact Or.inl rfl | exact Or.inr rfl | exact Or.inr (Or.inl rfl)) (pe_lc2 rfl sc_components_among.nd (pi_listK K rfl (pv 2)) (own := [("component", 6), ("cell", 7)]) (vs1 := [7]) (blkOk_by (by kernel_rfl)) (by decide) (fun _ _ _ _ _ => (pg_name (i := 6) sc_components_among.nd rfl (by first | exact Or.inl rfl | exact Or.inr rfl | exact Or.inr (Or.inl rfl)))) (fun _ _ _ _ _ => pts_nil) (fun _ _ _ _ _ => (pi_tupK K rfl (pv 6))) (fun _ _ _ _ _ => (pg_name (i := 7) sc_components_among.nd rfl (by first | exact Or.inl rfl | exact Or.inr rfl | exact Or.inr (Or.inl rfl)))) (fun _ _ _ _ _ => pts_nil) (fun _ _ _ _ _ => (pv 7)))) (pss_cons (ps_set (i := 5) sc_components_among.nd rfl (by first | exact Or.inl rfl | exact Or.inr rfl | exact Or.inr (Or.inl rfl)) (pe_lc rfl sc_components_among.nd (pi_listK K rfl (pv 2)) (own := [("component", 6)]) (blkOk_by (by kernel_rfl)) (fun _ _ _ _ _ => (pg_name (i := 6) sc_components_among.nd rfl (by first | exact Or.inl rfl | exact Or.inr rfl | exact Or.inr (Or.inl rfl)))) (fun _ _ _ _ _ => (pts_one (pt_not (pt_val (pe_def (ok_leads_outside T) hr rfl T.g_leads_outside rfl b_leads_outside (pa_cons (pv 0) (pa_cons (pv 6) (pa_cons (pv 4) pa_nil)))))))) (fun _ _ _ _ _ => (pv 6)))) (pss_cons (ps_expr (pe_bm PySem.F.plainAttrs_list PySem.F.slot_list_append PySem.F.type_list_append mt_append (pv 3) (pa_cons (pe_ix (ix_K K rfl) (pv 5) pe_int (fun _ _ => rfl)) pa_nil))) (pss_one (ps_setLc (i := 2) rfl sc_components_among.nd rfl rfl rfl (pi_listK K rfl (pv 2)) (own := [("component", 6)]) (blkOk_by (by kernel_rfl)) (fun _ _ _ _ _ => (pg_name (i := 6) sc_components_among.nd rfl (by first | exact Or.inl rfl | exact Or.inr rfl | exact Or.inr (Or.inl rfl)))) (fun _ _ _ _ _ => (pts_one (pt_cmpR (op_neDK K rfl hu) (pv 6) (pe_ix (ix_K K rfl) (pv 5) pe_int (fun _ _ => rfl)) (nomark _)))) (fun _ _ _ _ _ => (pv 6)))))))) (pss_one (ps_ret (pe_callTy call_tuple_of rfl T.f_tuple boot_tuple (pa_cons (pv 3) pa_nil))))))), ?_⟩
    refine ⟨_, rfl, _, rfl, a, cs, S, rk, bs, rfl, hs, ok, hcs, fun w0 H0 ws0 s0 hw0 e0 t0 => ?_⟩
    refine ⟨Nat.zero_le _, fun p hp => ?_⟩
    have hp0 : H p = none := s0.free hp
    have ul : (ucomps S).length ≤ 12 := by
      unfold ucomps
      rw [List.length_map]
      refine Nat.le_trans (List.length_filter_le _ _) ?_
      rw [List.length_range]
      exact ok.len
    refine while_by (fun σ H' => ∃ wv ws L fs Fs x4 x5 x6 x7, σ = [some (.ref a), some (.ref cs), some (.ref wv), some (.ref p), x4, x5, x6, x7] ∧ Same H H' ∧ H' wv = some (.lst (rV ws)) ∧ TupsAt K H' ws L ∧ (∀ C ∈ L, ∃ c, c < S.length ∧ C = comp S c) ∧
        H' p = some (.lst (rV fs)) ∧ TupsAt K H' fs Fs ∧ (∀ C ∈ Fs, C.length ≤ 6) ∧ fs.length + L.length ≤ 12 ∧ wv ≠ p) (fun σ H' => lenOf σ 2 H') ?_ ?_ ?_
    · have s1 := same_upd (o := HO.lst []) hp
      exact ⟨w0, ws0, ucomps S, [], [], _, _, _, _, rfl, Same.trans s0 s1, s1 _ _ e0, t0.mono (same_tk s1), fun C hC => mem_ucomps hC, upd_same, .nil, fun C hC => absurd hC List.not_mem_nil, by simpa using ul, ne_of_none e0 hp⟩
    · rintro σ H1 ⟨wv, ws, L, fs, Fs, x4, x5, x6, x7, rfl, s1, e1, t1, cL, ef, tf, lF, bd, ne⟩
      refine ⟨_, rfl, Nat.zero_le _, fun r hr0 => ?_⟩
      have s2 : Same H1 (upd H1 r (.lst [])) := same_upd hr0
      have r2 : SqL K (upd H1 r (.lst [])) r (lV []) := sqL_upd
      generalize upd H1 r (.lst []) = H2 at *
      have s02 : Same H H2 := Same.trans s1 s2
      have e2 := s2 _ _ e1
      have t2 := t1.mono (same_tk (K := K) s2)
      have lw : ws.length = L.length := t2.length
      have lws : (rV ws).length = L.length := by rw [List.length_map]; exact lw
      have lL : L.length ≤ 12 := by omega
      have small : ∀ {n : Nat}, n ≤ 1000 → n < sizeLine := fun h => Nat.lt_of_le_of_lt h (by decide)
      have cl6 : ∀ C ∈ L, C.length ≤ 6 := fun C hC => by obtain ⟨c, hc, rfl⟩ := cL C hC; exact comp_len ok hc
      have cN : ∀ C ∈ L, ∀ x ∈ C, x < S.length := fun C hC x hx => by obtain ⟨c, hc, rfl⟩ := cL C hC; exact (mem_comp.mp hx).1
      refine ⟨.list (dTs L), dL [], .lst (.inl (.inl e2)) (dpAll_tups t2), dp_lst r2, sh_dTs L, sh_dL _, _, rfl, ?_⟩
      have eqn : PyData.eqv (.list (dTs L)) (dL []) = (dTs L).isEmpty := eqv_nil _
      by_cases hne : L = []
      · subst hne
        refine iteFb (by rw [eqn]; rfl) ⟨_, rfl, ?_⟩
        exact ⟨p, rV fs, rfl, .inl ⟨.inl (.inl (s2 _ _ ef)), fun q hq => hQ q _ fs Fs (Same.trans s02 (same_upd hq)) sqT_upd ((tf.mono (same_tk s2)).mono (same_tk (same_upd hq))) lF⟩⟩
      · refine iteTb (by rw [eqn]; cases L with | nil => exact absurd rfl hne | cons C L => rfl) ?_
        have ef2 := s2 _ _ ef
        -- left
        refine ⟨_, rfl, wv, rfl, ⟨_, .inl (.inl e2)⟩, fun D1 hD1 => ?_⟩
        have fl : ∀ i, ((L.take i).flatten).length ≤ 72 := fun i => by
          have h1 := sum_flat (L := L.take i) (k := 6) fun C hC => cl6 C (List.mem_of_mem_take hC)
          have h2 : (L.take i).length ≤ 12 := by rw [List.length_take]; omega
          omega
        refine turns (walk_list (xs := rV ws)) (fun i H' => Same H2 H' ∧ H' D1 = some (.lst (lV (L.take i).flatten))) ⟨same_upd hD1, upd_same⟩ (fun i H' _ q => .inl (.inl (q.1 _ _ e2))) (fun i x H3 H4 hi q y => ?_) (fun H3 q => ?_)
        · obtain ⟨rfl, hx⟩ := y
          obtain ⟨s3, e3⟩ := q
          obtain ⟨wi, hwi, rfl⟩ := ref_at hx
          obtain ⟨C, hC, tC⟩ := paired_at (t2.mono (same_tk s3)) hwi
          have hCL : C ∈ L := List.mem_of_getElem? hC
          refine ⟨rfl, yesP (iteT ⟨_, rfl, wi, rfl, ⟨_, tC⟩, ?_⟩)⟩
          refine turns (walk_tup (xs := lV C)) (fun j H' => Same H2 H' ∧ H' D1 = some (.lst (lV ((L.take i).flatten ++ C.take j)))) ⟨s3, by rw [List.take_zero, List.append_nil]; exact e3⟩ (fun j H' _ q => ?_) (fun j x H5 H6 hj q y => ?_) (fun H5 q => ?_)
          · obtain ⟨D, hD, tD⟩ := paired_at (t2.mono (same_tk q.1)) hwi
            rw [hC] at hD
            cases hD
            exact tD
          · obtain ⟨rfl, hx⟩ := y
            obtain ⟨u, hu', rfl⟩ := nat_at hx
            refine ⟨rfl, yesP (iteT ⟨_, rfl, _, q.2, ?_, same_trans_upd q.1 hD1, ?_⟩)⟩
            · refine small ?_
              have h1 := fl i
              have h2 := cl6 C hCL
              rw [List.length_map, List.length_append, List.length_take]
              omega
            · rw [upd_same, List.take_add_one, hu', ← List.append_assoc, lV_app (_ ++ _)]
              rfl
          · refine ⟨q.1, ?_⟩
            have := q.2
            rw [List.length_map, List.take_length] at this
            rw [this, List.take_add_one, hC]
            simp
        · obtain ⟨s3, e3⟩ := q
          have e3' : H3 D1 = some (.lst (lV L.flatten)) := by rw [e3, lws, List.take_length]
          have s03 := Same.trans s02 s3
          have e33 := s3 _ _ e2
          have t3 := t2.mono (same_tk (K := K) s3)
          -- ready
          refine ⟨_, rfl, wv, rfl, ⟨_, .inl (.inl e33)⟩, fun D2 hD2 => ?_⟩
          refine lc_same (walk_list (xs := rV ws)) (fun i acc H' => ∃ rs, acc = rV rs ∧ TupsAt K H' rs ((L.take i).filter fun C => !outside S C L.flatten)) hD2 (by rw [lws]; exact small (by omega)) (fun H' s => .inl (.inl (s _ _ e33))) (fun _ _ => ⟨[], rfl, .nil⟩) (fun i x H4 H5 acc K1 K0 hi s4 hacc _ ea y k1 k0 => ?_) (fun H4 acc s4 ed ea => ?_)
          · obtain ⟨rfl, hx⟩ := y
            obtain ⟨wi, hwi, rfl⟩ := ref_at hx
            obtain ⟨C, hC, tC⟩ := paired_at (t3.mono (same_tk s4)) hwi
            have hCL : C ∈ L := List.mem_of_getElem? hC
            obtain ⟨rs, rfl, trs⟩ := ea
            refine ⟨rfl, _, rfl, _, rfl, _, rfl, a, wi, D1, S, rk, bs, C, L.flatten, rfl, hs.mono (same_sk (Same.trans s03 s4)), ok, tC, .inl (.inl (s4 _ _ e3')), cN C hCL, fun H6 s6 => ⟨_, rfl, ?_⟩⟩
            have etk : (L.take (i + 1)).filter (fun C => !outside S C L.flatten) = (L.take i).filter (fun C => !outside S C L.flatten) ++ [C].filter (fun C => !outside S C L.flatten) := by
              rw [List.take_add_one, hC, List.filter_append]; rfl
            cases eo : outside S C L.flatten with
            | true =>
              refine iteF (k0 _ s6 ⟨rs, rfl, ?_⟩)
              rw [etk, List.filter_cons, eo]
              simpa using trs.mono (same_tk s6)
            | false =>
              refine iteT ⟨_, rfl, k1 _ _ s6 fun H7 b7 => ⟨rs ++ [wi], by rw [rV_app]; rfl, ?_⟩⟩
              have k7 : TK K H6 H7 := but_tk b7 (s6 _ _ hacc)
              rw [etk, List.filter_cons, eo]
              exact ((trs.mono (same_tk s6)).mono k7).snoc (k7 _ _ (same_tk s6 _ _ tC))
          · obtain ⟨rs, rfl, trs⟩ := ea
            rw [lws, List.take_length] at trs
            obtain ⟨C0, hC0, o0⟩ := ready ok hne cL
            have hmem : C0 ∈ L.filter (fun C => !outside S C L.flatten) := List.mem_filter.mpr ⟨hC0, by rw [o0]; rfl⟩
            cases erd : L.filter (fun C => !outside S C L.flatten) with
            | nil => rw [erd] at hmem; cases hmem
            | cons Cr R =>
              have hCr : Cr ∈ L := by
                have : Cr ∈ L.filter (fun C => !outside S C L.flatten) := by rw [erd]; exact List.mem_cons_self
                exact (List.mem_filter.mp this).1
              rw [erd] at trs
              obtain ⟨r0, rs', rfl, tr0, trs'⟩ : ∃ r0 rs', rs = r0 :: rs' ∧ SqT K H4 r0 (lV Cr) ∧ TupsAt K H4 rs' R := by
                cases trs with
                | cons q t => exact ⟨_, _, rfl, q, t⟩
              have s04 := Same.trans s03 s4
              have ef4 := s4 _ _ (s3 _ _ ef2)
              have lfs : fs.length ≤ 12 := by omega
              refine ⟨_, rfl, .inl ⟨rfl, _, .inl (.inl ef4)⟩, _, rfl, .inl ⟨_, _, _, _, rfl, rfl, .inl (.inl ed), at_zero, p, _, _, rfl, rfl, ef4, by rw [List.length_map]; exact small (by omega), ?_⟩⟩
              have tk5 : TK K H4 (upd H4 p (.lst (rV fs ++ [.ref r0]))) := but_tk (D := p) (fun b o nb z => by rw [upd_ne nb]; exact z) ef4
              have b5 : But p H4 (upd H4 p (.lst (rV fs ++ [.ref r0]))) := fun b o nb z => by rw [upd_ne nb]; exact z
              have p5 : upd H4 p (.lst (rV fs ++ [.ref r0])) p = some (.lst (rV (fs ++ [r0]))) := by rw [upd_same, rV_app]; rfl
              generalize upd H4 p (.lst (rV fs ++ [.ref r0])) = H5 at *
              have s05 : Same H H5 := fun b o z => b5 _ _ (ne_of_none z hp0) (s04 _ _ z)
              have e5 : H5 wv = some (.lst (rV ws)) := b5 _ _ ne (s4 _ _ e33)
              have t5 : TupsAt K H5 ws L := (t3.mono (same_tk s4)).mono tk5
              have ed5 : H5 D2 = some (.lst (rV (r0 :: rs'))) := b5 _ _ (Ne.symm (ne_of_none (s3 _ _ ef2) hD2)) ed
              have tr5 := tk5 _ _ tr0
              -- waiting
              refine ⟨_, rfl, wv, rfl, ⟨_, .inl (.inl e5)⟩, fun D3 hD3 => ?_⟩
              refine lc_same (walk_list (xs := rV ws)) (fun i acc H' => ∃ rs, acc = rV rs ∧ TupsAt K H' rs ((L.take i).filter fun C => !decide (C = Cr))) hD3 (by rw [lws]; exact small (by omega)) (fun H' s => .inl (.inl (s _ _ e5))) (fun _ _ => ⟨[], rfl, .nil⟩) (fun i x H6 H7 acc K1 K0 hi s6 hacc _ ea y k1 k0 => ?_) (fun H6 acc s6 ed6 ea => ?_)
              · obtain ⟨rfl, hx⟩ := y
                obtain ⟨wi, hwi, rfl⟩ := ref_at hx
                obtain ⟨C, hC, tC⟩ := paired_at (t5.mono (same_tk s6)) hwi
                obtain ⟨rs, rfl, trs6⟩ := ea
                refine ⟨rfl, _, rfl, _, rfl, .inl ⟨_, _, _, _, rfl, rfl, .inl (.inl (s6 _ _ ed5)), at_zero, dT C, dT Cr, dp_tup tC, dp_tup (same_tk s6 _ _ tr5), sh_dT _, sh_dT _, _, rfl, ?_⟩⟩
                rw [eqv_dT]
                have etk : (L.take (i + 1)).filter (fun C => !decide (C = Cr)) = (L.take i).filter (fun C => !decide (C = Cr)) ++ [C].filter (fun C => !decide (C = Cr)) := by
                  rw [List.take_add_one, hC, List.filter_append]; rfl
                by_cases hc : C = Cr
                · rw [decide_eq_true hc]
                  refine iteF (k0 _ (Same.refl _) ⟨rs, rfl, ?_⟩)
                  rw [etk, List.filter_cons, decide_eq_true hc]
                  simpa using trs6
                · rw [decide_eq_false hc]
                  refine iteT ⟨_, rfl, k1 _ _ (Same.refl _) fun H7 b7 => ⟨rs ++ [wi], by rw [rV_app]; rfl, ?_⟩⟩
                  have k7 : TK K H7 H7 := TK.refl K H7
                  have k7' := but_tk (K := K) b7 hacc
                  rw [etk, List.filter_cons, decide_eq_false hc]
                  exact (trs6.mono k7').snoc (k7' _ _ tC)
              · obtain ⟨rs6, rfl, trs6⟩ := ea
                rw [lws, List.take_length] at trs6
                have hlt : (L.filter fun C => !decide (C = Cr)).length < L.length := List.length_filter_lt_length_iff_exists.mpr ⟨Cr, hCr, by simp⟩
                refine ⟨⟨D3, rs6, _, fs ++ [r0], Fs ++ [Cr], _, _, _, _, rfl, Same.trans s05 s6, ed6, trs6, fun C hC => cL C (List.mem_filter.mp hC).1, s6 _ _ p5, ?_, fun C hC => ?_, ?_, ?_⟩, ?_⟩
                · exact ((((tf.mono (same_tk s2)).mono (same_tk s3)).mono (same_tk s4)).mono tk5 |>.mono (same_tk s6)).snoc (same_tk s6 _ _ tr5)
                · rcases List.mem_append.mp hC with k | k
                  · exact lF C k
                  · rw [List.mem_singleton.mp k]; exact cl6 Cr hCr
                · rw [List.length_append, List.length_singleton]; omega
                · exact Ne.symm (ne_of_none p5 hD3)
                · show lenAt H6 D3 < lenAt H1 wv
                  unfold lenAt
                  rw [ed6, e1]
                  simp only [List.length_map]
                  rw [trs6.length, lw]
                  exact hlt
    · rintro σ H1 Q1 Q2 hQQ ⟨v, e, l0, k⟩
      refine ⟨v, e, l0, fun r hr0 => ?_⟩
      obtain ⟨d, e', k1, k2, k3, k4, b, eb, k5⟩ := k r hr0
      exact ⟨d, e', k1, k2, k3, k4, b, eb, hQQ _ _ k5⟩
end
end KW
/-! The walk, part 8: what a policy asks; taints joined. -/
namespace KW
open PySem PySem.Spec PyProof.Rows L2 KR K19 StX
theorem vint_ne {u c : Nat} (h : u ≠ c) : decide (V.int (u : Nat) = V.int (c : Nat)) = false := decide_eq_false fun e => by
  have := V.int.inj e
  omega
theorem vint_dec (u c : Nat) : decide (V.int (u : Nat) = V.int (c : Nat)) = decide (u = c) := by
  by_cases h : u = c
  · rw [decide_eq_true h, h]; exact decide_eq_true rfl
  · rw [decide_eq_false h, vint_ne h]
theorem sorted_nat {ns : List Int} {G : List Nat} (h : ns.Pairwise (· < ·)) (m : ∀ k : Int, k ∈ ns ↔ ∃ x ∈ G, k = (x : Nat)) : zV ns = lV (norm G) := by
  have nn : ∀ k ∈ ns, ((k.toNat : Nat) : Int) = k := fun k hk => by
    obtain ⟨x, _, rfl⟩ := (m k).mp hk
    rfl
  have e : ns.map Int.toNat = norm G := by
    refine asc_ext ?_ (asc_norm G) fun x => ?_
    · refine List.pairwise_map.mpr (h.imp_of_mem fun {a b} ha hb hab => ?_)
      have h1 := nn a ha
      have h2 := nn b hb
      omega
    · rw [mem_norm, List.mem_map]
      constructor
      · rintro ⟨k, hk, rfl⟩
        obtain ⟨x, hx, rfl⟩ := (m k).mp hk
        exact hx
      · intro hx
        exact ⟨(x : Int), (m _).mpr ⟨x, hx, rfl⟩, rfl⟩
  rw [← e]
  show List.map V.int ns = List.map _ (List.map Int.toNat ns)
  rw [List.map_map]
  exact List.map_congr_left fun k hk => by show V.int k = V.int _; rw [nn k hk]
theorem norm_in {G : List Nat} {c : Nat} (h : c ∈ G) : norm (G ++ [c]) = norm G := norm_eq fun x => by
  rw [List.mem_append, List.mem_singleton]
  exact ⟨fun k => k.elim id fun e => e ▸ h, .inl⟩
theorem norm_out {G : List Nat} {c : Nat} (h : c ∉ G) : (norm (G ++ [c])).length = (norm G).length + 1 := by
  have h1 := asc_nodup (asc_norm (G ++ [c]))
  have h2 : (c :: norm G).Nodup := List.nodup_cons.mpr ⟨fun k => h (mem_norm.mp k), asc_nodup (asc_norm G)⟩
  have e1 := nodup_sub_le h1 (m := c :: norm G) fun x hx => by
    rcases List.mem_append.mp (mem_norm.mp hx) with k | k
    · exact List.mem_cons_of_mem _ (mem_norm.mpr k)
    · rw [List.mem_singleton.mp k]; exact List.mem_cons_self
  have e2 := nodup_sub_le h2 (m := norm (G ++ [c])) fun x hx => by
    rcases List.mem_cons.mp hx with k | k
    · rw [k]; exact mem_norm.mpr (by simp)
    · exact mem_norm.mpr (List.mem_append_left _ (mem_norm.mp k))
  rw [List.length_cons] at e1 e2
  omega
section
variable {P : Program} {w : World} {K : PySem.W.Frag} {mg : PySem.Str → Option Value} {base : Heap}
def spComps : Sp := fun vs H Q _ => ∃ (a : Addr) (S : Sys) (rk : Nat → Nat) (bs : Nat), vs = [.ref a] ∧ SysAt K H a S ∧ SysOk S rk bs ∧
  ∀ p H' fs Fs, Same H H' → SqT K H' p (rV fs) → TupsAt K H' fs Fs → (∀ C ∈ Fs, C.length ≤ 6) → Q (.ref p) H'
theorem ok_components (T : Txt K mg) : FD P w K mg base CX0 8 d_components ["system"] (spComps (K := K)) := by
  refine fd_of T.d_components sc_components (fun vs H Q E h => ?_) (fun cdv A outer s H vs Q E hr h => ?_)
  · obtain ⟨a, S, rk, bs, rfl, _⟩ := h
    rfl
  · obtain ⟨a, S, rk, bs, rfl, hs, ok, hQ⟩ := h
    refine ⟨_, (pss_one (ps_ret (pe_def (ok_components_among T) hr rfl T.g_components_among rfl b_components_among (pa_cons (pv 0) (pa_cons (pe_def (ok_all_cells T) hr rfl T.g_all_cells rfl b_all_cells (pa_cons (pv 0) pa_nil)) pa_nil))))), ?_⟩
    refine ⟨_, rfl, _, rfl, a, S, rfl, hs, ok.len, fun q hq => ?_⟩
    have s1 := same_upd (o := .tup (lV (List.range S.length))) hq
    exact ⟨a, q, S, rk, bs, rfl, hs.mono (same_sk s1), ok, sqT_upd, fun p H' fs Fs s2 h1 h2 h3 => hQ p H' fs Fs (Same.trans s1 s2) h1 h2 h3⟩
def spNeed : Sp := fun vs H Q _ => ∃ (a : Addr) (S : Sys) (rk : Nat → Nat) (bs : Nat), vs = [.ref a] ∧ SysAt K H a S ∧ SysOk S rk bs ∧ ∀ H', Same H H' → Q .non H'
theorem ok_need_small_components (T : Txt K mg) : FD P w K mg base CX0 9 d_need_small_components ["system"] (spNeed (K := K)) := by
  refine fd_of T.d_need_small_components sc_need_small_components (fun vs H Q E h => ?_) (fun cdv A outer s H vs Q E hr h => ?_)
  · obtain ⟨a, S, rk, bs, rfl, _⟩ := h
    rfl
  · obtain ⟨a, S, rk, bs, rfl, hs, ok, hQ⟩ := h
    refine ⟨_, (pss_one (ps_for PassesOwn.never rfl (pi_tupK K rfl (pe_def (ok_components T) hr rfl T.g_components rfl b_components (pa_cons (pv 0) pa_nil))) (pg_name (i := 1) sc_need_small_components.nd rfl (by first | exact Or.inl rfl | exact Or.inr rfl | exact Or.inr (Or.inl rfl))) (pss_one (ps_if (pt_cmpR op_gt (pe_callB (call_lenK K rfl) rfl T.f_len boot_len (pa_cons (pv 1) pa_nil)) (pe_gint rfl T.g_MOST_IN_COMPONENT) (nomark _)) (pss_one ps_never) pss_nil)))), ?_⟩
    refine ⟨_, rfl, a, S, rk, bs, rfl, hs, ok, fun p H1 fs Fs s1 h1 h2 h3 => ⟨p, rfl, ⟨_, h1⟩, ?_⟩⟩
    refine for_tup (xs := rV fs) (fun i σ H' => H' = H1 ∧ ∃ x1, σ = [some (.ref a), x1]) ⟨rfl, _, rfl⟩ (fun i σ H' _ q => by rw [q.1]; exact h1) (fun i x σ H' hx q => ?_) (fun σ H' q => ?_)
    · obtain ⟨rfl, x1, rfl⟩ := q
      obtain ⟨f, hf, rfl⟩ := ref_at hx
      obtain ⟨C, hC, tC⟩ := paired_at h2 hf
      have c6 := h3 C (List.mem_of_getElem? hC)
      refine ⟨_, rfl, f, _, rfl, .inr tC, _, _, rfl, rfl, _, rfl, iteFb (decide_eq_false ?_) ⟨rfl, _, rfl⟩⟩
      rw [List.length_map]
      omega
    · rw [q.1]
      exact hQ _ s1
def spFitting : Sp := fun vs H Q _ => ∃ (a : Addr) (S : Sys) (rk : Nat → Nat) (bs : Nat), vs = [.str "clean", .ref a] ∧ SysAt K H a S ∧ SysOk S rk bs ∧ ∀ H', Same H H' → Q .non H'
theorem ok_need_fitting (T : Txt K mg) : FD P w K mg base CX0 10 d_need_fitting ["policy", "system"] (spFitting (K := K)) := by
  refine fd_of T.d_need_fitting sc_need_fitting (fun vs H Q E h => ?_) (fun cdv A outer s H vs Q E hr h => ?_)
  · obtain ⟨a, S, rk, bs, rfl, _⟩ := h
    rfl
  · obtain ⟨a, S, rk, bs, rfl, hs, ok, hQ⟩ := h
    refine ⟨_, (pss_cons (ps_if (pt_cmpR op_eq (pv 0) (pe_gstr rfl T.g_NOTHING) (nomark _)) (pss_one ps_never) pss_nil) (pss_one (ps_if (pt_cmpR op_eq (pv 0) (pe_gstr rfl T.g_CLEAN) (nomark _)) (pss_one (ps_expr (pe_def (ok_need_small_components T) hr rfl T.g_need_small_components rfl b_need_small_components (pa_cons (pv 1) pa_nil)))) pss_nil))), ?_⟩
    refine ⟨_, rfl, rfl, _, rfl, iteFb (by decide +kernel) ?_⟩
    refine ⟨_, rfl, rfl, _, rfl, iteTb (by decide +kernel) ?_⟩
    exact ⟨_, rfl, a, S, rk, bs, rfl, hs, ok, fun H' s => hQ H' s⟩
def spKept : Sp := fun vs H Q _ => ∃ (t : Addr) (l : List Nat), vs = [.str "clean", .ref t] ∧ SqT K H t (lV l) ∧ ∀ H', Same H H' → Q (.bl (decide (l = []))) H'
theorem ok_is_kept (T : Txt K mg) : FD P w K mg base CX0 1 d_is_kept ["policy", "taint"] (spKept (K := K)) := by
  refine fd_of T.d_is_kept sc_is_kept (fun vs H Q E h => ?_) (fun cdv A outer s H vs Q E hr h => ?_)
  · obtain ⟨t, l, rfl, _⟩ := h
    rfl
  · obtain ⟨t, l, rfl, ht, hQ⟩ := h
    have hu := Room.u64 hr
    refine ⟨_, (pss_one (ps_ret (pe_or (pe_cmpR op_eq (pv 0) (pe_gstr rfl T.g_ALL) (nomark _)) (pe_one (pe_and (pe_cmpR op_eq (pv 0) (pe_gstr rfl T.g_CLEAN) (nomark _)) (pe_one (pe_cmpR (op_eqDK K rfl hu) (pv 1) (pe_tup pa_nil) (nomark _)))))))), ?_⟩
    refine ⟨_, rfl, rfl, _, rfl, iteFb (by decide +kernel) ?_⟩
    refine ⟨_, rfl, rfl, _, rfl, iteTb (by decide +kernel) ?_⟩
    refine ⟨_, rfl, Nat.zero_le _, fun p hp => ⟨dT l, dT [], dp_tup (same_tk (same_upd hp) _ _ ht), dp_tup (l := []) sqT_upd, sh_dT _, sh_dT _, ?_⟩⟩
    refine q_bl eqv_dT (hQ _ (same_upd hp))
/-- the tuple of the taints of the parts, without the cell -/
def spJoined : Sp := fun vs H Q _ => ∃ (ps : Addr) (c : Nat) (ts : List Addr) (Ts : List (List Nat)), vs = [.ref ps, .int c] ∧ SqL K H ps (rV ts) ∧ TupsAt K H ts Ts ∧ (∀ l ∈ Ts, ∀ x ∈ l, x < 24) ∧
  ∀ p H', Same H H' → SqT K H' p (lV (norm ((Ts.flatten).filter fun x => x != c))) → Q (.ref p) H'
theorem ok_joined_taint (T : Txt K mg) : FD P w K mg base CX0 1 d_joined_taint ["parts", "cell"] (spJoined (K := K)) := by
  refine fd_of T.d_joined_taint sc_joined_taint (fun vs H Q E h => ?_) (fun cdv A outer s H vs Q E hr h => ?_)
  · obtain ⟨ps, c, ts, Ts, rfl, _⟩ := h
    rfl
  · obtain ⟨ps, c, ts, Ts, rfl, hps, hts, hx, hQ⟩ := h
    refine ⟨_, (pss_one (ps_ret (pe_callTy call_tuple_of rfl T.f_tuple boot_tuple (pa_cons (pe_callB (cr_sortedSet rfl) rfl T.f_sorted boot_sorted (pa_cons (pe_sc2 rfl sc_joined_taint.nd (pi_listK K rfl (pv 0)) (own := [("part", 2), ("dirty", 3)]) (vs1 := [3]) (blkOk_by (by kernel_rfl)) (by decide) (fun _ _ _ _ _ => (pg_name (i := 2) sc_joined_taint.nd rfl (by first | exact Or.inl rfl | exact Or.inr rfl | exact Or.inr (Or.inl rfl)))) (fun _ _ _ _ _ => pts_nil) (fun _ _ _ _ _ => (pi_tupK K rfl (pv 2))) (fun _ _ _ _ _ => (pg_name (i := 3) sc_joined_taint.nd rfl (by first | exact Or.inl rfl | exact Or.inr rfl | exact Or.inr (Or.inl rfl)))) (fun _ _ _ _ _ => (pts_one (pt_cmpR op_ne (pv 3) (pv 1) (nomark _)))) (fun _ _ _ _ _ => (pv 3))) pa_nil)) pa_nil)))), ?_⟩
    refine ⟨_, rfl, ps, rfl, ⟨_, hps⟩, fun D hD => ?_⟩
    have fresh : ∀ {H' : Hp} {o : HO}, Same H H' → Same H (upd H' D o) := fun s => same_trans_upd s hD
    let In : List Nat → Hp → Prop := fun G H' => Same H H' ∧ ∃ Sf n, H' D = some (SetO w D Sf n) ∧ (∀ k : Int, Sf k = true ↔ ∃ x ∈ G, k = (x : Nat)) ∧ n = (norm G).length
    let fil : List Nat → List Nat := fun l => l.filter fun x => x != c
    have lts : (rV ts).length = Ts.length := by rw [List.length_map]; exact hts.length
    refine turns (walk_list (xs := rV ts)) (fun i H' => In (fil (Ts.take i).flatten) H') ⟨fresh (Same.refl H), _, _, upd_same, fun k => ⟨fun h => (by cases h), fun ⟨x, h, _⟩ => by cases h⟩, rfl⟩ (fun i H' _ q => Same.seq q.1 hps) (fun i x H3 H4 hi q y => ?_) (fun H3 q => ?_)
    · obtain ⟨rfl, hx'⟩ := y
      obtain ⟨t, ht, rfl⟩ := ref_at hx'
      obtain ⟨l, hl, tl⟩ := paired_at hts ht
      refine ⟨rfl, yesP (iteT ⟨_, rfl, t, rfl, ⟨_, same_tk q.1 _ _ tl⟩, ?_⟩)⟩
      refine turns (walk_tup (xs := lV l)) (fun j H' => In (fil ((Ts.take i).flatten ++ l.take j)) H') (by rw [List.take_zero, List.append_nil]; exact q) (fun j H' _ q => same_tk q.1 _ _ tl) (fun j x H5 H6 hj q y => ?_) (fun H5 q => ?_)
      · obtain ⟨rfl, hx2⟩ := y
        obtain ⟨u, hu, rfl⟩ := nat_at hx2
        have e0 : (Ts.take i).flatten ++ l.take (j + 1) = ((Ts.take i).flatten ++ l.take j) ++ [u] := by rw [List.take_add_one, hu, ← List.append_assoc]; rfl
        refine ⟨rfl, _, rfl, _, rfl, rfl, _, rfl, ?_⟩
        by_cases huc : u = c
        · refine iteFb (by rw [huc]; simp) ?_
          show In (fil _) _
          have : fil (((Ts.take i).flatten ++ l.take (j + 1))) = fil ((Ts.take i).flatten ++ l.take j) := by
            rw [e0]; simp only [fil, List.filter_append]; simp [huc]
          rw [this]
          exact q
        · refine iteTb (by rw [vint_ne huc]; rfl) ?_
          obtain ⟨s5, Sf, n, e5, m5, n5⟩ := q
          have efil : fil (((Ts.take i).flatten ++ l.take (j + 1))) = fil ((Ts.take i).flatten ++ l.take j) ++ [u] := by
            rw [e0]; simp only [fil, List.filter_append]; simp [huc]
          have g24 : ∀ x ∈ fil ((Ts.take i).flatten ++ l.take j), x < 24 := fun x hx4 => by
            rcases List.mem_append.mp (List.mem_filter.mp hx4).1 with k | k
            · obtain ⟨l', hl', hxl⟩ := List.mem_flatten.mp k
              exact hx l' (List.mem_of_mem_take hl') x hxl
            · exact hx l (List.mem_of_getElem? hl) x (List.mem_of_mem_take k)
          have n24 : n ≤ 24 := by rw [n5]; exact nodup_le (asc_nodup (asc_norm _)) fun x hx4 => g24 x (mem_norm.mp hx4)
          refine ⟨_, rfl, (u : Int), Sf, n, rfl, e5, Nat.lt_of_le_of_lt (Nat.succ_le_succ n24) (by decide), fresh s5, _, _, upd_same, fun k => ?_, ?_⟩
          · rw [efil, Bool.or_eq_true, m5, decide_eq_true_eq]
            constructor
            · rintro (⟨x, h1, h2⟩ | h)
              · exact ⟨x, List.mem_append_left _ h1, h2⟩
              · exact ⟨u, List.mem_append_right _ List.mem_cons_self, h⟩
            · rintro ⟨x, h1, h2⟩
              rcases List.mem_append.mp h1 with h | h
              · exact .inl ⟨x, h, h2⟩
              · exact .inr (by rw [h2, List.mem_singleton.mp h])
          · rw [efil]
            by_cases hin : u ∈ fil ((Ts.take i).flatten ++ l.take j)
            · rw [if_pos ((m5 _).mpr ⟨u, hin, rfl⟩), norm_in hin]; exact n5
            · rw [if_neg (fun z => by obtain ⟨x, h1, h2⟩ := (m5 _).mp z; exact hin (by rw [Int.ofNat.inj h2]; exact h1)), norm_out hin, n5]
      · have := q
        rw [List.length_map, List.take_length] at this
        have e6 : (Ts.take (i + 1)).flatten = (Ts.take i).flatten ++ l := by rw [List.take_add_one, hl]; simp
        show In (fil (Ts.take (i + 1)).flatten) H5
        rw [e6]
        exact this
    · rw [lts, List.take_length] at q
      obtain ⟨s5, Sf, n, e5, m5, n5⟩ := q
      have g24 : ∀ x ∈ fil Ts.flatten, x < 24 := fun x hx4 => by
        obtain ⟨l', hl', hxl⟩ := List.mem_flatten.mp (List.mem_filter.mp hx4).1
        exact hx l' hl' x hxl
      have n24 : n ≤ 24 := by rw [n5]; exact nodup_le (asc_nodup (asc_norm _)) fun x hx4 => g24 x (mem_norm.mp hx4)
      refine ⟨D, Sf, n, rfl, e5, by omega, fun ns p hp1 hp2 _ hp => ?_⟩
      have ez : zV ns = lV (norm (fil Ts.flatten)) := sorted_nat hp1 fun k => by rw [hp2, m5]
      refine ⟨p, lV (norm (fil Ts.flatten)), rfl, .inl ⟨by rw [← ez]; exact sqL_upd, fun q hq => ?_⟩⟩
      exact hQ q _ (Same.trans s5 (Same.trans (same_upd hp) (same_upd hq))) sqT_upd
end
end KW
/-! The walk, part 9: systems made. -/
namespace KW
open PySem PySem.Spec PyProof.Rows L2 KR K19 StX
section
variable {P : Program} {w : World} {K : PySem.W.Frag} {mg : PySem.Str → Option Value} {base : Heap}
/-- a cell that fits n cells -/
structure COk (n : Nat) (c : Cell) : Prop where
  ops8 : c.ops.length ≤ 8
  opsN : c.ops.Nodup
  opsL : ∀ o ∈ c.ops, o < n
  fnOk : FnOk1 c.fn
  gOk : Lev c.g
def spAreOps : Sp := fun vs H Q _ => ∃ (o : Addr) (n : Nat) (ops : List Nat), vs = [.ref o, .int n] ∧ SqT K H o (lV ops) ∧ ops.length ≤ 8 ∧ ops.Nodup ∧ (∀ x ∈ ops, x < n) ∧ ∀ H', Same H H' → Q (.bl true) H'
theorem ok_are_operands (T : Txt K mg) : FD P w K mg base CX0 2 d_are_operands ["thing", "many"] (spAreOps (K := K)) := by
  refine fd_of T.d_are_operands sc_are_operands (fun vs H Q E h => ?_) (fun cdv A outer s H vs Q E hr h => ?_)
  · obtain ⟨o, n, ops, rfl, _⟩ := h
    rfl
  · obtain ⟨o, n, ops, rfl, ho, h8, nd, hN, hQ⟩ := h
    refine ⟨_, (pss_cons (ps_if (PW.pt (pw_or (pt_not (pt_val (pe_callB (call_isiK' K rfl) rfl T.f_isinstance boot_isinstance (pa_cons (pv 0) (pa_cons (pe_bltn (v := .ty "tuple") rfl T.f_tuple boot_tuple rfl) pa_nil))))) (pw_or1 (pt_cmpR op_gt (pe_callB (call_lenK K rfl) rfl T.f_len boot_len (pa_cons (pv 0) pa_nil)) (pe_gint rfl T.g_MOST_VALUES) (nomark _))))) (pss_one (ps_ret pe_bl)) pss_nil) (pss_cons (ps_if (pt_not (pt_val (pe_callB (cr_allK K rfl rfl) rfl T.f_all boot_all (pa_cons (pe_lc rfl sc_are_operands.nd (pi_tupK K rfl (pv 0)) (own := [("cell", 2)]) (blkOk_by (by kernel_rfl)) (fun _ _ _ _ _ => (pg_name (i := 2) sc_are_operands.nd rfl (by first | exact Or.inl rfl | exact Or.inr rfl | exact Or.inr (Or.inl rfl)))) (fun _ _ _ _ _ => pts_nil) (fun _ _ _ _ _ => (pe_and (pe_def (ok_is_integer T) hr rfl T.g_is_integer rfl b_is_integer (pa_cons (pv 2) pa_nil)) (pe_one (pe_chain op_le op_lt pe_int (pv 2) (pv 1)))))) pa_nil)))) (pss_one (ps_ret pe_bl)) pss_nil) (pss_one (ps_ret (pe_cmpR op_eq (pe_callB (call_lenSetN w rfl) rfl T.f_len boot_len (pa_cons (pe_callTy (cr_setI rfl) rfl T.f_set boot_set (pa_cons (pv 0) pa_nil)) pa_nil)) (pe_callB (call_lenK K rfl) rfl T.f_len boot_len (pa_cons (pv 0) pa_nil)) (nomark _)))))), ?_⟩
    have lo : (lV ops).length = ops.length := List.length_map _
    refine ⟨_, rfl, _, _, _, _, true, rfl, .ty _, ty_tup ho, kit_tt, true, rfl, iteF ?_⟩
    refine ⟨_, rfl, _, _, rfl, .inr ho, _, _, rfl, rfl, _, rfl, iteFb (decide_eq_false (by rw [lo]; omega)) ?_⟩
    refine ⟨_, rfl, o, rfl, ⟨_, ho⟩, fun D hD => ?_⟩
    refine lc_same (walk_tup (xs := lV ops)) (fun i acc _ => acc = (List.replicate i true).map V.bl) hD (by rw [lo]; exact Nat.lt_of_le_of_lt h8 (by decide)) (fun H' s => same_tk s _ _ ho) (fun _ _ => rfl) (fun i x H1 H2 acc K1 K0 hi s1 _ _ ea y k1 k0 => ?_) (fun H1 acc s1 ed ea => ?_)
    · obtain ⟨rfl, hx⟩ := y
      obtain ⟨v, hv, rfl⟩ := nat_at hx
      have hvn := hN v (List.mem_of_getElem? hv)
      refine ⟨rfl, yesP (iteT ⟨_, rfl, _, rfl, true, rfl, iteT ⟨_, rfl, _, _, rfl, rfl, true, congrArg V.bl (decide_eq_true (by omega)), iteT ⟨_, rfl, _, _, rfl, rfl, ?_⟩⟩⟩)⟩
      show K1 (.bl (decide ((v : Int) < (n : Int)))) H2
      rw [decide_eq_true (by omega)]
      refine k1 _ _ (Same.refl _) fun H5 _ => ?_
      rw [ea, List.replicate_succ', List.map_append]
      rfl
    · refine ⟨_, _, rfl, .inl (.inl (by rw [ed, ea])), ?_⟩
      refine ⟨true, congrArg V.bl (by rw [List.all_replicate]; split <;> rfl), iteF ?_⟩
      refine ⟨_, rfl, o, iN ops, rfl, .inr (by rw [show (iN ops).map V.int = lV ops from zl ops]; exact same_tk s1 _ _ ho), by rw [List.length_map]; omega, fun p c hp hc => ?_⟩
      have s2 := same_upd (o := SetO w p (fun j => decide (j ∈ iN ops)) c) hp
      have li : (iN ops).length = ops.length := List.length_map _
      refine ⟨p, _, c, iN ops, rfl, upd_same, ?_, fun j => decide_eq_true_iff, by rw [li]; omega, ?_⟩
      · exact List.pairwise_map.mpr (nd.imp fun h e => h (by omega))
      · refine ⟨_, rfl, _, _, rfl, .inr (same_tk (Same.trans s1 s2) _ _ ho), rfl, ?_⟩
        refine q_bl ?_ (hQ _ (Same.trans s1 s2))
        rw [li, lo]
        exact decide_eq_true rfl
def spIsCell : Sp := fun vs H Q _ => ∃ (p : Addr) (n : Nat) (c : Cell), vs = [.ref p, .int n] ∧ Trip K H p c ∧ COk n c ∧ ∀ H', Same H H' → Q (.bl true) H'
theorem ok_is_cell (T : Txt K mg) : FD P w K mg base CX0 4 d_is_cell ["thing", "many"] (spIsCell (K := K)) := by
  refine fd_of T.d_is_cell sc_is_cell (fun vs H Q E h => ?_) (fun cdv A outer s H vs Q E hr h => ?_)
  · obtain ⟨o, n, ops, rfl, _⟩ := h
    rfl
  · obtain ⟨p, n, c, rfl, ⟨o, f, hp, ho, hf⟩, ok, hQ⟩ := h
    refine ⟨_, (pss_cons (ps_if (PW.pt (pw_or (pt_not (pt_val (pe_callB (call_isiK' K rfl) rfl T.f_isinstance boot_isinstance (pa_cons (pv 0) (pa_cons (pe_bltn (v := .ty "tuple") rfl T.f_tuple boot_tuple rfl) pa_nil))))) (pw_or1 (pt_cmpR op_ne (pe_callB (call_lenK K rfl) rfl T.f_len boot_len (pa_cons (pv 0) pa_nil)) pe_int (nomark _))))) (pss_one (ps_ret pe_bl)) pss_nil) (pss_cons (ps_asg (pv 0) (pg_tupK (n := 3) K rfl rfl (pgs_cons (pg_name (i := 2) sc_is_cell.nd rfl (by first | exact Or.inl rfl | exact Or.inr rfl | exact Or.inr (Or.inl rfl))) (pgs_cons (pg_name (i := 3) sc_is_cell.nd rfl (by first | exact Or.inl rfl | exact Or.inr rfl | exact Or.inr (Or.inl rfl))) (pgs_cons (pg_name (i := 4) sc_is_cell.nd rfl (by first | exact Or.inl rfl | exact Or.inr rfl | exact Or.inr (Or.inl rfl))) pgs_nil))))) (pss_one (ps_ret (pe_and (pe_def (ok_are_operands T) hr rfl T.g_are_operands rfl b_are_operands (pa_cons (pv 2) (pa_cons (pv 1) pa_nil))) (pe_and (pe_def (ok_is_function T) hr rfl T.g_is_function rfl b_is_function (pa_cons (pv 3) pa_nil)) (pe_one (pe_def (ok_is_level T) hr rfl T.g_is_level rfl b_is_level (pa_cons (pv 4) pa_nil))))))))), ?_⟩
    have hp' : SqT K H p [.ref o, .ref f, .int c.g] := .inl (.inl hp)
    refine ⟨_, rfl, _, _, _, _, true, rfl, .ty _, ty_tup hp', kit_tt, true, rfl, iteF ?_⟩
    refine ⟨_, rfl, _, _, rfl, .inr hp', rfl, _, rfl, iteF ?_⟩
    refine ⟨_, rfl, _, _, rfl, hp', rfl, _, _, rfl, _, _, rfl, _, _, rfl, rfl, ?_⟩
    refine ⟨_, rfl, _, rfl, o, n, c.ops, rfl, ho, ok.ops8, ok.opsN, ok.opsL, fun H1 s1 => ⟨true, rfl, iteT ?_⟩⟩
    refine ⟨_, rfl, f, c.fn, rfl, hf.mono (same_tk s1), ok.fnOk, fun H2 s2 => ⟨true, rfl, iteT ?_⟩⟩
    exact ⟨_, rfl, _, rfl, ok.gOk, hQ _ (Same.trans s1 s2)⟩
theorem b_System_init : BindS d_System_init ["self"] "cells" := fun kV doc pm an cdv ct => bind_star1 (B := fun us => bindArgs (PySem.W.fnOf d_System_init.name d_System_init.qual d_System_init.params d_System_init.body d_System_init.scope .none kV doc pm an cdv ct) ⟨us, []⟩) (fun _ => rfl) (fun _ _ _ => rfl)
theorem sc_System_init : FnScope ["self", "cells", "index", "cell"] ([("self" : PySem.Str)] ++ [("cells" : PySem.Str)]) (defScope (inClass (top 75) 2)) := ⟨rfl, rfl, rfl, by decide +kernel, rfl, by decide +kernel, by decide +kernel⟩
def spSysInit0 : Sp := fun vs H Q _ => ∃ (x dx p : Addr) (ps : List Addr) (S : Sys), vs = [.ref x, .ref p] ∧ H x = some (.ins (He.ga K "System") dx []) ∧ H p = some (.tup (rV ps)) ∧ Trips K H ps S ∧ 0 < S.length ∧ S.length ≤ 12 ∧ (∀ c, c < S.length → COk S.length (S.at c)) ∧
  ∀ H1, Same H H1 → Q .non (upd H1 x (.ins (He.ga K "System") dx [("triples", .ref p)]))
theorem ok_sysinit0 (T : Txt K mg) : FR P w K mg base CX0 5 d_System_init (fun vs H Q E => ∃ ws rest, vs = ws ++ rest ∧ ws.length = [("self" : PySem.Str)].length ∧ rest.length ≤ sizeLine ∧ ∀ p, H p = Option.none → spSysInit0 (K := K) (ws ++ [V.ref p]) (upd H p (.tup rest)) Q E) := by
  refine fr_of T.d_System_init sc_System_init rfl b_System_init (fun cdv A outer s H vs Q E hr h => ?_)
  obtain ⟨x, dx, p, ps, S, rfl, hx, hp, ht, h0, h12, ok, hQ⟩ := h
  refine ⟨_, (pss_cons (ps_if (pt_not (pt_chain op_le op_le pe_int (pe_callB (call_lenK K rfl) rfl T.f_len boot_len (pa_cons (pv 1) pa_nil)) (pe_gint rfl T.g_MOST_IN_SYSTEM))) (pss_one ps_never) pss_nil) (pss_cons (ps_for PassesOwn.never rfl (pi_enumT rfl T.f_enumerate (pa_cons (pv 1) pa_nil)) (pg_tupK (n := 2) K rfl rfl (pgs_cons (pg_name (i := 2) sc_System_init.nd rfl (by first | exact Or.inl rfl | exact Or.inr rfl | exact Or.inr (Or.inl rfl))) (pgs_cons (pg_name (i := 3) sc_System_init.nd rfl (by first | exact Or.inl rfl | exact Or.inr rfl | exact Or.inr (Or.inl rfl))) pgs_nil))) (pss_one (ps_if (pt_not (pt_val (pe_def (ok_is_cell T) hr rfl T.g_is_cell rfl b_is_cell (pa_cons (pv 3) (pa_cons (pe_callB (call_lenK K rfl) rfl T.f_len boot_len (pa_cons (pv 1) pa_nil)) pa_nil))))) (pss_one ps_never) pss_nil))) (pss_one (ps_fld (pv 0) (pe_callTy call_tuple_of rfl T.f_tuple boot_tuple (pa_cons (pv 1) pa_nil)) rfl)))), ?_⟩
  have lp : (rV ps).length = S.length := by rw [List.length_map]; exact ht.1
  have hp' : SqT K H p (rV ps) := .inl (.inl hp)
  refine ⟨_, rfl, _, _, rfl, .inr hp', _, _, rfl, rfl, true, congrArg V.bl (decide_eq_true (by rw [lp]; omega)), iteT ⟨_, _, rfl, rfl, true, congrArg V.bl (decide_eq_true (by rw [lp]; omega)), iteF ?_⟩⟩
  refine ⟨_, rfl, p, _, rfl, hp, ?_⟩
  refine for_it (walk_enumT (xs := rV ps)) (fun i σ H' => (∃ x2 x3, σ = [some (.ref x), some (.ref p), x2, x3]) ∧ Same H H') ⟨⟨_, _, rfl⟩, Same.refl H⟩ (fun i σ H' _ q => q.2 _ _ hp) (fun i y σ H1 H2 hi q yy => ?_) (fun σ H1 q => ?_)
  · obtain ⟨⟨x2, x3, rfl⟩, s1⟩ := q
    obtain ⟨T0, x0, y0, rfl, hT, rfl, e1, e2⟩ := yy
    cases e1
    obtain ⟨t, ht', rfl⟩ := ref_at e2
    have s2 := Same.trans s1 (same_upd (o := .tup [.int (i : Nat), .ref t]) hT)
    have hi' : i < S.length := by rw [← lp]; exact hi
    refine ⟨_, _, rfl, sqT_upd, rfl, _, _, rfl, _, _, rfl, rfl, ?_⟩
    refine ⟨_, rfl, _, rfl, _, _, rfl, .inr (same_tk s2 _ _ hp'), t, (rV ps).length, S.at i, rfl, (ht.2 i t ht').mono (same_sk s2), by rw [lp]; exact ok i hi', fun H3 s3 => ⟨true, rfl, iteF ⟨⟨_, _, rfl⟩, Same.trans s2 s3⟩⟩⟩
  · obtain ⟨⟨x2, x3, rfl⟩, s1⟩ := q
    refine ⟨_, rfl, p, rV ps, rfl, .inr ⟨same_tk s1 _ _ hp', ?_⟩⟩
    exact ⟨_, rfl, x, _, dx, [], rfl, s1 _ _ hx, T.c_System, T.n_System_triples, by decide, hQ _ s1⟩
/-- what System(..) gives -/
theorem sysAt_made {H : Hp} {x dx p : Addr} {ps : List Addr} {S : Sys} (h : H x = some (.ins (He.ga K "System") dx [("triples", .ref p)])) (hp : SqT K H p (rV ps)) (ht : Trips K H ps S) : SysAt K H x S := ⟨dx, p, ps, h, hp, ht⟩
end
end KW
/-! The walk, part 10: System(..), System.of, ==, replaced. -/
namespace KW
open PySem PySem.Spec PyProof.Rows L2 KR K19 StX
section
variable {P : Program} {w : World} {K : PySem.W.Frag} {mg : PySem.Str → Option Value} {base : Heap}
/-- what a system must have to be made -/
def SOk (S : Sys) : Prop := 0 < S.length ∧ S.length ≤ 12 ∧ ∀ c, c < S.length → COk S.length (S.at c)
theorem sok_of {S : Sys} {rk : Nat → Nat} {bs : Nat} (ok : SysOk S rk bs) : SOk S := ⟨ok.pos, ok.len, fun c hc => ⟨ok.ops8 c hc, ok.opsN c hc, ok.opsL c hc, ok.fnOk c hc, ok.gOk c hc⟩⟩
def spSysInit : Sp := fun vs H Q _ => ∃ (x dx : Addr) (ps : List Addr) (S : Sys), vs = .ref x :: rV ps ∧ H x = some (.ins (He.ga K "System") dx []) ∧ Trips K H ps S ∧ SOk S ∧
  ∀ p H1, Same H H1 → H1 p = some (.tup (rV ps)) → Q .non (upd H1 x (.ins (He.ga K "System") dx [("triples", .ref p)]))
theorem ok_System_init (T : Txt K mg) : FR P w K mg base CX0 5 d_System_init (spSysInit (K := K)) := (ok_sysinit0 T).imp fun vs H Q E ⟨x, dx, ps, S, e, hx, ht, ok, hQ⟩ => by
  refine ⟨[.ref x], rV ps, e, rfl, by rw [List.length_map, ht.1]; exact Nat.le_trans ok.2.1 (by decide), fun p hp => ?_⟩
  have s1 := same_upd (o := .tup (rV ps)) hp
  exact ⟨x, dx, p, ps, S, rfl, s1 _ _ hx, upd_same, ht.mono (same_sk s1), ok.1, ok.2.1, ok.2.2, fun H1 s2 => hQ p H1 (Same.trans s1 s2) (s2 _ _ upd_same)⟩
/-- .. as a call's reading asks it -/
theorem sys_made {H1 : Hp} {ps : List Addr} {S : Sys} {Q : VK} {E : XK} (ht : Trips K H1 ps S) (ok : SOk S) (hQ : ∀ b H', Same H1 H' → H1 b = none → SysAt K H' b S → Q (.ref b) H') :
    ∀ x dx, H1 x = Option.none → H1 dx = Option.none → dx ≠ x → spSysInit (K := K) (V.ref x :: rV ps) (upd (upd H1 dx (.own x)) x (.ins (He.ga K "System") dx [])) (fun v H2 => v = .non ∧ Q (.ref x) H2) E := fun x dx hx hdx ne => by
  have s1 : Same H1 (upd H1 dx (.own x)) := same_upd hdx
  have hx1 : upd H1 dx (.own x) x = none := by rw [upd_ne (Ne.symm ne)]; exact hx
  have s2 : Same H1 (upd (upd H1 dx (.own x)) x (.ins (He.ga K "System") dx [])) := Same.trans s1 (same_upd hx1)
  refine ⟨x, dx, ps, S, rfl, upd_same, ht.mono (same_sk s2), ok, fun p H2 s3 hp => ⟨rfl, ?_⟩⟩
  have px : p ≠ x := by
    rintro rfl
    have := s3 _ _ upd_same
    rw [hp] at this
    cases this
  have s4 : Same H1 (upd H2 x (.ins (He.ga K "System") dx [("triples", .ref p)])) := same_trans_upd (Same.trans s2 s3) hx
  exact hQ x _ s4 hx ⟨dx, p, ps, upd_same, .inl (.inl (by rw [upd_ne px]; exact hp)), ht.mono (same_sk s4)⟩
def spOf : Sp := fun vs H Q _ => ∃ (l : Addr) (ps : List Addr) (S : Sys), vs = [.ref (He.ga K "System"), .ref l] ∧ (SqT K H l (rV ps) ∨ SqL K H l (rV ps)) ∧ Trips K H ps S ∧ SOk S ∧ ∀ b H', Same H H' → H b = none → SysAt K H' b S → Q (.ref b) H'
theorem ok_System_of (T : Txt K mg) : FD P w K mg base CX0 7 d_System_of ["cls", "parts"] (spOf (K := K)) := by
  refine fd_of T.d_System_of sc_System_of (fun vs H Q E h => ?_) (fun cdv A outer s H vs Q E hr h => ?_)
  · obtain ⟨l, ps, S, rfl, _⟩ := h
    rfl
  · obtain ⟨l, ps, S, rfl, hl, ht, ok, hQ⟩ := h
    refine ⟨_, (pss_one (ps_ret (pe_makeSV (i := 0) T.k_System (ok_System_init T).fn (hr.mono (by decide)) rfl (Or.inl rfl) pass0 (pv 1)))), ?_⟩
    exact ⟨rfl, _, rfl, l, rV ps, rfl, hl, sys_made ht ok hQ⟩
/-! ### == -/
def fnD : Fn → PyData
  | .lv k c => .tuple [.str (kName k), .int c]
  | .tb t => .tuple [.str "table", .tuple (t.map PyData.int)]
def cellD (c : Cell) : PyData := .tuple [dT c.ops, fnD c.fn, .int c.g]
def sysD (S : Sys) : PyData := .tuple (S.map cellD)
theorem dpAll_z {H : Hp} : ∀ l : List Int, DpAll K H (zV l) (l.map PyData.int)
  | [] => .nil
  | x :: l => .cons (.int x) (dpAll_z l)
theorem dp_fn {H : Hp} {a : Addr} : ∀ {f : Fn}, FnV K H a f → Dp K H (.ref a) (fnD f)
  | .lv k c, h => .tup h (.cons (.str _) (.cons (.int c) .nil))
  | .tb t, ⟨b, h1, h2⟩ => .tup h1 (.cons (.str _) (.cons (.tup h2 (dpAll_z t)) .nil))
theorem dp_trip {H : Hp} {p : Addr} {c : Cell} : Trip K H p c → Dp K H (.ref p) (cellD c) := fun ⟨o, f, hp, ho, hf⟩ => .tup (.inl (.inl hp)) (.cons (dp_tup ho) (.cons (dp_fn hf) (.cons (.int c.g) .nil)))
theorem dp_trips {H : Hp} : ∀ {ps : List Addr} {S : Sys}, Trips K H ps S → DpAll K H (rV ps) (S.map cellD)
  | [], [], _ => .nil
  | [], c :: S, h => by have := h.1; simp at this
  | p :: ps, [], h => by have := h.1; simp at this
  | p :: ps, c :: S, h => .cons (dp_trip (h.2 0 p rfl)) (dp_trips (ps := ps) (S := S) ⟨by have := h.1; simpa using this, fun i q hq => h.2 (i + 1) q (by simpa using hq)⟩)
theorem cl_z : ∀ l : List Int, PyData.canLayAll0 (l.map PyData.int) = true
  | [] => rfl
  | x :: l => by rw [List.map_cons, PyData.canLayAll0, cl_z l]; rfl
theorem dz_z : ∀ l : List Int, PyData.depthAll (l.map PyData.int) = 0
  | [] => rfl
  | x :: l => by rw [List.map_cons, PyData.depthAll, dz_z l]; rfl
theorem fnD_ok (f : Fn) : (fnD f).canLay0 = true ∧ (fnD f).depth ≤ 2 := by
  cases f with
  | lv k c =>
    have hk : PyData.strOk (kName k) = true := by cases k <;> decide +kernel
    unfold fnD
    refine ⟨?_, ?_⟩
    · simp only [PyData.canLay0, PyData.canLayAll0, hk]; rfl
    · simp only [PyData.depth, PyData.depthAll]; decide
  | tb t =>
    unfold fnD
    refine ⟨?_, ?_⟩
    · simp only [PyData.canLay0, PyData.canLayAll0, cl_z]; decide +kernel
    · simp only [PyData.depth, PyData.depthAll, dz_z]; decide
theorem cellD_ok (c : Cell) : (cellD c).canLay0 = true ∧ (cellD c).depth ≤ 3 := by
  unfold cellD
  obtain ⟨h1, h2⟩ := fnD_ok c.fn
  refine ⟨?_, ?_⟩
  · simp only [PyData.canLay0, PyData.canLayAll0, cl_ints, h1]; decide
  · simp only [PyData.depth, PyData.depthAll, dp_ints]; omega
theorem sysD_sh (S : Sys) : SeqAt.shaped (sysD S) = true := by
  have h1 : ∀ l : List Cell, PyData.canLayAll0 (l.map cellD) = true := fun l => by
    induction l with
    | nil => rfl
    | cons c l ih => rw [List.map_cons, PyData.canLayAll0, (cellD_ok c).1, ih]; rfl
  have h2 : ∀ l : List Cell, PyData.depthAll (l.map cellD) ≤ 3 := fun l => by
    induction l with
    | nil => exact Nat.zero_le _
    | cons c l ih => rw [List.map_cons, PyData.depthAll]; exact Nat.max_le.mpr ⟨(cellD_ok c).2, ih⟩
  unfold SeqAt.shaped sysD
  rw [PyData.canLay0, h1, PyData.depth, Bool.true_and]
  have := h2 S
  exact decide_eq_true (by omega)
def spSysEq : Sp := fun vs H Q _ => ∃ (a b : Addr) (S : Sys), vs = [.ref a, .ref b] ∧ SysAt K H a S ∧ SysAt K H b S ∧ Q (.bl true) H
theorem ok_System_eq (T : Txt K mg) : FD P w K mg base CX0 1 d_System_eq ["self", "other"] (spSysEq (K := K)) := by
  refine fd_of T.d_System_eq sc_System_eq (fun vs H Q E h => ?_) (fun cdv A outer s H vs Q E hr h => ?_)
  · obtain ⟨a, b, S, rfl, _⟩ := h
    rfl
  · obtain ⟨a, b, S, rfl, ⟨dx, t, ps, h1, h2, h3⟩, ⟨dx', t', ps', h1', h2', h3'⟩, hQ⟩ := h
    have hu := Room.u64 hr
    refine ⟨_, (pss_one (ps_ret (pe_and (pe_callB (call_isiK' K rfl) rfl T.f_isinstance boot_isinstance (pa_cons (pv 1) (pa_cons (pe_gref rfl T.g_System) pa_nil))) (pe_one (pe_cmpR (op_eqDK K rfl hu) (pe_fldK K rfl (pv 0) rfl) (pe_fldK K rfl (pv 1) rfl) (nomark _)))))), ?_⟩
    refine ⟨_, rfl, _, _, _, _, true, rfl, .own _, T.ty_System _ _ _ _ h1', T.ki_System_System, true, rfl, iteT ?_⟩
    refine ⟨_, rfl, a, _, dx, _, _, rfl, h1, T.c_System, T.n_System_triples, rfl, _, rfl, b, _, dx', _, _, rfl, h1', T.c_System, T.n_System_triples, rfl, sysD S, sysD S, .tup h2 (dp_trips h3), .tup h2' (dp_trips h3'), sysD_sh S, sysD_sh S, ?_⟩
    exact q_bl (SeqAt.eqv_refl _ (SeqAt.canLay_of_shaped (sysD_sh S))) hQ
/-! ### replaced -/
theorem sl_any {H : Hp} {a : Addr} {xs : List V} {lo hi : Option Int} {Q : VK} (h : SqT K H a xs) (q : ∀ r H', Same H H' → SqT K H' r (cutV xs lo hi) → Q (.ref r) H') : rSlA K (.ref a) lo hi H Q := by
  refine ⟨a, xs, rfl, h, fun e => q a H (Same.refl H) ?_, fun _ p hp => q p _ (same_upd hp) sqT_upd⟩
  unfold cutV
  rw [e.1, e.2, List.drop_zero, Nat.sub_zero, List.take_length]
  exact h
theorem cut_to {xs : List V} {c : Nat} (h : c ≤ xs.length) : cutV xs none (some (c : Int)) = xs.take c := by
  unfold cutV
  rw [HT.sIx_none, HT.sIx_nat, Nat.sub_zero, List.drop_zero, Nat.min_eq_left h]
theorem cut_from {xs : List V} {c : Nat} (h : c ≤ xs.length) : cutV xs (some (c : Int)) none = xs.drop c := by
  unfold cutV
  rw [HT.sIx_none, HT.sIx_nat, Nat.min_eq_left h]
  exact List.take_of_length_le (by rw [List.length_drop]; exact Nat.le_refl _)
theorem at_set {S : Sys} {c : Nat} {v : Cell} (hc : c < S.length) (i : Nat) : Sys.at (S.set c v) i = if i = c then v else Sys.at S i := by
  unfold Sys.at
  rw [List.getD_eq_getElem?_getD, List.getD_eq_getElem?_getD]
  by_cases h : i = c
  · subst h; rw [if_pos rfl, List.getElem?_set_self hc]; rfl
  · rw [if_neg h, List.getElem?_set_ne (Ne.symm h)]
def reguess (S : Sys) (c : Nat) (g : Int) : Sys := S.set c { S.at c with g := g }
theorem trips_set {H : Hp} {ps : List Addr} {S : Sys} {c : Nat} {q : Addr} {v : Cell} (h : Trips K H ps S) (hc : c < S.length) (hq : Trip K H q v) : Trips K H (ps.set c q) (S.set c v) := by
  refine ⟨by rw [List.length_set, List.length_set]; exact h.1, fun i p hp => ?_⟩
  rw [at_set hc]
  by_cases e : i = c
  · subst e
    rw [List.getElem?_set_self (by rw [h.1]; exact hc)] at hp
    cases hp
    rw [if_pos rfl]; exact hq
  · rw [List.getElem?_set_ne (Ne.symm e)] at hp
    rw [if_neg e]; exact h.2 i p hp
theorem reguess_ok {S : Sys} {c : Nat} {g : Int} (ok : SOk S) (hc : c < S.length) (hg : Lev g) : SOk (reguess S c g) := by
  unfold reguess
  refine ⟨by rw [List.length_set]; exact ok.1, by rw [List.length_set]; exact ok.2.1, fun i hi => ?_⟩
  rw [List.length_set] at hi ⊢
  rw [at_set hc]
  by_cases e : i = c
  · rw [if_pos e]
    have := ok.2.2 c hc
    exact ⟨this.ops8, this.opsN, this.opsL, this.fnOk, hg⟩
  · rw [if_neg e]; exact ok.2.2 i hi
def spReplaced : Sp := fun vs H Q _ => ∃ (a : Addr) (S : Sys) (c : Nat) (g : Int), vs = [.ref a, .int c, .non, .non, .int g] ∧ SysAt K H a S ∧ SOk S ∧ c < S.length ∧ Lev g ∧ ∀ b H', Same H H' → H b = none → SysAt K H' b (reguess S c g) → Q (.ref b) H'
theorem ok_System_replaced (T : Txt K mg) : FD P w K mg base CX0 7 d_System_replaced ["self", "cell", "operands", "function", "guess"] (spReplaced (K := K)) := by
  refine fd_of T.d_System_replaced sc_System_replaced (fun vs H Q E h => ?_) (fun cdv A outer s H vs Q E hr h => ?_)
  · obtain ⟨a, S, c, g, rfl, _⟩ := h
    rfl
  · obtain ⟨a, S, c, g, rfl, hs, ok, hc, hg, hQ⟩ := h
    refine ⟨_, (pss_cons (ps_set (i := 5) sc_System_replaced.nd rfl (by first | exact Or.inl rfl | exact Or.inr rfl | exact Or.inr (Or.inl rfl)) (pe_lst (pa_cons (pv 2) (pa_cons (pv 3) (pa_cons (pv 4) pa_nil))))) (pss_cons (ps_set (i := 6) sc_System_replaced.nd rfl (by first | exact Or.inl rfl | exact Or.inr rfl | exact Or.inr (Or.inl rfl)) (pe_callTy call_tuple_of rfl T.f_tuple boot_tuple (pa_cons (pe_lc rfl sc_System_replaced.nd (pi_zipTL rfl T.f_zip (pa_cons (pe_mdX (ok_System_triple T) hr pass0 T.c_System T.m_System_triple rfl b_System_triple (pv 0) (pa_cons (pv 1) pa_nil)) (pa_cons (pv 5) pa_nil))) (own := [("old", 8), ("new", 9)]) (blkOk_by (by kernel_rfl)) (fun _ _ _ _ _ => (pg_tupK (n := 2) K rfl rfl (pgs_cons (pg_name (i := 8) sc_System_replaced.nd rfl (by first | exact Or.inl rfl | exact Or.inr rfl | exact Or.inr (Or.inl rfl))) (pgs_cons (pg_name (i := 9) sc_System_replaced.nd rfl (by first | exact Or.inl rfl | exact Or.inr rfl | exact Or.inr (Or.inl rfl))) pgs_nil)))) (fun _ _ _ _ _ => pts_nil) (fun _ _ _ _ _ => (pe_ifExp (pt_cmpR op_isN (pv 9) pe_non (nomark _)) (pv 8) (pv 9)))) pa_nil))) (pss_cons (ps_if (pt_not (pt_val (pe_def (ok_is_cell T) hr rfl T.g_is_cell rfl b_is_cell (pa_cons (pv 6) (pa_cons (pe_callB (call_lenK K rfl) rfl T.f_len boot_len (pa_cons (pe_fldK K rfl (pv 0) rfl) pa_nil)) pa_nil))))) (pss_one ps_never) pss_nil) (pss_cons (ps_set (i := 7) sc_System_replaced.nd rfl (by first | exact Or.inl rfl | exact Or.inr rfl | exact Or.inr (Or.inl rfl)) (pe_lst (pa_star (pe_slice (sl_tupK K rfl) (pe_fldK K rfl (pv 0) rfl) po_none (po_some (pv 1))) (pa_cons (pv 6) (pa_star (pe_slice (sl_tupK K rfl) (pe_fldK K rfl (pv 0) rfl) (po_some (pe_op op_add (pv 1) pe_int)) po_none) pa_nil))))) (pss_one (ps_ret (pe_makeS T.k_System (ok_System_init T).fn (hr.mono (by decide)) rfl T.g_System pass0 (pv 7)))))))), ?_⟩
    refine ⟨_, rfl, _, rfl, _, rfl, (by show 3 ≤ sizeLine; decide), fun pl hpl => ?_⟩
    have s1 := same_upd (o := .lst [.non, .non, .int g]) hpl
    have epl : upd H pl (.lst [.non, .non, .int g]) pl = some (.lst [.non, .non, .int g]) := upd_same
    generalize upd H pl (.lst [.non, .non, .int g]) = H1 at *
    have hs1 := hs.mono (same_sk (K := K) s1)
    have ⟨dx, t, ps, h1, h2, h3⟩ := hs1
    refine ⟨_, rfl, a, dx, _, rfl, h1, rfl, _, rfl, a, S, c, rfl, hs1, hc, fun p ⟨o, f, hp, ho, hf⟩ => ?_⟩
    refine ⟨_, rfl, p, pl, _, _, rfl, hp, epl, fun D hD => ?_⟩
    refine lc_same (walk_zipTL (xs := [.ref o, .ref f, .int (S.at c).g]) (ys := [.non, .non, .int g]) (n := 3) rfl) (fun i acc _ => acc = [V.ref o, .ref f, .int g].take i) hD (by decide) (fun H' s => ⟨s _ _ hp, s _ _ epl⟩) (fun _ _ => rfl) (fun i x H2 H3 acc K1 K0 hi s2 _ _ ea y k1 k0 => ?_) (fun H2 acc s2 ed ea => ?_)
    · obtain ⟨T0, x0, y0, rfl, hT, rfl, e1, e2⟩ := y
      refine ⟨_, _, rfl, sqT_upd, rfl, _, _, rfl, _, _, rfl, rfl, rfl, yesP (iteT ⟨_, rfl, rfl, _, rfl, ?_⟩)⟩
      match i, hi, e1, e2 with
      | 0, _, e1, e2 =>
        cases e1; cases e2
        exact iteT ⟨_, rfl, k1 _ _ (same_upd hT) fun H5 _ => by rw [ea]; rfl⟩
      | 1, _, e1, e2 =>
        cases e1; cases e2
        exact iteT ⟨_, rfl, k1 _ _ (same_upd hT) fun H5 _ => by rw [ea]; rfl⟩
      | 2, _, e1, e2 =>
        cases e1; cases e2
        exact iteF ⟨_, rfl, k1 _ _ (same_upd hT) fun H5 _ => by rw [ea]; rfl⟩
    · refine ⟨D, acc, rfl, .inl ⟨.inl (.inl ed), fun q hq => ?_⟩⟩
      rw [ea]
      have s3 : Same H1 (upd H2 q (.tup [.ref o, .ref f, .int g])) := Same.trans s2 (same_upd hq)
      have eq : upd H2 q (.tup [.ref o, .ref f, .int g]) q = some (.tup [.ref o, .ref f, .int g]) := upd_same
      show (tSeq _ _) _ _ (upd H2 q (.tup [.ref o, .ref f, .int g]))
      generalize upd H2 q (.tup [.ref o, .ref f, .int g]) = H3 at *
      have tq : Trip K H3 q { S.at c with g := g } := ⟨o, f, eq, same_tk s3 _ _ ho, hf.mono (same_tk s3)⟩
      have rk := reguess_ok ok hc hg
      have lr : (reguess S c g).length = S.length := List.length_set
      have cok : COk S.length { S.at c with g := g } := by
        have := ok.2.2 c hc
        exact ⟨this.ops8, this.opsN, this.opsL, this.fnOk, hg⟩
      have lps : (rV ps).length = S.length := by rw [List.length_map]; exact h3.1
      have ht3 := same_tk s3 _ _ h2
      refine ⟨_, rfl, _, rfl, a, _, dx, _, _, rfl, s3 _ _ h1, T.c_System, T.n_System_triples, rfl, _, _, rfl, .inr ht3, q, (rV ps).length, _, rfl, tq, by rw [lps]; exact cok, fun H4 s4 => ⟨true, rfl, iteF ?_⟩⟩
      have s04 := Same.trans s3 s4
      refine ⟨_, rfl, a, _, dx, _, _, rfl, s04 _ _ h1, T.c_System, T.n_System_triples, rfl, ⟨_, rfl, _, rfl, sl_any (same_tk s04 _ _ h2) fun r1 H5 s5 hr1 => ?_⟩⟩
      rw [cut_to (by omega)] at hr1
      refine ⟨r1, _, rfl, .inl hr1, _, rfl, ?_⟩
      have s05 := Same.trans s04 s5
      refine ⟨_, rfl, a, _, dx, _, _, rfl, s05 _ _ h1, T.c_System, T.n_System_triples, rfl, ⟨_, rfl, _, _, rfl, rfl, _, rfl, ?_⟩⟩
      unfold tNoPart
      refine sl_any (same_tk s05 _ _ h2) fun r2 H6 s6 hr2 => ?_
      have e1 : ((c : Int) + 1) = ((c + 1 : Nat) : Int) := by omega
      rw [e1, cut_from (by omega)] at hr2
      have s06 := Same.trans s05 s6
      have eL : (rV ps).take c ++ (V.ref q :: ((rV ps).drop (c + 1) ++ [])) = rV (ps.set c q) := by
        rw [List.append_nil, List.set_eq_take_append_cons_drop, if_pos (by rw [h3.1]; exact hc)]
        simp [rV, List.map_take, List.map_drop]
      refine ⟨r2, _, rfl, .inl hr2, ?_⟩
      have lE : (rV (ps.set c q)).length ≤ sizeLine := by rw [List.length_map, List.length_set, h3.1]; exact Nat.le_trans ok.2.1 (by decide)
      refine ⟨by rw [eL]; exact lE, fun z hz => ?_⟩
      rw [eL]
      have s7 := same_upd (o := .lst (rV (ps.set c q))) hz
      have s07 := Same.trans s06 s7
      have tps : Trips K (upd H6 z (.lst (rV (ps.set c q)))) (ps.set c q) (reguess S c g) := trips_set (h3.mono (same_sk s07)) hc (tq.mono (same_sk (Same.trans s4 (Same.trans s5 (Same.trans s6 s7)))))
      refine ⟨_, rfl, z, rV (ps.set c q), rfl, .inr sqL_upd, sys_made tps rk fun b H' s8 hb hsb => hQ b H' (Same.trans s1 (Same.trans s07 s8)) ((Same.trans s1 s07).free hb) hsb⟩
end
end KW
/-! The walk, part 11: what a run holds. -/
namespace KW
open PySem PySem.Spec PyProof.Rows L2 KR K19 StX
/-! ### cells of the heap, told in a list -/
def Cont (c : List (Addr × HO)) (H : Hp) : Prop := (c.map (·.1)).Nodup ∧ ∀ p ∈ c, H p.1 = some p.2
theorem Cont.at {c : List (Addr × HO)} {H : Hp} (h : Cont c H) (i : Nat) {a : Addr} {o : HO} (e : c[i]? = some (a, o) := by rfl) : H a = some o := h.2 _ (List.mem_of_getElem? e)
theorem Cont.set {c : List (Addr × HO)} {H : Hp} (h : Cont c H) (i : Nat) {a : Addr} {o o' : HO} (e : c[i]? = some (a, o) := by rfl) : Cont (c.set i (a, o')) (upd H a o') := by
  have hi : i < c.length := (List.getElem?_eq_some_iff.mp e).1
  have em : (c.set i (a, o')).map (·.1) = c.map (·.1) := by
    rw [List.map_set]
    refine List.ext_getElem? fun j => ?_
    by_cases hj : j = i
    · subst hj
      rw [List.getElem?_set_self (by rw [List.length_map]; exact hi), List.getElem?_map, e]
      rfl
    · rw [List.getElem?_set_ne (Ne.symm hj)]
  refine ⟨by rw [em]; exact h.1, fun p hp => ?_⟩
  obtain ⟨j, hj⟩ := List.mem_iff_getElem?.mp hp
  by_cases e2 : j = i
  · subst e2
    rw [List.getElem?_set_self hi] at hj
    cases hj
    exact upd_same
  · rw [List.getElem?_set_ne (Ne.symm e2)] at hj
    have hpa : p.1 ≠ a := by
      rintro rfl
      refine e2 ?_
      have h1 : (c.map (·.1))[j]? = some p.1 := by rw [List.getElem?_map, hj]; rfl
      have h2 : (c.map (·.1))[i]? = some p.1 := by rw [List.getElem?_map, e]; rfl
      have i1 := (List.getElem?_eq_some_iff.mp h1).1
      have i2 := (List.getElem?_eq_some_iff.mp h2).1
      exact (List.getElem_inj h.1).mp ((List.getElem?_eq_some_iff.mp h1).2.trans (List.getElem?_eq_some_iff.mp h2).2.symm)
    rw [upd_ne hpa]
    exact h.2 p (List.mem_of_getElem? hj)
theorem Cont.same {c : List (Addr × HO)} {H H' : Hp} (h : Cont c H) (s : Same H H') : Cont c H' := ⟨h.1, fun p hp => s _ _ (h.2 p hp)⟩
theorem Cont.new {c : List (Addr × HO)} {H : Hp} (h : Cont c H) {a : Addr} {o : HO} (e : H a = none) : Cont ((a, o) :: c) (upd H a o) := by
  refine ⟨?_, fun p hp => ?_⟩
  · rw [List.map_cons, List.nodup_cons]
    refine ⟨fun hm => ?_, h.1⟩
    obtain ⟨p, hp, e2⟩ := List.mem_map.mp hm
    have := h.2 p hp
    rw [e2, e] at this
    cases this
  · rcases List.mem_cons.mp hp with rfl | hp
    · exact upd_same
    · have hne : p.1 ≠ a := fun z => by
        have := h.2 p hp
        rw [z, e] at this
        cases this
      rw [upd_ne hne]
      exact h.2 p hp
theorem Cont.sub {c d : List (Addr × HO)} {H : Hp} (h : Cont c H) (s : d.Sublist c) : Cont d H := ⟨List.Pairwise.sublist (s.map _) h.1, fun p hp => h.2 p (s.subset hp)⟩
theorem Cont.perm {c d : List (Addr × HO)} {H : Hp} (h : Cont c H) (s : d.Perm c) : Cont d H := ⟨(s.map _).nodup_iff.mpr h.1, fun p hp => h.2 p (s.mem_iff.mp hp)⟩
/-! ### events, rows -/
def EvT (K : PySem.W.Frag) (H : Hp) (a : Addr) : Ev → Prop
  | .stored c v => H a = some (.tup [.str "stored", .int (c : Nat), .int v])
  | .busy c g => H a = some (.tup [.str "busy", .int (c : Nat), .int g])
  | .call c => H a = some (.tup [.str "call", .int (c : Nat)])
  | .fin c v T k => ∃ t, H a = some (.tup [.str "end", .int (c : Nat), .int v, .ref t, .bl k]) ∧ SqT K H t (lV T)
  | .reused c v T => ∃ t, H a = some (.tup [.str "reused", .int (c : Nat), .int v, .ref t]) ∧ SqT K H t (lV T)
theorem EvT.mono {K : PySem.W.Frag} {H H' : Hp} (h : SK K H H') {a : Addr} : ∀ {e : Ev}, EvT K H a e → EvT K H' a e
  | .stored _ _, q => h _ _ trivial q
  | .busy _ _, q => h _ _ trivial q
  | .call _, q => h _ _ trivial q
  | .fin _ _ _ _, ⟨t, q, r⟩ => ⟨t, h _ _ trivial q, h.tk _ _ r⟩
  | .reused _ _ _, ⟨t, q, r⟩ => ⟨t, h _ _ trivial q, h.tk _ _ r⟩
abbrev EvsAt (K : PySem.W.Frag) (H : Hp) (es : List Addr) (l : List Ev) : Prop := Paired (EvT K H) es l
theorem EvsAt.mono {K : PySem.W.Frag} {H H' : Hp} (h : SK K H H') {es : List Addr} {l : List Ev} (t : EvsAt K H es l) : EvsAt K H' es l := Paired.mapP t fun _ _ q => q.mono h
def RowT (K : PySem.W.Frag) (H : Hp) (p : Addr × Addr) (r : K19.Row) : Prop := ∃ t, H p.1 = some (.tup [.int (r.cell : Nat), .int r.val, .ref t, .ref p.2]) ∧ SqT K H t (lV r.taint) ∧ H p.2 = some (.lst (lV r.used))
abbrev RowsAt (K : PySem.W.Frag) (H : Hp) (rs : List (Addr × Addr)) (l : List K19.Row) : Prop := Paired (RowT K H) rs l
/-! ### a run -/
structure RA where
  x : Addr
  dx : Addr
  sys : Addr
  b : Addr
  bu : Addr
  lg : Addr
  rm : Addr
  ga : Addr
  gl : Addr
  gt : List (Addr × List Nat)
  av : List Addr
def limV : Option Nat → V
  | none => .non
  | some n => .int (n : Nat)
def CR (K : PySem.W.Frag) (ex : Bool) : Addr := if ex then He.ga K "ExactRun" else He.ga K "Run"
def RA.fs (r : RA) (ex : Bool) (lim : Option Nat) (n : Nat) : List (PySem.Str × V) := ("net", .ref r.sys) :: ("board", .ref r.b) :: ("rule", .str "clean") :: ("busy", .ref r.bu) :: ("allowed", limV lim) :: ("begun", .int (n : Nat)) :: ("happened", .ref r.lg) ::
  (if ex then [("remembered", .ref r.rm), ("gathered", .ref r.ga)] else [])
def RA.gs (r : RA) (g : List Nat) : List (Addr × List Nat) := (r.gl, g) :: r.gt
def RA.cont (K : PySem.W.Frag) (r : RA) (ex : Bool) (lim : Option Nat) (st : K19.St) (B : List Nat) (g : List Nat) (es : List Addr) (rs : List (Addr × Addr)) : List (Addr × HO) :=
  (r.x, .ins (CR K ex) r.dx (r.fs ex lim st.begun)) :: (r.b, .lst (st.board.map bV)) :: (r.bu, .lst (lV B)) :: (r.lg, .lst (rV es)) ::
  (if ex then (r.rm, .lst (rV (rs.map (·.1)))) :: (r.ga, .lst (rV ((r.gs g).map (·.1)).reverse)) :: (r.gs g).map (fun p => (p.1, .lst (lV p.2))) else [])
def RA.mut (r : RA) (ex : Bool) : List Addr := r.x :: r.b :: r.bu :: r.lg :: (if ex then [r.rm, r.ga, r.gl] else [])
structure RunAt (K : PySem.W.Frag) (H : Hp) (ex : Bool) (S : Sys) (r : RA) (lim : Option Nat) (st : K19.St) (B g : List Nat) : Prop where
  ex : ∃ es rs, Cont (r.cont K ex lim st B g es rs) H ∧ EvsAt K H es st.log ∧ (ex = true → RowsAt K H rs st.known ∧ ∀ p ∈ rs, p.2 ∉ (r.cont K ex lim st B g es rs).map (·.1) ∧ p.2 ∉ r.av) ∧ ∀ a ∈ r.av, (∃ o, H a = some o) ∧ a ∉ (r.cont K ex lim st B g es rs).map (·.1)
  sys : SysAt K H r.sys S
section
variable {K : PySem.W.Frag} {mg : PySem.Str → Option Value} {H H' : Hp} {ex : Bool} {S : Sys} {r : RA} {lim : Option Nat} {st : K19.St} {B g : List Nat}
theorem RA.addrs (r : RA) (lim : Option Nat) (st : K19.St) (B g : List Nat) (es : List Addr) (rs : List (Addr × Addr)) (lim' : Option Nat) (st' : K19.St) (B' g' : List Nat) (es' : List Addr) (rs' : List (Addr × Addr)) :
    (r.cont K ex lim st B g es rs).map (·.1) = (r.cont K ex lim' st' B' g' es' rs').map (·.1) := by
  cases ex <;> rfl
theorem RowsAt.same {rs : List (Addr × Addr)} {l : List K19.Row} (s : Same H H') (h : RowsAt K H rs l) : RowsAt K H' rs l := Paired.mapP h fun _ _ ⟨t, h1, h2, h3⟩ => ⟨t, s _ _ h1, same_tk s _ _ h2, s _ _ h3⟩
theorem RunAt.same (h : RunAt K H ex S r lim st B g) (s : Same H H') : RunAt K H' ex S r lim st B g := by
  obtain ⟨⟨es, rs, c, e, q, v⟩, y⟩ := h
  exact ⟨⟨es, rs, c.same s, e.mono (same_sk s), fun z => ⟨(q z).1.same s, (q z).2⟩, fun a ha => ⟨let ⟨o, ho⟩ := (v a ha).1; ⟨o, s _ _ ho⟩, (v a ha).2⟩⟩, y.mono (same_sk s)⟩
theorem tracked_upd {a b : Addr} {o : HO} (h : ∃ u, H b = some u) : ∃ u, upd H a o b = some u := by
  by_cases e : b = a
  · subst e; exact ⟨_, upd_same⟩
  · obtain ⟨u, hu⟩ := h; exact ⟨u, by rw [upd_ne e]; exact hu⟩
/-- a used list stands apart from what the run writes -/
theorem rows_upd {rs : List (Addr × Addr)} {l : List K19.Row} {a : Addr} {o : HO} (h : RowsAt K H rs l) (n : ∀ p ∈ rs, p.2 ≠ a) (k : SK K H (upd H a o)) : RowsAt K (upd H a o) rs l := by
  induction h with
  | nil => exact .nil
  | @cons p w rs l hd tl ih =>
    obtain ⟨t, h1, h2, h3⟩ := hd
    exact .cons ⟨t, k _ _ trivial h1, k.tk _ _ h2, by rw [upd_ne (n p List.mem_cons_self)]; exact h3⟩ (ih fun q hq => n q (List.mem_cons_of_mem _ hq))
/-- one of its cells is written -/
theorem RunAt.write {st' : K19.St} {B' g' : List Nat} {a : Addr} {o u : HO} (es : List Addr) (rs : List (Addr × Addr)) (i : Nat) (c : Cont (r.cont K ex lim st B g es rs) H) (e : EvsAt K H es st.log) (q : ex = true → RowsAt K H rs st.known ∧ ∀ p ∈ rs, p.2 ∉ (r.cont K ex lim st B g es rs).map (·.1) ∧ p.2 ∉ r.av) (v : ∀ a ∈ r.av, (∃ o, H a = some o) ∧ a ∉ (r.cont K ex lim st B g es rs).map (·.1)) (y : SysAt K H r.sys S)
    (hi : (r.cont K ex lim st B g es rs)[i]? = some (a, u)) (hn : ¬ Stb K u) (hc : (r.cont K ex lim st B g es rs).set i (a, o) = r.cont K ex lim st' B' g' es rs) (hl : st'.log = st.log) (hk : st'.known = st.known) :
    RunAt K (upd H a o) ex S r lim st' B' g' := by
  have ea := c.at i hi
  have k : SK K H (upd H a o) := .upd ea hn
  refine ⟨⟨es, rs, by rw [← hc]; exact c.set i hi, by rw [hl]; exact e.mono k, fun z => ?_, fun b hb => ⟨tracked_upd (v b hb).1, by rw [RA.addrs r lim st' B' g' es rs lim st B g es rs]; exact (v b hb).2⟩⟩, y.mono k⟩
  obtain ⟨q1, q2⟩ := q z
  rw [hk]
  refine ⟨rows_upd q1 (fun p hp e => (q2 p hp).1 ?_) k, fun p hp => ?_⟩
  · rw [e]
    exact List.mem_map.mpr ⟨(a, u), List.mem_of_getElem? hi, rfl⟩
  · rw [RA.addrs r lim st' B' g' es rs lim st B g es rs]
    exact q2 p hp
/-- an address that the used lists are to avoid from now on -/
def RA.guard (r : RA) (a : Addr) : RA := { r with av := a :: r.av }
theorem RunAt.guard (h : RunAt K H ex S r lim st B g) {a : Addr} {o : HO} (ha : H a = none) : RunAt K (upd H a o) ex S (r.guard a) lim st B g := by
  have s1 : Same H (upd H a o) := same_upd ha
  obtain ⟨⟨es, rs, c, e, q, v⟩, y⟩ := h
  refine ⟨⟨es, rs, c.same s1, e.mono (same_sk s1), fun z => ⟨(q z).1.same s1, fun p hp => ⟨((q z).2 p hp).1, fun hm => ?_⟩⟩, fun b hb => ?_⟩, y.mono (same_sk s1)⟩
  · rcases List.mem_cons.mp hm with e2 | e2
    · obtain ⟨i, hi⟩ := List.mem_iff_getElem?.mp hp
      obtain ⟨row, _, t, _, _, h3⟩ := paired_at (q z).1 hi
      rw [e2, ha] at h3
      cases h3
    · exact ((q z).2 p hp).2 e2
  · rcases List.mem_cons.mp hb with e2 | e2
    · rw [e2]
      refine ⟨⟨o, upd_same⟩, fun hm => ?_⟩
      obtain ⟨p, hp, e3⟩ := List.mem_map.mp hm
      have := c.2 p hp
      rw [e3, ha] at this
      cases this
    · exact ⟨let ⟨u, hu⟩ := (v b e2).1; ⟨u, s1 _ _ hu⟩, (v b e2).2⟩
theorem RunAt.unguard {a : Addr} (h : RunAt K H ex S (r.guard a) lim st B g) : RunAt K H ex S r lim st B g := by
  obtain ⟨⟨es, rs, c, e, q, v⟩, y⟩ := h
  exact ⟨⟨es, rs, c, e, fun z => ⟨(q z).1, fun p hp => ⟨((q z).2 p hp).1, fun hm => ((q z).2 p hp).2 (List.mem_cons_of_mem _ hm)⟩⟩, fun b hb => v b (List.mem_cons_of_mem _ hb)⟩, y⟩
/-- such an address is written -/
theorem RunAt.other (h : RunAt K H ex S r lim st B g) {a : Addr} {o u : HO} (ha : a ∈ r.av) (e : H a = some u) (n : ¬ Stb K u) : RunAt K (upd H a o) ex S r lim st B g := by
  obtain ⟨⟨es, rs, c, el, q, v⟩, y⟩ := h
  have k : SK K H (upd H a o) := .upd e n
  refine ⟨⟨es, rs, ⟨c.1, fun p hp => ?_⟩, el.mono k, fun z => ⟨rows_upd (q z).1 (fun p hp e2 => ((q z).2 p hp).2 (by rw [e2]; exact ha)) k, (q z).2⟩, fun b hb => ⟨tracked_upd (v b hb).1, (v b hb).2⟩⟩, y.mono k⟩
  rw [upd_ne (fun e2 => (v a ha).2 (by rw [← e2]; exact List.mem_map.mpr ⟨p, hp, rfl⟩))]
  exact c.2 p hp
theorem RunAt.av_mut (h : RunAt K H ex S r lim st B g) {a : Addr} (ha : a ∈ r.av) : a ∉ r.mut ex := by
  obtain ⟨⟨es, rs, c, el, q, v⟩, y⟩ := h
  refine fun hm => (v a ha).2 ?_
  cases ex with
  | false => exact hm
  | true =>
    simp only [RA.mut, RA.cont, RA.gs, if_true, List.map_cons, List.mem_cons, List.not_mem_nil, or_false] at hm ⊢
    rcases hm with h | h | h | h | h | h | h <;> simp [h]
theorem RunAt.mut_at (h : RunAt K H ex S r lim st B g) {a : Addr} (ha : a ∈ r.mut ex) : ∃ o, H a = some o := by
  obtain ⟨⟨es, rs, c, el, q, v⟩, y⟩ := h
  have hm : a ∈ (r.cont K ex lim st B g es rs).map (·.1) := by
    cases ex with
    | false => exact ha
    | true =>
      simp only [RA.mut, RA.cont, RA.gs, if_true, List.map_cons, List.mem_cons, List.not_mem_nil, or_false] at ha ⊢
      rcases ha with h | h | h | h | h | h | h <;> simp [h]
  obtain ⟨p, hp, e⟩ := List.mem_map.mp hm
  exact ⟨p.2, by rw [← e]; exact c.2 p hp⟩
theorem RunAt.fresh (h : RunAt K H ex S r lim st B g) {u : Addr} (hu : H u = none) (lim' : Option Nat) (st' : K19.St) (B' g' : List Nat) : (∀ es rs, u ∉ (r.cont K ex lim' st' B' g' es rs).map (·.1)) ∧ u ∉ r.av := by
  obtain ⟨⟨es, rs, c, el, q, v⟩, y⟩ := h
  refine ⟨fun es' rs' hm => ?_, fun hm => ?_⟩
  · rw [RA.addrs r lim' st' B' g' es' rs' lim st B g es rs] at hm
    obtain ⟨p, hp, e⟩ := List.mem_map.mp hm
    have := c.2 p hp
    rw [e, hu] at this
    cases this
  · obtain ⟨o, ho⟩ := (v u hm).1
    rw [hu] at ho
    cases ho
theorem CR_ne (T : Txt K mg) (ex : Bool) : CR K ex ≠ He.ga K "System" := by
  cases ex
  · exact T.ne_Run
  · exact T.ne_ExactRun
theorem RunAt.at_x (h : RunAt K H ex S r lim st B g) : H r.x = some (.ins (CR K ex) r.dx (r.fs ex lim st.begun)) := let ⟨⟨_, _, c, _⟩, _⟩ := h; c.at 0
theorem RunAt.at_b (h : RunAt K H ex S r lim st B g) : H r.b = some (.lst (st.board.map bV)) := let ⟨⟨_, _, c, _⟩, _⟩ := h; c.at 1
theorem RunAt.at_bu (h : RunAt K H ex S r lim st B g) : H r.bu = some (.lst (lV B)) := let ⟨⟨_, _, c, _⟩, _⟩ := h; c.at 2
theorem RunAt.at_lg (h : RunAt K H ex S r lim st B g) : ∃ es, H r.lg = some (.lst (rV es)) ∧ EvsAt K H es st.log := let ⟨⟨es, _, c, e, _, _⟩, _⟩ := h; ⟨es, c.at 3, e⟩
theorem RunAt.upd_begun (T : Txt K mg) (h : RunAt K H ex S r lim st B g) (n : Nat) : RunAt K (upd H r.x (.ins (CR K ex) r.dx (r.fs ex lim n))) ex S r lim { st with begun := n } B g := by
  obtain ⟨⟨es, rs, c, e, q, v⟩, y⟩ := h
  exact RunAt.write es rs 0 c e q v y rfl (CR_ne T ex) rfl rfl rfl
theorem RunAt.upd_board (h : RunAt K H ex S r lim st B g) (b : Board) : RunAt K (upd H r.b (.lst (b.map bV))) ex S r lim { st with board := b } B g := by
  obtain ⟨⟨es, rs, c, e, q, v⟩, y⟩ := h
  exact RunAt.write es rs 1 c e q v y rfl (fun z => z) rfl rfl rfl
theorem RunAt.upd_busy (h : RunAt K H ex S r lim st B g) (B' : List Nat) : RunAt K (upd H r.bu (.lst (lV B'))) ex S r lim st B' g := by
  obtain ⟨⟨es, rs, c, e, q, v⟩, y⟩ := h
  exact RunAt.write es rs 2 c e q v y rfl (fun z => z) rfl rfl rfl
/-- an event more -/
theorem RunAt.say (h : RunAt K H ex S r lim st B g) {es0 : List Addr} (he : H r.lg = some (.lst (rV es0))) {a : Addr} {e : Ev} (ha : EvT K H a e) : RunAt K (upd H r.lg (.lst (rV es0 ++ [.ref a]))) ex S r lim (st.say e) B g := by
  obtain ⟨⟨es, rs, c, el, q, v⟩, y⟩ := h
  have e1 := c.at 3
  have e2 : rV es = rV es0 := by
    rw [e1] at he
    exact HO.lst.inj (Option.some.inj he)
  have k : SK K H (upd H r.lg (.lst (rV es0 ++ [.ref a]))) := .upd e1 (fun z => z)
  refine ⟨⟨es ++ [a], rs, ?_, ?_, fun z => ?_, fun b hb => ⟨tracked_upd (v b hb).1, by rw [RA.addrs r lim (st.say e) B g (es ++ [a]) rs lim st B g es rs]; exact (v b hb).2⟩⟩, y.mono k⟩
  · have := c.set 3 (o' := .lst (rV es0 ++ [.ref a]))
    have e3 : rV (es ++ [a]) = rV es0 ++ [.ref a] := by rw [rV_app, e2]; rfl
    rw [← e3] at this ⊢
    exact this
  · show EvsAt K _ (es ++ [a]) (st.log ++ [e])
    exact (el.mono k).snoc (ha.mono k)
  · obtain ⟨q1, q2⟩ := q z
    refine ⟨rows_upd q1 (fun p hp e => (q2 p hp).1 (by rw [e]; exact List.mem_map.mpr ⟨_, List.mem_of_getElem? (i := 3) rfl, rfl⟩)) k, fun p hp => ?_⟩
    rw [RA.addrs r lim (st.say e) B g (es ++ [a]) rs lim st B g es rs]
    exact q2 p hp
end
section
variable {K : PySem.W.Frag} {mg : PySem.Str → Option Value} {H H' : Hp} {S : Sys} {r : RA} {lim : Option Nat} {st : K19.St} {B g : List Nat}
theorem RunAt.at_rm (h : RunAt K H true S r lim st B g) : ∃ rs, H r.rm = some (.lst (rV (rs.map (·.1)))) ∧ RowsAt K H rs st.known := let ⟨⟨_, rs, c, _, q, _⟩, _⟩ := h; ⟨rs, c.at 4, (q rfl).1⟩
theorem RunAt.at_ga (h : RunAt K H true S r lim st B g) : H r.ga = some (.lst (rV ((r.gt.map (·.1)).reverse ++ [r.gl]))) := by
  obtain ⟨⟨_, _, c, _⟩, _⟩ := h
  have := c.at 5 (a := r.ga) (o := .lst (rV ((r.gs g).map (·.1)).reverse)) rfl
  rw [this]
  unfold RA.gs
  rw [List.map_cons, List.reverse_cons]
theorem RunAt.at_gl (h : RunAt K H true S r lim st B g) : H r.gl = some (.lst (lV g)) := let ⟨⟨_, _, c, _⟩, _⟩ := h; c.at 6
theorem RunAt.upd_gl (h : RunAt K H true S r lim st B g) (g' : List Nat) : RunAt K (upd H r.gl (.lst (lV g'))) true S r lim st B g' := by
  obtain ⟨⟨es, rs, c, e, q, v⟩, y⟩ := h
  exact RunAt.write es rs 6 c e q v y rfl (fun z => z) rfl rfl rfl
/-- a new gathered list is put on -/
def RA.push (r : RA) (a : Addr) (g : List Nat) : RA := { r with gl := a, gt := (r.gl, g) :: r.gt }
theorem RunAt.push (h : RunAt K H true S r lim st B g) {a : Addr} {g' : List Nat} (ha : H a = none) :
    RunAt K (upd (upd H a (.lst (lV g'))) r.ga (.lst (rV ((r.gt.map (·.1)).reverse ++ [r.gl]) ++ [.ref a]))) true S (r.push a g) lim st B g' := by
  have s1 : Same H (upd H a (.lst (lV g'))) := same_upd ha
  obtain ⟨⟨es, rs, c, e, q, v⟩, y⟩ := h
  obtain ⟨q1, q2⟩ := q rfl
  have c1 := c.new (o := .lst (lV g')) ha
  have hga := c1.at 6
  have k : SK K (upd H a (.lst (lV g'))) (upd (upd H a (.lst (lV g'))) r.ga (.lst (rV ((r.gt.map (·.1)).reverse ++ [r.gl]) ++ [.ref a]))) := .upd hga (fun z => z)
  have c2 := c1.set 6 (o' := .lst (rV ((r.gt.map (·.1)).reverse ++ [r.gl]) ++ [.ref a]))
  have pm : ((r.push a g).cont K true lim st B g' es rs).Perm (((a, HO.lst (lV g')) :: r.cont K true lim st B g es rs).set 6 (r.ga, .lst (rV ((r.gt.map (·.1)).reverse ++ [r.gl]) ++ [.ref a]))) := by
    have eg : rV (((r.push a g).gs g').map (·.1)).reverse = rV ((r.gt.map (·.1)).reverse ++ [r.gl]) ++ [.ref a] := by
      unfold RA.gs RA.push
      rw [List.map_cons, List.map_cons, List.reverse_cons, List.reverse_cons, rV_app]
      rfl
    unfold RA.cont
    rw [eg]
    exact List.perm_middle (l₁ := [_, _, _, _, _, _])
  have addr : ∀ z, z ∈ ((r.push a g).cont K true lim st B g' es rs).map (·.1) → z = a ∨ z ∈ (r.cont K true lim st B g es rs).map (·.1) := fun z hz => List.mem_cons.mp (show z ∈ a :: (r.cont K true lim st B g es rs).map (·.1) from (pm.map (·.1)).mem_iff.mp hz)
  refine ⟨⟨es, rs, ?_, (e.mono (same_sk s1)).mono k, fun _ => ⟨?_, fun p hp => ⟨fun hm => ?_, (q2 p hp).2⟩⟩, fun b hb => ⟨tracked_upd (let ⟨o, ho⟩ := (v b hb).1; ⟨o, s1 _ _ ho⟩), fun hm => ?_⟩⟩, (y.mono (same_sk s1)).mono k⟩
  · exact c2.perm pm
  · refine rows_upd (q1.same s1) (fun p hp e => (q2 p hp).1 (by rw [e]; exact List.mem_map.mpr ⟨_, List.mem_of_getElem? (i := 5) rfl, rfl⟩)) k
  · rcases addr _ hm with h | h
    · obtain ⟨w, hw⟩ := List.mem_iff_getElem?.mp hp
      obtain ⟨row, _, t, _, _, h3⟩ := paired_at q1 hw
      rw [h, ha] at h3
      cases h3
    · exact (q2 p hp).1 h
  · rcases addr _ hm with h | h
    · obtain ⟨o, ho⟩ := (v b hb).1
      rw [h, ha] at ho
      cases ho
    · exact (v b hb).2 h
/-- .. and taken off -/
theorem RunAt.pop (T : Txt K mg) {a : Addr} {g' : List Nat} (h : RunAt K H true S (r.push a g) lim st B g') : RunAt K (upd H r.ga (.lst (rV ((r.gt.map (·.1)).reverse ++ [r.gl])))) true S r lim st B g ∧ H a = some (.lst (lV g')) ∧ a ∉ r.mut true := by
  obtain ⟨⟨es, rs, c, e, q, v⟩, y⟩ := h
  obtain ⟨q1, q2⟩ := q rfl
  have hga := c.at 5
  have k : SK K H (upd H r.ga (.lst (rV ((r.gt.map (·.1)).reverse ++ [r.gl])))) := .upd hga (fun z => z)
  have c2 := c.set 5 (o' := .lst (rV ((r.gt.map (·.1)).reverse ++ [r.gl])))
  have sub : (r.cont K true lim st B g es rs).Sublist (((r.push a g).cont K true lim st B g' es rs).set 5 (r.ga, .lst (rV ((r.gt.map (·.1)).reverse ++ [r.gl])))) := by
    have eg : rV ((r.gs g).map (·.1)).reverse = rV ((r.gt.map (·.1)).reverse ++ [r.gl]) := by
      unfold RA.gs
      rw [List.map_cons, List.reverse_cons]
    unfold RA.cont
    rw [eg]
    simp only [if_true, RA.push, RA.gs, List.map_cons, List.set_cons_succ, List.set_cons_zero]
    exact .cons₂ _ (.cons₂ _ (.cons₂ _ (.cons₂ _ (.cons₂ _ (.cons₂ _ (.cons _ (.refl _)))))))
  have back : ∀ z, z ∈ (r.cont K true lim st B g es rs).map (·.1) → z ∈ ((r.push a g).cont K true lim st B g' es rs).map (·.1) := fun z hm => by
    have h1 := (sub.map (·.1)).subset hm
    rw [List.map_set] at h1
    have h2 := List.mem_or_eq_of_mem_set h1
    rcases h2 with h2 | h2
    · exact h2
    · rw [h2]
      exact List.mem_map.mpr ⟨_, List.mem_of_getElem? (i := 5) rfl, rfl⟩
  refine ⟨⟨⟨es, rs, c2.sub sub, e.mono k, fun _ => ⟨?_, fun p hp => ⟨fun hm => (q2 p hp).1 (back _ hm), (q2 p hp).2⟩⟩, fun b hb => ⟨tracked_upd (v b hb).1, fun hm => (v b hb).2 (back _ hm)⟩⟩, y.mono k⟩, c.at 6, ?_⟩
  · exact rows_upd q1 (fun p hp e => (q2 p hp).1 (by rw [e]; exact List.mem_map.mpr ⟨_, List.mem_of_getElem? (i := 5) rfl, rfl⟩)) k
  · intro hm
    have nd := c.1
    simp only [RA.cont, RA.push, RA.gs, RA.mut, if_true, List.map_cons, List.nodup_cons, List.mem_cons, List.mem_nil_iff, List.not_mem_nil, not_or, or_false] at nd hm
    obtain ⟨n0, n1, n2, n3, n4, n5, n6, _⟩ := nd
    rcases hm with h | h | h | h | h | h | h <;> simp_all
/-- a result is remembered -/
theorem RunAt.remember (h : RunAt K H true S r lim st B g) {rs0 : List Addr} (he : H r.rm = some (.lst (rV rs0))) {p u t : Addr} {w : K19.Row} (hp : H p = some (.tup [.int (w.cell : Nat), .int w.val, .ref t, .ref u])) (ht : SqT K H t (lV w.taint)) (hu : H u = some (.lst (lV w.used)))
    (hn : ∀ es rs, u ∉ (r.cont K true lim st B g es rs).map (·.1)) (hv : u ∉ r.av) : RunAt K (upd H r.rm (.lst (rV rs0 ++ [.ref p]))) true S r lim { st with known := st.known ++ [w] } B g := by
  obtain ⟨⟨es, rs, c, e, q, v⟩, y⟩ := h
  obtain ⟨q1, q2⟩ := q rfl
  have e1 := c.at 4
  have e2 : rV (rs.map (·.1)) = rV rs0 := by
    rw [e1] at he
    exact HO.lst.inj (Option.some.inj he)
  have k : SK K H (upd H r.rm (.lst (rV rs0 ++ [.ref p]))) := .upd e1 (fun z => z)
  have m4 : r.rm ∈ (r.cont K true lim st B g es rs).map (·.1) := List.mem_map.mpr ⟨_, List.mem_of_getElem? (i := 4) rfl, rfl⟩
  refine ⟨⟨es, rs ++ [(p, u)], ?_, e.mono k, fun _ => ⟨?_, fun z hz => ?_⟩, fun b hb => ⟨tracked_upd (v b hb).1, by rw [RA.addrs r lim { st with known := st.known ++ [w] } B g es (rs ++ [(p, u)]) lim st B g es rs]; exact (v b hb).2⟩⟩, y.mono k⟩
  · have := c.set 4 (o' := .lst (rV rs0 ++ [.ref p]))
    have e3 : rV ((rs ++ [(p, u)]).map (·.1)) = rV rs0 ++ [.ref p] := by rw [List.map_append, rV_app, e2]; rfl
    rw [← e3] at this ⊢
    exact this
  · refine (rows_upd q1 (fun z hz e => (q2 z hz).1 (by rw [e]; exact m4)) k).snoc ⟨t, k _ _ trivial hp, k.tk _ _ ht, ?_⟩
    rw [upd_ne (fun e => hn es rs (by have e' : u = r.rm := e; rw [e']; exact m4))]
    exact hu
  · rw [RA.addrs r lim { st with known := st.known ++ [w] } B g es (rs ++ [(p, u)]) lim st B g es rs]
    rcases List.mem_append.mp hz with h | h
    · exact q2 z h
    · have e := List.mem_singleton.mp h
      subst e
      exact ⟨hn es rs, hv⟩
end
end KW
/-! The walk, part 12: a call, an evaluation. -/
namespace KW
open PySem PySem.Spec PyProof.Rows L2 KR K19 StX
/-- what of the text a run's class has -/
structure CRF (K : PySem.W.Frag) (ex : Bool) : Prop where
  c : Cls K (CR K ex)
  net : NoAttr K (CR K ex) "net"
  board : NoAttr K (CR K ex) "board"
  rule : NoAttr K (CR K ex) "rule"
  busy : NoAttr K (CR K ex) "busy"
  allowed : NoAttr K (CR K ex) "allowed"
  begun : NoAttr K (CR K ex) "begun"
  happened : NoAttr K (CR K ex) "happened"
  call : Meth K (CR K ex) "call" (He.fAd K ("Run", some "call"))
theorem crf {K : PySem.W.Frag} {mg : PySem.Str → Option Value} (T : Txt K mg) : ∀ ex, CRF K ex
  | false => ⟨T.c_Run, T.n_Run_net, T.n_Run_board, T.n_Run_rule, T.n_Run_busy, T.n_Run_allowed, T.n_Run_begun, T.n_Run_happened, T.m_Run_call⟩
  | true => ⟨T.c_ExactRun, T.n_ExactRun_net, T.n_ExactRun_board, T.n_ExactRun_rule, T.n_ExactRun_busy, T.n_ExactRun_allowed, T.n_ExactRun_begun, T.n_ExactRun_happened, T.m_ExactRun_call⟩
def fitsL (lim : Option Nat) (n : Nat) : Prop := ∀ L, lim = some L → n ≤ L
theorem fitsL.mono {lim : Option Nat} {m n : Nat} (h : fitsL lim n) (k : m ≤ n) : fitsL lim m := fun L e => Nat.le_trans k (h L e)
/-- what a call that breaks the limit leaves -/
def XOut (K : PySem.W.Frag) (ex : Bool) (r : RA) (lim : Option Nat) (H : Hp) (E : XK) : Prop := ∀ d H' L, lim = some L → Kp K (r.mut ex) H H' → H' d = some (.xd [("limit", .int (L : Nat))]) → E (.ref (He.ga K "TooManyCalls")) (some d) H'
theorem XOut.step {K : PySem.W.Frag} {ex : Bool} {r : RA} {lim : Option Nat} {H H' : Hp} {E : XK} (h : XOut K ex r lim H E) (k : Kp K (r.mut ex) H H') : XOut K ex r lim H' E := fun d H'' L e k2 hd => h d H'' L e (k.trans1 k2) hd
/-- .. and one that keeps it: v, T the answer, st' the state, u what is gathered -/
def Out (K : PySem.W.Frag) (ex : Bool) (S : Sys) (r : RA) (lim : Option Nat) (B g : List Nat) (H : Hp) (v : Int) (T : List Nat) (st' : K19.St) (u : List Nat) (Q : VK) (E : XK) : Prop :=
  (fitsL lim st'.begun → ∀ p t H', Kp K (r.mut ex) H H' → RunAt K H' ex S r lim st' B (g ++ u) → H' p = some (.tup [.int v, .ref t]) → SqT K H' t (lV T) → Q (.ref p) H') ∧ (¬ fitsL lim st'.begun → XOut K ex r lim H E)
/-- the promise of Run.call -/
def spCall (K : PySem.W.Frag) (ex : Bool) (f : Nat) : Sp := fun vs H Q E => ∃ (r : RA) (S : Sys) (rk : Nat → Nat) (bs : Nat) (lim : Option Nat) (st : K19.St) (B g : List Nat) (c : Nat), vs = [.ref r.x, .int c] ∧ RunAt K H ex S r lim st B g ∧ SysOk S rk bs ∧ Pre S rk st B c ∧
  S.length < f + B.length ∧ r.gt.length ≤ B.length ∧ fitsL lim st.begun ∧ st.known.length ≤ st.log.length ∧ (M ex S f st B c).2.log.length ≤ 100000 ∧ g.length ≤ 1000 ∧ Out K ex S r lim B g H (M ex S f st B c).1.val (M ex S f st B c).1.taint (M ex S f st B c).2 (M ex S f st B c).1.used Q E
abbrev opsR (ex : Bool) (S : Sys) (f : Nat) (st : K19.St) (B : List Nat) (c : Nat) (l : List Nat) : List Res × K19.St := runOps (fun s o => M ex S f s (B ++ [c]) o) (opened st c) l
/-- the promise of Run.evaluate -/
def spEvB (K : PySem.W.Frag) (ex : Bool) (f : Nat) : Sp := fun vs H Q E => ∃ (r : RA) (S : Sys) (rk : Nat → Nat) (bs : Nat) (lim : Option Nat) (st : K19.St) (B g : List Nat) (c : Nat) (v : Int) (T : List Nat) (rs : List Res) (st2 : K19.St), vs = [.ref r.x, .int c] ∧ RunAt K H ex S r lim st B g ∧ SysOk S rk bs ∧ Pre S rk st B c ∧
  bat st.board c = none ∧ c ∉ B ∧ S.length < f + (B ++ [c]).length ∧ r.gt.length ≤ (B ++ [c]).length ∧ opsR ex S f st B c (S.at c).ops = (rs, st2) ∧ v = valueOf (S.at c).fn (rs.map (·.val)) ∧ T = taintOf c rs ∧
  st.known.length ≤ st.log.length ∧ (close false c v T [] st2).2.log.length ≤ 100000 ∧ g.length ≤ 100 ∧ Out K ex S r lim B g H v T (close false c v T [] st2).2 (rs.flatMap (·.used)) Q E
section
variable {P : Program} {w : World} {K : PySem.W.Frag} {mg : PySem.Str → Option Value} {base : Heap} {ex : Bool} {S : Sys} {r : RA} {lim : Option Nat} {st : K19.St} {B g : List Nat}
/-- self.happened.append(..) -/
theorem app_log {H : Hp} (h : RunAt K H ex S r lim st B g) (F : CRF K ex) {σ : L2.St} (h0 : σ[0]? = some (some (.ref r.x))) (hz : st.log.length ≤ 100000) {t : TE} {e : Ev} {Nx : VK}
    (ht : ∀ Q : VK, (∀ p H1, Same H H1 → EvT K H1 p e → Q (.ref p) H1) → t σ H Q) (k : ∀ H', Kp K (r.mut ex) H H' → RunAt K H' ex S r lim (st.say e) B g → Nx .non H') :
    tBM K "list" rAppend (tFld K (tVar 0) "happened") (tCons t tNil) σ H Nx := by
  obtain ⟨es, hlg, hes⟩ := h.at_lg
  refine ⟨_, h0, r.x, _, r.dx, _, _, rfl, h.at_x, F.c, F.happened, rfl, .inl ⟨rfl, _, .inl (.inl hlg)⟩, ht _ fun p H1 s1 he => ?_⟩
  have hlg1 := s1 _ _ hlg
  refine ⟨r.lg, _, _, rfl, rfl, hlg1, ?_, k _ ?_ ?_⟩
  · rw [List.length_map, hes.length]; exact Nat.lt_of_le_of_lt hz (by decide)
  · exact (same_kp (R := r.mut ex) s1).trans1 (Kp.upd (R := r.mut ex) (by simp [RA.mut]) hlg1 (fun z => z))
  · exact (h.same s1).say hlg1 he
/-- results: pairs of a level and a taint -/
def PairT (K : PySem.W.Frag) (H : Hp) (p : Addr) (x : Res) : Prop := ∃ t, H p = some (.tup [.int x.val, .ref t]) ∧ SqT K H t (lV x.taint)
theorem PairT.mono {H H' : Hp} (h : SK K H H') {p : Addr} {x : Res} : PairT K H p x → PairT K H' p x := fun ⟨t, h1, h2⟩ => ⟨t, h _ _ trivial h1, h.tk _ _ h2⟩
abbrev PairsAt (K : PySem.W.Frag) (H : Hp) (ps : List Addr) (xs : List Res) : Prop := Paired (PairT K H) ps xs
theorem PairsAt.mono {H H' : Hp} (h : SK K H H') {ps : List Addr} {xs : List Res} (t : PairsAt K H ps xs) : PairsAt K H' ps xs := Paired.mapP t fun _ _ q => q.mono h
/-- the operands' states, one by one -/
theorem ops_pre {rk : Nat → Nat} {bs f c : Nat} (ok : SysOk S rk bs) (pre : Pre S rk st B c) (h0 : bat st.board c = none) (hB : c ∉ B) (hf : S.length < f + (B ++ [c]).length) :
    (∀ i o, (S.at c).ops[i]? = some o → Pre S rk (opsR ex S f st B c ((S.at c).ops.take i)).2 (B ++ [c]) o) ∧
      (∀ i, ∀ x ∈ (opsR ex S f st B c ((S.at c).ops.take i)).1, x.used.length ≤ 12 ∧ (∀ y ∈ x.used, y < S.length) ∧ Lev x.val ∧ (∀ y ∈ x.taint, y < S.length)) ∧ BoardOk S (opsR ex S f st B c (S.at c).ops).2.board := by
  have hF : ∀ s o, Pre S rk s (B ++ [c]) o → Post S rk s (B ++ [c]) o (M ex S f s (B ++ [c]) o).1 (M ex S f s (B ++ [c]) o).2 := fun s o p => M_ok ok f s (B ++ [c]) o hf p
  obtain ⟨ho, hfree, mid, _⟩ := ops_mid (F := M ex S f) ok pre h0 hB hF
  have bl : ∀ x ∈ B ++ [c], x < S.length := fun x hx => (List.mem_append.mp hx).elim (pre.bl x) fun e => by rw [List.mem_singleton.mp e]; exact pre.cN
  have hb0 : BoardOk S (opened st c).board := pre.bok
  have part : ∀ i, BoardOk S (opsR ex S f st B c ((S.at c).ops.take i)).2.board ∧ (∀ x ∈ B ++ [c], bat (opsR ex S f st B c ((S.at c).ops.take i)).2.board x = none) ∧ (∀ w ∈ (opsR ex S f st B c ((S.at c).ops.take i)).2.known, RowOk S rk w) ∧
      ∀ x ∈ (opsR ex S f st B c ((S.at c).ops.take i)).1, ResOk S rk (B ++ [c]) (rk c) x := fun i => by
    have z := runOps_ok (F := fun s o => M ex S f s (B ++ [c]) o) (S := S) (rk := rk) (B := B ++ [c]) (r := rk c) (cst := cstOf S rk (B ++ [c]) c) ((S.at c).ops.take i) (opened st c) hb0 hfree pre.known
      fun o hm s b1 b2 b3 => (ho o (List.mem_of_mem_take hm) s b1 b2 b3).2
    exact ⟨z.1.bok, z.1.free, z.1.known, z.2⟩
  have preI : ∀ i o, (S.at c).ops[i]? = some o → Pre S rk (opsR ex S f st B c ((S.at c).ops.take i)).2 (B ++ [c]) o := fun i o hi => by
    obtain ⟨p1, p2, p3, _⟩ := part i
    exact (ho o (List.mem_of_getElem? hi) _ p1 p2 p3).1
  refine ⟨preI, fun i => ?_, mid.bok⟩
  induction i with
  | zero => intro x hx; simp [opsR, runOps] at hx
  | succ i ih =>
    by_cases hi : i < (S.at c).ops.length
    · have e := List.getElem?_eq_getElem hi
      intro x hx
      rw [show opsR ex S f st B c ((S.at c).ops.take (i + 1)) = _ from runOps_take e] at hx
      rcases List.mem_append.mp hx with h | h
      · exact ih x h
      · rw [List.mem_singleton.mp h]
        have q := hF _ _ (preI i _ e)
        exact ⟨Nat.le_trans (nodup_le (asc_nodup q.uasc) fun y hy => (q.uN y hy).1) ok.len, fun y hy => (q.uN y hy).1, q.lev, fun y hy => bl y (q.tB y hy)⟩
    · rw [List.take_of_length_le (by omega)] at ih ⊢
      exact ih
theorem flat_len {rs : List Res} (h : ∀ x ∈ rs, x.used.length ≤ 12) : (rs.flatMap (·.used)).length ≤ 12 * rs.length := by
  induction rs with
  | nil => simp
  | cons x rs ih =>
    rw [List.flatMap_cons, List.length_append, List.length_cons]
    have h1 := h x List.mem_cons_self
    have h2 := ih fun y hy => h y (List.mem_cons_of_mem _ hy)
    omega
theorem fs_len {n : Nat} (ex : Bool) : (r.fs ex lim n).length < 1000 := by cases ex <;> simp [RA.fs]
theorem fs_call {n : Nat} (ex : Bool) : (r.fs ex lim n).lookup ("call" : PySem.Str) = none := by cases ex <;> rfl
theorem ok_Run_evaluate (T : Txt K mg) (ex : Bool) (f kc : Nat) (hkc : 5 ≤ kc) (C : FD P w K mg base (L2.CX P w) kc d_Run_call ["self", "cell"] (spCall K ex f)) : FD P w K mg base (L2.CX P w) (kc + 1) d_Run_evaluate ["self", "cell"] (spEvB K ex f) := by
  have F := crf T ex
  refine fdX_of T.d_Run_evaluate sc_Run_evaluate (fun vs H Q E h => ?_) (fun cdv A outer s H vs Q E hrC h => ?_)
  · obtain ⟨r, S, rk, bs, lim, st, B, g, c, v, T, rs, st2, rfl, _⟩ := h
    rfl
  · obtain ⟨r, S, rk, bs, lim, st, B, g, c, v, TT, rs, st2, rfl, hR, ok, pre, h0, hB, hf, hgt, eops, ev, eT, hkn, hlog, hg, hQ, hX⟩ := h
    have hr := hrC.mono hkc
    have tk := takes_of (X := cxOf (L2.CX P w) P w K mg base ["self", "cell", "results", "values", "value", "taint", "kept", "operand", "one", "part"] d_Run_evaluate.qual d_Run_evaluate.scope (d_Run_evaluate.ad K) cdv A outer s H E) (E := E) rfl rfl rfl rfl
    refine ⟨_, (Evl.pss_cut (ps_if (PW.pt (pw_and (pt_cmpR op_notN (pe_fldK K rfl (pv 0) rfl) pe_non (nomark _)) (pw_and1 (pt_cmpR op_ge (pe_fldK K rfl (pv 0) rfl) (pe_fldK K rfl (pv 0) rfl) (nomark _))))) (pss_one (ps_raiseTm rfl T.tm hr tk (pa_cons (pe_fldK K rfl (pv 0) rfl) pa_nil) rfl T.g_TooManyCalls)) pss_nil) (pss_cons (ps_fldaug (pv 0) pe_int in_add) (pss_cons (ps_expr (pe_bm PySem.F.plainAttrs_list PySem.F.slot_list_append PySem.F.type_list_append mt_append (pe_fldK K rfl (pv 0) rfl) (pa_cons (pe_tup (pa_cons pe_str (pa_cons (pv 1) pa_nil))) pa_nil))) (pss_cons (ps_expr (pe_bm PySem.F.plainAttrs_list PySem.F.slot_list_append PySem.F.type_list_append mt_append (pe_fldK K rfl (pv 0) rfl) (pa_cons (pv 1) pa_nil))) (pss_cons (ps_setLcX (i := 2) rfl rfl tk rfl sc_Run_evaluate.nd rfl rfl rfl (pi_tupK K rfl (pe_mdX (ok_System_operands T) hr pass0 T.c_System T.m_System_operands rfl b_System_operands (pe_fldK K rfl (pv 0) rfl) (pa_cons (pv 1) pa_nil))) (own := [("operand", 7)]) (blkOk_by (by kernel_rfl)) (fun _ _ _ _ _ => (pg_name (i := 7) sc_Run_evaluate.nd rfl (by first | exact Or.inl rfl | exact Or.inr rfl | exact Or.inr (Or.inl rfl)))) (fun _ _ _ _ _ => pts_nil) (fun _ _ _ _ _ _ pass => (pe_mdX C hrC pass F.c F.call rfl b_Run_call (pv 0) (pa_cons (pv 7) pa_nil) (hk := Nat.le_refl _)))) (pss_cons (ps_expr (pe_bm0 PySem.F.plainAttrs_list PySem.F.slot_list_pop PySem.F.type_list_pop mt_pop (pe_fldK K rfl (pv 0) rfl))) (pss_cons (ps_setLc (i := 3) rfl sc_Run_evaluate.nd rfl rfl rfl (pi_listK K rfl (pv 2)) (own := [("value", 4), ("taint", 5)]) (blkOk_by (by kernel_rfl)) (fun _ _ _ _ _ => (pg_tupK (n := 2) K rfl rfl (pgs_cons (pg_name (i := 4) sc_Run_evaluate.nd rfl (by first | exact Or.inl rfl | exact Or.inr rfl | exact Or.inr (Or.inl rfl))) (pgs_cons (pg_name (i := 5) sc_Run_evaluate.nd rfl (by first | exact Or.inl rfl | exact Or.inr rfl | exact Or.inr (Or.inl rfl))) pgs_nil)))) (fun _ _ _ _ _ => pts_nil) (fun _ _ _ _ _ => (pv 4))) (pss_cons (ps_set (i := 4) sc_Run_evaluate.nd rfl (by first | exact Or.inl rfl | exact Or.inr rfl | exact Or.inr (Or.inl rfl)) (pe_callS2 (ok_value_of T).fn (hr.mono (by decide)) (ok_value_of (P := P) (w := w) (base := base) T).kp rfl T.g_value_of pass0 (pa_cons (pe_mdX (ok_System_function T) hr pass0 T.c_System T.m_System_function rfl b_System_function (pe_fldK K rfl (pv 0) rfl) (pa_cons (pv 1) pa_nil)) (pa_star (pv 3) pa_nil)))) (pss_cons (ps_set (i := 5) sc_Run_evaluate.nd rfl (by first | exact Or.inl rfl | exact Or.inr rfl | exact Or.inr (Or.inl rfl)) (pe_def (ok_joined_taint T) hr rfl T.g_joined_taint rfl b_joined_taint (pa_cons (pe_lc rfl sc_Run_evaluate.nd (pi_listK K rfl (pv 2)) (own := [("one", 8), ("part", 9)]) (blkOk_by (by kernel_rfl)) (fun _ _ _ _ _ => (pg_tupK (n := 2) K rfl rfl (pgs_cons (pg_name (i := 8) sc_Run_evaluate.nd rfl (by first | exact Or.inl rfl | exact Or.inr rfl | exact Or.inr (Or.inl rfl))) (pgs_cons (pg_name (i := 9) sc_Run_evaluate.nd rfl (by first | exact Or.inl rfl | exact Or.inr rfl | exact Or.inr (Or.inl rfl))) pgs_nil)))) (fun _ _ _ _ _ => pts_nil) (fun _ _ _ _ _ => (pv 9))) (pa_cons (pv 1) pa_nil)))) (pss_cons (ps_set (i := 6) sc_Run_evaluate.nd rfl (by first | exact Or.inl rfl | exact Or.inr rfl | exact Or.inr (Or.inl rfl)) (pe_def (ok_is_kept T) hr rfl T.g_is_kept rfl b_is_kept (pa_cons (pe_fldK K rfl (pv 0) rfl) (pa_cons (pv 5) pa_nil)))) (pss_cons (ps_if (pt_val (pv 6)) (pss_one (ps_asg (pv 4) (pg_sub (pe_fldK K rfl (pv 0) rfl) (pv 1) set_list))) pss_nil) (pss_cons (ps_expr (pe_bm PySem.F.plainAttrs_list PySem.F.slot_list_append PySem.F.type_list_append mt_append (pe_fldK K rfl (pv 0) rfl) (pa_cons (pe_tup (pa_cons pe_str (pa_cons (pv 1) (pa_cons (pv 4) (pa_cons (pv 5) (pa_cons (pv 6) pa_nil)))))) pa_nil))) (pss_one (ps_ret (pe_tup (pa_cons (pv 4) (pa_cons (pv 5) pa_nil))))))))))))))))), ?_⟩
    obtain ⟨hpre, hres, hbok⟩ := ops_pre (ex := ex) (f := f) ok pre h0 hB hf
    have grF : ∀ s o, Gr s ((fun s o => M ex S f s (B ++ [c]) o) s o).2 := fun s o => gr_M ex S f s (B ++ [c]) o
    have o8 := ok.ops8 c pre.cN
    have e2 : (opsR ex S f st B c (S.at c).ops).2 = st2 := by rw [eops]
    have e1 : (opsR ex S f st B c (S.at c).ops).1 = rs := by rw [eops]
    have grI : ∀ i, Gr (opsR ex S f st B c ((S.at c).ops.take i)).2 st2 := fun i => by rw [← e2]; exact gr_rest grF (S.at c).ops (opened st c) i
    have gr0 : ∀ i, Gr st (opsR ex S f st B c ((S.at c).ops.take i)).2 := fun i => (gr_opened st c).trans (gr_runOps grF _ _)
    have cb : (close false c v TT [] st2).2.begun = st2.begun := by unfold close; split <;> rfl
    have lg2 : st2.log.length ≤ 100000 := Nat.le_trans (gr_close false c v TT [] st2).len hlog
    have bg : st.begun + 1 ≤ st2.begun := by
      have := (grI 0).beg
      exact this
    have lst : st.log.length ≤ 100000 := Nat.le_trans ((gr0 0).trans (grI 0)).len lg2
    -- the limit
    refine ⟨fun σ' H' => H' = H ∧ σ' = [some (.ref r.x), some (.int (c : Nat)), none, none, none, none, none, none, none, none] ∧ fitsL lim (st.begun + 1), ?_, ?_⟩
    · refine ⟨_, rfl, r.x, _, r.dx, _, _, rfl, hR.at_x, F.c, F.allowed, rfl, rfl, _, rfl, ?_⟩
      cases lim with
      | none => exact iteFb rfl (iteF ⟨rfl, rfl, fun L e => by cases e⟩)
      | some L =>
        refine iteTb rfl ⟨_, rfl, r.x, _, r.dx, _, _, rfl, hR.at_x, F.c, F.begun, rfl, _, rfl, r.x, _, r.dx, _, _, rfl, hR.at_x, F.c, F.allowed, rfl, _, _, rfl, rfl, _, rfl, ?_⟩
        by_cases hL : L ≤ st.begun
        · refine iteTb (decide_eq_true (by omega)) ⟨_, rfl, r.x, _, r.dx, _, _, rfl, hR.at_x, F.c, F.allowed, rfl, _, rfl, fun d hd => ?_⟩
          refine hX (fun hfit => ?_) d _ L rfl (Kp.new hd) upd_same
          have := hfit L rfl
          rw [cb] at this
          omega
        · exact iteFb (decide_eq_false (by omega)) ⟨rfl, rfl, fun L' e => by cases e; omega⟩
    rintro σ' H' ⟨rfl, rfl, hfit1⟩
    -- self.begun += 1
    refine ⟨_, rfl, r.x, _, r.dx, _, _, rfl, hR.at_x, F.c, F.begun, rfl, _, _, rfl, rfl, r.dx, _, hR.at_x, fs_len ex, ?_⟩
    have hR1 := hR.upd_begun T (st.begun + 1)
    have k1 : Kp K (r.mut ex) H' (upd H' r.x (.ins (CR K ex) r.dx (r.fs ex lim (st.begun + 1)))) := Kp.upd List.mem_cons_self hR.at_x (CR_ne T ex)
    show (tSeq _ _) _ _ (upd H' r.x (.ins (CR K ex) r.dx (r.fs ex lim (st.begun + 1))))
    generalize upd H' r.x (.ins (CR K ex) r.dx (r.fs ex lim (st.begun + 1))) = H1 at *
    refine app_log (e := .call c) hR1 F rfl lst (fun Q hq => ⟨_, rfl, (by show 2 ≤ sizeLine; decide), fun p hp => hq p _ (same_upd hp) upd_same⟩) (fun H2 k2 hR2 => ?_)
    have k02 := k1.trans1 k2
    -- busy
    have bl12 : B.length ≤ 12 := Nat.le_trans (nodup_le pre.bn pre.bl) ok.len
    refine ⟨_, rfl, r.x, _, r.dx, _, _, rfl, hR2.at_x, F.c, F.busy, rfl, .inl ⟨rfl, _, .inl (.inl hR2.at_bu)⟩, _, rfl, r.bu, _, _, rfl, rfl, hR2.at_bu, by rw [List.length_map]; exact Nat.lt_of_le_of_lt bl12 (by decide), ?_⟩
    have hR3 := hR2.upd_busy (B ++ [c])
    have mbu : r.bu ∈ r.mut ex := by simp [RA.mut]
    have k3 : Kp K (r.mut ex) H2 (upd H2 r.bu (.lst (lV (B ++ [c])))) := Kp.upd mbu hR2.at_bu (fun z => z)
    have eB : lV B ++ [V.int (c : Nat)] = lV (B ++ [c]) := by rw [lV_app]; rfl
    rw [eB]
    generalize upd H2 r.bu (.lst (lV (B ++ [c]))) = H3 at *
    have k03 := k02.trans1 k3
    have hR3 : RunAt K H3 ex S r lim (opened st c) (B ++ [c]) g := hR3
    -- results
    have ⟨dxs, ts, pss, hs1, _⟩ := hR3.sys
    refine ⟨_, rfl, r.x, _, r.dx, _, _, rfl, hR3.at_x, F.c, F.net, rfl, r.sys, dxs, _, rfl, hs1, rfl, _, rfl, r.sys, S, c, rfl, hR3.sys, pre.cN, fun o ho => ⟨o, rfl, ⟨_, ho⟩, fun D hD => ?_⟩⟩
    have lops : (lV (S.at c).ops).length = (S.at c).ops.length := List.length_map _
    refine turns (walk_tup (xs := lV (S.at c).ops)) (fun i H' => RunAt K H' ex S (r.guard D) lim (opsR ex S f st B c ((S.at c).ops.take i)).2 (B ++ [c]) (g ++ (opsR ex S f st B c ((S.at c).ops.take i)).1.flatMap (·.used)) ∧ Kp K (r.mut ex) H3 H' ∧
      (∃ ps, H' D = some (.lst (rV ps)) ∧ PairsAt K H' ps (opsR ex S f st B c ((S.at c).ops.take i)).1) ∧ fitsL lim (opsR ex S f st B c ((S.at c).ops.take i)).2.begun)
      ⟨by rw [show g ++ (opsR ex S f st B c ((S.at c).ops.take 0)).1.flatMap (·.used) = g from List.append_nil g]; exact hR3.guard hD, Kp.new hD, ⟨[], upd_same, .nil⟩, hfit1⟩ (fun i H' _ q => q.2.1.sk.tk _ _ ho) (fun i x H4 H5 hi q y => ?_) (fun H5 q => ?_)
    · obtain ⟨rfl, hx⟩ := y
      obtain ⟨u, hu, rfl⟩ := nat_at hx
      obtain ⟨hRi, ki, ⟨ps, hD4, hps⟩, hfi⟩ := q
      have est := runOps_take (F := fun s o => M ex S f s (B ++ [c]) o) (s := opened st c) hu
      have est2 : (opsR ex S f st B c ((S.at c).ops.take (i + 1))).2 = (M ex S f (opsR ex S f st B c ((S.at c).ops.take i)).2 (B ++ [c]) u).2 := by rw [show opsR ex S f st B c ((S.at c).ops.take (i + 1)) = _ from est]
      have est1 : (opsR ex S f st B c ((S.at c).ops.take (i + 1))).1 = (opsR ex S f st B c ((S.at c).ops.take i)).1 ++ [(M ex S f (opsR ex S f st B c ((S.at c).ops.take i)).2 (B ++ [c]) u).1] := by rw [show opsR ex S f st B c ((S.at c).ops.take (i + 1)) = _ from est]
      have hi8 : i < 8 := by rw [lops] at hi; omega
      have lenI : (opsR ex S f st B c ((S.at c).ops.take i)).1.length ≤ 8 := by
        rw [show (opsR ex S f st B c ((S.at c).ops.take i)).1.length = ((S.at c).ops.take i).length from runOps_len _ _, List.length_take]; omega
      have lps : ps.length ≤ 8 := by rw [hps.length]; exact lenI
      have hgu := flat_len fun x hx => (hres i x hx).1
      refine ⟨rfl, yesP (iteT ⟨_, rfl, r.x, r.dx, _, rfl, hRi.at_x, fs_call ex, _, rfl, r.guard D, S, rk, bs, lim, _, B ++ [c], _, u, rfl, hRi, ok, hpre i u hu, hf, hgt, hfi, ?_, ?_, ?_, ?_, ?_⟩)⟩
      · obtain ⟨k, ek, hk⟩ := (gr0 i).kn
        rw [ek, List.length_append]; omega
      · rw [← est2]; exact Nat.le_trans (grI (i + 1)).len lg2
      · rw [List.length_append]; omega
      · intro hfit p t H6 k6 hR6 hp ht
        have Dm : D ∉ r.mut ex := hRi.av_mut List.mem_cons_self
        have hD6 : H6 D = some (.lst (rV ps)) := k6.kp _ _ Dm hD4
        refine ⟨rV ps, hD6, by rw [List.length_map]; exact Nat.lt_of_le_of_lt lps (by decide), ?_, ?_, ⟨ps ++ [p], by rw [upd_same, rV_app]; rfl, ?_⟩, by rw [est2]; exact hfit⟩
        · rw [est2, est1, List.flatMap_append, ← List.append_assoc]
          have := hR6.other (o := .lst (rV ps ++ [.ref p])) List.mem_cons_self hD6 (fun z => z)
          simpa using this
        · have kD : Kp K (r.mut ex) H3 H6 := ki.trans1 k6
          refine ⟨kD.sk.trans (.upd hD6 (fun z => z)), fun a o na ha => ?_⟩
          rw [upd_ne (ne_of_none ha hD)]
          exact kD.kp a o na ha
        · rw [est1]
          have kk : SK K H6 (upd H6 D (.lst (rV ps ++ [.ref p]))) := .upd hD6 (fun z => z)
          exact ((hps.mono k6.sk).mono kk).snoc ⟨t, kk _ _ trivial hp, kk.tk _ _ ht⟩
      · intro nf
        have nfin : ¬ fitsL lim (close false c v TT [] st2).2.begun := fun h => nf (by
          rw [cb] at h
          rw [← est2]
          exact h.mono (grI (i + 1)).beg)
        exact ((hX nfin).step k03).step ki
    · rw [lops, List.take_length, e1, e2] at q
      obtain ⟨hR5, k5, ⟨ps, hD5, hps⟩, hfit2⟩ := q
      have hres' : ∀ x ∈ rs, x.used.length ≤ 12 ∧ (∀ y ∈ x.used, y < S.length) ∧ Lev x.val ∧ (∀ y ∈ x.taint, y < S.length) := fun x hx => hres (S.at c).ops.length x (by rw [List.take_length, e1]; exact hx)
      have lrs : rs.length ≤ 8 := by rw [← e1, show (opsR ex S f st B c (S.at c).ops).1.length = _ from runOps_len _ _]; exact o8
      have k05 : Kp K (r.mut ex) H' H5 := k03.trans1 k5
      have Dm : D ∉ r.mut ex := hR5.av_mut List.mem_cons_self
      -- busy.pop
      refine ⟨_, rfl, r.x, _, r.dx, _, _, rfl, hR5.at_x, F.c, F.busy, rfl, .inl ⟨rfl, _, .inl (.inl hR5.at_bu)⟩, r.bu, _, .int (c : Nat), rfl, rfl, hR5.at_bu, by rw [lV_app, List.length_append]; simp, ?_⟩
      rw [show (lV (B ++ [c])).dropLast = lV B from by rw [lV_app]; exact List.dropLast_concat]
      have hR6 : RunAt K (upd H5 r.bu (.lst (lV B))) ex S (r.guard D) lim st2 B (g ++ rs.flatMap (·.used)) := hR5.upd_busy B
      have k6 : Kp K (r.mut ex) H5 (upd H5 r.bu (.lst (lV B))) := Kp.upd mbu hR5.at_bu (fun z => z)
      have hD6 : upd H5 r.bu (.lst (lV B)) D = some (.lst (rV ps)) := k6.kp _ _ Dm hD5
      have hps6 := hps.mono k6.sk
      generalize upd H5 r.bu (.lst (lV B)) = H6 at *
      have k06 := k05.trans1 k6
      have lp : (rV ps).length = rs.length := by rw [List.length_map]; exact hps6.length
      have small : ∀ {n : Nat}, n ≤ 1000 → n < sizeLine := fun h => Nat.lt_of_le_of_lt h (by decide)
      have hv : ∀ v' ∈ rs.map (·.val), Lev v' := fun v' hv' => by
        obtain ⟨x, hx, rfl⟩ := List.mem_map.mp hv'
        exact (hres' x hx).2.2.1
      -- values
      refine ⟨_, rfl, D, rfl, ⟨_, .inl (.inl hD6)⟩, fun E1 hE1 => ?_⟩
      refine lc_same (walk_list (xs := rV ps)) (fun i acc _ => acc = zV ((rs.take i).map (·.val))) hE1 (by rw [lp]; exact small (by omega)) (fun H' s => .inl (.inl (s _ _ hD6))) (fun _ _ => rfl) (fun i x H7 H8 acc K1 K0 hi s7 _ _ ea y k1 k0 => ?_) (fun H7 acc s7 ed ea => ?_)
      · obtain ⟨rfl, hx⟩ := y
        obtain ⟨p, hp, rfl⟩ := ref_at hx
        obtain ⟨x, hx2, t, ht1, ht2⟩ := paired_at (hps6.mono (same_sk s7)) hp
        refine ⟨p, _, rfl, .inl (.inl ht1), rfl, _, _, rfl, _, _, rfl, rfl, rfl, yesP (iteT ⟨_, rfl, k1 _ _ (Same.refl _) fun H9 _ => ?_⟩)⟩
        rw [ea, List.take_add_one, hx2]
        simp [zV]
      · rw [lp, List.take_length] at ea
        subst ea
        have hR7 := hR6.same s7
        have ⟨dx7, t7, ps7, hs7, _⟩ := hR7.sys
        -- value
        refine ⟨_, rfl, r.x, _, r.dx, _, _, rfl, hR7.at_x, F.c, F.net, rfl, r.sys, dx7, _, rfl, hs7, rfl, _, rfl, r.sys, S, c, rfl, hR7.sys, pre.cN, fun fa hfa => ⟨_, rfl, E1, _, rfl, .inr (.inl (.inl ed)), ?_⟩⟩
        refine ⟨fa, (S.at c).fn, rs.map (·.val), by rw [List.append_nil], hfa, ok.fnOk c pre.cN, by rw [List.length_map]; omega, hv, fun H8 s8 => ?_⟩
        rw [← ev]
        have hR8 := hR7.same s8
        have hD8 := s8 _ _ (s7 _ _ hD6)
        have hps8 := (hps6.mono (same_sk (K := K) s7)).mono (same_sk s8)
        -- taint
        refine ⟨_, rfl, D, rfl, ⟨_, .inl (.inl hD8)⟩, fun E2 hE2 => ?_⟩
        refine lc_same (walk_list (xs := rV ps)) (fun i acc H' => ∃ ts, acc = rV ts ∧ TupsAt K H' ts ((rs.take i).map (·.taint))) hE2 (by rw [lp]; exact small (by omega)) (fun H' s => .inl (.inl (s _ _ hD8))) (fun _ _ => ⟨[], rfl, .nil⟩) (fun i x H9 H10 acc K1 K0 hi s9 hacc _ ea y k1 k0 => ?_) (fun H9 acc s9 ed9 ea => ?_)
        · obtain ⟨rfl, hx⟩ := y
          obtain ⟨p, hp, rfl⟩ := ref_at hx
          obtain ⟨x, hx2, t, ht1, ht2⟩ := paired_at (hps8.mono (same_sk s9)) hp
          obtain ⟨ts, rfl, hts⟩ := ea
          refine ⟨p, _, rfl, .inl (.inl ht1), rfl, _, _, rfl, _, _, rfl, rfl, rfl, yesP (iteT ⟨_, rfl, k1 _ _ (Same.refl _) fun H11 b11 => ⟨ts ++ [t], by rw [rV_app]; rfl, ?_⟩⟩)⟩
          have kk := but_tk (K := K) b11 hacc
          rw [List.take_add_one, hx2, List.map_append]
          exact (hts.mono kk).snoc (kk _ _ ht2)
        · obtain ⟨ts, rfl, hts⟩ := ea
          rw [lp, List.take_length] at hts
          refine ⟨_, rfl, E2, c, ts, rs.map (fun x : Res => x.taint), rfl, .inl (.inl ed9), hts, fun l hl x hx => ?_, fun ta H10 s10 hta => ?_⟩
          · obtain ⟨y, hy, rfl⟩ := List.mem_map.mp hl
            have := (hres' y hy).2.2.2 x hx
            have := ok.len
            omega
          · have eTT : norm ((rs.map (·.taint)).flatten.filter fun x => x != c) = TT := by rw [eT]; rfl
            rw [eTT] at hta
            have s810 := Same.trans s9 s10
            have hR10 := hR8.same s810
            -- kept
            refine ⟨_, rfl, r.x, _, r.dx, _, _, rfl, hR10.at_x, F.c, F.rule, rfl, _, rfl, ta, TT, rfl, hta, fun H11 s11 => ?_⟩
            have hR11 := hR10.same s11
            have s611 := Same.trans s7 (Same.trans s8 (Same.trans s810 s11))
            have k011 := k06.trans1 (same_kp (R := r.mut ex) s611)
            have hta11 := same_tk (K := K) s11 _ _ hta
            have lgc : (close false c v TT [] st2).2.log.length = st2.log.length + 1 := by unfold close; split <;> simp
            have fin : ∀ (b : Bool) (H12 : Hp) (s12 : K19.St), b = decide (TT = []) → Kp K (r.mut ex) H' H12 → RunAt K H12 ex S (r.guard D) lim s12 B (g ++ rs.flatMap (·.used)) → SqT K H12 ta (lV TT) → s12.log = st2.log → s12.say (.fin c v TT b) = (close false c v TT [] st2).2 → ∀ σ, σ[0]? = some (some (.ref r.x)) → σ[1]? = some (some (.int (c : Nat))) → σ[4]? = some (some (.int v)) → σ[5]? = some (some (.ref ta)) → σ[6]? = some (some (.bl b)) →
                (tSeq (tDrop (tBM K "list" rAppend (tFld K (tVar 0) "happened") (tCons (tTup (tCons (tC (.str "end")) (tCons (tVar 1) (tCons (tVar 4) (tCons (tVar 5) (tCons (tVar 6) tNil)))))) tNil))) (tRet (tTup (tCons (tVar 4) (tCons (tVar 5) tNil))))) { nx := fun _ H' => Q .non H', rt := Q } σ H12 := fun b H12 s12 hb k12 hR12 ht12 hl12 hc12 σ h0' h1' h4' h5' h6' => by
              refine app_log (e := .fin c v TT b) hR12 F h0' (by rw [hl12]; omega) (fun Q' hq => ⟨_, h1', _, h4', _, h5', _, h6', (by show 5 ≤ sizeLine; decide), fun p hp => hq p _ (same_upd hp) ⟨ta, upd_same, same_tk (same_upd hp) _ _ ht12⟩⟩) (fun H13 k13 hR13 => ?_)
              rw [hc12] at hR13
              refine ⟨_, h4', _, h5', (by show 2 ≤ sizeLine; decide), fun p hp => ?_⟩
              have s14 := same_upd (o := .tup [.int v, .ref ta]) hp
              refine hQ (by rw [cb]; exact hfit2) p ta _ ((k12.trans1 k13).trans1 (same_kp s14)) (hR13.same s14).unguard upd_same (same_tk s14 _ _ (k13.sk.tk _ _ ht12))
            refine ⟨_, rfl, _, rfl, ?_⟩
            by_cases hT : TT = []
            · refine iteTb (decide_eq_true hT) ?_
              have hbl : c < st2.board.length := by
                have := hbok.len
                rw [e2] at this
                rw [this]; exact pre.cN
              refine ⟨_, rfl, _, rfl, r.x, _, r.dx, _, _, rfl, hR11.at_x, F.c, F.board, rfl, _, rfl, r.b, _, _, c, rfl, rfl, hR11.at_b, ?_, ?_⟩
              · unfold ixN
                rw [if_pos (by omega), if_pos (by rw [List.length_map]; omega)]
                rfl
              · have eb : (st2.board.map bV).set c (.int v) = (st2.board.set c (some v)).map bV := by rw [List.map_set]; rfl
                rw [eb]
                have mb : r.b ∈ r.mut ex := by simp [RA.mut]
                have hR12 := hR11.upd_board (st2.board.set c (some v))
                have k12 : Kp K (r.mut ex) H11 (upd H11 r.b (.lst ((st2.board.set c (some v)).map bV))) := Kp.upd mb hR11.at_b (fun z => z)
                exact fin _ _ _ rfl (k011.trans1 k12) hR12 (k12.sk.tk _ _ hta11) rfl (by rw [decide_eq_true hT]; unfold close; rw [if_pos hT, hT]; rfl) _ rfl rfl rfl rfl rfl
            · refine iteFb (decide_eq_false hT) ?_
              exact fin _ _ _ rfl k011 hR11 hta11 rfl (by rw [decide_eq_false hT]; unfold close; rw [if_neg hT]; rfl) _ rfl rfl rfl rfl rfl
end
end KW
/-! The walk, part 13: Run.call; exact answers. -/
namespace KW
open PySem PySem.Spec PyProof.Rows L2 KR K19 StX
/-- the promise of self.evaluate -/
def spEv (K : PySem.W.Frag) (ex : Bool) (f : Nat) : Sp := fun vs H Q E => ∃ (r : RA) (S : Sys) (rk : Nat → Nat) (bs : Nat) (lim : Option Nat) (st : K19.St) (B g : List Nat) (c : Nat), vs = [.ref r.x, .int c] ∧ RunAt K H ex S r lim st B g ∧ SysOk S rk bs ∧ Pre S rk st B c ∧
  bat st.board c = none ∧ c ∉ B ∧ S.length < f + (B ++ [c]).length ∧ r.gt.length ≤ B.length ∧ fitsL lim st.begun ∧ st.known.length ≤ st.log.length ∧ (evalX (M ex S f) ex S st B c).2.log.length ≤ 100000 ∧ g.length ≤ 1000 ∧
  Out K ex S r lim B g H (evalX (M ex S f) ex S st B c).1.val (evalX (M ex S f) ex S st B c).1.taint (evalX (M ex S f) ex S st B c).2 (evalX (M ex S f) ex S st B c).1.used Q E
/-- evaluate, as the run's class has it, keeps it -/
structure EvM (P : Program) (w : World) (K : PySem.W.Frag) (mg : PySem.Str → Option Value) (base : Heap) (ex : Bool) (f k : Nat) : Prop where
  ex : ∃ fd ad, Meth K (CR K ex) "evaluate" ad ∧ FnOk P w K mg base (L2.CX P w) k ad fd ["self", "cell"] (spEv K ex f) ∧ Binds K fd ["self", "cell"] []
section
variable {P : Program} {w : World} {K : PySem.W.Frag} {mg : PySem.Str → Option Value} {base : Heap} {ex : Bool} {S : Sys} {r : RA} {lim : Option Nat} {st : K19.St} {B g : List Nat}
theorem RunAt.any_g {H : Hp} (h : RunAt K H false S r lim st B g) (g' : List Nat) : RunAt K H false S r lim st B g' := by
  obtain ⟨⟨es, rs, c, e, q, v⟩, y⟩ := h
  exact ⟨⟨es, rs, c, e, fun z => absurd z Bool.false_ne_true, v⟩, y⟩
theorem close_st {ex : Bool} {c : Nat} {v : Int} {T U : List Nat} {s : K19.St} (h : ex = false) : (close ex c v T U s).2 = (close false c v T [] s).2 := by
  subst h
  unfold close
  split <;> rfl
theorem close_val {ex : Bool} {c : Nat} {v : Int} {T U : List Nat} {s : K19.St} : (close ex c v T U s).1.val = v ∧ (close ex c v T U s).1.taint = T := by
  unfold close
  by_cases h : T = []
  · rw [if_pos h, h]; exact ⟨rfl, rfl⟩
  · rw [if_neg h]; exact ⟨rfl, rfl⟩
/-- a plain run -/
theorem evM_run (T : Txt K mg) {f k : Nat} (D : FD P w K mg base (L2.CX P w) k d_Run_evaluate ["self", "cell"] (spEvB K false f)) : EvM P w K mg base false f k := by
  obtain ⟨fd, F, G⟩ := D.ex
  refine ⟨fd, _, T.m_Run_evaluate, G.imp ?_, FunD.bindsN F b_Run_evaluate⟩
  rintro vs H Q E ⟨r, S, rk, bs, lim, st, B, g, c, rfl, hR, ok, pre, h0, hB, hf, hgt, hft, hkn, hlog, hg, hQ, hX⟩
  have e0 : evalX (M false S f) false S st B c = close false c (valueOf (S.at c).fn ((opsR false S f st B c (S.at c).ops).1.map (·.val))) (taintOf c (opsR false S f st B c (S.at c).ops).1) (usedOf c (opsR false S f st B c (S.at c).ops).1) (opsR false S f st B c (S.at c).ops).2 := rfl
  have e2 : (evalX (M false S f) false S st B c).2 = (close false c (valueOf (S.at c).fn ((opsR false S f st B c (S.at c).ops).1.map (·.val))) (taintOf c (opsR false S f st B c (S.at c).ops).1) [] (opsR false S f st B c (S.at c).ops).2).2 := by rw [e0]; exact close_st rfl
  have e3 := (close_val (ex := false) (c := c) (v := valueOf (S.at c).fn ((opsR false S f st B c (S.at c).ops).1.map (·.val))) (T := taintOf c (opsR false S f st B c (S.at c).ops).1) (U := usedOf c (opsR false S f st B c (S.at c).ops).1) (s := (opsR false S f st B c (S.at c).ops).2))
  rw [← e0] at e3
  rw [e2] at hlog hQ hX
  rw [e3.1, e3.2] at hQ
  refine ⟨r, S, rk, bs, lim, st, B, [], c, _, _, _, _, rfl, hR.any_g [], ok, pre, h0, hB, hf, by rw [List.length_append]; omega, rfl, rfl, rfl, hkn, hlog, Nat.zero_le _, fun hfit p t H' k hR' hp ht => ?_, hX⟩
  exact hQ hfit p t H' k (hR'.any_g _) hp ht
theorem board_at {b : Board} {c : Nat} (h : c < b.length) : (b.map bV)[c]? = some (bV (bat b c)) := by
  unfold bat
  rw [List.getElem?_map, List.getElem?_eq_getElem h, List.getD_eq_getElem?_getD, List.getElem?_eq_getElem h]
  rfl
theorem ok_Run_call (T : Txt K mg) (ex : Bool) (f ke : Nat) (hke : 5 ≤ ke) (D : EvM P w K mg base ex f ke) : FD P w K mg base (L2.CX P w) (ke + 1) d_Run_call ["self", "cell"] (spCall K ex (f + 1)) := by
  have F := crf T ex
  obtain ⟨fd, ad, eM, eF, eB⟩ := D.ex
  refine fdX_of T.d_Run_call sc_Run_call (fun vs H Q E h => ?_) (fun cdv A outer s H vs Q E hrC h => ?_)
  · obtain ⟨r, S, rk, bs, lim, st, B, g, c, rfl, _⟩ := h
    rfl
  · obtain ⟨r, S, rk, bs, lim, st, B, g, c, rfl, hR, ok, pre, hf, hgt, hft, hkn, hlog, hg, hQ, hX⟩ := h
    have hr := hrC.mono hke
    have tk := takes_of (X := cxOf (L2.CX P w) P w K mg base ["self", "cell", "value"] d_Run_call.qual d_Run_call.scope (d_Run_call.ad K) cdv A outer s H E) (E := E) rfl rfl rfl rfl
    have pass : Passes (L2.CX P w) (cxOf (L2.CX P w) P w K mg base ["self", "cell", "value"] d_Run_call.qual d_Run_call.scope (d_Run_call.ad K) cdv A outer s H E) E := passes_call tk fun _ _ _ _ h => h
    refine ⟨_, (pss_cons (ps_set (i := 2) sc_Run_call.nd rfl (by first | exact Or.inl rfl | exact Or.inr rfl | exact Or.inr (Or.inl rfl)) (pe_ix (ix_K K rfl) (pe_fldK K rfl (pv 0) rfl) (pv 1) (fun _ _ => rfl))) (pss_cons (ps_if (pt_cmpR op_notN (pv 2) pe_non (nomark _)) (pss_cons (ps_expr (pe_bm PySem.F.plainAttrs_list PySem.F.slot_list_append PySem.F.type_list_append mt_append (pe_fldK K rfl (pv 0) rfl) (pa_cons (pe_tup (pa_cons pe_str (pa_cons (pv 1) (pa_cons (pv 2) pa_nil)))) pa_nil))) (pss_one (ps_ret (pe_tup (pa_cons (pv 2) (pa_cons (pe_tup pa_nil) pa_nil)))))) pss_nil) (pss_cons (ps_if (pt_cmpR (op_inK K rfl) (pv 1) (pe_fldK K rfl (pv 0) rfl) rfl) (pss_cons (ps_expr (pe_bm PySem.F.plainAttrs_list PySem.F.slot_list_append PySem.F.type_list_append mt_append (pe_fldK K rfl (pv 0) rfl) (pa_cons (pe_tup (pa_cons pe_str (pa_cons (pv 1) (pa_cons (pe_mdX (ok_System_guess T) hr pass0 T.c_System T.m_System_guess rfl b_System_guess (pe_fldK K rfl (pv 0) rfl) (pa_cons (pv 1) pa_nil)) pa_nil)))) pa_nil))) (pss_one (ps_ret (pe_tup (pa_cons (pe_mdX (ok_System_guess T) hr pass0 T.c_System T.m_System_guess rfl b_System_guess (pe_fldK K rfl (pv 0) rfl) (pa_cons (pv 1) pa_nil)) (pa_cons (pe_tup (pa_cons (pv 1) pa_nil)) pa_nil)))))) pss_nil) (pss_one (ps_ret (pe_meth (pv 0) F.c eM eF hrC eB .nil pass (pa_cons (pv 1) pa_nil))))))), ?_⟩
    have hcb : c < st.board.length := by rw [pre.bok.len]; exact pre.cN
    have hat : atI (st.board.map bV) (c : Int) = some (bV (bat st.board c)) := at_nat (by omega) (by rw [Int.toNat_natCast]; exact board_at hcb)
    refine ⟨_, rfl, r.x, _, r.dx, _, _, rfl, hR.at_x, F.c, F.board, rfl, _, rfl, .inl ⟨_, _, _, _, rfl, rfl, .inl (.inl hR.at_b), hat, ?_⟩⟩
    have hl0 : ∀ e, (M ex S (f + 1) st B c).2 = st.say e → st.log.length ≤ 100000 := fun e he => by
      rw [he] at hlog
      have : (st.say e).log.length = st.log.length + 1 := by simp [St.say]
      omega
    cases hb : bat st.board c with
    | some v =>
      have e0 : M ex S (f + 1) st B c = (⟨v, [], []⟩, st.say (.stored c v)) := by
        show callB _ _ _ _ _ _ = _
        unfold callB
        rw [hb]
      rw [e0] at hQ hX
      refine ⟨_, rfl, rfl, _, rfl, iteTb rfl ?_⟩
      refine app_log (e := .stored c v) hR F rfl (hl0 _ (by rw [e0])) (fun Q' hq => ⟨_, rfl, _, rfl, (by show 3 ≤ sizeLine; decide), fun p hp => hq p _ (same_upd hp) upd_same⟩) (fun H2 k2 hR2 => ?_)
      refine ⟨_, rfl, Nat.zero_le _, fun t ht => ⟨(by show 2 ≤ sizeLine; decide), fun p hp => ?_⟩⟩
      have s1 := same_upd (o := .tup []) ht
      have s2 := same_upd (o := .tup [.int v, .ref t]) hp
      · refine hQ hft p t _ ((k2.trans1 (same_kp s1)).trans1 (same_kp s2)) ?_ upd_same (same_tk s2 _ _ sqT_upd)
        rw [List.append_nil]
        exact (hR2.same s1).same s2
    | none =>
      refine ⟨_, rfl, rfl, _, rfl, iteFb rfl ?_⟩
      refine ⟨_, rfl, _, rfl, r.x, _, r.dx, _, _, rfl, hR.at_x, F.c, F.busy, rfl, r.bu, lV B, rfl, .inl (.inl (.inl hR.at_bu)), rfl, flat_nat _, _, rfl, ?_⟩
      rw [inV_nat]
      have ⟨dxs, ts, pss, hs1, _⟩ := hR.sys
      by_cases hcB : c ∈ B
      · rw [decide_eq_true hcB]
        have e0 : M ex S (f + 1) st B c = (⟨(S.at c).g, [c], []⟩, st.say (.busy c (S.at c).g)) := by
          show callB _ _ _ _ _ _ = _
          unfold callB
          rw [hb]
          exact if_pos hcB
        rw [e0] at hQ hX
        refine iteT ?_
        refine app_log (e := .busy c (S.at c).g) hR F rfl (hl0 _ (by rw [e0])) (fun Q' hq => ⟨_, rfl, _, rfl, r.x, _, r.dx, _, _, rfl, hR.at_x, F.c, F.net, rfl, r.sys, dxs, _, rfl, hs1, rfl, _, rfl, r.sys, S, c, rfl, hR.sys, pre.cN, (by show 3 ≤ sizeLine; decide), fun p hp => hq p _ (same_upd hp) upd_same⟩) (fun H2 k2 hR2 => ?_)
        have ⟨dx2, ts2, ps2, hs2, _⟩ := hR2.sys
        refine ⟨_, rfl, r.x, _, r.dx, _, _, rfl, hR2.at_x, F.c, F.net, rfl, r.sys, dx2, _, rfl, hs2, rfl, _, rfl, r.sys, S, c, rfl, hR2.sys, pre.cN, _, rfl, (by show 1 ≤ sizeLine; decide), fun t ht => ⟨(by show 2 ≤ sizeLine; decide), fun p hp => ?_⟩⟩
        have s1 := same_upd (o := .tup [.int (c : Nat)]) ht
        have s2 := same_upd (o := .tup [.int (S.at c).g, .ref t]) hp
        refine hQ hft p t _ ((k2.trans1 (same_kp s1)).trans1 (same_kp s2)) ?_ upd_same (same_tk s2 _ _ sqT_upd)
        rw [List.append_nil]
        exact (hR2.same s1).same s2
      · rw [decide_eq_false hcB]
        have e0 : M ex S (f + 1) st B c = evalX (M ex S f) ex S st B c := by
          show callB _ _ _ _ _ _ = _
          unfold callB
          rw [hb]
          exact if_neg hcB
        rw [e0] at hQ hX hlog
        refine iteF ⟨_, rfl, r.x, r.dx, _, rfl, hR.at_x, ?_, _, rfl, r, S, rk, bs, lim, st, B, g, c, rfl, hR, ok, pre, hb, hcB, by rw [List.length_append, List.length_singleton]; omega, hgt, hft, hkn, hlog, hg, hQ, hX⟩
        cases ex <;> rfl
end
end KW
/-! The walk, part 14: exact runs. -/
namespace KW
open PySem PySem.Spec PyProof.Rows L2 KR K19 StX
section
variable {P : Program} {w : World} {K : PySem.W.Frag} {mg : PySem.Str → Option Value} {base : Heap} {S : Sys} {r : RA} {lim : Option Nat} {st : K19.St} {B g : List Nat}
def spIsExact (K : PySem.W.Frag) : Sp := fun vs H Q _ => ∃ (r : RA) (S : Sys) (lim : Option Nat) (st : K19.St) (B g : List Nat) (t u : Addr) (T U : List Nat), vs = [.ref r.x, .ref t, .ref u] ∧ RunAt K H true S r lim st B g ∧ SqT K H t (lV T) ∧ H u = some (.lst (lV U)) ∧ T.length ≤ 100 ∧ U.length ≤ 100 ∧
  (∀ x ∈ U, x < st.board.length) ∧ ∀ H', Same H H' → Q (.bl ((T.all fun x => decide (x ∈ B)) && (U.all fun x => !decide (x ∈ B) && (bat st.board x).isNone))) H'
theorem ok_ExactRun_is_exact (T : Txt K mg) : FD P w K mg base CX0 1 d_ExactRun_is_exact ["self", "taint", "used"] (spIsExact K) := by
  have F := crf T true
  refine fd_of T.d_ExactRun_is_exact sc_ExactRun_is_exact (fun vs H Q E h => ?_) (fun cdv A outer s H vs Q E hr h => ?_)
  · obtain ⟨r, S, lim, st, B, g, t, u, TT, U, rfl, _⟩ := h
    rfl
  · obtain ⟨r, S, lim, st, B, g, t, u, TT, U, rfl, hR, ht, hu, l1, l2, hU, hQ⟩ := h
    refine ⟨_, (pss_cons (ps_if (pt_not (pt_val (pe_callB (cr_allK K rfl rfl) rfl T.f_all boot_all (pa_cons (pe_lc rfl sc_ExactRun_is_exact.nd (pi_tupK K rfl (pv 1)) (own := [("spot", 3)]) (blkOk_by (by kernel_rfl)) (fun _ _ _ _ _ => (pg_name (i := 3) sc_ExactRun_is_exact.nd rfl (by first | exact Or.inl rfl | exact Or.inr rfl | exact Or.inr (Or.inl rfl)))) (fun _ _ _ _ _ => pts_nil) (fun _ _ _ _ _ => (pe_cmpR (op_inK K rfl) (pv 3) (pe_fldK K rfl (pv 0) rfl) rfl))) pa_nil)))) (pss_one (ps_ret pe_bl)) pss_nil) (pss_one (ps_ret (pe_callB (cr_allK K rfl rfl) rfl T.f_all boot_all (pa_cons (pe_lc rfl sc_ExactRun_is_exact.nd (pi_listK K rfl (pv 2)) (own := [("spot", 3)]) (blkOk_by (by kernel_rfl)) (fun _ _ _ _ _ => (pg_name (i := 3) sc_ExactRun_is_exact.nd rfl (by first | exact Or.inl rfl | exact Or.inr rfl | exact Or.inr (Or.inl rfl)))) (fun _ _ _ _ _ => pts_nil) (fun _ _ _ _ _ => (pe_and (pe_cmpR (op_ninK K rfl) (pv 3) (pe_fldK K rfl (pv 0) rfl) rfl) (pe_one (pe_cmpR op_isN (pe_ix (ix_K K rfl) (pe_fldK K rfl (pv 0) rfl) (pv 3) (fun _ _ => rfl)) pe_non (nomark _)))))) pa_nil))))), ?_⟩
    have small : ∀ {n : Nat}, n ≤ 1000 → n < sizeLine := fun h => Nat.lt_of_le_of_lt h (by decide)
    have lT : (lV TT).length = TT.length := List.length_map _
    have lU : (lV U).length = U.length := List.length_map _
    refine ⟨_, rfl, t, rfl, ⟨_, ht⟩, fun D hD => ?_⟩
    refine lc_same (walk_tup (xs := lV TT)) (fun i acc _ => acc = ((TT.take i).map fun x => decide (x ∈ B)).map V.bl) hD (by rw [lT]; exact small (by omega)) (fun H' s => same_tk s _ _ ht) (fun _ _ => rfl) (fun i x H1 H2 acc K1 K0 hi s1 _ _ ea y k1 k0 => ?_) (fun H1 acc s1 ed ea => ?_)
    · obtain ⟨rfl, hx⟩ := y
      obtain ⟨v, hv, rfl⟩ := nat_at hx
      have hR1 := hR.same s1
      refine ⟨rfl, yesP (iteT ⟨_, rfl, _, rfl, r.x, _, r.dx, _, _, rfl, hR1.at_x, F.c, F.busy, rfl, r.bu, lV B, rfl, .inl (.inl (.inl hR1.at_bu)), rfl, flat_nat _, ?_⟩)⟩
      show K1 (.bl (inV (.int (v : Nat)) (lV B))) _
      rw [inV_nat]
      refine k1 _ _ (Same.refl _) fun H5 _ => ?_
      rw [ea, List.take_add_one, hv]
      simp
    · rw [lT, List.take_length] at ea
      refine ⟨_, _, rfl, .inl (.inl (by rw [ed, ea])), ?_⟩
      have e1 : (TT.map fun x => decide (x ∈ B)).all id = TT.all fun x => decide (x ∈ B) := by rw [List.all_map]; rfl
      rw [e1]
      refine ⟨_, rfl, ?_⟩
      cases hb : TT.all fun x => decide (x ∈ B) with
      | false =>
        rw [hb] at hQ
        exact iteT (hQ _ s1)
      | true =>
        rw [hb, Bool.true_and] at hQ
        refine iteF ?_
        have hu1 := s1 _ _ hu
        refine ⟨_, rfl, u, rfl, ⟨_, .inl (.inl hu1)⟩, fun D2 hD2 => ?_⟩
        refine lc_same (walk_list (xs := lV U)) (fun i acc _ => acc = ((U.take i).map fun x => !decide (x ∈ B) && (bat st.board x).isNone).map V.bl) hD2 (by rw [lU]; exact small (by omega)) (fun H' s => .inl (.inl (s _ _ hu1))) (fun _ _ => rfl) (fun i x H2 H3 acc K1 K0 hi s2 _ _ ea y k1 k0 => ?_) (fun H2 acc s2 ed2 ea2 => ?_)
        · obtain ⟨rfl, hx⟩ := y
          obtain ⟨v, hv, rfl⟩ := nat_at hx
          have hR2 := hR.same (Same.trans s1 s2)
          have hvb := hU v (List.mem_of_getElem? hv)
          have hat : atI (st.board.map bV) (v : Int) = some (bV (bat st.board v)) := at_nat (by omega) (by rw [Int.toNat_natCast]; exact board_at hvb)
          refine ⟨rfl, yesP (iteT ⟨_, rfl, _, rfl, r.x, _, r.dx, _, _, rfl, hR2.at_x, F.c, F.busy, rfl, r.bu, lV B, rfl, .inl (.inl (.inl hR2.at_bu)), rfl, flat_nat _, _, rfl, ?_⟩)⟩
          rw [inV_nat]
          by_cases hvB : v ∈ B
          · rw [decide_eq_true hvB]
            refine iteF (k1 _ _ (Same.refl _) fun H5 _ => ?_)
            rw [ea, List.take_add_one, hv]
            simp [hvB]
          · rw [decide_eq_false hvB]
            refine iteT ⟨_, rfl, r.x, _, r.dx, _, _, rfl, hR2.at_x, F.c, F.board, rfl, _, rfl, .inl ⟨_, _, _, _, rfl, rfl, .inl (.inl hR2.at_b), hat, rfl, ?_⟩⟩
            have eN : decide (bV (bat st.board v) = V.non) = (bat st.board v).isNone := by
              cases bat st.board v <;> rfl
            rw [eN]
            refine k1 _ _ (Same.refl _) fun H5 _ => ?_
            rw [ea, List.take_add_one, hv]
            simp [hvB]
        · rw [lU, List.take_length] at ea2
          refine ⟨_, _, rfl, .inl (.inl (by rw [ed2, ea2])), ?_⟩
          have e2 : (U.map fun x => !decide (x ∈ B) && (bat st.board x).isNone).all id = U.all fun x => !decide (x ∈ B) && (bat st.board x).isNone := by rw [List.all_map]; rfl
          rw [e2]
          exact hQ _ (Same.trans s1 s2)
theorem nsc_evaluate : NdefX.NScope ["self", "cell", "__class__", "known", "value", "taint", "used"] ["self", "cell"] ["__class__"] (defScope (inClass (top 53) 2)) := NdefX.nscope_by (by kernel_rfl)
theorem kbn0 {fd : FuncData} {ps : List PySem.Str} (hb : Binds K fd ps []) : KBn K fd ps ps.length [] (fun us _ => us) (fun vs _ => vs) := by
  refine ⟨fun s us ws hK hl hw => ?_, fun r _ => r⟩
  have := hb s us hK (by rw [List.append_nil]; exact hl)
  rw [List.append_nil] at this
  exact this
theorem find_at {α : Type} {p : α → Bool} : ∀ {l : List α} {i : Nat} {w : α}, (∀ x ∈ l.take i, p x = false) → l[i]? = some w → p w = true → l.find? p = some w
  | [], i, w, _, h, _ => by simp at h
  | a :: l, 0, w, _, h, hp => by
    simp at h; subst h
    exact List.find?_cons_of_pos hp
  | a :: l, i + 1, w, hn, h, hp => by
    have ha : p a = false := hn a (by simp)
    rw [List.find?_cons_of_neg (by rw [ha]; exact Bool.false_ne_true)]
    exact find_at (i := i) (fun x hx => hn x (by simp [hx])) (by simpa using h) hp
theorem at_last {xs : List V} {y : V} : atI (xs ++ [y]) (-1) = some y := by
  unfold atI ixN
  have hl : (xs ++ [y]).length = xs.length + 1 := by simp
  rw [if_neg (by decide), hl, if_pos (by omega)]
  have e : ((-1 : Int) + ((xs.length + 1 : Nat) : Int)).toNat = xs.length := by omega
  rw [e]
  show (xs ++ [y])[xs.length]? = some y
  simp
theorem hit_row {b : Board} {B : List Nat} {c : Nat} {w : K19.Row} : hit b B c w = (decide (w.cell = c) && ((w.taint.all fun x => decide (x ∈ B)) && (w.used.all fun x => !decide (x ∈ B) && (bat b x).isNone))) := by
  unfold hit
  rw [Bool.and_assoc]
  congr 1
theorem RunAt.at_rm2 {H : Hp} (h : RunAt K H true S r lim st B g) : ∃ rs, H r.rm = some (.lst (rV (rs.map (·.1)))) ∧ RowsAt K H rs st.known ∧ ∀ p ∈ rs, p.2 ∉ r.mut true := by
  obtain ⟨⟨es, rs, c, e, q, v⟩, y⟩ := h
  refine ⟨rs, c.at 4, (q rfl).1, fun p hp hm => ((q rfl).2 p hp).1 ?_⟩
  simp only [RA.mut, RA.cont, RA.gs, if_true, List.map_cons, List.mem_cons, List.not_mem_nil, or_false] at hm ⊢
  rcases hm with h | h | h | h | h | h | h <;> simp [h]
theorem evM_exact (T : Txt K mg) (TS : TxtS P K) (KB : K.In base) {f k : Nat} (hk : 5 ≤ k) (D : FD P w K mg base (L2.CX P w) k d_Run_evaluate ["self", "cell"] (spEvB K true f)) : EvM P w K mg base true f (k + 1) := by
  have F := crf T true
  obtain ⟨fd2, F2, G2⟩ := D.ex
  obtain ⟨cc, cda, fd, SF, hdv⟩ := TS.f_evaluate
  refine ⟨fd, _, T.m_ExactRun_evaluate, fnS_of SF nsc_evaluate (fun vs H Q E h => ?_) (fun A outer s H vs Q E hrC h => ?_), ?_⟩
  · obtain ⟨r, S, rk, bs, lim, st, B, g, c, rfl, _⟩ := h
    rfl
  · obtain ⟨r, S, rk, bs, lim, st, B, g, c, rfl, hR, ok, pre, h0, hB, hf, hgt, hft, hkn, hlog, hg, hQ, hX⟩ := h
    have hr := hrC.mono hk
    have hu := Room.u64 hr
    have tk := takes_of (X := NdefX.ncx (L2.CX P w) P w K mg base ["self", "cell", "__class__", "known", "value", "taint", "used"] (sNF "evaluate" "ExactRun.evaluate" (defArgs (inClass (top 53) 2)) (defBody (inClass (top 53) 2)) (defScope (inClass (top 53) 2)) cc cda) (He.fAd K ("ExactRun", some "evaluate")) A outer s H E) (E := E) rfl rfl rfl rfl
    have pass : Passes (L2.CX P w) (NdefX.ncx (L2.CX P w) P w K mg base ["self", "cell", "__class__", "known", "value", "taint", "used"] (sNF "evaluate" "ExactRun.evaluate" (defArgs (inClass (top 53) 2)) (defBody (inClass (top 53) 2)) (defScope (inClass (top 53) 2)) cc cda) (He.fAd K ("ExactRun", some "evaluate")) A outer s H E) E := passes_call tk fun _ _ _ _ h => h
    have po := passes_of (X := NdefX.ncx (L2.CX P w) P w K mg base ["self", "cell", "__class__", "known", "value", "taint", "used"] (sNF "evaluate" "ExactRun.evaluate" (defArgs (inClass (top 53) 2)) (defBody (inClass (top 53) 2)) (defScope (inClass (top 53) 2)) cc cda) (He.fAd K ("ExactRun", some "evaluate")) A outer s H E) rfl
    refine ⟨_, pssa_cons (PSa.of (ps_for po rfl (pi_listK K rfl (pe_fldK K rfl (pv 0) rfl)) (pg_tupK (n := 4) K rfl rfl (pgs_cons (pg_name (i := 3) nsc_evaluate.nd rfl (by first | exact Or.inl rfl | exact Or.inr rfl | exact Or.inr (Or.inl rfl))) (pgs_cons (pg_name (i := 4) nsc_evaluate.nd rfl (by first | exact Or.inl rfl | exact Or.inr rfl | exact Or.inr (Or.inl rfl))) (pgs_cons (pg_name (i := 5) nsc_evaluate.nd rfl (by first | exact Or.inl rfl | exact Or.inr rfl | exact Or.inr (Or.inl rfl))) (pgs_cons (pg_name (i := 6) nsc_evaluate.nd rfl (by first | exact Or.inl rfl | exact Or.inr rfl | exact Or.inr (Or.inl rfl))) pgs_nil))))) (pss_one (ps_if (PW.pt (pw_and (pt_cmpR op_eq (pv 3) (pv 1) (nomark _)) (pw_and1 (pt_val (pe_mdX (ok_ExactRun_is_exact T) hr pass0 T.c_ExactRun T.m_ExactRun_is_exact rfl b_ExactRun_is_exact (pv 0) (pa_cons (pv 5) (pa_cons (pv 6) pa_nil))))))) (pss_cons (ps_expr (pe_bm PySem.F.plainAttrs_list PySem.F.slot_list_append PySem.F.type_list_append mt_append (pe_fldK K rfl (pv 0) rfl) (pa_cons (pe_tup (pa_cons pe_str (pa_cons (pv 1) (pa_cons (pv 4) (pa_cons (pv 5) pa_nil))))) pa_nil))) (pss_cons (ps_expr (pe_bm PySem.F.plainAttrs_list PySem.F.slot_list_extend PySem.F.type_list_extend mt_extend (pe_ix (ix_K K rfl) (pe_fldK K rfl (pv 0) rfl) (pe_un un_neg pe_int) (fun _ _ => rfl)) (pa_cons (pv 6) pa_nil))) (pss_one (ps_ret (pe_tup (pa_cons (pv 4) (pa_cons (pv 5) pa_nil))))))) pss_nil)))) (pssa_cons (PSa.of (ps_expr (pe_bm PySem.F.plainAttrs_list PySem.F.slot_list_append PySem.F.type_list_append mt_append (pe_fldK K rfl (pv 0) rfl) (pa_cons (pe_lst (pa_cons (pv 1) pa_nil)) pa_nil)))) (pssa_cons (psa_asg (pea_super SF TS.s_evaluate KB rfl rfl lk_self rfl rfl rfl rfl rfl T.f_super TS.top rfl G2 hrC (kbn0 (FunD.bindsN F2 b_Run_evaluate)) pass (pa_cons (pv 1) pa_nil) pk_nil) (pg_tupK (n := 2) K rfl rfl (pgs_cons (pg_name (i := 4) nsc_evaluate.nd rfl (by first | exact Or.inl rfl | exact Or.inr rfl | exact Or.inr (Or.inl rfl))) (pgs_cons (pg_name (i := 5) nsc_evaluate.nd rfl (by first | exact Or.inl rfl | exact Or.inr rfl | exact Or.inr (Or.inl rfl))) pgs_nil)))) (PSsa.of (pss_cons (ps_set (i := 6) nsc_evaluate.nd rfl (by first | exact Or.inl rfl | exact Or.inr rfl | exact Or.inr (Or.inl rfl)) (pe_callB (cr_sortedSet rfl) rfl T.f_sorted boot_sorted (pa_cons (pe_callTy (cr_setN rfl) rfl T.f_set boot_set (pa_cons (pe_bm0 PySem.F.plainAttrs_list PySem.F.slot_list_pop PySem.F.type_list_pop mt_pop (pe_fldK K rfl (pv 0) rfl)) pa_nil)) pa_nil))) (pss_cons (ps_if (pt_cmpR (op_neDK K rfl hu) (pv 5) (pe_tup pa_nil) (nomark _)) (pss_cons (ps_expr (pe_bm PySem.F.plainAttrs_list PySem.F.slot_list_append PySem.F.type_list_append mt_append (pe_fldK K rfl (pv 0) rfl) (pa_cons (pe_tup (pa_cons (pv 1) (pa_cons (pv 4) (pa_cons (pv 5) (pa_cons (pv 6) pa_nil))))) pa_nil))) (pss_one (ps_expr (pe_bm PySem.F.plainAttrs_list PySem.F.slot_list_extend PySem.F.type_list_extend mt_extend (pe_ix (ix_K K rfl) (pe_fldK K rfl (pv 0) rfl) (pe_un un_neg pe_int) (fun _ _ => rfl)) (pa_cons (pv 6) pa_nil))))) pss_nil) (pss_one (ps_ret (pe_tup (pa_cons (pv 4) (pa_cons (pv 5) pa_nil)))))))))), ?_⟩
    have small : ∀ {n : Nat}, n ≤ 1000 → n < sizeLine := fun h => Nat.lt_of_le_of_lt h (by decide)
    have sm : ∀ {n : Nat}, n ≤ 100000 → n < sizeLine := fun h => Nat.lt_of_le_of_lt h (by decide)
    obtain ⟨rs, hrm, hrows, hmut⟩ := hR.at_rm2
    have lrs : (rV (rs.map (·.1))).length = st.known.length := by rw [List.length_map, List.length_map]; exact hrows.length
    have bl12 : B.length ≤ 12 := Nat.le_trans (nodup_le pre.bn pre.bl) ok.len
    have gr := gr_evalX (gr_M true S f) true S st B c
    have lst : st.log.length ≤ 100000 := Nat.le_trans gr.len hlog
    have mgl : r.gl ∈ r.mut true := by simp [RA.mut]
    have mga : r.ga ∈ r.mut true := by simp [RA.mut]
    have mrm : r.rm ∈ r.mut true := by simp [RA.mut]
    -- the answer, given to the caller
    have extend : ∀ (H1 : Hp) (st1 : K19.St) (u : Addr) (U : List Nat) (σ : L2.St) (Nx : VK), RunAt K H1 true S r lim st1 B g → H1 u = some (.lst (lV U)) → U.length ≤ 100 → σ[0]? = some (some (.ref r.x)) → σ[6]? = some (some (.ref u)) →
        (∀ H2, Kp K (r.mut true) H1 H2 → RunAt K H2 true S r lim st1 B (g ++ U) → Nx .non H2) → tBM K "list" rExtend (tOp (rIx K) (tFld K (tVar 0) "gathered") (tUn (rU fun i => .int (-i)) (tC (.int 1)))) (tCons (tVar 6) tNil) σ H1 Nx := fun H1 st1 u U σ Nx hR1 hu1 lU h0' h6' k => by
      have hgl := hR1.at_gl
      refine ⟨_, h0', r.x, _, r.dx, _, _, rfl, hR1.at_x, F.c, T.n_ExactRun_gathered, rfl, _, rfl, .inl ⟨r.ga, _, -1, .ref r.gl, rfl, rfl, .inl (.inl hR1.at_ga), ?_, ?_⟩⟩
      · rw [rV_app]; exact at_last
      · refine ⟨.inl ⟨rfl, _, .inl (.inl hgl)⟩, _, h6', r.gl, u, _, _, rfl, rfl, hgl, hu1, by rw [List.length_map, List.length_map]; exact Nat.le_of_lt (sm (by omega)), ?_⟩
        have e : lV g ++ lV U = lV (g ++ U) := (lV_app _ _).symm
        rw [e]
        exact k _ (Kp.upd mgl hgl (fun z => z)) (hR1.upd_gl (g ++ U))
    -- the loop over what is remembered
    refine ⟨_, rfl, r.x, _, r.dx, _, _, rfl, hR.at_x, F.c, T.n_ExactRun_remembered, rfl, r.rm, rfl, ⟨_, .inl (.inl hrm)⟩, ?_⟩
    refine for_list (xs := rV (rs.map (·.1))) (fun i σ H' => (∃ x3 x4 x5 x6, σ = [some (.ref r.x), some (.int (c : Nat)), some (.ref (He.ga K "ExactRun")), x3, x4, x5, x6]) ∧ Same H H' ∧ ∀ w ∈ st.known.take i, hit st.board B c w = false) ⟨⟨_, _, _, _, rfl⟩, Same.refl H, fun w hw => by simp at hw⟩ (fun i σ H' _ q => .inl (.inl (q.2.1 _ _ hrm))) (fun i x σ H1 hx q => ?_) (fun σ H1 q => ?_)
    · obtain ⟨⟨x3, x4, x5, x6, rfl⟩, s1, hno⟩ := q
      obtain ⟨p, hp, rfl⟩ := ref_at hx
      rw [List.getElem?_map] at hp
      obtain ⟨pu, hpu, rfl⟩ := Option.map_eq_some_iff.mp hp
      obtain ⟨wr, hw, t, h1, h2, h3⟩ := paired_at (hrows.same s1) hpu
      have rok := pre.known wr (List.mem_of_getElem? hw)
      have hR1 := hR.same s1
      have stepNo : hit st.board B c wr = false → ∀ w ∈ st.known.take (i + 1), hit st.board B c w = false := fun hn w hw' => by
        rw [List.take_add_one, hw] at hw'
        rcases List.mem_append.mp hw' with h | h
        · exact hno w h
        · have e := List.mem_singleton.mp h
          subst e
          exact hn
      refine ⟨_, _, rfl, .inl (.inl h1), rfl, _, _, rfl, _, _, rfl, _, _, rfl, _, _, rfl, rfl, ?_⟩
      refine ⟨_, rfl, _, rfl, rfl, _, rfl, ?_⟩
      rw [vint_dec]
      by_cases hc : wr.cell = c
      · rw [decide_eq_true hc]
        have lt := nodup_le (asc_nodup rok.tasc) rok.tN
        have lu := nodup_le (asc_nodup rok.uasc) rok.uN
        have l12 := ok.len
        refine iteT ⟨_, rfl, r.x, r.dx, _, rfl, hR1.at_x, rfl, _, rfl, _, rfl, r, S, lim, st, B, g, t, pu.2, wr.taint, wr.used, rfl, hR1, h2, h3, by omega, by omega, fun x hx => by rw [pre.bok.len]; exact rok.uN x hx, fun H2 s2 => ⟨_, rfl, ?_⟩⟩
        have hr0 := hit_row (b := st.board) (B := B) (c := c) (w := wr)
        rw [decide_eq_true hc, Bool.true_and] at hr0
        cases hb : ((wr.taint.all fun x => decide (x ∈ B)) && (wr.used.all fun x => !decide (x ∈ B) && (bat st.board x).isNone)) with
        | false =>
          rw [hb] at hr0
          exact iteF ⟨⟨_, _, _, _, rfl⟩, Same.trans s1 s2, stepNo hr0⟩
        | true =>
          rw [hb] at hr0
          have ef : st.known.find? (hit st.board B c) = some wr := find_at hno hw hr0
          have e0 : evalX (M true S f) true S st B c = (⟨wr.val, wr.taint, wr.used⟩, st.say (.reused c wr.val wr.taint)) := by
            unfold evalX
            rw [if_pos rfl, ef]
          rw [e0] at hQ
          have hR2 := hR1.same s2
          have h22 := same_tk (K := K) s2 _ _ h2
          have h32 := s2 _ _ h3
          refine iteT ?_
          refine app_log (e := .reused c wr.val wr.taint) hR2 F rfl lst (fun Q' hq => ⟨_, rfl, _, rfl, _, rfl, (by show 4 ≤ sizeLine; decide), fun p hp => hq p _ (same_upd hp) ⟨t, upd_same, same_tk (same_upd hp) _ _ h22⟩⟩) (fun H3 k3 hR3 => ?_)
          have h33 : H3 pu.2 = some (.lst (lV wr.used)) := k3.kp _ _ (hmut pu (List.mem_of_getElem? hpu)) h32
          refine extend H3 _ pu.2 wr.used _ _ hR3 h33 (by omega) rfl rfl (fun H4 k4 hR4 => ?_)
          refine ⟨_, rfl, _, rfl, (by show 2 ≤ sizeLine; decide), fun p hp => ?_⟩
          have s5 := same_upd (o := .tup [.int wr.val, .ref t]) hp
          have k05 := ((same_kp (R := r.mut true) (Same.trans s1 s2)).trans1 (k3.trans1 k4))
          exact hQ hft p t _ (k05.trans1 (same_kp s5)) (hR4.same s5) upd_same (same_tk s5 _ _ ((k3.trans1 k4).sk.tk _ _ h22))
      · rw [decide_eq_false hc]
        refine iteF (iteF ⟨⟨_, _, _, _, rfl⟩, s1, stepNo ?_⟩)
        rw [hit_row, decide_eq_false hc, Bool.false_and]
    · obtain ⟨⟨x3, x4, x5, x6, rfl⟩, s1, hno⟩ := q
      rw [lrs, List.take_length] at hno
      have ef : st.known.find? (hit st.board B c) = none := List.find?_eq_none.mpr fun w hw => by rw [hno w hw]; exact Bool.false_ne_true
      have e0 : evalX (M true S f) true S st B c = evalB (M true S f) true S st B c := by
        unfold evalX
        rw [if_pos rfl, ef]
      rw [e0] at hQ hX hlog
      -- gathered.append([cell])
      have hR1 := hR.same s1
      have lgt : r.gt.length ≤ 12 := by omega
      refine ⟨_, rfl, r.x, _, r.dx, _, _, rfl, hR1.at_x, F.c, T.n_ExactRun_gathered, rfl, .inl ⟨rfl, _, .inl (.inl hR1.at_ga)⟩, _, rfl, (by show 1 ≤ sizeLine; decide), fun a ha => ?_⟩
      have s2 := same_upd (o := .lst (lV [c])) ha
      have hga2 := s2 _ _ hR1.at_ga
      have lga : (rV ((r.gt.map (·.1)).reverse ++ [r.gl])).length < sizeLine := by
        rw [List.length_map, List.length_append, List.length_reverse, List.length_map]
        exact small (by simp; omega)
      refine ⟨r.ga, _, _, rfl, rfl, hga2, lga, ?_⟩
      have hR2 := hR1.push (g' := [c]) ha
      have k2 : Kp K (r.mut true) H1 (upd (upd H1 a (.lst (lV [c]))) r.ga (.lst (rV ((r.gt.map (·.1)).reverse ++ [r.gl]) ++ [.ref a]))) := (Kp.new ha).trans1 (Kp.upd mga hga2 (fun z => z))
      have a0 : H a = none := s1.free ha
      have anm : a ∉ r.mut true := fun hm => by
        obtain ⟨o, ho⟩ := hR.mut_at hm
        rw [a0] at ho
        cases ho
      show (tSeq _ _) _ _ (upd (upd H1 a (.lst (lV [c]))) r.ga (.lst (rV ((r.gt.map (·.1)).reverse ++ [r.gl]) ++ [.ref a])))
      generalize upd (upd H1 a (.lst (lV [c]))) r.ga (.lst (rV ((r.gt.map (·.1)).reverse ++ [r.gl]) ++ [.ref a])) = H2 at *
      have k02 := (same_kp (R := r.mut true) s1).trans1 k2
      have pushK : ∀ {H' : Hp}, Kp K ((r.push a g).mut true) H2 H' → Kp K (r.mut true) H H' := fun k => k02.trans k fun z hz => by
        simp only [RA.mut, RA.push, if_true, List.mem_cons, List.not_mem_nil, or_false] at hz ⊢
        rcases hz with h | h | h | h | h | h | h
        all_goals first
          | (right; rw [h]; exact a0)
          | (left; simp [h])
      have cbeg : ∀ (ex : Bool) (v : Int) (TT U : List Nat) (s : K19.St), (close ex c v TT U s).2.begun = s.begun := fun ex v TT U s => by unfold close; split <;> rfl
      have clog : ∀ (ex : Bool) (v : Int) (TT U : List Nat) (s : K19.St), (close ex c v TT U s).2.log.length = s.log.length + 1 := fun ex v TT U s => by unfold close; split <;> simp
      obtain ⟨hpre, hres, hbok⟩ := ops_pre (ex := true) (f := f) ok pre h0 hB hf
      generalize ero : opsR true S f st B c (S.at c).ops = ro at *
      obtain ⟨rs2, st2⟩ := ro
      have eB : evalB (M true S f) true S st B c = close true c (valueOf (S.at c).fn (rs2.map (·.val))) (taintOf c rs2) (usedOf c rs2) st2 := by
        show close true c (valueOf (S.at c).fn ((opsR true S f st B c (S.at c).ops).1.map (·.val))) (taintOf c (opsR true S f st B c (S.at c).ops).1) (usedOf c (opsR true S f st B c (S.at c).ops).1) (opsR true S f st B c (S.at c).ops).2 = _
        rw [ero]
      rw [eB] at hQ hX hlog
      rw [(close_val (ex := true)).1, (close_val (ex := true)).2, cbeg] at hQ
      rw [cbeg] at hX
      rw [clog] at hlog
      generalize hv : valueOf (S.at c).fn (rs2.map (·.val)) = v at *
      generalize hT : taintOf c rs2 = TT at *
      generalize hU : usedOf c rs2 = U at *
      have hres' : ∀ x ∈ rs2, x.used.length ≤ 12 ∧ (∀ y ∈ x.used, y < S.length) := fun x hx => by
        have := hres (S.at c).ops.length x (by rw [List.take_length, ero]; exact hx)
        exact ⟨this.1, this.2.1⟩
      have lrs2 : rs2.length ≤ 8 := by
        have e : rs2.length = (S.at c).ops.length := by
          have := runOps_len (F := fun s o => M true S f s (B ++ [c]) o) (S.at c).ops (opened st c)
          rw [show runOps (fun s o => M true S f s (B ++ [c]) o) (opened st c) (S.at c).ops = (rs2, st2) from ero] at this
          exact this
        rw [e]; exact ok.ops8 c pre.cN
      have lfl := flat_len fun x hx => (hres' x hx).1
      have uN : ∀ x ∈ U, x < S.length := fun x hx => by
        rw [← hU] at hx
        rcases mem_usedOf.mp hx with h | ⟨y, hy, h⟩
        · rw [h]; exact pre.cN
        · exact (hres' y hy).2 x h
      have uasc : Asc U := by rw [← hU]; exact asc_norm _
      have lU : U.length ≤ 12 := Nat.le_trans (nodup_le (asc_nodup uasc) uN) ok.len
      refine ⟨r.x, r.dx, _, rfl, hR2.at_x, _, rfl, rfl, rfl, r.push a g, S, rk, bs, lim, st, B, [c], c, v, TT, rs2, st2, rfl, hR2, ok, pre, h0, hB, hf, ?_, ero, hv.symm, hT.symm, hkn, by rw [clog]; exact hlog, (by show 1 ≤ 100; decide), fun hfit p t H3 k3 hR3 hp ht => ?_, fun nf d H' L eL kL hd => ?_⟩
      · show ((r.gl, g) :: r.gt).length ≤ _
        rw [List.length_cons, List.length_append, List.length_singleton]; omega
      · rw [cbeg] at hfit
        have k03 := pushK k3
        refine ⟨p, _, rfl, .inl (.inl hp), rfl, _, _, rfl, _, _, rfl, rfl, ?_⟩
        -- used = sorted(set(self.gathered.pop()))
        have hga3 := hR3.at_ga
        have eg3 : rV (((r.push a g).gt.map (·.1)).reverse ++ [(r.push a g).gl]) = rV ((r.gt.map (·.1)).reverse ++ [r.gl]) ++ [.ref a] := by
          show rV ((((r.gl, g) :: r.gt).map (·.1)).reverse ++ [a]) = _
          rw [List.map_cons, List.reverse_cons, rV_app (_ ++ _)]
          rfl
        rw [eg3] at hga3
        refine ⟨_, rfl, r.x, _, r.dx, _, _, rfl, hR3.at_x, F.c, T.n_ExactRun_gathered, rfl, .inl ⟨rfl, _, .inl (.inl hga3)⟩, r.ga, _, .ref a, rfl, rfl, hga3, by rw [List.length_append]; simp, ?_⟩
        rw [List.dropLast_concat]
        obtain ⟨hR4, ha3, _⟩ := RunAt.pop T hR3
        have k4 : Kp K (r.mut true) H3 (upd H3 r.ga (.lst (rV ((r.gt.map (·.1)).reverse ++ [r.gl])))) := Kp.upd mga hga3 (fun z => z)
        have k04 := k03.trans1 k4
        have ha4 : upd H3 r.ga (.lst (rV ((r.gt.map (·.1)).reverse ++ [r.gl]))) a = some (.lst (lV ([c] ++ rs2.flatMap (·.used)))) := k4.kp _ _ anm ha3
        have ht4 := k4.sk.tk _ _ ht
        generalize upd H3 r.ga (.lst (rV ((r.gt.map (·.1)).reverse ++ [r.gl]))) = H4 at *
        refine ⟨a, iN ([c] ++ rs2.flatMap (·.used)), rfl, .inl (.inl (.inl (by rw [show (iN ([c] ++ rs2.flatMap (·.used))).map V.int = lV _ from zl _]; exact ha4))), by rw [List.length_map, List.length_append]; simp only [List.length_cons, List.length_nil]; omega, fun q n hq hn => ?_⟩
        have n64 : n < 64 := by
          have := hn (iN U) fun j hj => by
            obtain ⟨x, hx, rfl⟩ := List.mem_map.mp hj
            refine List.mem_map.mpr ⟨x, ?_, rfl⟩
            rw [← hU]
            exact mem_norm.mpr (by simpa using hx)
          rw [List.length_map] at this
          omega
        refine ⟨q, _, n, rfl, upd_same, n64, fun ns u hp1 hp2 _ hu => ?_⟩
        have eU : zV ns = lV U := by
          rw [← hU]
          exact sorted_nat hp1 fun k => by rw [hp2, decide_eq_true_eq, List.mem_map]; simp only [List.singleton_append]; constructor
                                           · rintro ⟨x, hx, rfl⟩; exact ⟨x, hx, rfl⟩
                                           · rintro ⟨x, hx, rfl⟩; exact ⟨x, hx, rfl⟩
        have s5 := same_upd (o := SetO w q (fun j => decide (j ∈ iN ([c] ++ rs2.flatMap (·.used)))) n) hq
        have hR5 := hR4.same s5
        have hu' : upd H4 q (SetO w q (fun j => decide (j ∈ iN ([c] ++ rs2.flatMap (·.used)))) n) u = none := hu
        have fr := hR5.fresh hu' lim (close false c v TT [] st2).2 B g
        have s6 := same_upd (o := .lst (zV ns)) hu'
        have hR6 := hR5.same s6
        have hu6 : upd (upd H4 q (SetO w q (fun j => decide (j ∈ iN ([c] ++ rs2.flatMap (·.used)))) n)) u (.lst (zV ns)) u = some (.lst (lV U)) := by rw [upd_same, eU]
        have s46 := Same.trans s5 s6
        show (tSeq _ _) _ _ (upd (upd H4 q (SetO w q (fun j => decide (j ∈ iN ([c] ++ rs2.flatMap (·.used)))) n)) u (.lst (zV ns)))
        generalize upd (upd H4 q (SetO w q (fun j => decide (j ∈ iN ([c] ++ rs2.flatMap (·.used)))) n)) u (.lst (zV ns)) = H6 at *
        have k06 := k04.trans1 (same_kp s46)
        have ht6 := same_tk (K := K) s46 _ _ ht4
        -- if taint != ()
        refine ⟨_, rfl, Nat.zero_le _, fun z hz => ⟨dT TT, dT [], dp_tup (same_tk (same_upd hz) _ _ ht6), dp_tup (l := []) sqT_upd, sh_dT _, sh_dT _, _, rfl, ?_⟩⟩
        have s7 := same_upd (o := .tup []) hz
        have hR7 := hR6.same s7
        have k07 := k06.trans1 (same_kp s7)
        have ht7 := same_tk (K := K) s7 _ _ ht6
        have hu7 := s7 _ _ hu6
        generalize upd H6 z (.tup []) = H7 at *
        by_cases hTn : TT = []
        · refine iteFb (by rw [eqv_dT, decide_eq_true hTn]; rfl) ?_
          refine ⟨_, rfl, _, rfl, (by show 2 ≤ sizeLine; decide), fun p2 hp2 => ?_⟩
          have s8 := same_upd (o := .tup [.int v, .ref t]) hp2
          refine hQ hfit p2 t _ (k07.trans1 (same_kp s8)) ?_ upd_same (same_tk s8 _ _ ht7)
          have e1 : (close true c v TT U st2).2 = (close false c v TT [] st2).2 := by unfold close; rw [if_pos hTn, if_pos hTn]
          have e2 : (close true c v TT U st2).1.used = [] := by unfold close; rw [if_pos hTn]
          rw [e1, e2, List.append_nil]
          exact hR7.same s8
        · refine iteTb (by rw [eqv_dT, decide_eq_false hTn]; rfl) ?_
          obtain ⟨rs7, hrm7, hrows7, _⟩ := hR7.at_rm2
          have lr7 : (rV (rs7.map (·.1))).length < sizeLine := by
            rw [List.length_map, List.length_map, hrows7.length]
            have e : (close false c v TT [] st2).2.known = st2.known := by unfold close; split <;> rfl
            rw [e]
            have g1 := (gr_opened st c).trans (gr_runOps (F := fun s o => M true S f s (B ++ [c]) o) (fun s o => gr_M true S f s (B ++ [c]) o) (S.at c).ops (opened st c))
            rw [show runOps (fun s o => M true S f s (B ++ [c]) o) (opened st c) (S.at c).ops = (rs2, st2) from ero] at g1
            obtain ⟨kk, ek, hk2⟩ := g1.kn
            have ek' : st2.known = st.known ++ kk := ek
            have hk2' : kk.length + st.log.length ≤ st2.log.length := hk2
            rw [ek', List.length_append]
            exact sm (by omega)
          refine ⟨_, rfl, r.x, _, r.dx, _, _, rfl, hR7.at_x, F.c, T.n_ExactRun_remembered, rfl, .inl ⟨rfl, _, .inl (.inl hrm7)⟩, _, rfl, _, rfl, _, rfl, _, rfl, (by show 4 ≤ sizeLine; decide), fun y hy => ?_⟩
          have s8 := same_upd (o := .tup [.int (c : Nat), .int v, .ref t, .ref u]) hy
          have hrm8 := s8 _ _ hrm7
          refine ⟨r.rm, _, _, rfl, rfl, hrm8, lr7, ?_⟩
          have hR8 := hR7.same s8
          have hR9 := hR8.remember (w := ⟨c, v, TT, U⟩) hrm8 (p := y) (u := u) (t := t) upd_same (same_tk s8 _ _ ht7) (s8 _ _ hu7) fr.1 fr.2
          have k9 : Kp K (r.mut true) (upd H7 y (.tup [.int (c : Nat), .int v, .ref t, .ref u])) (upd (upd H7 y (.tup [.int (c : Nat), .int v, .ref t, .ref u])) r.rm (.lst (rV (rs7.map (·.1)) ++ [.ref y]))) := Kp.upd mrm hrm8 (fun z => z)
          have unm : u ∉ r.mut true := fun hm => fr.1 [] [] (by
            simp only [RA.mut, RA.cont, RA.gs, if_true, List.map_cons, List.mem_cons, List.not_mem_nil, or_false] at hm ⊢
            rcases hm with h | h | h | h | h | h | h <;> simp [h])
          have hu9 := k9.kp _ _ unm (s8 _ _ hu7)
          have ht9 := k9.sk.tk _ _ (same_tk (K := K) s8 _ _ ht7)
          have k09 := (k07.trans1 (same_kp s8)).trans1 k9
          generalize upd (upd H7 y (.tup [.int (c : Nat), .int v, .ref t, .ref u])) r.rm (.lst (rV (rs7.map (·.1)) ++ [.ref y])) = H9 at *
          refine extend H9 _ u U _ _ hR9 hu9 (by omega) rfl rfl (fun H10 k10 hR10 => ?_)
          refine ⟨_, rfl, _, rfl, (by show 2 ≤ sizeLine; decide), fun p2 hp2 => ?_⟩
          have s11 := same_upd (o := .tup [.int v, .ref t]) hp2
          refine hQ hfit p2 t _ ((k09.trans1 k10).trans1 (same_kp s11)) ?_ upd_same (same_tk s11 _ _ (k10.sk.tk _ _ ht9))
          have e1 : (close true c v TT U st2).2 = { (close false c v TT [] st2).2 with known := (close false c v TT [] st2).2.known ++ [⟨c, v, TT, U⟩] } := by unfold close; rw [if_neg hTn, if_neg hTn]; rfl
          have e2 : (close true c v TT U st2).1.used = U := by unfold close; rw [if_neg hTn]
          rw [e1, e2]
          exact hR10.same s11
      · rw [cbeg] at nf
        exact hX nf d H' L eL (pushK kL) hd
  · obtain ⟨oc, od, dV, kV, doc, pm, an, ct, osl, rfl, lk⟩ := SF.ex
    obtain rfl : dV = .none := hdv
    exact .all fun us hl => match us, hl with
      | [_, _], _ => rfl
end
end KW
/-! The walk, part 15: calls to any depth; runs made. -/
namespace KW
open PySem PySem.Spec PyProof.Rows L2 KR K19 StX
section
variable {P : Program} {w : World} {K : PySem.W.Frag} {mg : PySem.Str → Option Value} {base : Heap} {S : Sys} {r : RA} {lim : Option Nat} {st : K19.St} {B g : List Nat}
theorem call_at (T : Txt K mg) (TS : TxtS P K) (KB : K.In base) (ex : Bool) : ∀ f, FD P w K mg base (L2.CX P w) (6 + 3 * f) d_Run_call ["self", "cell"] (spCall K ex f)
  | 0 => by
    refine FD.mono (j := 1) (fdX_of T.d_Run_call sc_Run_call (fun vs H Q E h => ?_) (fun cdv A outer s H vs Q E hrC h => ?_)) (by decide)
    · obtain ⟨r, S, rk, bs, lim, st, B, g, c, rfl, _⟩ := h
      rfl
    · obtain ⟨r, S, rk, bs, lim, st, B, g, c, rfl, hR, ok, pre, hf, _⟩ := h
      have := nodup_le pre.bn pre.bl
      omega
  | f + 1 => by
    have C := call_at T TS KB ex f
    have D := ok_Run_evaluate T ex f (6 + 3 * f) (by omega) C
    cases ex with
    | false => exact (ok_Run_call T false f _ (by omega) (evM_run T D)).mono (by omega)
    | true => exact (ok_Run_call T true f _ (by omega) (evM_exact T TS KB (by omega) D)).mono (by omega)
/-! ### made -/
/-- all but the instance at x is as it was -/
structure ButX (K : PySem.W.Frag) (x : Addr) (H H' : Hp) : Prop where
  sk : SK K H H'
  kp : ∀ a o, a ≠ x → H a = some o → H' a = some o
theorem ButX.same {x : Addr} {H H1 H2 : Hp} (b : ButX K x H H1) (s : Same H1 H2) : ButX K x H H2 := ⟨b.sk.trans (same_sk s), fun a o n h => s _ _ (b.kp a o n h)⟩
theorem ButX.refl (K : PySem.W.Frag) (x : Addr) (H : Hp) : ButX K x H H := ⟨SK.refl K H, fun _ _ _ h => h⟩
theorem ButX.upd {x C dx : Addr} {fs fs' : List (PySem.Str × V)} {H H1 : Hp} (b : ButX K x H H1) (hx : H1 x = some (.ins C dx fs)) (hC : C ≠ He.ga K "System") : ButX K x H (upd H1 x (.ins C dx fs')) :=
  ⟨b.sk.trans (.upd hx hC), fun a o n h => by rw [upd_ne n]; exact b.kp a o n h⟩
def runFs (sys b bu lg : Addr) (m : V) : List (PySem.Str × V) := [("net", .ref sys), ("board", .ref b), ("rule", .str "clean"), ("busy", .ref bu), ("allowed", m), ("begun", .int 0), ("happened", .ref lg)]
def spRunInit (K : PySem.W.Frag) (ex : Bool) : Sp := fun vs H Q _ => ∃ (x dx sys tb bz : Addr) (m : V) (bd : List V), vs = [.ref x, .ref sys, .ref tb, .str "clean", .ref bz, m] ∧ H x = some (.ins (CR K ex) dx []) ∧ SqT K H tb bd ∧ SqT K H bz [] ∧
  ∀ b bu lg H', ButX K x H H' → H b = none → H bu = none → H lg = none → b ≠ bu → b ≠ lg → bu ≠ lg → H' x = some (.ins (CR K ex) dx (runFs sys b bu lg m)) → H' b = some (.lst bd) → H' bu = some (.lst []) → H' lg = some (.lst []) → Q .non H'
theorem ok_Run_init (T : Txt K mg) (ex : Bool) : FD P w K mg base CX0 1 d_Run_init ["self", "system", "table", "policy", "busy", "most"] (spRunInit K ex) := by
  have F := crf T ex
  have nC := CR_ne T ex
  refine fd_of T.d_Run_init sc_Run_init (fun vs H Q E h => ?_) (fun cdv A outer s H vs Q E hr h => ?_)
  · obtain ⟨x, dx, sys, tb, bz, m, bd, rfl, _⟩ := h
    rfl
  · obtain ⟨x, dx, sys, tb, bz, m, bd, rfl, hx, htb, hbz, hQ⟩ := h
    refine ⟨_, (pss_cons (ps_fld (pv 0) (pv 1) rfl) (pss_cons (ps_fld (pv 0) (pe_callTy call_list_of rfl T.f_list boot_list (pa_cons (pv 2) pa_nil)) rfl) (pss_cons (ps_fld (pv 0) (pv 3) rfl) (pss_cons (ps_fld (pv 0) (pe_callTy call_list_of rfl T.f_list boot_list (pa_cons (pv 4) pa_nil)) rfl) (pss_cons (ps_fld (pv 0) (pv 5) rfl) (pss_cons (ps_fld (pv 0) pe_int rfl) (pss_one (ps_fld (pv 0) (pe_lst pa_nil) rfl)))))))), ?_⟩
    -- net
    refine ⟨_, rfl, _, rfl, x, _, dx, _, rfl, hx, F.c, F.net, (by show 0 < 1000; decide), ?_⟩
    have b1 := (ButX.refl K x H).upd (fs' := [("net", .ref sys)]) hx nC
    have x1 : upd H x (.ins (CR K ex) dx [("net", .ref sys)]) x = some (.ins (CR K ex) dx [("net", .ref sys)]) := upd_same
    show (tSeq _ _) _ _ (upd H x (.ins (CR K ex) dx [("net", .ref sys)]))
    generalize upd H x (.ins (CR K ex) dx [("net", .ref sys)]) = H1 at *
    -- board
    refine ⟨_, rfl, tb, _, rfl, .inr (b1.sk.tk _ _ htb), fun b hb => ?_⟩
    have s1 := same_upd (o := .lst bd) hb
    have xb : x ≠ b := ne_of_none x1 hb
    have b0 : H b = none := by
      cases e : H b with
      | none => rfl
      | some o => have := b1.kp b o (Ne.symm xb) e; rw [hb] at this; cases this
    refine ⟨_, rfl, x, _, dx, _, rfl, s1 _ _ x1, F.c, F.board, (by show 1 < 1000; decide), ?_⟩
    have b2 := (b1.same s1).upd (fs' := [("net", .ref sys), ("board", .ref b)]) (s1 _ _ x1) nC
    have x2 : upd (upd H1 b (.lst bd)) x (.ins (CR K ex) dx [("net", .ref sys), ("board", .ref b)]) x = some (.ins (CR K ex) dx [("net", .ref sys), ("board", .ref b)]) := upd_same
    have c2 : upd (upd H1 b (.lst bd)) x (.ins (CR K ex) dx [("net", .ref sys), ("board", .ref b)]) b = some (.lst bd) := by rw [upd_ne (Ne.symm xb), upd_same]
    show (tSeq _ _) _ _ (upd (upd H1 b (.lst bd)) x (.ins (CR K ex) dx [("net", .ref sys), ("board", .ref b)]))
    generalize upd (upd H1 b (.lst bd)) x (.ins (CR K ex) dx [("net", .ref sys), ("board", .ref b)]) = H2 at *
    -- rule
    refine ⟨_, rfl, _, rfl, x, _, dx, _, rfl, x2, F.c, F.rule, (by show 2 < 1000; decide), ?_⟩
    have b3 := b2.upd (fs' := [("net", .ref sys), ("board", .ref b), ("rule", .str "clean")]) x2 nC
    have x3 : upd H2 x (.ins (CR K ex) dx [("net", .ref sys), ("board", .ref b), ("rule", .str "clean")]) x = some (.ins (CR K ex) dx [("net", .ref sys), ("board", .ref b), ("rule", .str "clean")]) := upd_same
    have c3 : upd H2 x (.ins (CR K ex) dx [("net", .ref sys), ("board", .ref b), ("rule", .str "clean")]) b = some (.lst bd) := by rw [upd_ne (Ne.symm xb)]; exact c2
    show (tSeq _ _) _ _ (upd H2 x (.ins (CR K ex) dx [("net", .ref sys), ("board", .ref b), ("rule", .str "clean")]))
    generalize upd H2 x (.ins (CR K ex) dx [("net", .ref sys), ("board", .ref b), ("rule", .str "clean")]) = H3 at *
    -- busy
    refine ⟨_, rfl, bz, _, rfl, .inr (b3.sk.tk _ _ hbz), fun bu hbu => ?_⟩
    have s3 := same_upd (o := .lst []) hbu
    have xu : x ≠ bu := ne_of_none x3 hbu
    have bbu : b ≠ bu := ne_of_none c3 hbu
    have u0 : H bu = none := by
      cases e : H bu with
      | none => rfl
      | some o => have := b3.kp bu o (Ne.symm xu) e; rw [hbu] at this; cases this
    refine ⟨_, rfl, x, _, dx, _, rfl, s3 _ _ x3, F.c, F.busy, (by show 3 < 1000; decide), ?_⟩
    have b4 := (b3.same s3).upd (fs' := [("net", .ref sys), ("board", .ref b), ("rule", .str "clean"), ("busy", .ref bu)]) (s3 _ _ x3) nC
    have x4 : upd (upd H3 bu (.lst [])) x (.ins (CR K ex) dx [("net", .ref sys), ("board", .ref b), ("rule", .str "clean"), ("busy", .ref bu)]) x = some (.ins (CR K ex) dx [("net", .ref sys), ("board", .ref b), ("rule", .str "clean"), ("busy", .ref bu)]) := upd_same
    have c4 : upd (upd H3 bu (.lst [])) x (.ins (CR K ex) dx [("net", .ref sys), ("board", .ref b), ("rule", .str "clean"), ("busy", .ref bu)]) b = some (.lst bd) := by rw [upd_ne (Ne.symm xb), upd_ne bbu]; exact c3
    have d4 : upd (upd H3 bu (.lst [])) x (.ins (CR K ex) dx [("net", .ref sys), ("board", .ref b), ("rule", .str "clean"), ("busy", .ref bu)]) bu = some (.lst []) := by rw [upd_ne (Ne.symm xu), upd_same]
    show (tSeq _ _) _ _ (upd (upd H3 bu (.lst [])) x (.ins (CR K ex) dx [("net", .ref sys), ("board", .ref b), ("rule", .str "clean"), ("busy", .ref bu)]))
    generalize upd (upd H3 bu (.lst [])) x (.ins (CR K ex) dx [("net", .ref sys), ("board", .ref b), ("rule", .str "clean"), ("busy", .ref bu)]) = H4 at *
    -- allowed
    refine ⟨_, rfl, _, rfl, x, _, dx, _, rfl, x4, F.c, F.allowed, (by show 4 < 1000; decide), ?_⟩
    have b5 := b4.upd (fs' := [("net", .ref sys), ("board", .ref b), ("rule", .str "clean"), ("busy", .ref bu), ("allowed", m)]) x4 nC
    have x5 : upd H4 x (.ins (CR K ex) dx [("net", .ref sys), ("board", .ref b), ("rule", .str "clean"), ("busy", .ref bu), ("allowed", m)]) x = some (.ins (CR K ex) dx [("net", .ref sys), ("board", .ref b), ("rule", .str "clean"), ("busy", .ref bu), ("allowed", m)]) := upd_same
    have c5 : upd H4 x (.ins (CR K ex) dx [("net", .ref sys), ("board", .ref b), ("rule", .str "clean"), ("busy", .ref bu), ("allowed", m)]) b = some (.lst bd) := by rw [upd_ne (Ne.symm xb)]; exact c4
    have d5 : upd H4 x (.ins (CR K ex) dx [("net", .ref sys), ("board", .ref b), ("rule", .str "clean"), ("busy", .ref bu), ("allowed", m)]) bu = some (.lst []) := by rw [upd_ne (Ne.symm xu)]; exact d4
    show (tSeq _ _) _ _ (upd H4 x (.ins (CR K ex) dx [("net", .ref sys), ("board", .ref b), ("rule", .str "clean"), ("busy", .ref bu), ("allowed", m)]))
    generalize upd H4 x (.ins (CR K ex) dx [("net", .ref sys), ("board", .ref b), ("rule", .str "clean"), ("busy", .ref bu), ("allowed", m)]) = H5 at *
    -- begun
    refine ⟨_, rfl, x, _, dx, _, rfl, x5, F.c, F.begun, (by show 5 < 1000; decide), ?_⟩
    have b6 := b5.upd (fs' := [("net", .ref sys), ("board", .ref b), ("rule", .str "clean"), ("busy", .ref bu), ("allowed", m), ("begun", .int 0)]) x5 nC
    have x6 : upd H5 x (.ins (CR K ex) dx [("net", .ref sys), ("board", .ref b), ("rule", .str "clean"), ("busy", .ref bu), ("allowed", m), ("begun", .int 0)]) x = some (.ins (CR K ex) dx [("net", .ref sys), ("board", .ref b), ("rule", .str "clean"), ("busy", .ref bu), ("allowed", m), ("begun", .int 0)]) := upd_same
    have c6 : upd H5 x (.ins (CR K ex) dx [("net", .ref sys), ("board", .ref b), ("rule", .str "clean"), ("busy", .ref bu), ("allowed", m), ("begun", .int 0)]) b = some (.lst bd) := by rw [upd_ne (Ne.symm xb)]; exact c5
    have d6 : upd H5 x (.ins (CR K ex) dx [("net", .ref sys), ("board", .ref b), ("rule", .str "clean"), ("busy", .ref bu), ("allowed", m), ("begun", .int 0)]) bu = some (.lst []) := by rw [upd_ne (Ne.symm xu)]; exact d5
    show (tSeq _ _) _ _ (upd H5 x (.ins (CR K ex) dx [("net", .ref sys), ("board", .ref b), ("rule", .str "clean"), ("busy", .ref bu), ("allowed", m), ("begun", .int 0)]))
    generalize upd H5 x (.ins (CR K ex) dx [("net", .ref sys), ("board", .ref b), ("rule", .str "clean"), ("busy", .ref bu), ("allowed", m), ("begun", .int 0)]) = H6 at *
    -- happened
    refine ⟨Nat.zero_le _, fun lg hlg => ?_⟩
    have s6 := same_upd (o := .lst []) hlg
    have xl : x ≠ lg := ne_of_none x6 hlg
    have bl : b ≠ lg := ne_of_none c6 hlg
    have ul : bu ≠ lg := ne_of_none d6 hlg
    have l0 : H lg = none := by
      cases e : H lg with
      | none => rfl
      | some o => have := b6.kp lg o (Ne.symm xl) e; rw [hlg] at this; cases this
    refine ⟨_, rfl, x, _, dx, _, rfl, s6 _ _ x6, F.c, F.happened, (by show 6 < 1000; decide), ?_⟩
    have b7 := (b6.same s6).upd (fs' := runFs sys b bu lg m) (s6 _ _ x6) nC
    refine hQ b bu lg _ b7 b0 u0 l0 bbu bl ul upd_same ?_ ?_ ?_
    · rw [upd_ne (Ne.symm xb), upd_ne bl]; exact c6
    · rw [upd_ne (Ne.symm xu), upd_ne ul]; exact d6
    · rw [upd_ne (Ne.symm xl), upd_same]
end
end KW
/-! The walk, part 16: exact runs made. -/
namespace KW
open PySem PySem.Spec PyProof.Rows L2 KR K19 StX
section
variable {P : Program} {w : World} {K : PySem.W.Frag} {mg : PySem.Str → Option Value} {base : Heap} {S : Sys} {r : RA} {lim : Option Nat} {st : K19.St} {B g : List Nat}
/-- Run(system, table, policy, most = m) -/
theorem kb_Run_init (T : Txt K mg) {fd : FuncData} (F : FunD K d_Run_init.name d_Run_init.qual d_Run_init.params d_Run_init.body d_Run_init.scope (d_Run_init.dvs K) (d_Run_init.kws K) (d_Run_init.ad K) fd) :
    ∃ mv : List Value, KBn K fd ["self", "system", "table", "policy", "busy", "most"] 4 ["most"] (fun us ws => us ++ (mv ++ ws)) (fun vs zs => vs ++ ([V.ref (busyAd K)] ++ zs)) :=
  FunD.kbinds0 F 4 ["most"] [("busy", .ref (busyAd K))] (fun us mv ws => us ++ (mv ++ ws)) (by intro h; cases h) (fun q hq => by rw [List.mem_singleton.mp hq]; exact List.mem_cons_self) (fun r1 r2 r3 => r1.append (r2.append r3))
    fun D doc pm an cdv ct us mv ws l1 l2 l3 => match us, mv, ws, l1, l2, l3 with
      | [_, _, _, _], [_], [_], _, _, _ => ⟨_, _, _, _, _, _, rfl, rfl, rfl⟩
theorem nsc_init : NdefX.NScope ["self", "system", "table", "policy", "most", "__class__"] ["self", "system", "table", "policy", "most"] ["__class__"] (defScope (inClass (top 53) 0)) := NdefX.nscope_by (by kernel_rfl)
def spExInit (K : PySem.W.Frag) : Sp := fun vs H Q _ => ∃ (x dx sys tb : Addr) (lim : Option Nat) (b : Board) (S : Sys), vs = [.ref x, .ref sys, .ref tb, .str "clean", limV lim] ∧ H x = some (.ins (CR K true) dx []) ∧ SqT K H tb (b.map bV) ∧ SysAt K H sys S ∧
  ∀ r H', ButX K x H H' → r.x = x → r.gt = [] → (∀ a ∈ r.mut true, a = x ∨ H a = none) → RunAt K H' true S r lim ⟨b, 0, [], []⟩ [] [] → Q .non H'
theorem ButX.none {x a : Addr} {H H' : Hp} (k : ButX K x H H') (h : H' a = Option.none) : a = x ∨ H a = Option.none := by
  by_cases e : a = x
  · exact .inl e
  · cases e2 : H a with
    | none => exact .inr rfl
    | some o => have := k.kp a o e e2; rw [h] at this; cases this
theorem cont4 {H : Hp} {x b bu lg : Addr} {o1 o2 o3 o4 : HO} (h1 : H x = some o1) (h2 : H b = some o2) (h3 : H bu = some o3) (h4 : H lg = some o4) (n1 : x ≠ b) (n2 : x ≠ bu) (n3 : x ≠ lg) (n4 : b ≠ bu) (n5 : b ≠ lg) (n6 : bu ≠ lg) : Cont [(x, o1), (b, o2), (bu, o3), (lg, o4)] H := by
  refine ⟨by simp [n1, n2, n3, n4, n5, n6], fun p hp => ?_⟩
  simp only [List.mem_cons, List.not_mem_nil, or_false] at hp
  rcases hp with h | h | h | h <;> (subst h; assumption)
theorem ok_ExactRun_init (T : Txt K mg) (TS : TxtS P K) (KB : K.In base) : ∃ fd, FnOk P w K mg base CX0 2 (He.fAd K ("ExactRun", some "__init__")) fd ["self", "system", "table", "policy", "most"] (spExInit K) ∧ PySem.W.keepIn K (.ref (He.fAd K ("ExactRun", some "__init__"))) = PySem.W.keepIn K (.ref (He.fAd K ("ExactRun", some "__init__"))) ∧
    KBn K fd ["self", "system", "table", "policy", "most"] 4 ["most"] (fun us ws => us ++ ws) (fun vs zs => vs ++ zs) := by
  have F := crf T true
  have nC := CR_ne T true
  obtain ⟨fd2, F2, G2⟩ := (ok_Run_init (P := P) (w := w) (base := base) T true).ex
  obtain ⟨mv, KB2⟩ := kb_Run_init T F2
  obtain ⟨cc, cda, fd, SF, hdv⟩ := TS.f_init
  refine ⟨fd, fnS_of SF nsc_init (fun vs H Q E h => ?_) (fun A outer s H vs Q E hr h => ?_), rfl, ?_⟩
  · obtain ⟨x, dx, sys, tb, lim, b, S, rfl, _⟩ := h
    rfl
  · obtain ⟨x, dx, sys, tb, lim, bd, S, rfl, hx, htb, hsys, hQ⟩ := h
    refine ⟨_, pssa_cons (psa_expr (pea_super SF TS.s_init KB rfl rfl lk_self rfl rfl rfl rfl rfl T.f_super TS.top rfl G2 hr KB2 pass0 (pa_cons (pv 1) (pa_cons (pv 2) (pa_cons (pv 3) pa_nil))) (pk_cons (pv 4) pk_nil))) (PSsa.of (pss_cons (ps_fld (pv 0) (pe_lst pa_nil) rfl) (pss_one (ps_fld (pv 0) (pe_lst (pa_cons (pe_lst pa_nil) pa_nil)) rfl)))), ?_⟩
    refine ⟨x, dx, _, rfl, hx, _, rfl, _, rfl, _, rfl, _, rfl, rfl, rfl, x, dx, sys, tb, busyAd K, limV lim, _, rfl, hx, htb, T.t_busy H, fun b bu lg H1 k1 b0 u0 l0 n4 n5 n6 hx1 hb1 hu1 hl1 => ?_⟩
    have xb : x ≠ b := ne_of_none hx b0
    have xu : x ≠ bu := ne_of_none hx u0
    have xl : x ≠ lg := ne_of_none hx l0
    have c1 := cont4 hx1 hb1 hu1 hl1 xb xu xl n4 n5 n6
    -- remembered
    refine ⟨Nat.zero_le _, fun rm hrm => ?_⟩
    have c2 := c1.new (o := .lst []) hrm
    have k2 := k1.same (same_upd (o := .lst []) hrm)
    have hx2 := c2.at 1
    refine ⟨_, rfl, x, _, dx, _, rfl, hx2, F.c, T.n_ExactRun_remembered, (by show 7 < 1000; decide), ?_⟩
    have c3 := c2.set 1 (o' := .ins (CR K true) dx (runFs sys b bu lg (limV lim) ++ [(("remembered" : PySem.Str), V.ref rm)]))
    have k3 := k2.upd (fs' := runFs sys b bu lg (limV lim) ++ [(("remembered" : PySem.Str), V.ref rm)]) hx2 nC
    show (tSeq _ _) _ _ (upd (upd H1 rm (.lst [])) x (.ins (CR K true) dx (runFs sys b bu lg (limV lim) ++ [(("remembered" : PySem.Str), V.ref rm)])))
    generalize upd (upd H1 rm (.lst [])) x (.ins (CR K true) dx (runFs sys b bu lg (limV lim) ++ [(("remembered" : PySem.Str), V.ref rm)])) = H3 at *
    -- gathered
    refine ⟨Nat.zero_le _, fun gl hgl => ⟨(by show 1 ≤ sizeLine; decide), fun ga hga => ?_⟩⟩
    have c4 := c3.new (o := .lst []) hgl
    have c5 := c4.new (o := .lst [.ref gl]) hga
    have k5 := (k3.same (same_upd (o := .lst []) hgl)).same (same_upd (o := .lst [.ref gl]) hga)
    have hx5 := c5.at 3
    refine ⟨_, rfl, x, _, dx, _, rfl, hx5, F.c, T.n_ExactRun_gathered, (by show 8 < 1000; decide), ?_⟩
    have c6 := c5.set 3 (o' := .ins (CR K true) dx (runFs sys b bu lg (limV lim) ++ [(("remembered" : PySem.Str), V.ref rm), (("gathered" : PySem.Str), V.ref ga)]))
    have k6 := k5.upd (fs' := runFs sys b bu lg (limV lim) ++ [(("remembered" : PySem.Str), V.ref rm), (("gathered" : PySem.Str), V.ref ga)]) hx5 nC
    refine hQ ⟨x, dx, sys, b, bu, lg, rm, ga, gl, [], []⟩ _ k6 rfl rfl (fun a ha => ?_) ⟨⟨[], [], ?_, .nil, fun _ => ⟨.nil, fun p hp => by cases hp⟩, fun a ha => by cases ha⟩, hsys.mono k6.sk⟩
    · simp only [RA.mut, if_true, List.mem_cons, List.not_mem_nil, or_false] at ha
      rcases ha with h | h | h | h | h | h | h
      · exact .inl h
      · rw [h]; exact .inr b0
      · rw [h]; exact .inr u0
      · rw [h]; exact .inr l0
      · rw [h]; exact k1.none hrm
      · rw [h]; exact (k3.same (same_upd (o := .lst []) hgl)).none hga
      · rw [h]; exact k3.none hgl
    refine c6.perm ?_
    exact (List.perm_append_comm (l₁ := [_, _, _, _]) (l₂ := [_, _, _])).trans ((List.perm_append_comm (l₁ := [_]) (l₂ := [_, _])).append_right _)
  · obtain ⟨oc, od, dV, kV, doc, pm, an, ct, osl, rfl, lk⟩ := SF.ex
    obtain rfl : dV = .none := hdv
    exact ⟨fun s us ws hK l1 l2 => match us, ws, l1, l2 with
      | [_, _, _, _], [_], _, _ => .of_eq rfl, fun r1 r2 => r1.append r2⟩
end
end KW
/-! The walk, part 17: memos made, their limits, their runs. -/
namespace KW
open PySem PySem.Spec PyProof.Rows L2 KR K19 StX
def CM (K : PySem.W.Frag) (ex : Bool) : Addr := if ex then He.ga K "KeepExact" else He.ga K "KeepClean"
structure CMF (K : PySem.W.Frag) (ex : Bool) : Prop where
  c : Cls K (CM K ex)
  present : NoAttr K (CM K ex) "present"
  stored : NoAttr K (CM K ex) "stored"
  counted : NoAttr K (CM K ex) "counted"
  latest : NoAttr K (CM K ex) "latest"
  most : NoAttr K (CM K ex) "most"
  policy : ∃ u, Con K (CM K ex) "POLICY" (.str "clean") u
  ne : CM K ex ≠ He.ga K "System"
theorem cmf {K : PySem.W.Frag} {mg : PySem.Str → Option Value} (T : Txt K mg) : ∀ ex, CMF K ex
  | false => ⟨T.c_KeepClean, T.n_KeepClean_present, T.n_KeepClean_stored, T.n_KeepClean_counted, T.n_KeepClean_latest, T.n_KeepClean_most, T.k_KeepClean_POLICY, T.ne_KeepClean⟩
  | true => ⟨T.c_KeepExact, T.n_KeepExact_present, T.n_KeepExact_stored, T.n_KeepExact_counted, T.n_KeepExact_latest, T.n_KeepExact_most, T.k_KeepExact_POLICY, T.ne_KeepExact⟩
def memoFs (sys tb : Addr) (cnt : Nat) (lt : Addr) (lim : Option Nat) : List (PySem.Str × V) := [("present", .ref sys), ("stored", .ref tb), ("counted", .int (cnt : Nat)), ("latest", .ref lt), ("most", limV lim)]
/-- a memo -/
structure MemoAt (K : PySem.W.Frag) (H : Hp) (ex : Bool) (m : Addr) (S : Sys) (b : Board) (cnt : Nat) (log : List Ev) (lim : Option Nat) : Prop where
  ex : ∃ dx sys tb lt es, H m = some (.ins (CM K ex) dx (memoFs sys tb cnt lt lim)) ∧ SysAt K H sys S ∧ H tb = some (.tup (b.map bV)) ∧ H lt = some (.lst (rV es)) ∧ EvsAt K H es log
theorem MemoAt.same {K : PySem.W.Frag} {H H' : Hp} {ex : Bool} {m : Addr} {S : Sys} {b : Board} {cnt : Nat} {log : List Ev} {lim : Option Nat} (h : MemoAt K H ex m S b cnt log lim) (s : Same H H') : MemoAt K H' ex m S b cnt log lim :=
  let ⟨⟨dx, sys, tb, lt, es, h1, h2, h3, h4, h5⟩⟩ := h
  ⟨⟨dx, sys, tb, lt, es, s _ _ h1, h2.mono (same_sk s), s _ _ h3, s _ _ h4, h5.mono (same_sk s)⟩⟩
/-- .. after another instance was written -/
theorem MemoAt.but {K : PySem.W.Frag} {H H' : Hp} {ex : Bool} {m x : Addr} {S : Sys} {b : Board} {cnt : Nat} {log : List Ev} {lim : Option Nat} (h : MemoAt K H ex m S b cnt log lim) (k : ButX K x H H') (n : m ≠ x) {C dx : Addr} {fs : List (PySem.Str × V)} (hx : H x = some (.ins C dx fs)) : MemoAt K H' ex m S b cnt log lim :=
  let ⟨⟨dx', sys, tb, lt, es, h1, h2, h3, h4, h5⟩⟩ := h
  ⟨⟨dx', sys, tb, lt, es, k.kp _ _ n h1, h2.mono k.sk, k.sk _ _ trivial h3, k.kp _ _ (ne_of h4 hx (by simp)) h4, h5.mono k.sk⟩⟩
section
variable {P : Program} {w : World} {K : PySem.W.Frag} {mg : PySem.Str → Option Value} {base : Heap} {S : Sys} {lim : Option Nat} {b : Board} {cnt : Nat} {log : List Ev}
def spMemoInit (K : PySem.W.Frag) (ex : Bool) : Sp := fun vs H Q _ => ∃ (m dx sys : Addr) (S : Sys) (rk : Nat → Nat) (bs : Nat), vs = [.ref m, .ref sys] ∧ H m = some (.ins (CM K ex) dx []) ∧ SysAt K H sys S ∧ SysOk S rk bs ∧
  ∀ H', ButX K m H H' → MemoAt K H' ex m S (List.replicate S.length none) 0 [] none → Q .non H'
theorem ok_Memo_init (T : Txt K mg) (ex : Bool) : FD P w K mg base CX0 11 d_Memo_init ["self", "system"] (spMemoInit K ex) := by
  have F := cmf T ex
  obtain ⟨up, F_pol⟩ := F.policy
  refine fd_of T.d_Memo_init sc_Memo_init (fun vs H Q E h => ?_) (fun cdv A outer s H vs Q E hr h => ?_)
  · obtain ⟨m, dx, sys, S, rk, bs, rfl, _⟩ := h
    rfl
  · obtain ⟨m, dx, sys, S, rk, bs, rfl, hm, hsys, ok, hQ⟩ := h
    refine ⟨_, (pss_cons (ps_expr (pe_def (ok_need_fitting T) hr rfl T.g_need_fitting rfl b_need_fitting (pa_cons (pe_conK K rfl (pv 0) rfl) (pa_cons (pv 1) pa_nil)))) (pss_cons (ps_fld (pv 0) (pv 1) rfl) (pss_cons (ps_fld (pv 0) (pe_op op_repN (pe_tup (pa_cons pe_non pa_nil)) (pe_callB (call_lenD (ok_System_len T) T.m_System_len hr rfl b_System_len) rfl T.f_len boot_len (pa_cons (pv 1) pa_nil))) rfl) (pss_cons (ps_fld (pv 0) pe_int rfl) (pss_cons (ps_fld (pv 0) (pe_lst pa_nil) rfl) (pss_one (ps_fld (pv 0) pe_non rfl))))))), ?_⟩
    refine ⟨_, rfl, m, _, dx, _, _, up, rfl, hm, F.c, F_pol, rfl, _, rfl, sys, S, rk, bs, rfl, hsys, ok, fun H1 s1 => ?_⟩
    have m1 := s1 _ _ hm
    have b1 : ButX K m H H1 := (ButX.refl K m H).same s1
    -- present
    refine ⟨_, rfl, _, rfl, m, _, dx, _, rfl, m1, F.c, F.present, (by show 0 < 1000; decide), ?_⟩
    have b2 := b1.upd (fs' := [("present", .ref sys)]) m1 F.ne
    have m2 : upd H1 m (.ins (CM K ex) dx [("present", .ref sys)]) m = some (.ins (CM K ex) dx [("present", .ref sys)]) := upd_same
    show (tSeq _ _) _ _ (upd H1 m (.ins (CM K ex) dx [("present", .ref sys)]))
    generalize upd H1 m (.ins (CM K ex) dx [("present", .ref sys)]) = H2 at *
    have hs2 := hsys.mono b2.sk
    -- stored
    refine ⟨(by show 1 ≤ sizeLine; decide), fun q hq => ?_⟩
    have s3 := same_upd (o := .tup [.non]) hq
    have hs3 := hs2.mono (same_sk (K := K) s3)
    have ⟨dxs, ts, pss, hs31, _⟩ := hs3
    refine ⟨_, rfl, sys, dxs, _, rfl, hs31, sys, S, rfl, hs3, S.length, rfl, by have := ok.len; omega, ?_⟩
    have hpos := ok.pos
    have hl12 := ok.len
    refine ⟨q, S.length, [.non], rfl, rfl, upd_same, by simp, by omega, by omega, by simp, fun p H4 hp s4 => ?_⟩
    have e4 : (List.replicate ((S.length : Nat) : Int).toNat [V.non]).flatten = (List.replicate S.length (none : Option Int)).map bV := by
      rw [Int.toNat_natCast, List.map_replicate]
      show (List.replicate S.length [V.non]).flatten = List.replicate S.length V.non
      induction S.length with
      | zero => rfl
      | succ n ih => rw [List.replicate_succ, List.flatten_cons, ih]; rfl
    rw [e4] at hp
    have s24 : Same H2 H4 := Same.trans s3 s4
    have m4 := s24 _ _ m2
    have b4 := b2.same s24
    refine ⟨_, rfl, m, _, dx, _, rfl, m4, F.c, F.stored, (by show 1 < 1000; decide), ?_⟩
    have b5 := b4.upd (fs' := [("present", .ref sys), ("stored", .ref p)]) m4 F.ne
    have m5 : upd H4 m (.ins (CM K ex) dx [("present", .ref sys), ("stored", .ref p)]) m = some (.ins (CM K ex) dx [("present", .ref sys), ("stored", .ref p)]) := upd_same
    have pm : p ≠ m := ne_of hp m4 (by simp)
    have p5 : upd H4 m (.ins (CM K ex) dx [("present", .ref sys), ("stored", .ref p)]) p = some (.tup ((List.replicate S.length (none : Option Int)).map bV)) := by rw [upd_ne pm]; exact hp
    show (tSeq _ _) _ _ (upd H4 m (.ins (CM K ex) dx [("present", .ref sys), ("stored", .ref p)]))
    generalize upd H4 m (.ins (CM K ex) dx [("present", .ref sys), ("stored", .ref p)]) = H5 at *
    -- counted
    refine ⟨_, rfl, m, _, dx, _, rfl, m5, F.c, F.counted, (by show 2 < 1000; decide), ?_⟩
    have b6 := b5.upd (fs' := [("present", .ref sys), ("stored", .ref p), ("counted", .int 0)]) m5 F.ne
    have m6 : upd H5 m (.ins (CM K ex) dx [("present", .ref sys), ("stored", .ref p), ("counted", .int 0)]) m = some (.ins (CM K ex) dx [("present", .ref sys), ("stored", .ref p), ("counted", .int 0)]) := upd_same
    have p6 : upd H5 m (.ins (CM K ex) dx [("present", .ref sys), ("stored", .ref p), ("counted", .int 0)]) p = some (.tup ((List.replicate S.length (none : Option Int)).map bV)) := by rw [upd_ne pm]; exact p5
    show (tSeq _ _) _ _ (upd H5 m (.ins (CM K ex) dx [("present", .ref sys), ("stored", .ref p), ("counted", .int 0)]))
    generalize upd H5 m (.ins (CM K ex) dx [("present", .ref sys), ("stored", .ref p), ("counted", .int 0)]) = H6 at *
    -- latest
    refine ⟨Nat.zero_le _, fun lt hlt => ?_⟩
    have s6 := same_upd (o := .lst []) hlt
    have ml : m ≠ lt := ne_of_none m6 hlt
    refine ⟨_, rfl, m, _, dx, _, rfl, s6 _ _ m6, F.c, F.latest, (by show 3 < 1000; decide), ?_⟩
    have b7 := (b6.same s6).upd (fs' := [("present", .ref sys), ("stored", .ref p), ("counted", .int 0), ("latest", .ref lt)]) (s6 _ _ m6) F.ne
    have m7 : upd (upd H6 lt (.lst [])) m (.ins (CM K ex) dx [("present", .ref sys), ("stored", .ref p), ("counted", .int 0), ("latest", .ref lt)]) m = some (.ins (CM K ex) dx [("present", .ref sys), ("stored", .ref p), ("counted", .int 0), ("latest", .ref lt)]) := upd_same
    have p7 : upd (upd H6 lt (.lst [])) m (.ins (CM K ex) dx [("present", .ref sys), ("stored", .ref p), ("counted", .int 0), ("latest", .ref lt)]) p = some (.tup ((List.replicate S.length (none : Option Int)).map bV)) := by rw [upd_ne pm]; exact s6 _ _ p6
    have l7 : upd (upd H6 lt (.lst [])) m (.ins (CM K ex) dx [("present", .ref sys), ("stored", .ref p), ("counted", .int 0), ("latest", .ref lt)]) lt = some (.lst []) := by rw [upd_ne (Ne.symm ml), upd_same]
    refine ⟨_, rfl, m, _, dx, _, rfl, m7, F.c, F.most, (by show 4 < 1000; decide), ?_⟩
    have b8 := b7.upd (fs' := memoFs sys p 0 lt none) m7 F.ne
    refine hQ _ b8 ⟨⟨dx, sys, p, lt, [], upd_same, hsys.mono b8.sk, ?_, ?_, .nil⟩⟩
    · rw [upd_ne pm]; exact p7
    · rw [upd_ne (Ne.symm ml)]; exact l7
def spSetLimit (K : PySem.W.Frag) (ex : Bool) : Sp := fun vs H Q _ => ∃ (m : Addr) (S : Sys) (b : Board) (cnt : Nat) (log : List Ev) (lim lim' : Option Nat), vs = [.ref m, limV lim'] ∧ MemoAt K H ex m S b cnt log lim ∧
  ∀ H', ButX K m H H' → MemoAt K H' ex m S b cnt log lim' → Q .non H'
theorem ok_Memo_set_limit (T : Txt K mg) (ex : Bool) : FD P w K mg base CX0 2 d_Memo_set_limit ["self", "limit"] (spSetLimit K ex) := by
  have F := cmf T ex
  refine fd_of T.d_Memo_set_limit sc_Memo_set_limit (fun vs H Q E h => ?_) (fun cdv A outer s H vs Q E hr h => ?_)
  · obtain ⟨m, S, b, cnt, log, lim, lim', rfl, _⟩ := h
    rfl
  · obtain ⟨m, S, b, cnt, log, lim, lim', rfl, ⟨⟨dx, sys, tb, lt, es, h1, h2, h3, h4, h5⟩⟩, hQ⟩ := h
    refine ⟨_, (pss_cons (ps_if (PW.pt (pw_and (pt_cmpR op_notN (pv 1) pe_non (nomark _)) (pw_and1 (PW.pt (pw_or (pt_not (pt_val (pe_def (ok_is_integer T) hr rfl T.g_is_integer rfl b_is_integer (pa_cons (pv 1) pa_nil)))) (pw_or1 (pt_cmpR op_lt (pv 1) pe_int (nomark _)))))))) (pss_one ps_never) pss_nil) (pss_one (ps_fld (pv 0) (pv 1) rfl))), ?_⟩
    have rest : (sFld K (tVar 0) (tVar 1) "most") { nx := fun _ H' => Q .non H', rt := Q } (start ["self", "limit"] [.ref m, limV lim']) H := by
      refine ⟨_, rfl, _, rfl, m, _, dx, _, rfl, h1, F.c, F.most, (by show 5 < 1000; decide), ?_⟩
      have b8 := (ButX.refl K m H).upd (fs' := memoFs sys tb cnt lt lim') h1 F.ne
      refine hQ _ b8 ⟨⟨dx, sys, tb, lt, es, upd_same, h2.mono b8.sk, ?_, ?_, h5.mono b8.sk⟩⟩
      · rw [upd_ne (ne_of h3 h1 (by simp))]; exact h3
      · rw [upd_ne (ne_of h4 h1 (by simp))]; exact h4
    cases lim' with
    | none => exact ⟨_, rfl, rfl, _, rfl, iteFb rfl (iteF rest)⟩
    | some L =>
      refine ⟨_, rfl, rfl, _, rfl, iteTb rfl ⟨_, rfl, _, rfl, _, rfl, iteF ?_⟩⟩
      exact ⟨_, rfl, _, _, rfl, rfl, _, rfl, iteFb (decide_eq_false (by omega)) rest⟩
/-- a run as a memo makes it -/
def spMemoRun (K : PySem.W.Frag) (ex : Bool) : Sp := fun vs H Q _ => ∃ (m : Addr) (S : Sys) (b : Board) (cnt : Nat) (log : List Ev) (lim : Option Nat), vs = [.ref m] ∧ MemoAt K H ex m S b cnt log lim ∧
  ∀ r H', Same H H' → (∀ a ∈ r.mut ex, H a = none) → r.gt = [] → RunAt K H' ex S r lim ⟨b, 0, [], []⟩ [] [] → Q (.ref r.x) H'
theorem butx_same {x dx : Addr} {C : Addr} {H H' : Hp} (hx : H x = none) (hdx : H dx = none) (ne : dx ≠ x) (k : ButX K x (upd (upd H dx (.own x)) x (.ins C dx [])) H') : Same H H' := fun a o h => by
  have hax : a ≠ x := ne_of_none h hx
  refine k.kp a o hax ?_
  rw [upd_ne hax, upd_ne (ne_of_none h hdx)]
  exact h
theorem made_same {x dx C : Addr} {H : Hp} (hx : H x = none) (hdx : H dx = none) (ne : dx ≠ x) : Same H (upd (upd H dx (.own x)) x (.ins C dx [])) := Same.trans (same_upd hdx) (same_upd (by rw [upd_ne (Ne.symm ne)]; exact hx))
theorem ok_Memo_run (T : Txt K mg) : FD P w K mg base CX0 3 d_Memo_run ["self"] (spMemoRun K false) := by
  have F := cmf T false
  obtain ⟨up, F_pol⟩ := F.policy
  obtain ⟨fd2, F2, G2⟩ := (ok_Run_init (P := P) (w := w) (base := base) T false).ex
  obtain ⟨mv, KB2⟩ := kb_Run_init T F2
  refine fd_of T.d_Memo_run sc_Memo_run (fun vs H Q E h => ?_) (fun cdv A outer s H vs Q E hr h => ?_)
  · obtain ⟨m, S, b, cnt, log, lim, rfl, _⟩ := h
    rfl
  · obtain ⟨m, S, b, cnt, log, lim, rfl, ⟨⟨dx, sys, tb, lt, es, h1, h2, h3, h4, h5⟩⟩, hQ⟩ := h
    refine ⟨_, (pss_one (ps_ret (pe_makeK T.k_Run G2 (hr.mono (by decide)) rfl T.g_Run KB2 pass0 (pa_cons (pe_fldK K rfl (pv 0) rfl) (pa_cons (pe_fldK K rfl (pv 0) rfl) (pa_cons (pe_conK K rfl (pv 0) rfl) pa_nil))) (pk_cons (pe_fldK K rfl (pv 0) rfl) pk_nil)))), ?_⟩
    refine ⟨_, rfl, m, _, dx, _, _, rfl, h1, F.c, F.present, rfl, _, rfl, m, _, dx, _, _, rfl, h1, F.c, F.stored, rfl, _, rfl, m, _, dx, _, _, up, rfl, h1, F.c, F_pol, rfl, _, rfl, m, _, dx, _, _, rfl, h1, F.c, F.most, rfl, rfl, rfl, fun x dx' hx hdx ne => ?_⟩
    have sm := made_same (C := He.ga K "Run") hx hdx ne
    refine ⟨x, dx', sys, tb, busyAd K, limV lim, b.map bV, rfl, upd_same, .inl (.inl (sm _ _ h3)), T.t_busy _, fun bd bu lg H1 k1 b0 u0 l0 n4 n5 n6 hx1 hb1 hu1 hl1 => ⟨rfl, ?_⟩⟩
    have xx : (upd (upd H dx' (.own x)) x (.ins (CR K false) dx' [])) x = some (.ins (CR K false) dx' []) := upd_same
    have c1 := cont4 hx1 hb1 hu1 hl1 (ne_of_none xx b0) (ne_of_none xx u0) (ne_of_none xx l0) n4 n5 n6
    refine hQ ⟨x, dx', sys, bd, bu, lg, 0, 0, 0, [], []⟩ H1 (butx_same hx hdx ne k1) (fun a ha => ?_) rfl ⟨⟨[], [], c1, .nil, fun z => absurd z Bool.false_ne_true, fun a ha => by cases ha⟩, h2.mono ((same_sk sm).trans k1.sk)⟩
    simp only [RA.mut, Bool.false_eq_true, if_false, List.mem_cons, List.not_mem_nil, or_false] at ha
    rcases ha with h | h | h | h
    · rw [h]; exact hx
    · rw [h]; exact sm.free b0
    · rw [h]; exact sm.free u0
    · rw [h]; exact sm.free l0
theorem ok_KeepExact_run (T : Txt K mg) (TS : TxtS P K) (KB : K.In base) : FD P w K mg base CX0 4 d_KeepExact_run ["self"] (spMemoRun K true) := by
  have F := cmf T true
  obtain ⟨up, F_pol⟩ := F.policy
  obtain ⟨fd2, G2, _, KB2⟩ := ok_ExactRun_init (P := P) (w := w) (base := base) T TS KB
  refine fd_of T.d_KeepExact_run sc_KeepExact_run (fun vs H Q E h => ?_) (fun cdv A outer s H vs Q E hr h => ?_)
  · obtain ⟨m, S, b, cnt, log, lim, rfl, _⟩ := h
    rfl
  · obtain ⟨m, S, b, cnt, log, lim, rfl, ⟨⟨dx, sys, tb, lt, es, h1, h2, h3, h4, h5⟩⟩, hQ⟩ := h
    refine ⟨_, (pss_one (ps_ret (pe_makeK T.k_ExactRun G2 (hr.mono (by decide)) rfl T.g_ExactRun KB2 pass0 (pa_cons (pe_fldK K rfl (pv 0) rfl) (pa_cons (pe_fldK K rfl (pv 0) rfl) (pa_cons (pe_conK K rfl (pv 0) rfl) pa_nil))) (pk_cons (pe_fldK K rfl (pv 0) rfl) pk_nil)))), ?_⟩
    refine ⟨_, rfl, m, _, dx, _, _, rfl, h1, F.c, F.present, rfl, _, rfl, m, _, dx, _, _, rfl, h1, F.c, F.stored, rfl, _, rfl, m, _, dx, _, _, up, rfl, h1, F.c, F_pol, rfl, _, rfl, m, _, dx, _, _, rfl, h1, F.c, F.most, rfl, rfl, rfl, fun x dx' hx hdx ne => ?_⟩
    have sm := made_same (C := He.ga K "ExactRun") hx hdx ne
    refine ⟨x, dx', sys, tb, lim, b, S, rfl, upd_same, .inl (.inl (sm _ _ h3)), h2.mono (same_sk sm), fun r H1 k1 ex eg em hR => ⟨rfl, ?_⟩⟩
    subst ex
    exact hQ r H1 (butx_same hx hdx ne k1) (fun a ha => (em a ha).elim (fun e => e ▸ hx) fun e => sm.free e) eg hR
end
end KW
/-! The walk, part 18: ask. -/
namespace KW
open PySem PySem.Spec PyProof.Rows L2 KR K19 StX
/-- run, as the memo's class has it -/
structure RunM (P : Program) (w : World) (K : PySem.W.Frag) (mg : PySem.Str → Option Value) (base : Heap) (ex : Bool) : Prop where
  ex : ∃ fd ad, Meth K (CM K ex) "run" ad ∧ FnOk P w K mg base CX0 4 ad fd ["self"] (spMemoRun K ex) ∧ Binds K fd ["self"] []
section
variable {P : Program} {w : World} {K : PySem.W.Frag} {mg : PySem.Str → Option Value} {base : Heap} {S : Sys} {lim : Option Nat} {b : Board} {cnt : Nat} {log : List Ev}
theorem runM (T : Txt K mg) (TS : TxtS P K) (KB : K.In base) : ∀ ex, RunM P w K mg base ex
  | false => let ⟨fd, F, G⟩ := (ok_Memo_run (P := P) (w := w) (base := base) T).ex; ⟨fd, _, T.m_KeepClean_run, G.mono (by decide), FunD.bindsN F b_Memo_run⟩
  | true => let ⟨fd, F, G⟩ := (ok_KeepExact_run (P := P) (w := w) (base := base) T TS KB).ex; ⟨fd, _, T.m_KeepExact_run, G, FunD.bindsN F b_KeepExact_run⟩
/-- an ask -/
abbrev ask1 (ex : Bool) (S : Sys) (b : Board) (c : Nat) : Res × K19.St := M ex S 13 ⟨b, 0, [], []⟩ [] c
theorem ask_pre {rk : Nat → Nat} {c : Nat} (hc : c < S.length) (bok : BoardOk S b) : Pre S rk ⟨b, 0, [], []⟩ [] c := ⟨hc, bok, List.nodup_nil, fun _ h => absurd h List.not_mem_nil, fun _ h => absurd h List.not_mem_nil, fun _ h => absurd h List.not_mem_nil, fun _ h => absurd h List.not_mem_nil⟩
theorem ask_ok {rk : Nat → Nat} {bs c : Nat} (ok : SysOk S rk bs) (hc : c < S.length) (bok : BoardOk S b) (ex : Bool) : Post S rk ⟨b, 0, [], []⟩ [] c (ask1 ex S b c).1 (ask1 ex S b c).2 := M_ok ok 13 _ _ c (by have := ok.len; simp; omega) (ask_pre hc bok)
theorem ask_log {rk : Nat → Nat} {bs c : Nat} (ok : SysOk S rk bs) (hc : c < S.length) (bok : BoardOk S b) (ex : Bool) : (ask1 ex S b c).2.log.length ≤ 42380 := by
  obtain ⟨seg, e, _, _, h⟩ := (ask_ok ok hc bok ex).mid.log
  have h1 : (ask1 ex S b c).2.log = seg := e
  have h2 := W_le (free_le ok [] (rk c))
  have h3 : openN S rk b (rk c) ≤ 12 := by
    unfold openN
    refine Nat.le_trans List.countP_le_length ?_
    rw [List.length_range]; exact ok.len
  have h4 : seg.length + 3260 * openN S rk (ask1 ex S b c).2.board (rk c) ≤ W (freeN S rk [] (rk c)) + 3260 * openN S rk b (rk c) := h
  rw [h1]
  omega
def spAsk (K : PySem.W.Frag) (ex : Bool) : Sp := fun vs H Q E => ∃ (m : Addr) (S : Sys) (rk : Nat → Nat) (bs : Nat) (b : Board) (cnt : Nat) (log : List Ev) (lim : Option Nat) (c : Nat), vs = [.ref m, .int c] ∧ MemoAt K H ex m S b cnt log lim ∧ SysOk S rk bs ∧ BoardOk S b ∧ c < S.length ∧
  (fitsL lim (M ex S 13 ⟨b, 0, [], []⟩ [] c).2.begun → ∀ H', ButX K m H H' → MemoAt K H' ex m S (M ex S 13 ⟨b, 0, [], []⟩ [] c).2.board (cnt + (M ex S 13 ⟨b, 0, [], []⟩ [] c).2.begun) (M ex S 13 ⟨b, 0, [], []⟩ [] c).2.log lim → Q (.int (M ex S 13 ⟨b, 0, [], []⟩ [] c).1.val) H') ∧
  (¬ fitsL lim (M ex S 13 ⟨b, 0, [], []⟩ [] c).2.begun → ∀ d H' L, lim = some L → Same H H' → H' d = some (.xd [("limit", .int (L : Nat))]) → E (.ref (He.ga K "TooManyCalls")) (some d) H')
theorem ok_Memo_ask (T : Txt K mg) (TS : TxtS P K) (KB : K.In base) (ex : Bool) : FD P w K mg base (L2.CX P w) 46 d_Memo_ask ["self", "cell"] (spAsk K ex) := by
  have F := cmf T ex
  have G := crf T ex
  obtain ⟨rfd, rad, rM, rF, rB⟩ := (runM (w := w) T TS KB ex).ex
  obtain ⟨cfd, CD, CF⟩ := (call_at (w := w) T TS KB ex 13).ex
  refine fdX_of T.d_Memo_ask sc_Memo_ask (fun vs H Q E h => ?_) (fun cdv A outer s H vs Q E hr h => ?_)
  · obtain ⟨m, S, rk, bs, b, cnt, log, lim, c, rfl, _⟩ := h
    rfl
  · obtain ⟨m, S, rk, bs, b, cnt, log, lim, c, rfl, hM, ok, bok, hc, hQ, hX⟩ := h
    have tk := takes_of (X := cxOf (L2.CX P w) P w K mg base ["self", "cell", "run", "answer", "taint"] d_Memo_ask.qual d_Memo_ask.scope (d_Memo_ask.ad K) cdv A outer s H E) (E := E) rfl rfl rfl rfl
    have pass : Passes (L2.CX P w) (cxOf (L2.CX P w) P w K mg base ["self", "cell", "run", "answer", "taint"] d_Memo_ask.qual d_Memo_ask.scope (d_Memo_ask.ad K) cdv A outer s H E) E := passes_call tk fun _ _ _ _ h => h
    refine ⟨_, (pss_cons (ps_expr (pe_mdX (ok_System_operands T) hr pass0 T.c_System T.m_System_operands rfl b_System_operands (pe_fldK K rfl (pv 0) rfl) (pa_cons (pv 1) pa_nil))) (pss_cons (ps_set (i := 2) sc_Memo_ask.nd rfl (by first | exact Or.inl rfl | exact Or.inr rfl | exact Or.inr (Or.inl rfl)) (pe_meth0 (pv 0) F.c rM rF (hr.mono (by decide)) rB .nil pass0)) (pss_cons (ps_asg (pe_meth (pv 2) G.c G.call CF hr (FunD.bindsN CD b_Run_call) .nil pass (pa_cons (pv 1) pa_nil)) (pg_tupK (n := 2) K rfl rfl (pgs_cons (pg_name (i := 3) sc_Memo_ask.nd rfl (by first | exact Or.inl rfl | exact Or.inr rfl | exact Or.inr (Or.inl rfl))) (pgs_cons (pg_name (i := 4) sc_Memo_ask.nd rfl (by first | exact Or.inl rfl | exact Or.inr rfl | exact Or.inr (Or.inl rfl))) pgs_nil)))) (pss_cons (ps_fld (pv 0) (pe_callTy call_tuple_of rfl T.f_tuple boot_tuple (pa_cons (pe_fldK K rfl (pv 2) rfl) pa_nil)) rfl) (pss_cons (ps_fldaug (pv 0) (pe_fldK K rfl (pv 2) rfl) in_add) (pss_cons (ps_fld (pv 0) (pe_fldK K rfl (pv 2) rfl) rfl) (pss_one (ps_ret (pv 3))))))))), ?_⟩
    have ⟨⟨dx, sys, tb, lt, es, h1, h2, h3, h4, h5⟩⟩ := hM
    have ⟨dxs, ts, pss, hs1, _⟩ := h2
    have h1' : H m = some (.ins (CM K ex) dx [(("present" : PySem.Str), V.ref sys), ("stored", .ref tb), ("counted", .int (cnt : Nat)), ("latest", .ref lt), ("most", limV lim)]) := h1
    refine ⟨_, rfl, m, _, dx, _, _, rfl, h1, F.c, F.present, rfl, sys, dxs, _, rfl, hs1, rfl, _, rfl, sys, S, c, rfl, h2, hc, fun _ _ => ?_⟩
    refine ⟨_, rfl, m, dx, _, rfl, h1, rfl, m, S, b, cnt, log, lim, rfl, hM, fun r H1 s1 fr egt hR => ?_⟩
    have hcl : (r.fs ex lim 0).lookup ("call" : PySem.Str) = none := fs_call ex
    refine ⟨_, rfl, r.x, r.dx, _, rfl, hR.at_x, hcl, _, rfl, r, S, rk, bs, lim, _, [], [], c, rfl, hR, ok, ask_pre hc bok, by have := ok.len; simp; omega, by rw [egt]; exact Nat.zero_le _, fun L _ => Nat.zero_le _, Nat.le_refl _, Nat.le_trans (ask_log ok hc bok ex) (by decide), Nat.zero_le _, fun hfit p t H2 k2 hR2 hp ht => ?_, fun nf d H2 L eL k2 hd => ?_⟩
    · have s2 : Same H H2 := fun a o h => k2.kp a o (fun hm => by rw [fr a hm] at h; cases h) (s1 _ _ h)
      refine ⟨p, _, rfl, .inl (.inl hp), rfl, _, _, rfl, _, _, rfl, rfl, ?_⟩
      -- self.stored = tuple(run.board)
      refine ⟨_, rfl, r.x, _, r.dx, _, _, rfl, hR2.at_x, G.c, G.board, rfl, r.b, _, rfl, .inl ⟨.inl (.inl hR2.at_b), fun q hq => ?_⟩⟩
      have s3 := same_upd (o := .tup ((M ex S 13 ⟨b, 0, [], []⟩ [] c).2.board.map bV)) hq
      have m3 := s3 _ _ (s2 _ _ h1)
      have q3 : upd H2 q (.tup ((M ex S 13 ⟨b, 0, [], []⟩ [] c).2.board.map bV)) q = some (.tup ((M ex S 13 ⟨b, 0, [], []⟩ [] c).2.board.map bV)) := upd_same
      have hR3 := hR2.same s3
      have s03 : Same H (upd H2 q (.tup ((M ex S 13 ⟨b, 0, [], []⟩ [] c).2.board.map bV))) := Same.trans s2 s3
      generalize hMr : M ex S 13 ⟨b, 0, [], []⟩ [] c = ro at *
      have hrx : m ≠ r.x := ne_of_none h1 (fr _ List.mem_cons_self)
      have hqm : q ≠ m := ne_of q3 m3 (by simp)
      refine ⟨_, rfl, m, _, dx, _, rfl, m3, F.c, F.stored, (by show 5 < 1000; decide), ?_⟩
      have b3 := (ButX.refl K m H).same s03
      have b4 := b3.upd (fs' := memoFs sys q cnt lt lim) m3 F.ne
      have m4 : upd (upd H2 q (.tup (ro.2.board.map bV))) m (.ins (CM K ex) dx (memoFs sys q cnt lt lim)) m = some (.ins (CM K ex) dx (memoFs sys q cnt lt lim)) := upd_same
      have q4 : upd (upd H2 q (.tup (ro.2.board.map bV))) m (.ins (CM K ex) dx (memoFs sys q cnt lt lim)) q = some (.tup (ro.2.board.map bV)) := by rw [upd_ne hqm]; exact q3
      have x4 : upd (upd H2 q (.tup (ro.2.board.map bV))) m (.ins (CM K ex) dx (memoFs sys q cnt lt lim)) r.x = some (.ins (CR K ex) r.dx (r.fs ex lim ro.2.begun)) := by rw [upd_ne (Ne.symm hrx)]; exact hR3.at_x
      obtain ⟨es', hlg, hes⟩ := hR3.at_lg
      have lgm : r.lg ≠ m := ne_of hlg m3 (by simp)
      have l4 : upd (upd H2 q (.tup (ro.2.board.map bV))) m (.ins (CM K ex) dx (memoFs sys q cnt lt lim)) r.lg = some (.lst (rV es')) := by rw [upd_ne lgm]; exact hlg
      have k4 : SK K (upd H2 q (.tup (ro.2.board.map bV))) (upd (upd H2 q (.tup (ro.2.board.map bV))) m (.ins (CM K ex) dx (memoFs sys q cnt lt lim))) := .upd m3 F.ne
      have e4 := hes.mono k4
      show (tSeq _ _) _ _ (upd (upd H2 q (.tup (ro.2.board.map bV))) m (.ins (CM K ex) dx (memoFs sys q cnt lt lim)))
      generalize upd (upd H2 q (.tup (ro.2.board.map bV))) m (.ins (CM K ex) dx (memoFs sys q cnt lt lim)) = H4 at *
      -- self.counted += run.begun
      refine ⟨_, rfl, m, _, dx, _, _, rfl, m4, F.c, F.counted, rfl, _, rfl, r.x, _, r.dx, _, _, rfl, x4, G.c, G.begun, rfl, _, _, rfl, rfl, dx, _, m4, (by show 5 < 1000; decide), ?_⟩
      have b5 := b4.upd (fs' := memoFs sys q (cnt + ro.2.begun) lt lim) m4 F.ne
      have m5 : upd H4 m (.ins (CM K ex) dx (memoFs sys q (cnt + ro.2.begun) lt lim)) m = some (.ins (CM K ex) dx (memoFs sys q (cnt + ro.2.begun) lt lim)) := upd_same
      have q5 : upd H4 m (.ins (CM K ex) dx (memoFs sys q (cnt + ro.2.begun) lt lim)) q = some (.tup (ro.2.board.map bV)) := by rw [upd_ne hqm]; exact q4
      have x5 : upd H4 m (.ins (CM K ex) dx (memoFs sys q (cnt + ro.2.begun) lt lim)) r.x = some (.ins (CR K ex) r.dx (r.fs ex lim ro.2.begun)) := by rw [upd_ne (Ne.symm hrx)]; exact x4
      have l5 : upd H4 m (.ins (CM K ex) dx (memoFs sys q (cnt + ro.2.begun) lt lim)) r.lg = some (.lst (rV es')) := by rw [upd_ne lgm]; exact l4
      have k5 : SK K H4 (upd H4 m (.ins (CM K ex) dx (memoFs sys q (cnt + ro.2.begun) lt lim))) := .upd m4 F.ne
      have e5 := e4.mono k5
      have efs : HO.ins (CM K ex) dx (putF "counted" (.int ((cnt : Int) + (ro.2.begun : Int))) (memoFs sys q cnt lt lim)) = .ins (CM K ex) dx (memoFs sys q (cnt + ro.2.begun) lt lim) := by
        have : ((cnt : Int) + (ro.2.begun : Int)) = ((cnt + ro.2.begun : Nat) : Int) := by omega
        rw [this]; rfl
      show (tSeq _ _) _ _ (upd H4 m (.ins (CM K ex) dx (putF "counted" (.int ((cnt : Int) + (ro.2.begun : Int))) (memoFs sys q cnt lt lim))))
      rw [efs]
      generalize upd H4 m (.ins (CM K ex) dx (memoFs sys q (cnt + ro.2.begun) lt lim)) = H5 at *
      -- self.latest = run.happened
      refine ⟨_, rfl, r.x, _, r.dx, _, _, rfl, x5, G.c, G.happened, rfl, _, rfl, m, _, dx, _, rfl, m5, F.c, F.latest, (by show 5 < 1000; decide), ?_⟩
      have b6 := b5.upd (fs' := memoFs sys q (cnt + ro.2.begun) r.lg lim) m5 F.ne
      have k6 : SK K H5 (upd H5 m (.ins (CM K ex) dx (memoFs sys q (cnt + ro.2.begun) r.lg lim))) := .upd m5 F.ne
      refine ⟨_, rfl, hQ hfit _ b6 ⟨⟨dx, sys, q, r.lg, es', upd_same, h2.mono b6.sk, ?_, ?_, e5.mono k6⟩⟩⟩
      · rw [upd_ne hqm]; exact q5
      · rw [upd_ne lgm]; exact l5
    · exact hX nf d H2 L eL (fun a o h => k2.kp a o (fun hm => by rw [fr a hm] at h; cases h) (s1 _ _ h)) hd
end
end KW
/-! The walk, part 19: events, properties, restore, twin. -/
namespace KW
open PySem PySem.Spec PyProof.Rows L2 KR K19 StX
section
variable {P : Program} {w : World} {K : PySem.W.Frag} {mg : PySem.Str → Option Value} {base : Heap} {S : Sys} {lim : Option Nat} {b : Board} {cnt : Nat} {log : List Ev}
theorem passE0 {X : Cx} : Passes (L2.CX X.prog X.w) X E0 := fun _ _ _ _ _ _ _ ⟨_, _, _, _, _, _, _, _, _, _, _, _, h⟩ => h.elim
theorem noStop0 : NoStop K E0 := fun _ _ _ h => h.elim
/-! ### properties -/
def spProp (K : PySem.W.Frag) (ex : Bool) (f : PySem.Str) : Sp := fun vs H Q _ => ∃ (m dx : Addr) (fs : List (PySem.Str × V)) (v : V), vs = [.ref m] ∧ H m = some (.ins (CM K ex) dx fs) ∧ fs.lookup f = some v ∧ Q v H
theorem ok_Memo_system (T : Txt K mg) (ex : Bool) : FD P w K mg base CX0 1 d_Memo_system ["self"] (spProp K ex "present") := by
  have F := cmf T ex
  refine fd_of T.d_Memo_system sc_Memo_system (fun vs H Q E h => ?_) (fun cdv A outer s H vs Q E hr h => ?_)
  · obtain ⟨m, dx, fs, v, rfl, _⟩ := h
    rfl
  · obtain ⟨m, dx, fs, v, rfl, h1, h2, hQ⟩ := h
    exact ⟨_, (pss_one (ps_ret (pe_fldK K rfl (pv 0) rfl))), _, rfl, m, _, dx, _, _, rfl, h1, F.c, F.present, h2, hQ⟩
theorem ok_Memo_table (T : Txt K mg) (ex : Bool) : FD P w K mg base CX0 1 d_Memo_table ["self"] (spProp K ex "stored") := by
  have F := cmf T ex
  refine fd_of T.d_Memo_table sc_Memo_table (fun vs H Q E h => ?_) (fun cdv A outer s H vs Q E hr h => ?_)
  · obtain ⟨m, dx, fs, v, rfl, _⟩ := h
    rfl
  · obtain ⟨m, dx, fs, v, rfl, h1, h2, hQ⟩ := h
    exact ⟨_, (pss_one (ps_ret (pe_fldK K rfl (pv 0) rfl))), _, rfl, m, _, dx, _, _, rfl, h1, F.c, F.stored, h2, hQ⟩
theorem ok_Memo_calls (T : Txt K mg) (ex : Bool) : FD P w K mg base CX0 1 d_Memo_calls ["self"] (spProp K ex "counted") := by
  have F := cmf T ex
  refine fd_of T.d_Memo_calls sc_Memo_calls (fun vs H Q E h => ?_) (fun cdv A outer s H vs Q E hr h => ?_)
  · obtain ⟨m, dx, fs, v, rfl, _⟩ := h
    rfl
  · obtain ⟨m, dx, fs, v, rfl, h1, h2, hQ⟩ := h
    exact ⟨_, (pss_one (ps_ret (pe_fldK K rfl (pv 0) rfl))), _, rfl, m, _, dx, _, _, rfl, h1, F.c, F.counted, h2, hQ⟩
theorem ok_Memo_most_calls (T : Txt K mg) (ex : Bool) : FD P w K mg base CX0 1 d_Memo_most_calls ["self"] (spProp K ex "most") := by
  have F := cmf T ex
  refine fd_of T.d_Memo_most_calls sc_Memo_most_calls (fun vs H Q E h => ?_) (fun cdv A outer s H vs Q E hr h => ?_)
  · obtain ⟨m, dx, fs, v, rfl, _⟩ := h
    rfl
  · obtain ⟨m, dx, fs, v, rfl, h1, h2, hQ⟩ := h
    exact ⟨_, (pss_one (ps_ret (pe_fldK K rfl (pv 0) rfl))), _, rfl, m, _, dx, _, _, rfl, h1, F.c, F.most, h2, hQ⟩
/-! ### events -/
def spEvents (K : PySem.W.Frag) (ex : Bool) : SpG := fun vs H Q _ => ∃ (m dx lt : Addr) (fs : List (PySem.Str × V)) (xs : List V), vs = [.ref m] ∧ H m = some (.ins (CM K ex) dx fs) ∧ fs.lookup ("latest" : PySem.Str) = some (.ref lt) ∧ H lt = some (.lst xs) ∧ xs.length ≤ sizeLine ∧ Q xs H
theorem ok_Memo_events (T : Txt K mg) (ex : Bool) : ∃ fd, FunD K d_Memo_events.name d_Memo_events.qual d_Memo_events.params d_Memo_events.body d_Memo_events.scope (d_Memo_events.dvs K) (d_Memo_events.kws K) (d_Memo_events.ad K) fd ∧ GFn P w K mg base 1 (d_Memo_events.ad K) fd ["self"] (spEvents K ex) := by
  have F := cmf T ex
  obtain ⟨fd, FF⟩ := T.d_Memo_events
  refine ⟨fd, FF, gfnD FF (N := ["self"]) ⟨rfl, rfl, rfl, by decide +kernel, rfl, by decide +kernel, by decide +kernel⟩ (fun vs H Q E h => ?_) (fun cdv A outer s H vs Q E pn hr h => ?_)⟩
  · obtain ⟨m, dx, lt, fs, xs, rfl, _⟩ := h
    rfl
  · obtain ⟨m, dx, lt, fs, xs, rfl, h1, h2, h3, h4, hQ⟩ := h
    refine ⟨_, gss_cons (gs_yieldFrom (yf_list (pe_fldK K rfl (pv 0) rfl)) hr.hd) gss_nil, ?_⟩
    exact ⟨_, rfl, m, _, dx, _, _, rfl, h1, F.c, F.latest, h2, lt, xs, rfl, h3, by rw [List.length_nil, Nat.zero_add]; exact h4, hQ⟩
theorem b_Memo_events : BindN d_Memo_events ["self"] := fun _ _ _ _ _ _ us hl => match us, hl with | [_], _ => rfl
/-! ### restore -/
def spRestore (K : PySem.W.Frag) : Sp := fun vs H Q _ => ∃ (m o : Addr) (S : Sys) (b0 b : Board) (cnt0 cnt : Nat) (log0 log : List Ev) (lim0 lim : Option Nat), vs = [.ref m, .ref o] ∧ m ≠ o ∧ MemoAt K H true m S b0 cnt0 log0 lim0 ∧ MemoAt K H true o S b cnt log lim ∧ log.length ≤ 100000 ∧
  ∀ H', ButX K m H H' → MemoAt K H' true m S b cnt log lim → Q .non H'
theorem ok_Memo_restore (T : Txt K mg) : FD P w K mg base CX0 5 d_Memo_restore ["self", "other"] (spRestore K) := by
  have F := cmf T true
  obtain ⟨q1, q_table⟩ := T.p_KeepExact_table
  obtain ⟨q2, q_calls⟩ := T.p_KeepExact_calls
  obtain ⟨q3, q_most⟩ := T.p_KeepExact_most_calls
  obtain ⟨f1, pF1, pG_table⟩ := (ok_Memo_table (P := P) (w := w) (base := base) T true).ex
  have pB_table := FunD.bindsN pF1 b_Memo_table
  obtain ⟨f2, pF2, pG_calls⟩ := (ok_Memo_calls (P := P) (w := w) (base := base) T true).ex
  have pB_calls := FunD.bindsN pF2 b_Memo_calls
  obtain ⟨f3, pF3, pG_most⟩ := (ok_Memo_most_calls (P := P) (w := w) (base := base) T true).ex
  have pB_most := FunD.bindsN pF3 b_Memo_most_calls
  obtain ⟨f4, eF, eG⟩ := ok_Memo_events (P := P) (w := w) (base := base) T true
  have eB := FunD.bindsN eF b_Memo_events
  refine fd_of T.d_Memo_restore sc_Memo_restore (fun vs H Q E h => ?_) (fun cdv A outer s H vs Q E hr h => ?_)
  · obtain ⟨m, o, S, b0, b, cnt0, cnt, log0, log, lim0, lim, rfl, _⟩ := h
    rfl
  · obtain ⟨m, o, S, b0, b, cnt0, cnt, log0, log, lim0, lim, rfl, mo, ⟨⟨dm, sm, tm, lm, em, m1, m2, m3, m4, m5⟩⟩, ⟨⟨dx, sys, tb, lt, es, h1, h2, h3, h4, h5⟩⟩, hlen, hQ⟩ := h
    refine ⟨_, (pss_cons (ps_fld (pv 0) (pe_prop (pv 1) T.c_KeepExact q_table pG_table (hr.mono (by decide)) pB_table .nil pass0 rfl) rfl) (pss_cons (ps_fld (pv 0) (pe_prop (pv 1) T.c_KeepExact q_calls pG_calls (hr.mono (by decide)) pB_calls .nil pass0 rfl) rfl) (pss_cons (ps_fld (pv 0) (pe_listG (pgen_meth0 (pv 1) T.c_KeepExact T.m_KeepExact_events eG (hr.mono (by decide)) eB .nil) passE0 noStop0 (hr.mono (by decide)) rfl T.f_list boot_list) rfl) (pss_one (ps_fld (pv 0) (pe_prop (pv 1) T.c_KeepExact q_most pG_most (hr.mono (by decide)) pB_most .nil pass0 rfl) rfl))))), ?_⟩
    have les : (rV es).length ≤ sizeLine := by rw [List.length_map, h5.length]; exact Nat.le_trans hlen (by decide)
    have htm : tb ≠ m := ne_of h3 m1 (by simp)
    have hlm : lt ≠ m := ne_of h4 m1 (by simp)
    -- stored
    refine ⟨_, rfl, o, dx, _, rfl, h1, o, dx, _, _, rfl, h1, rfl, _, rfl, m, _, dm, _, rfl, m1, F.c, F.stored, (by show 5 < 1000; decide), ?_⟩
    have b1 := (ButX.refl K m H).upd (fs' := memoFs sm tb cnt0 lm lim0) m1 F.ne
    have a1 : upd H m (.ins (CM K true) dm (memoFs sm tb cnt0 lm lim0)) m = some (.ins (CM K true) dm (memoFs sm tb cnt0 lm lim0)) := upd_same
    show (tSeq _ _) _ _ (upd H m (.ins (CM K true) dm (memoFs sm tb cnt0 lm lim0)))
    generalize upd H m (.ins (CM K true) dm (memoFs sm tb cnt0 lm lim0)) = H1 at *
    have o1 := b1.kp _ _ (Ne.symm mo) h1
    -- counted
    refine ⟨_, rfl, o, dx, _, rfl, o1, o, dx, _, _, rfl, o1, rfl, _, rfl, m, _, dm, _, rfl, a1, F.c, F.counted, (by show 5 < 1000; decide), ?_⟩
    have b2 := b1.upd (fs' := memoFs sm tb cnt lm lim0) a1 F.ne
    have a2 : upd H1 m (.ins (CM K true) dm (memoFs sm tb cnt lm lim0)) m = some (.ins (CM K true) dm (memoFs sm tb cnt lm lim0)) := upd_same
    show (tSeq _ _) _ _ (upd H1 m (.ins (CM K true) dm (memoFs sm tb cnt lm lim0)))
    generalize upd H1 m (.ins (CM K true) dm (memoFs sm tb cnt lm lim0)) = H2 at *
    have o2 := b2.kp _ _ (Ne.symm mo) h1
    have l2 := b2.kp _ _ hlm h4
    -- latest
    refine ⟨_, rfl, o, dx, _, rfl, o2, rfl, o, dx, lt, _, _, rfl, o2, rfl, l2, les, fun q hq => ?_⟩
    have s2 := same_upd (o := .lst (rV es)) hq
    have qm : m ≠ q := ne_of_none a2 hq
    refine ⟨_, rfl, m, _, dm, _, rfl, s2 _ _ a2, F.c, F.latest, (by show 5 < 1000; decide), ?_⟩
    have b3 := (b2.same s2).upd (fs' := memoFs sm tb cnt q lim0) (s2 _ _ a2) F.ne
    have a3 : upd (upd H2 q (.lst (rV es))) m (.ins (CM K true) dm (memoFs sm tb cnt q lim0)) m = some (.ins (CM K true) dm (memoFs sm tb cnt q lim0)) := upd_same
    have q3 : upd (upd H2 q (.lst (rV es))) m (.ins (CM K true) dm (memoFs sm tb cnt q lim0)) q = some (.lst (rV es)) := by rw [upd_ne (Ne.symm qm), upd_same]
    have o3 := b3.kp _ _ (Ne.symm mo) h1
    -- most
    refine ⟨_, rfl, o, dx, _, rfl, o3, o, dx, _, _, rfl, o3, rfl, _, rfl, m, _, dm, _, rfl, a3, F.c, F.most, (by show 5 < 1000; decide), ?_⟩
    have b4 := b3.upd (fs' := memoFs sm tb cnt q lim) a3 F.ne
    refine hQ _ b4 ⟨⟨dm, sm, tb, q, es, upd_same, m2.mono b4.sk, b4.sk _ _ trivial h3, ?_, h5.mono b4.sk⟩⟩
    rw [upd_ne (Ne.symm qm)]; exact q3
/-! ### empty, twin -/
def spEmpty (K : PySem.W.Frag) : Sp := fun vs H Q _ => ∃ (m : Addr) (S : Sys) (rk : Nat → Nat) (bs : Nat) (b : Board) (cnt : Nat) (log : List Ev) (lim : Option Nat), vs = [.ref m] ∧ MemoAt K H true m S b cnt log lim ∧ SysOk S rk bs ∧
  ∀ o H', Same H H' → H o = none → MemoAt K H' true o S (List.replicate S.length none) 0 [] none → Q (.ref o) H'
theorem ok_KeepExact_empty (T : Txt K mg) : FD P w K mg base CX0 13 d_KeepExact_empty ["self"] (spEmpty K) := by
  have F := cmf T true
  obtain ⟨f1, iF, iG⟩ := (ok_Memo_init (P := P) (w := w) (base := base) T true).ex
  refine fd_of T.d_KeepExact_empty sc_KeepExact_empty (fun vs H Q E h => ?_) (fun cdv A outer s H vs Q E hr h => ?_)
  · obtain ⟨m, S, rk, bs, b, cnt, log, lim, rfl, _⟩ := h
    rfl
  · obtain ⟨m, S, rk, bs, b, cnt, log, lim, rfl, ⟨⟨dx, sys, tb, lt, es, h1, h2, h3, h4, h5⟩⟩, ok, hQ⟩ := h
    refine ⟨_, (pss_one (ps_ret (pe_make T.k_KeepExact iG (hr.mono (by decide)) rfl T.g_KeepExact (FunD.bindsN iF b_Memo_init) .nil pass0 (pa_cons (pe_fldK K rfl (pv 0) rfl) pa_nil)))), ?_⟩
    refine ⟨_, rfl, m, _, dx, _, _, rfl, h1, F.c, F.present, rfl, fun x dx' hx hdx ne => ?_⟩
    have sm := made_same (C := He.ga K "KeepExact") hx hdx ne
    exact ⟨x, dx', sys, S, rk, bs, rfl, upd_same, h2.mono (same_sk sm), ok, fun H1 k1 hM => ⟨rfl, hQ x H1 (butx_same hx hdx ne k1) hx hM⟩⟩
def spTwin (K : PySem.W.Frag) : Sp := fun vs H Q _ => ∃ (m : Addr) (S : Sys) (rk : Nat → Nat) (bs : Nat) (b : Board) (cnt : Nat) (log : List Ev) (lim : Option Nat), vs = [.ref m] ∧ MemoAt K H true m S b cnt log lim ∧ SysOk S rk bs ∧ log.length ≤ 100000 ∧
  ∀ o H', Same H H' → H o = none → MemoAt K H' true o S b cnt log lim → Q (.ref o) H'
theorem ok_Memo_twin (T : Txt K mg) : FD P w K mg base CX0 14 d_Memo_twin ["self"] (spTwin K) := by
  refine fd_of T.d_Memo_twin sc_Memo_twin (fun vs H Q E h => ?_) (fun cdv A outer s H vs Q E hr h => ?_)
  · obtain ⟨m, S, rk, bs, b, cnt, log, lim, rfl, _⟩ := h
    rfl
  · obtain ⟨m, S, rk, bs, b, cnt, log, lim, rfl, hM, ok, hlen, hQ⟩ := h
    refine ⟨_, (pss_cons (ps_set (i := 1) sc_Memo_twin.nd rfl (by first | exact Or.inl rfl | exact Or.inr rfl | exact Or.inr (Or.inl rfl)) (pe_mdX0 (ok_KeepExact_empty T) hr pass0 T.c_KeepExact T.m_KeepExact_empty rfl b_KeepExact_empty (pv 0))) (pss_cons (ps_expr (pe_mdX (ok_Memo_restore T) hr pass0 T.c_KeepExact T.m_KeepExact_restore rfl b_Memo_restore (pv 1) (pa_cons (pv 0) pa_nil))) (pss_one (ps_ret (pv 1))))), ?_⟩
    have ⟨⟨dx, sys, tb, lt, es, h1, _⟩⟩ := hM
    refine ⟨_, rfl, m, dx, _, rfl, h1, rfl, m, S, rk, bs, b, cnt, log, lim, rfl, hM, ok, fun o H1 s1 ho hO => ?_⟩
    have mo : m ≠ o := ne_of_none h1 ho
    have ⟨⟨do', so, to, lo, eo, o1, _⟩⟩ := hO
    refine ⟨_, rfl, o, do', _, rfl, o1, rfl, _, rfl, o, m, S, _, b, _, cnt, _, log, _, lim, rfl, Ne.symm mo, hO, hM.same s1, hlen, fun H2 k2 hO2 => ?_⟩
    exact ⟨_, rfl, hQ o H2 (fun a u h => k2.kp a u (ne_of_none h ho) (s1 _ _ h)) ho hO2⟩
end
end KW
/-! The walk, part 20: tried, answers. -/
namespace KW
open PySem PySem.Spec PyProof.Rows L2 KR K19 StX
/-- asks one behind another -/
def asks (ex : Bool) (S : Sys) : Board → Nat → List Ev → List Nat → List Int × Board × Nat × List Ev
  | b, cnt, log, [] => ([], b, cnt, log)
  | b, cnt, log, c :: cs => ((M ex S 13 ⟨b, 0, [], []⟩ [] c).1.val :: (asks ex S (M ex S 13 ⟨b, 0, [], []⟩ [] c).2.board (cnt + (M ex S 13 ⟨b, 0, [], []⟩ [] c).2.begun) (M ex S 13 ⟨b, 0, [], []⟩ [] c).2.log cs).1,
      (asks ex S (M ex S 13 ⟨b, 0, [], []⟩ [] c).2.board (cnt + (M ex S 13 ⟨b, 0, [], []⟩ [] c).2.begun) (M ex S 13 ⟨b, 0, [], []⟩ [] c).2.log cs).2)
def fitAll (lim : Option Nat) (ex : Bool) (S : Sys) : Board → List Nat → Prop
  | _, [] => True
  | b, c :: cs => fitsL lim (M ex S 13 ⟨b, 0, [], []⟩ [] c).2.begun ∧ fitAll lim ex S (M ex S 13 ⟨b, 0, [], []⟩ [] c).2.board cs
theorem asks_app (ex : Bool) (S : Sys) : ∀ (l : List Nat) (b : Board) (cnt : Nat) (log : List Ev) (c : Nat), asks ex S b cnt log (l ++ [c]) =
    ((asks ex S b cnt log l).1 ++ [(M ex S 13 ⟨(asks ex S b cnt log l).2.1, 0, [], []⟩ [] c).1.val], (M ex S 13 ⟨(asks ex S b cnt log l).2.1, 0, [], []⟩ [] c).2.board, (asks ex S b cnt log l).2.2.1 + (M ex S 13 ⟨(asks ex S b cnt log l).2.1, 0, [], []⟩ [] c).2.begun, (M ex S 13 ⟨(asks ex S b cnt log l).2.1, 0, [], []⟩ [] c).2.log)
  | [], b, cnt, log, c => rfl
  | a :: l, b, cnt, log, c => by
    rw [List.cons_append]
    unfold asks
    rw [asks_app ex S l]
    rfl
theorem fitAll_at {lim : Option Nat} {ex : Bool} {S : Sys} : ∀ (l : List Nat) (b : Board) (cnt : Nat) (log : List Ev) (i : Nat) (c : Nat), fitAll lim ex S b l → l[i]? = some c → fitsL lim (M ex S 13 ⟨(asks ex S b cnt log (l.take i)).2.1, 0, [], []⟩ [] c).2.begun
  | [], _, _, _, _, _, _, h => by simp at h
  | a :: l, b, cnt, log, 0, c, f, h => by simp at h; subst h; exact f.1
  | a :: l, b, cnt, log, i + 1, c, f, h => by
    have := fitAll_at l _ (cnt + (M ex S 13 ⟨b, 0, [], []⟩ [] a).2.begun) (M ex S 13 ⟨b, 0, [], []⟩ [] a).2.log i c f.2 (by simpa using h)
    exact this
theorem asks_ok {S : Sys} {rk : Nat → Nat} {bs : Nat} (ok : SysOk S rk bs) (ex : Bool) : ∀ (l : List Nat) (b : Board) (cnt : Nat) (log : List Ev), BoardOk S b → (∀ c ∈ l, c < S.length) → log.length ≤ 100000 → BoardOk S (asks ex S b cnt log l).2.1 ∧ (asks ex S b cnt log l).2.2.2.length ≤ 100000
  | [], b, _, _, h, _, hl => ⟨h, hl⟩
  | c :: l, b, _, _, h, hc, _ => asks_ok ok ex l _ _ _ (ask_ok ok (hc c List.mem_cons_self) h ex).mid.bok (fun x hx => hc x (List.mem_cons_of_mem _ hx)) (Nat.le_trans (ask_log ok (hc c List.mem_cons_self) h ex) (by decide))
theorem ask_some {ex : Bool} {S : Sys} {b : Board} {c : Nat} : 1 ≤ (M ex S 13 ⟨b, 0, [], []⟩ [] c).2.log.length := by
  have say : ∀ (s : K19.St) (e : Ev), 1 ≤ (s.say e).log.length := fun s e => by simp [St.say]
  show 1 ≤ (callB (M ex S 12) ex S ⟨b, 0, [], []⟩ [] c).2.log.length
  unfold callB
  split
  · exact say _ _
  · split
    · exact say _ _
    · unfold evalX
      split
      · exact say _ _
      · have g := (gr_runOps (F := fun s o => M ex S 12 s ([] ++ [c]) o) (fun s o => gr_M ex S 12 s ([] ++ [c]) o) (S.at c).ops (opened ⟨b, 0, [], []⟩ c)).trans (gr_close ex c (valueOf (S.at c).fn ((runOps (fun s o => M ex S 12 s ([] ++ [c]) o) (opened ⟨b, 0, [], []⟩ c) (S.at c).ops).1.map (·.val)))
          (taintOf c (runOps (fun s o => M ex S 12 s ([] ++ [c]) o) (opened ⟨b, 0, [], []⟩ c) (S.at c).ops).1) (usedOf c (runOps (fun s o => M ex S 12 s ([] ++ [c]) o) (opened ⟨b, 0, [], []⟩ c) (S.at c).ops).1) _)
        exact g.len
section
variable {P : Program} {w : World} {K : PySem.W.Frag} {mg : PySem.Str → Option Value} {base : Heap} {S : Sys} {lim : Option Nat} {b : Board} {cnt : Nat} {log : List Ev}
theorem b_Memo_tried : BindS d_Memo_tried ["self"] "cells" := fun kV doc pm an cdv ct => bind_star1 (B := fun us => bindArgs (PySem.W.fnOf d_Memo_tried.name d_Memo_tried.qual d_Memo_tried.params d_Memo_tried.body d_Memo_tried.scope .none kV doc pm an cdv ct) ⟨us, []⟩) (fun _ => rfl) (fun _ _ _ => rfl)
theorem sc_Memo_tried : FnScope ["self", "cells", "copy", "cell"] ([("self" : PySem.Str)] ++ [("cells" : PySem.Str)]) (defScope (inClass (top 47) 13)) := ⟨rfl, rfl, rfl, by decide +kernel, rfl, by decide +kernel, by decide +kernel⟩
theorem b_Memo_answers : BindS d_Memo_answers ["self"] "cells" := fun kV doc pm an cdv ct => bind_star1 (B := fun us => bindArgs (PySem.W.fnOf d_Memo_answers.name d_Memo_answers.qual d_Memo_answers.params d_Memo_answers.body d_Memo_answers.scope .none kV doc pm an cdv ct) ⟨us, []⟩) (fun _ => rfl) (fun _ _ _ => rfl)
theorem sc_Memo_answers : FnScope ["self", "cells", "copy", "found", "cell"] ([("self" : PySem.Str)] ++ [("cells" : PySem.Str)]) (defScope (inClass (top 47) 14)) := ⟨rfl, rfl, rfl, by decide +kernel, rfl, by decide +kernel, by decide +kernel⟩
def spTried0 (K : PySem.W.Frag) : Sp := fun vs H Q _ => ∃ (m p : Addr) (S : Sys) (rk : Nat → Nat) (bs : Nat) (b : Board) (cnt : Nat) (log : List Ev) (lim : Option Nat) (cs : List Nat), vs = [.ref m, .ref p] ∧ MemoAt K H true m S b cnt log lim ∧ H p = some (.tup (lV cs)) ∧ SysOk S rk bs ∧ BoardOk S b ∧ log.length ≤ 100000 ∧ cs.length ≤ 100 ∧ (∀ c ∈ cs, c < S.length) ∧ fitAll lim true S b cs ∧
  ∀ q H', Same H H' → SqT K H' q (zV (asks true S b cnt log cs).1) → Q (.ref q) H'
/-- the asks of a copy -/
theorem ask_lc {p o : Addr} {H1 : Hp} {rk : Nat → Nat} {bs : Nat} {cs : List Nat} {Qd : Addr → Hp → Prop} {σ : L2.St} {i : Nat} (ok : SysOk S rk bs) (bok : BoardOk S b) (hlen : log.length ≤ 100000) (hcs : cs.length ≤ 100) (hcN : ∀ c ∈ cs, c < S.length) (hfit : fitAll lim true S b cs) (hp : SqT K H1 p (lV cs)) (hO : MemoAt K H1 true o S b cnt log lim)
    (hi : i < σ.length) (ho : σ[2]? = some (some (.ref o))) (hi2 : i ≠ 2)
    (hd : ∀ H2 D, (∀ a u, a ≠ o → H1 a = some u → H2 a = some u) → H2 D = some (.lst (zV (asks true S b cnt log cs).1)) → MemoAt K H2 true o S (asks true S b cnt log cs).2.1 (asks true S b cnt log cs).2.2.1 (asks true S b cnt log cs).2.2.2 lim → Qd D H2) :
    ∀ D, H1 D = none → ∃ W : Nat → Nat → Hp → Prop, (∃ m, W 0 m (upd H1 D (.lst []))) ∧ ∀ j m H, W j m H → ((Itt K p).stop j H ∧ Qd D H) ∨ ((Itt K p).go j H ∧ ∃ Nx : Hp → Prop, (∀ H', Nx H' → ∃ m', m' < m ∧ W (j + 1) m' H') ∧ ∀ x H', (Itt K p).yld j H x H' → (gName i) x (wipe σ [i]) H' fun σ2 H2 => wipe σ2 [i] = wipe σ [i] ∧ tYes σ2 H2 fun b H3 =>
      if b = true then (tMeth (He.ga K "KeepExact") "ask" (spAsk K true) [] E0 (tVar 2) (tCons (tVar i) tNil)) σ2 H3 fun y H4 => ∃ acc, H4 D = some (.lst acc) ∧ acc.length < sizeLine ∧ Nx (upd H4 D (.lst (acc ++ [y]))) else Nx H3) := by
  intro D hD
  have lcs : (lV cs).length = cs.length := List.length_map _
  have oD : o ≠ D := by
    obtain ⟨⟨dx, sys, tb, lt, es, h1, _⟩⟩ := hO
    exact ne_of_none h1 hD
  refine turns (walk_tup (xs := lV cs)) (fun j H' => (∀ a u, a ≠ o → H1 a = some u → H' a = some u) ∧ SK K H1 H' ∧ H' D = some (.lst (zV (asks true S b cnt log (cs.take j)).1)) ∧ MemoAt K H' true o S (asks true S b cnt log (cs.take j)).2.1 (asks true S b cnt log (cs.take j)).2.2.1 (asks true S b cnt log (cs.take j)).2.2.2 lim)
    ⟨fun a u _ h => same_upd hD _ _ h, same_sk (same_upd hD), upd_same, hO.same (same_upd hD)⟩ (fun j H' _ q => q.2.1.tk _ _ hp) (fun j x H2 H3 hj q y => ?_) (fun H2 q => ?_)
  · obtain ⟨rfl, hx⟩ := y
    obtain ⟨c, hc, rfl⟩ := nat_at hx
    obtain ⟨k1, k2, eD, hM⟩ := q
    have hcm := List.mem_of_getElem? hc
    obtain ⟨bj, lj⟩ := asks_ok ok true (cs.take j) b cnt log bok (fun c hc => hcN c (List.mem_of_mem_take hc)) hlen
    have hf := fitAll_at cs b cnt log j c hfit hc
    have est : asks true S b cnt log (cs.take (j + 1)) = asks true S b cnt log (cs.take j ++ [c]) := by rw [List.take_add_one, hc]; rfl
    have hw : (wipe σ [i]) = σ.set i none := rfl
    refine ⟨?_, yesP (iteT ⟨.ref o, ?_, ?_⟩)⟩
    · show ((σ.set i none).set i (some (V.int (c : Nat)))).set i none = σ.set i none
      rw [List.set_set, List.set_set]
    · show ((σ.set i none).set i (some (V.int (c : Nat))))[2]? = _
      rw [List.getElem?_set_ne hi2, List.getElem?_set_ne hi2]
      exact ho
    · have ⟨⟨dx, sys, tb, lt, es, h1, _⟩⟩ := hM
      refine ⟨o, dx, _, rfl, h1, rfl, .int (c : Nat), ?_, o, S, rk, bs, _, _, _, lim, c, rfl, hM, ok, bj, hcN c hcm, fun _ H4 k4 hM4 => ?_, fun nf => absurd hf nf⟩
      · show ((σ.set i none).set i (some (V.int (c : Nat))))[i]? = _
        rw [List.getElem?_set_self (by rw [List.length_set]; exact hi)]
      · have eD4 := k4.kp _ _ (Ne.symm oD) eD
        have s5 : SK K H4 (upd H4 D (.lst (zV (asks true S b cnt log (cs.take j)).1 ++ [.int (M true S 13 ⟨(asks true S b cnt log (cs.take j)).2.1, 0, [], []⟩ [] c).1.val]))) := .upd eD4 (fun z => z)
        have lacc : (asks true S b cnt log (cs.take j)).1.length ≤ 100 := by
          have : ∀ (l : List Nat) (b : Board) (cnt : Nat) (log : List Ev), (asks true S b cnt log l).1.length = l.length := fun l => by
            induction l with
            | nil => intros; rfl
            | cons a l ih => intro b cnt log; unfold asks; rw [List.length_cons, ih, List.length_cons]
          rw [this, List.length_take]; omega
        refine ⟨_, eD4, by rw [List.length_map]; exact Nat.lt_of_le_of_lt lacc (by decide), fun a u na h => ?_, (k2.trans k4.sk).trans s5, ?_, ?_⟩
        · rw [upd_ne (ne_of_none h hD)]
          exact k4.kp a u na (k1 a u na h)
        · rw [est, asks_app, upd_same]
          simp [zV]
        · rw [est, asks_app]
          have ⟨⟨dx', sys', tb', lt', es', g1, g2, g3, g4, g5⟩⟩ := hM4
          have ne : lt' ≠ D := fun e => by
            rw [e, eD4] at g4
            have e1 := HO.lst.inj (Option.some.inj g4)
            have h0 := ask_some (ex := true) (S := S) (b := (asks true S b cnt log (cs.take j)).2.1) (c := c)
            cases es' with
            | nil => have := g5.length; rw [← this] at h0; simp at h0
            | cons a es => cases hz : (asks true S b cnt log (cs.take j)).1 with
              | nil => rw [hz] at e1; cases e1
              | cons z l => rw [hz] at e1; cases e1
          exact ⟨⟨dx', sys', tb', lt', es', by rw [upd_ne oD]; exact g1, g2.mono s5, s5 _ _ trivial g3, by rw [upd_ne ne]; exact g4, g5.mono s5⟩⟩
  · obtain ⟨k1, k2, eD, hM⟩ := q
    rw [lcs, List.take_length] at eD hM
    exact hd H2 D k1 eD hM
theorem ok_tried0 (T : Txt K mg) (TS : TxtS P K) (KB : K.In base) : FR P w K mg base CX0 47 d_Memo_tried (fun vs H Q E => ∃ ws rest, vs = ws ++ rest ∧ ws.length = [("self" : PySem.Str)].length ∧ rest.length ≤ sizeLine ∧ ∀ p, H p = Option.none → spTried0 K (ws ++ [V.ref p]) (upd H p (.tup rest)) Q E) := by
  obtain ⟨f1, aF, aG⟩ := (ok_Memo_ask (w := w) T TS KB true).ex
  refine fr_of T.d_Memo_tried sc_Memo_tried rfl b_Memo_tried (fun cdv A outer s H vs Q E hr h => ?_)
  obtain ⟨m, p, S, rk, bs, b, cnt, log, lim, cs, rfl, hM, hp, ok, bok, hlen, hcs, hcN, hfit, hQ⟩ := h
  refine ⟨_, (pss_cons (ps_set (i := 2) sc_Memo_tried.nd rfl (by first | exact Or.inl rfl | exact Or.inr rfl | exact Or.inr (Or.inl rfl)) (pe_mdX0 (ok_Memo_twin T) hr pass0 T.c_KeepExact T.m_KeepExact_twin rfl b_Memo_twin (pv 0))) (pss_one (ps_ret (pe_callTy call_tuple_of rfl T.f_tuple boot_tuple (pa_cons (pe_lc rfl sc_Memo_tried.nd (pi_tupK K rfl (pv 1)) (own := [("cell", 3)]) (blkOk_by (by kernel_rfl)) (fun _ _ _ _ _ => (pg_name (i := 3) sc_Memo_tried.nd rfl (by first | exact Or.inl rfl | exact Or.inr rfl | exact Or.inr (Or.inl rfl)))) (fun _ _ _ _ _ => pts_nil) (fun _ _ _ _ _ => (pe_meth (pv 2) T.c_KeepExact T.m_KeepExact_ask aG hr (FunD.bindsN aF b_Memo_ask) .nil passE0 (pa_cons (pv 3) pa_nil)))) pa_nil))))), ?_⟩
  have ⟨⟨dx, sys, tb, lt, es, h1, _⟩⟩ := hM
  refine ⟨_, rfl, m, dx, _, rfl, h1, rfl, m, S, rk, bs, b, cnt, log, lim, rfl, hM, ok, hlen, fun o H1 s1 ho hO => ?_⟩
  have hp1 : SqT K H1 p (lV cs) := .inl (.inl (s1 _ _ hp))
  refine ⟨_, rfl, p, rfl, ⟨_, hp1⟩, ask_lc ok bok hlen hcs hcN hfit hp1 hO (by simp [L2.start]) rfl (by decide) fun H2 D k2 hD hM2 => ?_⟩
  have s2 : Same H H2 := fun a u h => k2 a u (ne_of_none h ho) (s1 _ _ h)
  exact ⟨D, _, rfl, .inl ⟨.inl (.inl hD), fun q hq => hQ q _ (Same.trans s2 (same_upd hq)) sqT_upd⟩⟩
def spTried (K : PySem.W.Frag) : Sp := fun vs H Q _ => ∃ (m : Addr) (S : Sys) (rk : Nat → Nat) (bs : Nat) (b : Board) (cnt : Nat) (log : List Ev) (lim : Option Nat) (cs : List Nat), vs = .ref m :: lV cs ∧ MemoAt K H true m S b cnt log lim ∧ SysOk S rk bs ∧ BoardOk S b ∧ log.length ≤ 100000 ∧ cs.length ≤ 100 ∧ (∀ c ∈ cs, c < S.length) ∧ fitAll lim true S b cs ∧
  ∀ q H', Same H H' → SqT K H' q (zV (asks true S b cnt log cs).1) → Q (.ref q) H'
theorem ok_Memo_tried (T : Txt K mg) (TS : TxtS P K) (KB : K.In base) : FR P w K mg base CX0 47 d_Memo_tried (spTried K) := (ok_tried0 T TS KB).imp fun vs H Q E ⟨m, S, rk, bs, b, cnt, log, lim, cs, e, hM, ok, bok, hlen, hcs, hcN, hfit, hQ⟩ =>
  ⟨[.ref m], lV cs, e, rfl, by rw [List.length_map]; exact Nat.le_trans hcs (by decide), fun p hp => ⟨m, p, S, rk, bs, b, cnt, log, lim, cs, rfl, hM.same (same_upd hp), upd_same, ok, bok, hlen, hcs, hcN, hfit, fun q H' s => hQ q H' (Same.trans (same_upd hp) s)⟩⟩
def spAnswers0 (K : PySem.W.Frag) : Sp := fun vs H Q _ => ∃ (m p : Addr) (S : Sys) (rk : Nat → Nat) (bs : Nat) (b : Board) (cnt : Nat) (log : List Ev) (lim : Option Nat) (cs : List Nat), vs = [.ref m, .ref p] ∧ MemoAt K H true m S b cnt log lim ∧ H p = some (.tup (lV cs)) ∧ SysOk S rk bs ∧ BoardOk S b ∧ log.length ≤ 100000 ∧ cs.length ≤ 100 ∧ (∀ c ∈ cs, c < S.length) ∧ fitAll lim true S b cs ∧
  ∀ q H', ButX K m H H' → MemoAt K H' true m S (asks true S b cnt log cs).2.1 (asks true S b cnt log cs).2.2.1 (asks true S b cnt log cs).2.2.2 lim → SqT K H' q (zV (asks true S b cnt log cs).1) → Q (.ref q) H'
theorem ok_answers0 (T : Txt K mg) (TS : TxtS P K) (KB : K.In base) : FR P w K mg base CX0 47 d_Memo_answers (fun vs H Q E => ∃ ws rest, vs = ws ++ rest ∧ ws.length = [("self" : PySem.Str)].length ∧ rest.length ≤ sizeLine ∧ ∀ p, H p = Option.none → spAnswers0 K (ws ++ [V.ref p]) (upd H p (.tup rest)) Q E) := by
  obtain ⟨f1, aF, aG⟩ := (ok_Memo_ask (w := w) T TS KB true).ex
  refine fr_of T.d_Memo_answers sc_Memo_answers rfl b_Memo_answers (fun cdv A outer s H vs Q E hr h => ?_)
  obtain ⟨m, p, S, rk, bs, b, cnt, log, lim, cs, rfl, hM, hp, ok, bok, hlen, hcs, hcN, hfit, hQ⟩ := h
  refine ⟨_, (pss_cons (ps_set (i := 2) sc_Memo_answers.nd rfl (by first | exact Or.inl rfl | exact Or.inr rfl | exact Or.inr (Or.inl rfl)) (pe_mdX0 (ok_Memo_twin T) hr pass0 T.c_KeepExact T.m_KeepExact_twin rfl b_Memo_twin (pv 0))) (pss_cons (ps_set (i := 3) sc_Memo_answers.nd rfl (by first | exact Or.inl rfl | exact Or.inr rfl | exact Or.inr (Or.inl rfl)) (pe_callTy call_tuple_of rfl T.f_tuple boot_tuple (pa_cons (pe_lc rfl sc_Memo_answers.nd (pi_tupK K rfl (pv 1)) (own := [("cell", 4)]) (blkOk_by (by kernel_rfl)) (fun _ _ _ _ _ => (pg_name (i := 4) sc_Memo_answers.nd rfl (by first | exact Or.inl rfl | exact Or.inr rfl | exact Or.inr (Or.inl rfl)))) (fun _ _ _ _ _ => pts_nil) (fun _ _ _ _ _ => (pe_meth (pv 2) T.c_KeepExact T.m_KeepExact_ask aG hr (FunD.bindsN aF b_Memo_ask) .nil passE0 (pa_cons (pv 4) pa_nil)))) pa_nil))) (pss_cons (ps_expr (pe_mdX (ok_Memo_restore T) hr pass0 T.c_KeepExact T.m_KeepExact_restore rfl b_Memo_restore (pv 0) (pa_cons (pv 2) pa_nil))) (pss_one (ps_ret (pv 3)))))), ?_⟩
  have ⟨⟨dx, sys, tb, lt, es, h1, _⟩⟩ := hM
  refine ⟨_, rfl, m, dx, _, rfl, h1, rfl, m, S, rk, bs, b, cnt, log, lim, rfl, hM, ok, hlen, fun o H1 s1 ho hO => ?_⟩
  have hp1 : SqT K H1 p (lV cs) := .inl (.inl (s1 _ _ hp))
  have mo : m ≠ o := ne_of_none h1 ho
  obtain ⟨_, lj⟩ := asks_ok ok true cs b cnt log bok hcN hlen
  refine ⟨_, rfl, p, rfl, ⟨_, hp1⟩, ask_lc ok bok hlen hcs hcN hfit hp1 hO (by simp [L2.start]) rfl (by decide) fun H2 D k2 hD hM2 => ?_⟩
  have s2 : Same H H2 := fun a u h => k2 a u (ne_of_none h ho) (s1 _ _ h)
  refine ⟨D, _, rfl, .inl ⟨.inl (.inl hD), fun q hq => ?_⟩⟩
  have s3 := same_upd (o := .tup (zV (asks true S b cnt log cs).1)) hq
  have ⟨⟨dx', sys', tb', lt', es', g1, _⟩⟩ := hM2
  have s13 := Same.trans s2 s3
  refine ⟨_, rfl, m, dx, _, rfl, s13 _ _ h1, rfl, _, rfl, m, o, S, b, _, cnt, _, log, _, lim, lim, rfl, mo, hM.same s13, hM2.same s3, lj, fun H4 k4 hM4 => ?_⟩
  exact ⟨_, rfl, hQ q H4 ⟨(same_sk s13).trans k4.sk, fun a u n h => k4.kp a u n (s13 _ _ h)⟩ hM4 (k4.sk.tk _ _ sqT_upd)⟩
def spAnswers (K : PySem.W.Frag) : Sp := fun vs H Q _ => ∃ (m : Addr) (S : Sys) (rk : Nat → Nat) (bs : Nat) (b : Board) (cnt : Nat) (log : List Ev) (lim : Option Nat) (cs : List Nat), vs = .ref m :: lV cs ∧ MemoAt K H true m S b cnt log lim ∧ SysOk S rk bs ∧ BoardOk S b ∧ log.length ≤ 100000 ∧ cs.length ≤ 100 ∧ (∀ c ∈ cs, c < S.length) ∧ fitAll lim true S b cs ∧
  ∀ q H', ButX K m H H' → MemoAt K H' true m S (asks true S b cnt log cs).2.1 (asks true S b cnt log cs).2.2.1 (asks true S b cnt log cs).2.2.2 lim → SqT K H' q (zV (asks true S b cnt log cs).1) → Q (.ref q) H'
theorem ok_Memo_answers (T : Txt K mg) (TS : TxtS P K) (KB : K.In base) : FR P w K mg base CX0 47 d_Memo_answers (spAnswers K) := (ok_answers0 T TS KB).imp fun vs H Q E ⟨m, S, rk, bs, b, cnt, log, lim, cs, e, hM, ok, bok, hlen, hcs, hcN, hfit, hQ⟩ =>
  ⟨[.ref m], lV cs, e, rfl, by rw [List.length_map]; exact Nat.le_trans hcs (by decide), fun p hp => ⟨m, p, S, rk, bs, b, cnt, log, lim, cs, rfl, hM.same (same_upd hp), upd_same, ok, bok, hlen, hcs, hcN, hfit, fun q H' k => hQ q H' ⟨(same_sk (same_upd hp)).trans k.sk, fun a u n h => k.kp a u n (same_upd hp _ _ h)⟩⟩⟩
end
end KW
/-! The walk, part 21: edit. -/
namespace KW
open PySem PySem.Spec PyProof.Rows L2 KR K19 StX
theorem reguess_sys {S : Sys} {rk : Nat → Nat} {bs c : Nat} {g : Int} (ok : SysOk S rk bs) (hc : c < S.length) (hg : Lev g) : SysOk (reguess S c g) rk bs := by
  have hl : (reguess S c g).length = S.length := List.length_set
  have ha : ∀ i, ((reguess S c g).at i).ops = (S.at i).ops ∧ ((reguess S c g).at i).fn = (S.at i).fn := fun i => by
    unfold reguess
    rw [at_set hc]
    by_cases e : i = c
    · subst e; rw [if_pos rfl]; exact ⟨rfl, rfl⟩
    · rw [if_neg e]; exact ⟨rfl, rfl⟩
  refine ⟨by rw [hl]; exact ok.pos, by rw [hl]; exact ok.len, ok.bs6, fun i hi => ?_, fun i hi => ?_, fun i hi => ?_, fun i hi => ?_, fun r => ?_, fun i hi => ?_, fun i hi => ?_⟩
  · rw [(ha i).1]; exact ok.ops8 i (hl ▸ hi)
  · rw [(ha i).1]; exact ok.opsN i (hl ▸ hi)
  · rw [(ha i).1, hl]; exact ok.opsL i (hl ▸ hi)
  · rw [(ha i).1]; exact ok.opsR i (hl ▸ hi)
  · rw [hl]; exact ok.blk r
  · rw [(ha i).2]; exact ok.fnOk i (hl ▸ hi)
  · unfold reguess
    rw [at_set hc]
    by_cases e : i = c
    · rw [if_pos e]; exact hg
    · rw [if_neg e]; exact ok.gOk i (hl ▸ hi)
/-- the stored results that an edit of c costs -/
noncomputable def lostOf (S : Sys) (b : Board) (c : Nat) : List Nat := (deps S c).filter fun o => (bat b o).isSome
noncomputable def editB (S : Sys) (b : Board) (c : Nat) : Board := (List.range b.length).map fun i => if i ∈ lostOf S b c then none else bat b i
theorem editB_ok {S : Sys} {b : Board} {c : Nat} {g : Int} (h : BoardOk S b) : BoardOk (reguess S c g) (editB S b c) := by
  have hl : (editB S b c).length = b.length := by unfold editB; rw [List.length_map, List.length_range]
  refine ⟨by rw [hl, h.len]; exact List.length_set.symm, fun i v hv => ?_⟩
  have hi : i < b.length := by
    by_cases hi : i < b.length
    · exact hi
    · unfold bat at hv
      rw [List.getD_eq_getElem?_getD, List.getElem?_eq_none (by omega)] at hv
      cases hv
  have e : bat (editB S b c) i = if i ∈ lostOf S b c then none else bat b i := by
    unfold bat editB
    rw [List.getD_eq_getElem?_getD, List.getElem?_map, List.getElem?_range hi]
    rfl
  rw [e] at hv
  by_cases hm : i ∈ lostOf S b c
  · rw [if_pos hm] at hv; cases hv
  · rw [if_neg hm] at hv; exact h.lev i v hv
section
variable {P : Program} {w : World} {K : PySem.W.Frag} {mg : PySem.Str → Option Value} {base : Heap} {S : Sys} {lim : Option Nat} {b : Board} {cnt : Nat} {log : List Ev}
def spEdit (K : PySem.W.Frag) (ex : Bool) : Sp := fun vs H Q _ => ∃ (m : Addr) (S : Sys) (rk : Nat → Nat) (bs : Nat) (b : Board) (cnt : Nat) (log : List Ev) (lim : Option Nat) (c : Nat) (g : Int), vs = [.ref m, .int c, .non, .non, .int g] ∧ MemoAt K H ex m S b cnt log lim ∧ SysOk S rk bs ∧ BoardOk S b ∧ c < S.length ∧ Lev g ∧
  ∀ q H', ButX K m H H' → MemoAt K H' ex m (reguess S c g) (editB S b c) cnt log lim → SqT K H' q (lV (lostOf S b c)) → Q (.ref q) H'
theorem ok_Memo_edit (T : Txt K mg) (ex : Bool) : FD P w K mg base CX0 11 d_Memo_edit ["self", "cell", "operands", "function", "guess"] (spEdit K ex) := by
  have F := cmf T ex
  obtain ⟨up, F_pol⟩ := F.policy
  obtain ⟨f1, rF, rG⟩ := (ok_System_replaced (P := P) (w := w) (base := base) T).ex
  have rK : ∃ mv : List Value, KBn K f1 ["self", "cell", "operands", "function", "guess"] 2 ["operands", "function", "guess"] (fun us ws => us ++ ws) (fun vs zs => vs ++ zs) :=
    FunD.kbinds0 rF 2 ["operands", "function", "guess"] [] (fun us mv ws => us ++ ws) (by intro h; cases h) (fun q hq => by cases hq) (fun r1 r2 r3 => r1.append r3)
      fun D doc pm an cdv ct us mv ws l1 l2 l3 => match us, mv, ws, l1, l2, l3 with
        | [_, _], [], [_, _, _], _, _, _ => rfl
  obtain ⟨_, rK⟩ := rK
  refine fd_of T.d_Memo_edit sc_Memo_edit (fun vs H Q E h => ?_) (fun cdv A outer s H vs Q E hr h => ?_)
  · obtain ⟨m, S, rk, bs, b, cnt, log, lim, c, g, rfl, _⟩ := h
    rfl
  · obtain ⟨m, S, rk, bs, b, cnt, log, lim, c, g, rfl, hM, ok, bok, hc, hg, hQ⟩ := h
    refine ⟨_, (pss_cons (ps_set (i := 5) sc_Memo_edit.nd rfl (by first | exact Or.inl rfl | exact Or.inr rfl | exact Or.inr (Or.inl rfl)) (pe_methN (pe_fldK K rfl (pv 0) rfl) T.c_System T.m_System_replaced rG (hr.mono (by decide)) rK pass0 (pa_cons (pv 1) pa_nil) (pk_cons (pv 2) (pk_cons (pv 3) (pk_cons (pv 4) pk_nil))))) (pss_cons (ps_expr (pe_def (ok_need_fitting T) hr rfl T.g_need_fitting rfl b_need_fitting (pa_cons (pe_conK K rfl (pv 0) rfl) (pa_cons (pv 5) pa_nil)))) (pss_cons (ps_set (i := 6) sc_Memo_edit.nd rfl (by first | exact Or.inl rfl | exact Or.inr rfl | exact Or.inr (Or.inl rfl)) (pe_lc rfl sc_Memo_edit.nd (pi_tupK K rfl (pe_def (ok_dependents T) hr rfl T.g_dependents rfl b_dependents (pa_cons (pe_fldK K rfl (pv 0) rfl) (pa_cons (pv 1) pa_nil)))) (own := [("other", 7)]) (blkOk_by (by kernel_rfl)) (fun _ _ _ _ _ => (pg_name (i := 7) sc_Memo_edit.nd rfl (by first | exact Or.inl rfl | exact Or.inr rfl | exact Or.inr (Or.inl rfl)))) (fun _ _ _ _ _ => (pts_one (pt_cmpR op_notN (pe_ix (ix_K K rfl) (pe_fldK K rfl (pv 0) rfl) (pv 7) (fun _ _ => rfl)) pe_non (nomark _)))) (fun _ _ _ _ _ => (pv 7)))) (pss_cons (ps_fld (pv 0) (pe_callTy call_tuple_of rfl T.f_tuple boot_tuple (pa_cons (pe_lc rfl sc_Memo_edit.nd (pi_enumT rfl T.f_enumerate (pa_cons (pe_fldK K rfl (pv 0) rfl) pa_nil)) (own := [("other", 7), ("value", 8)]) (blkOk_by (by kernel_rfl)) (fun _ _ _ _ _ => (pg_tupK (n := 2) K rfl rfl (pgs_cons (pg_name (i := 7) sc_Memo_edit.nd rfl (by first | exact Or.inl rfl | exact Or.inr rfl | exact Or.inr (Or.inl rfl))) (pgs_cons (pg_name (i := 8) sc_Memo_edit.nd rfl (by first | exact Or.inl rfl | exact Or.inr rfl | exact Or.inr (Or.inl rfl))) pgs_nil)))) (fun _ _ _ _ _ => pts_nil) (fun _ _ _ _ _ => (pe_ifExp (pt_cmpR (op_inK K rfl) (pv 7) (pv 6) rfl) pe_non (pv 8)))) pa_nil)) rfl) (pss_cons (ps_fld (pv 0) (pv 5) rfl) (pss_one (ps_ret (pe_callTy call_tuple_of rfl T.f_tuple boot_tuple (pa_cons (pv 6) pa_nil))))))))), ?_⟩
    have ⟨⟨dx, sys, tb, lt, es, h1, h2, h3, h4, h5⟩⟩ := hM
    have ⟨dxs, ts, pss, hs1, _⟩ := h2
    have small : ∀ {n : Nat}, n ≤ 1000 → n < sizeLine := fun h => Nat.lt_of_le_of_lt h (by decide)
    have bl : b.length ≤ 12 := by rw [bok.len]; exact ok.len
    -- later
    refine ⟨_, rfl, m, _, dx, _, _, rfl, h1, F.c, F.present, rfl, sys, dxs, _, rfl, hs1, rfl, _, rfl, _, rfl, _, rfl, _, rfl, rfl, rfl, sys, S, c, g, rfl, h2, sok_of ok, hc, hg, fun l H1 s1 _ hl => ?_⟩
    refine ⟨_, rfl, m, _, dx, _, _, up, rfl, s1 _ _ h1, F.c, F_pol, rfl, _, rfl, l, reguess S c g, rk, bs, rfl, hl, reguess_sys ok hc hg, fun H2 s2 => ?_⟩
    have s12 := Same.trans s1 s2
    -- lost
    refine ⟨_, rfl, m, _, dx, _, _, rfl, s12 _ _ h1, F.c, F.present, rfl, _, rfl, sys, S, rk, bs, c, rfl, h2.mono (same_sk s12), ok, hc, fun dp H3 s3 hdp => ⟨dp, rfl, ⟨_, hdp⟩, fun D hD => ?_⟩⟩
    have s13 := Same.trans s12 s3
    have ld : (lV (deps S c)).length = (deps S c).length := List.length_map _
    have dl : (deps S c).length ≤ 12 := by
      unfold deps
      refine Nat.le_trans (List.length_filter_le _ _) ?_
      rw [List.length_range]; exact ok.len
    refine lc_same (walk_tup (xs := lV (deps S c))) (fun i acc _ => acc = lV (((deps S c).take i).filter fun o => (bat b o).isSome)) hD (by rw [ld]; exact small (by omega)) (fun H' s => same_tk s _ _ hdp) (fun _ _ => rfl) (fun i x H4 H5 acc K1 K0 hi s4 _ _ ea y k1 k0 => ?_) (fun H4 acc s4 ed ea => ?_)
    · obtain ⟨rfl, hx⟩ := y
      obtain ⟨v, hv, rfl⟩ := nat_at hx
      have hvS : v < S.length := by
        have := List.mem_of_getElem? hv
        unfold deps at this
        exact List.mem_range.mp (List.mem_filter.mp this).1
      have s14 := Same.trans s13 s4
      have hat : atI (b.map bV) (v : Int) = some (bV (bat b v)) := at_nat (by omega) (by rw [Int.toNat_natCast]; exact board_at (by rw [bok.len]; exact hvS))
      refine ⟨rfl, _, rfl, m, _, dx, _, _, rfl, s14 _ _ h1, F.c, F.stored, rfl, _, rfl, .inr (.inl ⟨_, _, _, _, rfl, rfl, .inl (.inl (s14 _ _ h3)), hat, rfl, _, rfl, ?_⟩)⟩
      have etk : ((deps S c).take (i + 1)).filter (fun o => (bat b o).isSome) = ((deps S c).take i).filter (fun o => (bat b o).isSome) ++ [v].filter (fun o => (bat b o).isSome) := by
        rw [List.take_add_one, hv, List.filter_append]; rfl
      cases hb : bat b v with
      | none =>
        refine iteF (k0 _ (Same.refl _) ?_)
        rw [ea, etk]
        simp [hb]
      | some z =>
        refine iteT ⟨_, rfl, k1 _ _ (Same.refl _) fun H9 _ => ?_⟩
        rw [ea, etk, lV_app]
        simp [hb, lV]
    · rw [ld, List.take_length] at ea
      have ea : acc = lV (lostOf S b c) := ea
      subst ea
      have s14 := Same.trans s13 s4
      have hl4 := hl.mono (same_sk (K := K) (Same.trans s2 (Same.trans s3 s4)))
      have m4 := s14 _ _ h1
      have t4 := s14 _ _ h3
      have lb : (b.map bV).length = b.length := List.length_map _
      -- stored
      refine ⟨_, rfl, m, _, dx, _, _, rfl, m4, F.c, F.stored, rfl, tb, _, rfl, t4, fun D2 hD2 => ?_⟩
      refine lc_same (walk_enumT (xs := b.map bV)) (fun i acc _ => acc = ((editB S b c).take i).map bV) hD2 (by rw [lb]; exact small (by omega)) (fun H' s => s _ _ t4) (fun _ _ => rfl) (fun i x H5 H6 acc K1 K0 hi s5 _ _ ea y k1 k0 => ?_) (fun H5 acc s5 ed5 ea => ?_)
      · obtain ⟨T0, x0, y0, rfl, hT, rfl, e1, e2⟩ := y
        cases e1
        have hi' : i < b.length := by rw [← lb]; exact hi
        have e2' : y0 = bV (bat b i) := by
          have h9 : (b.map bV)[i]? = some y0 := e2
          rw [board_at hi'] at h9
          exact (Option.some.inj h9).symm
        subst e2'
        have s6 := same_upd (o := .tup [.int (i : Nat), bV (bat b i)]) hT
        have ed6 := s6 _ _ (s5 _ _ ed)
        have ee : ((editB S b c).take (i + 1)).map bV = ((editB S b c).take i).map bV ++ [bV (if i ∈ lostOf S b c then none else bat b i)] := by
          have h9 : (editB S b c)[i]? = some (if i ∈ lostOf S b c then none else bat b i) := by
            unfold editB
            rw [List.getElem?_map, List.getElem?_range hi']
            rfl
          rw [List.take_add_one, h9, List.map_append]
          rfl
        refine ⟨_, _, rfl, sqT_upd, rfl, _, _, rfl, _, _, rfl, rfl, rfl, yesP (iteT ⟨_, rfl, _, rfl, D, lV (lostOf S b c), rfl, .inl (.inl (.inl ed6)), rfl, flat_nat _, _, rfl, ?_⟩)⟩
        rw [inV_nat]
        by_cases hm : i ∈ lostOf S b c
        · rw [decide_eq_true hm]
          refine iteT (k1 _ _ s6 fun H9 _ => ?_)
          rw [ee, if_pos hm, ea]
          rfl
        · rw [decide_eq_false hm]
          refine iteF ⟨_, rfl, k1 _ _ s6 fun H9 _ => ?_⟩
          rw [ee, if_neg hm, ea]
      · have leb : (editB S b c).length = b.length := by unfold editB; rw [List.length_map, List.length_range]
        rw [lb, ← leb, List.take_length] at ea
        subst ea
        refine ⟨D2, _, rfl, .inl ⟨.inl (.inl ed5), fun q hq => ?_⟩⟩
        have s6 := same_upd (o := .tup ((editB S b c).map bV)) hq
        have s46 := Same.trans s5 s6
        have m6 := s46 _ _ m4
        have q6 : upd H5 q (.tup ((editB S b c).map bV)) q = some (.tup ((editB S b c).map bV)) := upd_same
        have l6 := hl4.mono (same_sk (K := K) s46)
        have D6 := s46 _ _ ed
        have s06 := Same.trans s14 s46
        have lt6 := s06 _ _ h4
        have e6 := h5.mono (same_sk (K := K) s06)
        refine ⟨_, rfl, m, _, dx, _, rfl, m6, F.c, F.stored, (by show 5 < 1000; decide), ?_⟩
        have b7 := ((ButX.refl K m H).same s06).upd (fs' := memoFs sys q cnt lt lim) m6 F.ne
        have k7 : SK K (upd H5 q (.tup ((editB S b c).map bV))) (upd (upd H5 q (.tup ((editB S b c).map bV))) m (.ins (CM K ex) dx (memoFs sys q cnt lt lim))) := .upd m6 F.ne
        have m7 : upd (upd H5 q (.tup ((editB S b c).map bV))) m (.ins (CM K ex) dx (memoFs sys q cnt lt lim)) m = some (.ins (CM K ex) dx (memoFs sys q cnt lt lim)) := upd_same
        have D7 : upd (upd H5 q (.tup ((editB S b c).map bV))) m (.ins (CM K ex) dx (memoFs sys q cnt lt lim)) D = some (.lst (lV (lostOf S b c))) := by rw [upd_ne (ne_of D6 m6 (by simp))]; exact D6
        have lt7 : upd (upd H5 q (.tup ((editB S b c).map bV))) m (.ins (CM K ex) dx (memoFs sys q cnt lt lim)) lt = some (.lst (rV es)) := by rw [upd_ne (ne_of lt6 m6 (by simp))]; exact lt6
        show (tSeq _ _) _ _ (upd (upd H5 q (.tup ((editB S b c).map bV))) m (.ins (CM K ex) dx (memoFs sys q cnt lt lim)))
        have q7 := k7 q (.tup _) trivial q6
        have l7 := l6.mono k7
        have e7 := e6.mono k7
        generalize upd (upd H5 q (.tup ((editB S b c).map bV))) m (.ins (CM K ex) dx (memoFs sys q cnt lt lim)) = H7 at *
        -- present
        refine ⟨_, rfl, _, rfl, m, _, dx, _, rfl, m7, F.c, F.present, (by show 5 < 1000; decide), ?_⟩
        have b8 := b7.upd (fs' := memoFs l q cnt lt lim) m7 F.ne
        have k8 : SK K H7 (upd H7 m (.ins (CM K ex) dx (memoFs l q cnt lt lim))) := .upd m7 F.ne
        have D8 : upd H7 m (.ins (CM K ex) dx (memoFs l q cnt lt lim)) D = some (.lst (lV (lostOf S b c))) := by rw [upd_ne (ne_of D7 m7 (by simp))]; exact D7
        have hM8 : MemoAt K (upd H7 m (.ins (CM K ex) dx (memoFs l q cnt lt lim))) ex m (reguess S c g) (editB S b c) cnt log lim :=
          ⟨⟨dx, l, q, lt, es, upd_same, l7.mono k8, k8 _ _ trivial q7, by rw [upd_ne (ne_of lt7 m7 (by simp))]; exact lt7, e7.mono k8⟩⟩
        refine ⟨_, rfl, D, _, rfl, .inl ⟨.inl (.inl D8), fun z hz => ?_⟩⟩
        have s9 := same_upd (o := .tup (lV (lostOf S b c))) hz
        exact hQ z _ (b8.same s9) (hM8.same s9) sqT_upd
end
end KW
/-! The walk, part 22: memos compared. -/
namespace KW
open PySem PySem.Spec PyProof.Rows L2 KR K19 StX
section
variable {P : Program} {w : World} {K : PySem.W.Frag} {mg : PySem.Str → Option Value} {base : Heap} {S : Sys} {lim : Option Nat} {b : Board} {cnt : Nat} {log : List Ev}
def bD : Option Int → PyData
  | none => .none
  | some v => .int v
theorem dpAll_b {H : Hp} : ∀ b : Board, DpAll K H (b.map bV) (b.map bD)
  | [] => .nil
  | none :: b => .cons .non (dpAll_b b)
  | some v :: b => .cons (.int v) (dpAll_b b)
theorem b_lay : ∀ b : Board, PyData.canLayAll0 (b.map bD) = true ∧ PyData.depthAll (b.map bD) = 0
  | [] => ⟨rfl, rfl⟩
  | none :: b => ⟨by rw [List.map_cons, PyData.canLayAll0, (b_lay b).1]; rfl, by rw [List.map_cons, PyData.depthAll, (b_lay b).2]; rfl⟩
  | some v :: b => ⟨by rw [List.map_cons, PyData.canLayAll0, (b_lay b).1]; rfl, by rw [List.map_cons, PyData.depthAll, (b_lay b).2]; rfl⟩
theorem sh_b (b : Board) : SeqAt.shaped (.tuple (b.map bD)) = true := by
  unfold SeqAt.shaped
  rw [PyData.canLay0, (b_lay b).1, PyData.depth, (b_lay b).2]; rfl
def spMemoEq (K : PySem.W.Frag) : Sp := fun vs H Q _ => ∃ (m o : Addr) (S : Sys) (b : Board) (cnt cnt' : Nat) (log log' : List Ev) (lim lim' : Option Nat), vs = [.ref m, .ref o] ∧ MemoAt K H true m S b cnt log lim ∧ MemoAt K H false o S b cnt' log' lim' ∧ Q (.bl true) H
theorem ok_Memo_eq (T : Txt K mg) : FD P w K mg base CX0 3 d_Memo_eq ["self", "other"] (spMemoEq K) := by
  have F := cmf T true
  have G := cmf T false
  obtain ⟨up, F_pol⟩ := F.policy
  obtain ⟨up', G_pol⟩ := G.policy
  obtain ⟨q1, q_table⟩ := T.p_KeepClean_table
  obtain ⟨q2, q_sys⟩ := T.p_KeepClean_system
  obtain ⟨f1, pF1, pG_table⟩ := (ok_Memo_table (P := P) (w := w) (base := base) T false).ex
  have pB_table := FunD.bindsN pF1 b_Memo_table
  obtain ⟨f2, pF2, pG_sys⟩ := (ok_Memo_system (P := P) (w := w) (base := base) T false).ex
  have pB_sys := FunD.bindsN pF2 b_Memo_system
  refine fd_of T.d_Memo_eq sc_Memo_eq (fun vs H Q E h => ?_) (fun cdv A outer s H vs Q E hr h => ?_)
  · obtain ⟨m, o, S, b, cnt, cnt', log, log', lim, lim', rfl, _⟩ := h
    rfl
  · obtain ⟨m, o, S, b, cnt, cnt', log, log', lim, lim', rfl, ⟨⟨dx, sys, tb, lt, es, h1, h2, h3, h4, h5⟩⟩, ⟨⟨dy, sys', tb', lt', es', g1, g2, g3, g4, g5⟩⟩, hQ⟩ := h
    have hu := Room.u64 hr
    refine ⟨_, (pss_cons (ps_if (PW.pt (pw_or (pt_not (pt_val (pe_callB (call_isiK' K rfl) rfl T.f_isinstance boot_isinstance (pa_cons (pv 1) (pa_cons (pe_gref rfl T.g_Memo) pa_nil))))) (pw_or1 (pt_cmpR op_ne (pe_conK K rfl (pv 0) rfl) (pe_conK K rfl (pv 1) rfl) (nomark _))))) (pss_one (ps_ret pe_bl)) pss_nil) (pss_one (ps_ret (pe_and (pe_cmpR (op_eqO (ok_System_eq T) T.m_System_eq T.nf_System hr rfl b_System_eq) (pe_fldK K rfl (pv 0) rfl) (pe_prop (pv 1) T.c_KeepClean q_sys pG_sys (hr.mono (by decide)) pB_sys .nil pass0 rfl) (nomark _)) (pe_one (pe_cmpR (op_eqDK K rfl hu) (pe_fldK K rfl (pv 0) rfl) (pe_prop (pv 1) T.c_KeepClean q_table pG_table (hr.mono (by decide)) pB_table .nil pass0 rfl) (nomark _))))))), ?_⟩
    have ⟨da, ta, pa, a1, _⟩ := h2
    have ⟨db, tb2, pb, b1, _⟩ := g2
    refine ⟨_, rfl, _, _, _, _, true, rfl, .own _, T.ty_KeepClean _ _ _ _ g1, T.ki_KeepClean_Memo, true, rfl, iteF ?_⟩
    refine ⟨_, rfl, m, _, dx, _, _, up, rfl, h1, F.c, F_pol, rfl, _, rfl, o, _, dy, _, _, up', rfl, g1, G.c, G_pol, rfl, rfl, _, rfl, iteFb (by decide +kernel) ?_⟩
    refine ⟨_, rfl, m, _, dx, _, _, rfl, h1, F.c, F.present, rfl, _, rfl, o, dy, _, rfl, g1, o, dy, _, _, rfl, g1, rfl, sys, da, _, sys', db, _, rfl, rfl, a1, b1, sys, sys', S, rfl, h2, g2, true, rfl, true, rfl, iteT ?_⟩
    refine ⟨_, rfl, m, _, dx, _, _, rfl, h1, F.c, F.stored, rfl, _, rfl, o, dy, _, rfl, g1, o, dy, _, _, rfl, g1, rfl, .tuple (b.map bD), .tuple (b.map bD), .tup (.inl (.inl h3)) (dpAll_b b), .tup (.inl (.inl g3)) (dpAll_b b), sh_b b, sh_b b, ?_⟩
    exact q_bl (SeqAt.eqv_refl _ (SeqAt.canLay_of_shaped (sh_b b))) hQ
end
end KW
/-! The walk, part 23: the law's pen. -/
namespace KW
open PySem PySem.Spec PyProof.Rows L2 KR K19 StX
section
variable {P : Program} {w : World} {K : PySem.W.Frag} {mg : PySem.Str → Option Value} {base : Heap}
structure PenAt (H : Hp) (p l : Addr) (ns : List Int) (turn rest : Int) : Prop where
  pen : H p = some (.lst [.ref l, .int turn, .int rest])
  lst : H l = some (.lst (zV ns))
  len : ns.length ≤ 63
  rest0 : 0 ≤ rest
  turn0 : 0 ≤ turn
def spPen (K : PySem.W.Frag) : Sp := fun vs H Q _ => ∃ (a : Addr) (ns : List Int), vs = [.ref a] ∧ SqL K H a (zV ns) ∧ ∀ p l ms H', Same H H' → H p = none → H l = none → PenAt H' p l ms 0 0 → Q (.ref p) H'
theorem ok__law_pen (T : Txt K mg) : FD P w K mg base CX0 1 d__law_pen ["_law_script"] (spPen K) := by
  refine fd_of T.d__law_pen sc__law_pen (fun vs H Q E h => ?_) (fun cdv A outer s H vs Q E hr h => ?_)
  · obtain ⟨a, ns, rfl, _⟩ := h
    rfl
  · obtain ⟨a, ns, rfl, ha, hQ⟩ := h
    refine ⟨_, (pss_one (ps_ret (pe_lst (pa_cons (pe_callTy call_list_of rfl T.f_list boot_list (pa_cons (pe_slice (sl_listK K rfl) (pv 0) po_none (po_some pe_int)) pa_nil)) (pa_cons pe_int (pa_cons pe_int pa_nil)))))), ?_⟩
    refine ⟨_, rfl, 63, rfl, a, _, rfl, ha, fun c hc => ?_⟩
    refine ⟨c, _, rfl, .inl sqL_upd, fun l hl => ⟨(by show 3 ≤ sizeLine; decide), fun p hp => ?_⟩⟩
    have e : cutV (zV ns) none (some 63) = zV (ns.take 63) := by
      rw [show (63 : Int) = ((63 : Nat) : Int) from rfl]
      unfold cutV
      rw [HT.sIx_none, HT.sIx_nat, Nat.sub_zero, List.drop_zero, zV, ← List.map_take]
      congr 1
      rw [List.length_map]
      by_cases h : 63 ≤ ns.length
      · rw [Nat.min_eq_left h]
      · rw [Nat.min_eq_right (by omega), List.take_of_length_le (Nat.le_refl _), List.take_of_length_le (by omega)]
    rw [e] at hl hp ⊢
    have lp : l ≠ p := by
      rintro rfl
      rw [upd_same] at hp
      cases hp
    have s1 := Same.trans (same_upd (o := .lst (zV (ns.take 63))) hc) (same_upd (o := .lst (zV (ns.take 63))) hl)
    refine hQ p l (ns.take 63) _ (Same.trans s1 (same_upd hp)) (s1.free hp) ((same_upd hc).free hl) ⟨upd_same, by rw [upd_ne lp, upd_same], by rw [List.length_take]; omega, by decide, by decide⟩
def spDraw (K : PySem.W.Frag) : Sp := fun vs H Q _ => ∃ (p l : Addr) (ns : List Int) (turn rest size : Int), vs = [.ref p, .int size] ∧ PenAt H p l ns turn rest ∧ 1 ≤ size ∧ size ≤ 1000 ∧ turn < 1000000 ∧
  ∀ r turn' rest' H', 0 ≤ r → r < size → turn ≤ turn' → turn' ≤ turn + 1 → Kp K [p] H H' → PenAt H' p l ns turn' rest' → Q (.int r) H'
theorem dz_sh (ns : List Int) : SeqAt.shaped (.list (ns.map PyData.int)) = true := by
  unfold SeqAt.shaped
  rw [PyData.canLay0, cl_z, PyData.depth, dz_z]; rfl
theorem ok__law_draw (T : Txt K mg) : FD P w K mg base CX0 1 d__law_draw ["_law_pen_here", "_law_size"] (spDraw K) := by
  refine fd_of T.d__law_draw sc__law_draw (fun vs H Q E h => ?_) (fun cdv A outer s H vs Q E hr h => ?_)
  · obtain ⟨p, l, ns, turn, rest, size, rfl, _⟩ := h
    rfl
  · obtain ⟨p, l, ns, turn, rest, size, rfl, hP, h1, h2, ht, hQ⟩ := h
    have hu := Room.u64 hr
    refine ⟨_, (pss_cons (ps_if (pt_cmpR op_gt (pe_ix (ix_K K rfl) (pv 0) pe_int (fun _ _ => rfl)) pe_int (nomark _)) (pss_cons (ps_set (i := 2) sc__law_draw.nd rfl (by first | exact Or.inl rfl | exact Or.inr rfl | exact Or.inr (Or.inl rfl)) (pe_op op_mod (pe_ix (ix_K K rfl) (pv 0) pe_int (fun _ _ => rfl)) (pv 1))) (pss_cons (ps_asg (pe_op op_fdiv (pe_ix (ix_K K rfl) (pv 0) pe_int (fun _ _ => rfl)) (pv 1)) (pg_sub (pv 0) pe_int set_list)) (pss_one (ps_ret (pv 2))))) pss_nil) (pss_cons (ps_set (i := 3) sc__law_draw.nd rfl (by first | exact Or.inl rfl | exact Or.inr rfl | exact Or.inr (Or.inl rfl)) (pe_ix (ix_K K rfl) (pv 0) pe_int (fun _ _ => rfl))) (pss_cons (ps_asg (pe_op op_add (pv 3) pe_int) (pg_sub (pv 0) pe_int set_list)) (pss_cons (ps_set (i := 4) sc__law_draw.nd rfl (by first | exact Or.inl rfl | exact Or.inr rfl | exact Or.inr (Or.inl rfl)) (pe_op op_add (pe_op op_mul pe_int (pv 3)) pe_int)) (Evl.pss_cut (ps_if (pt_cmpR (op_neDK K rfl hu) (pe_ix (ix_K K rfl) (pv 0) pe_int (fun _ _ => rfl)) (pe_lst pa_nil) (nomark _)) (pss_one (ps_set (i := 4) sc__law_draw.nd rfl (by first | exact Or.inl rfl | exact Or.inr rfl | exact Or.inr (Or.inl rfl)) (pe_ix (ix_K K rfl) (pe_ix (ix_K K rfl) (pv 0) pe_int (fun _ _ => rfl)) (pe_op op_mod (pv 3) (pe_callB (call_lenK K rfl) rfl T.f_len boot_len (pa_cons (pe_ix (ix_K K rfl) (pv 0) pe_int (fun _ _ => rfl)) pa_nil))) (fun _ _ => rfl)))) pss_nil) (Evl.pss_cut (ps_if (PW.pt (pw_and (pt_cmpR op_lt (pv 3) (pe_callB (call_lenK K rfl) rfl T.f_len boot_len (pa_cons (pe_ix (ix_K K rfl) (pv 0) pe_int (fun _ _ => rfl)) pa_nil)) (nomark _)) (pw_and1 (pt_cmpR op_ge (pe_callB call_abs rfl T.f_abs boot_abs (pa_cons (pv 4) pa_nil)) (pe_op op_pow pe_int pe_int) (nomark _))))) (pss_cons (ps_set (i := 5) sc__law_draw.nd rfl (by first | exact Or.inl rfl | exact Or.inr rfl | exact Or.inr (Or.inl rfl)) (pe_op op_add (pe_op op_mul pe_int (pe_callB call_abs rfl T.f_abs boot_abs (pa_cons (pv 4) pa_nil))) (pe_callTy call_int1 rfl T.f_int boot_int (pa_cons (pe_cmpR op_lt (pv 4) pe_int (nomark _)) pa_nil)))) (pss_cons (ps_asg (pe_op op_fdiv (pv 5) (pv 1)) (pg_sub (pv 0) pe_int set_list)) (pss_one (ps_ret (pe_op op_mod (pv 5) (pv 1)))))) pss_nil) (pss_cons (ps_set (i := 6) sc__law_draw.nd rfl (by first | exact Or.inl rfl | exact Or.inr rfl | exact Or.inr (Or.inl rfl)) (pe_op op_mod (pe_op op_pow (pe_op op_add (pe_op op_add (pe_op op_mod (pv 4) pe_int) (pe_op op_mul pe_int (pv 3))) pe_int) pe_int) pe_int)) (pss_cons (ps_set (i := 6) sc__law_draw.nd rfl (by first | exact Or.inl rfl | exact Or.inr rfl | exact Or.inr (Or.inl rfl)) (pe_op op_mod (pe_op op_pow (pe_op op_add (pe_op op_add (pe_op op_mul (pv 6) (pe_op op_add (pe_op op_mul pe_int (pv 3)) pe_int)) (pe_op op_mul (pe_op op_mul pe_int (pv 3)) (pv 3))) pe_int) pe_int) pe_int)) (pss_one (ps_ret (pe_op op_mod (pe_op op_fdiv (pv 6) pe_int) (pv 1)))))))))))), ?_⟩
    have hpen := hP.pen
    have sp : SqL K H p [.ref l, .int turn, .int rest] := .inl (.inl hpen)
    have pos : 0 < size := by omega
    have lpne : l ≠ p := by
      rintro rfl
      have := hP.lst
      rw [hpen] at this
      have e := HO.lst.inj (Option.some.inj this)
      cases ns with
      | nil => cases e
      | cons a ns => cases e
    have m0 := hP.rest0
    have t0 := hP.turn0
    refine ⟨_, rfl, .inl ⟨p, _, 2, .int rest, rfl, rfl, sp, at_two, _, _, rfl, rfl, _, rfl, ?_⟩⟩
    by_cases hr0 : 0 < rest
    · refine iteTb (decide_eq_true hr0) ?_
      refine ⟨_, rfl, .inl ⟨p, _, 2, .int rest, rfl, rfl, sp, at_two, _, rfl, _, _, rfl, rfl, pos, ?_⟩⟩
      refine ⟨_, rfl, .inl ⟨p, _, 2, .int rest, rfl, rfl, sp, at_two, _, rfl, _, _, rfl, rfl, ⟨pos, by omega⟩, ?_⟩⟩
      refine ⟨_, rfl, p, _, 2, 2, rfl, rfl, hpen, rfl, ?_⟩
      refine ⟨_, rfl, hQ _ turn (rest / size) _ (Int.emod_nonneg _ (by omega)) (Int.emod_lt_of_pos _ pos) (Int.le_refl _) (by omega) (Kp.upd List.mem_cons_self hpen (fun z => z)) ⟨upd_same, by rw [upd_ne lpne]; exact hP.lst, hP.len, Int.ediv_nonneg m0 (by omega), t0⟩⟩
    · refine iteFb (decide_eq_false hr0) ?_
      have r0 : rest = 0 := by omega
      -- turn
      refine ⟨_, rfl, .inl ⟨p, _, 1, .int turn, rfl, rfl, sp, at_one, ?_⟩⟩
      refine ⟨_, rfl, _, _, rfl, rfl, _, rfl, p, _, 1, 1, rfl, rfl, hpen, rfl, ?_⟩
      have k1 : Kp K [p] H (upd H p (.lst [.ref l, .int (turn + 1), .int rest])) := Kp.upd List.mem_cons_self hpen (fun z => z)
      have hP1 : PenAt (upd H p (.lst [.ref l, .int (turn + 1), .int rest])) p l ns (turn + 1) rest := ⟨upd_same, by rw [upd_ne lpne]; exact hP.lst, hP.len, m0, by omega⟩
      show (tSeq _ _) _ _ (upd H p (.lst [.ref l, .int (turn + 1), .int rest]))
      generalize upd H p (.lst [.ref l, .int (turn + 1), .int rest]) = H1 at *
      have sp1 : SqL K H1 p [.ref l, .int (turn + 1), .int rest] := .inl (.inl hP1.pen)
      -- spot
      refine ⟨_, rfl, _, _, rfl, rfl, .inl (by decide), _, _, rfl, rfl, ?_⟩
      refine ⟨fun σ' H' => ∃ spot : Int, σ' = [some (.ref p), some (.int size), none, some (.int turn), some (.int spot), none, none] ∧ Kp K [p] H H' ∧ PenAt H' p l ns (turn + 1) rest, ?_, ?_⟩
      · refine ⟨_, rfl, .inl ⟨p, _, 0, .ref l, rfl, rfl, sp1, at_zero, Nat.zero_le _, fun z hz => ⟨.list (ns.map PyData.int), .list [], ?_⟩⟩⟩
        have sz := same_upd (o := .lst []) hz
        have kz := k1.trans1 (same_kp (R := [p]) sz)
        have hPz : PenAt (upd H1 z (.lst [])) p l ns (turn + 1) rest := ⟨sz _ _ hP1.pen, sz _ _ hP1.lst, hP1.len, m0, hP1.turn0⟩
        refine ⟨.lst (.inl (.inl hPz.lst)) (dpAll_z ns), .lst sqL_upd .nil, dz_sh ns, dz_sh [], _, rfl, ?_⟩
        have eqn : PyData.eqv (.list (ns.map PyData.int)) (.list []) = (ns.map PyData.int).isEmpty := eqv_nil _
        cases ns with
        | nil => exact iteFb (by rw [eqn]; rfl) ⟨_, rfl, kz, hPz⟩
        | cons a ns =>
          refine iteTb (by rw [eqn]; rfl) ?_
          have spz : SqL K (upd H1 z (.lst [])) p [.ref l, .int (turn + 1), .int rest] := .inl (.inl hPz.pen)
          have slz : SqL K (upd H1 z (.lst [])) l (zV (a :: ns)) := .inl (.inl hPz.lst)
          have ll : ((zV (a :: ns)).length : Int) = ((a :: ns).length : Nat) := by rw [List.length_map]
          have lpos : (0 : Int) < ((zV (a :: ns)).length : Nat) := by rw [ll, List.length_cons]; omega
          have i1 := Int.emod_nonneg turn (show ((zV (a :: ns)).length : Int) ≠ 0 by omega)
          have i2 := Int.emod_lt_of_pos turn lpos
          have ib : (turn % ((zV (a :: ns)).length : Int)).toNat < (a :: ns).length := by rw [ll] at i1 i2 ⊢; omega
          refine ⟨_, rfl, .inl ⟨p, _, 0, .ref l, rfl, rfl, spz, at_zero, _, rfl, _, rfl, .inl ⟨p, _, 0, .ref l, rfl, rfl, spz, at_zero, l, _, rfl, .inl slz, _, _, rfl, rfl, lpos, .inl ⟨l, _, _, _, rfl, rfl, slz, at_nat i1 (getD_at ib), _, rfl, kz, hPz⟩⟩⟩⟩
      · rintro σ' H' ⟨spot, rfl, k2, hP2⟩
        have sp2 : SqL K H' p [.ref l, .int (turn + 1), .int rest] := .inl (.inl hP2.pen)
        refine ⟨fun σ' H'' => H'' = H' ∧ σ' = [some (.ref p), some (.int size), none, some (.int turn), some (.int spot), none, none], ?_, ?_⟩
        · refine ⟨_, rfl, _, rfl, .inl ⟨p, _, 0, .ref l, rfl, rfl, sp2, at_zero, l, _, rfl, .inl (.inl (.inl hP2.lst)), _, _, rfl, rfl, _, rfl, ?_⟩⟩
          by_cases hlt : turn < (((zV ns).length : Nat) : Int)
          · refine iteTb (decide_eq_true hlt) ?_
            refine ⟨_, rfl, _, rfl, _, _, rfl, rfl, ⟨by decide, by decide, by decide⟩, _, _, rfl, rfl, _, rfl, ?_⟩
            by_cases hbig : (10 : Int) ^ (18 : Int).toNat ≤ (if spot < 0 then -spot else spot)
            · refine iteTb (decide_eq_true hbig) ?_
              refine ⟨_, rfl, _, rfl, _, _, rfl, rfl, .inl (by decide), _, rfl, _, _, rfl, rfl, .inr ⟨_, rfl, _, _, rfl, rfl, ?_⟩⟩
              have w0 : 0 ≤ 2 * (if spot < 0 then -spot else spot) + (if decide (spot < 0) = true then 1 else 0) := by
                have a1 : 0 ≤ (if spot < 0 then -spot else spot) := by split <;> omega
                have a2 : (0 : Int) ≤ (if decide (spot < 0) = true then 1 else 0) := by split <;> decide
                omega
              refine ⟨_, rfl, _, rfl, _, _, rfl, rfl, ⟨pos, by omega⟩, _, rfl, p, _, 2, 2, rfl, rfl, hP2.pen, rfl, ?_⟩
              refine ⟨_, rfl, _, rfl, _, _, rfl, rfl, pos, ?_⟩
              exact hQ _ (turn + 1) _ _ (Int.emod_nonneg _ (by omega)) (Int.emod_lt_of_pos _ pos) (by omega) (Int.le_refl _) (k2.trans1 (Kp.upd List.mem_cons_self hP2.pen (fun z => z))) ⟨upd_same, by rw [upd_ne lpne]; exact hP2.lst, hP.len, Int.ediv_nonneg w0 (by omega), by omega⟩
            · exact iteFb (decide_eq_false hbig) ⟨rfl, rfl⟩
          · exact iteFb (decide_eq_false hlt) (iteF ⟨rfl, rfl⟩)
        · rintro σ' H'' ⟨rfl, rfl⟩
          have b1 := Int.emod_nonneg spot (show (2147483629 : Int) ≠ 0 by decide)
          have b2 := Int.emod_lt_of_pos spot (show (0 : Int) < 2147483629 by decide)
          refine ⟨_, rfl, _, _, rfl, rfl, (by show (0 : Int) < 2147483629; decide), _, rfl, _, _, rfl, rfl, .inl (by decide), _, _, rfl, rfl, _, _, rfl, rfl, _, _, rfl, rfl, ⟨by decide, by decide, by omega⟩, _, _, rfl, rfl, (by show (0 : Int) < 2147483587; decide), ?_⟩
          have c1 := Int.emod_nonneg ((spot % 2147483629 + 52301 * turn + 131) ^ (3 : Int).toNat) (show (2147483587 : Int) ≠ 0 by decide)
          have c2 := Int.emod_lt_of_pos ((spot % 2147483629 + 52301 * turn + 131) ^ (3 : Int).toNat) (show (0 : Int) < 2147483587 by decide)
          obtain ⟨mx, emx⟩ : ∃ mx, mx = (spot % 2147483629 + 52301 * turn + 131) ^ (3 : Int).toNat % 2147483587 := ⟨_, rfl⟩
          rw [← emx] at c1 c2
          have q1 : 0 ≤ mx * (2 * turn + 43) := Int.mul_nonneg c1 (by omega)
          have q2 : mx * (2 * turn + 43) ≤ 2147483587 * 2000043 := Int.mul_le_mul (by omega) (by omega) (by omega) (by decide)
          have q3 : 0 ≤ 7331 * turn * turn := Int.mul_nonneg (by omega) t0
          have q4 : 7331 * turn * turn ≤ 7331000000 * 1000000 := Int.mul_le_mul (by omega) (by omega) t0 (by decide)
          refine ⟨_, rfl, _, rfl, _, _, rfl, rfl, .inl (by decide), _, _, rfl, rfl, _, _, rfl, rfl, .inl ⟨by omega, by omega⟩, _, rfl, _, _, rfl, rfl, .inl (by decide), _, rfl, _, _, rfl, rfl, .inl ⟨by omega, by omega⟩, _, _, rfl, rfl, _, _, rfl, rfl, _, _, rfl, rfl, ⟨by decide, by decide, ?_⟩, _, _, rfl, rfl, (by show (0 : Int) < 2147483563; decide), ?_⟩
          · show Int.natAbs ((spot % 2147483629 + 52301 * turn + 131) ^ (3 : Int).toNat % 2147483587 * (2 * turn + 43) + 7331 * turn * turn + 7) < 2 ^ 64
            rw [← emx]
            generalize mx * (2 * turn + 43) = A at *
            generalize 7331 * turn * turn = B at *
            omega
          refine ⟨_, rfl, _, _, rfl, rfl, ⟨(by show (0 : Int) < 32; decide), (by show (32 : Int) < 1073741824; decide)⟩, _, rfl, _, _, rfl, rfl, pos, ?_⟩
          exact hQ _ (turn + 1) rest _ (Int.emod_nonneg _ (by omega)) (Int.emod_lt_of_pos _ pos) (by omega) (Int.le_refl _) k2 hP2
end
end KW
/-! The walk, part 24: some of a list; functions drawn. -/
namespace KW
open PySem PySem.Spec PyProof.Rows L2 KR K19 StX
section
variable {P : Program} {w : World} {K : PySem.W.Frag} {mg : PySem.Str → Option Value} {base : Heap}
theorem pe_bmK {X : Cx} {o e : Expr} {es : List Expr} {to : TE} {t : TA} {name : PySem.Str} {apos cpos : Pos} {T id : String} {r : V → List V → Hp → VK → Prop} (K : PySem.W.Frag) (hK : X.K = K) (pa : PlainAttrs T) (slot : Slot T name id) (hty : typeOf (.builtin id) = pure (.type "method_descriptor")) (hm : MtR X id r) (ho : PE X o to) (ha : PA X (e :: es) t)
    (hbase : attributeBase o name X.env (eval o X.env) = eval o X.env := by rfl)
    (hfew : ((backTo cpos (starEach (e :: es) X.env)).all (fun x => !x.1) && (backToKw cpos (keywordEach [] X.env)).all (fun x => x.1.isSome)
      && decide ((e :: es).length + ([] : List Keyword).length + (if ([] : List Keyword).isEmpty then 0 else 1) < 30)) = true := by rfl) (hline : (apos.endLine == cpos.line) = true := by rfl) (hs : starEach (e :: es) X.env = (false, eval e X.env) :: starEach es X.env := by rfl)
    (hpl : (backTo cpos (starEach es X.env)).any (·.1) = false := by rfl) : PE X (.Call (.Attribute o name apos) (e :: es) [] cpos) (tBM K T r to t) := hK ▸ pe_bm pa slot hty hm ho ha hbase hfew hline hs hpl
theorem seq_nat {r : Int} {n : Nat} (h0 : 0 ≤ r) (h1 : r < (n : Nat)) : seqIndex? r n = some r.toNat := by
  have hn : ¬ r < 0 := by omega
  simp [seqIndex?, hn, h0, h1]
theorem map_erase {α β : Type} (f : α → β) : ∀ (l : List α) (i : Nat), (l.map f).eraseIdx i = (l.eraseIdx i).map f
  | [], _ => rfl
  | a :: l, 0 => rfl
  | a :: l, i + 1 => by
    show f a :: (l.map f).eraseIdx i = f a :: (l.eraseIdx i).map f
    rw [map_erase f l i]
theorem perm_erase {α : Type} : ∀ {l : List α} {i : Nat} (h : i < l.length), ([l[i]] ++ l.eraseIdx i).Perm l
  | a :: l, 0, _ => List.Perm.refl _
  | a :: l, i + 1, h => by
    have ih := perm_erase (l := l) (i := i) (by simpa using h)
    exact (List.Perm.swap a _ _).trans (ih.cons a)
def spSome (K : PySem.W.Frag) : Sp := fun vs H Q _ => ∃ (p l a : Addr) (ns : List Int) (turn rest : Int) (things : List Nat) (size : Nat), vs = [.ref p, .ref a, .int size] ∧ PenAt H p l ns turn rest ∧ SqL K H a (lV things) ∧ things.length ≤ 100 ∧ size ≤ 100 ∧ turn < 900000 ∧
  ∀ q out left turn' rest' H', Kp K [p] H H' → H q = none → H' q = some (.lst (lV out)) → (out ++ left).Perm things → out.length = min size things.length → turn ≤ turn' → turn' ≤ turn + 100 → PenAt H' p l ns turn' rest' → Q (.ref q) H'
theorem ok__law_some (T : Txt K mg) : FD P w K mg base CX0 2 d__law_some ["_law_pen_here", "_law_things", "_law_size"] (spSome K) := by
  refine fd_of T.d__law_some sc__law_some (fun vs H Q E h => ?_) (fun cdv A outer s H vs Q E hr h => ?_)
  · obtain ⟨p, l, a, ns, turn, rest, things, size, rfl, _⟩ := h
    rfl
  · obtain ⟨p, l, a, ns, turn, rest, things, size, rfl, hP, ha, hl, hs, ht, hQ⟩ := h
    refine ⟨_, (pss_cons (ps_set (i := 3) sc__law_some.nd rfl (by first | exact Or.inl rfl | exact Or.inr rfl | exact Or.inr (Or.inl rfl)) (pe_callTy call_list_of rfl T.f_list boot_list (pa_cons (pv 1) pa_nil))) (pss_one (ps_ret (pe_lc rfl sc__law_some.nd (pi_range1 rfl T.f_range (pa_cons (pe_callB (call_min2 rfl) rfl T.f_min boot_min (pa_cons (pv 2) (pa_cons (pe_callB (call_lenK K rfl) rfl T.f_len boot_len (pa_cons (pv 3) pa_nil)) pa_nil))) pa_nil)) (own := [("_law_k", 4)]) (blkOk_by (by kernel_rfl)) (fun _ _ _ _ _ => (pg_name (i := 4) sc__law_some.nd rfl (by first | exact Or.inl rfl | exact Or.inr rfl | exact Or.inr (Or.inl rfl)))) (fun _ _ _ _ _ => pts_nil) (fun _ _ _ _ _ => (pe_bmK K rfl PySem.F.plainAttrs_list PySem.F.slot_list_pop PySem.F.type_list_pop mt_popAt (pv 3) (pa_cons (pe_def (ok__law_draw T) hr rfl T.g__law_draw rfl b__law_draw (pa_cons (pv 0) (pa_cons (pe_callB (call_lenK K rfl) rfl T.f_len boot_len (pa_cons (pv 3) pa_nil)) pa_nil))) pa_nil))))))), ?_⟩
    refine ⟨_, rfl, a, _, rfl, .inl ha, fun lf hlf => ?_⟩
    have s1 := same_upd (o := .lst (lV things)) hlf
    have lf1 : upd H lf (.lst (lV things)) lf = some (.lst (lV things)) := upd_same
    have pf : p ≠ lf := ne_of_none hP.pen hlf
    have llf : l ≠ lf := ne_of_none hP.lst hlf
    have hP1 : PenAt (upd H lf (.lst (lV things))) p l ns turn rest := ⟨s1 _ _ hP.pen, s1 _ _ hP.lst, hP.len, hP.rest0, hP.turn0⟩
    generalize upd H lf (.lst (lV things)) = H1 at *
    have lt : (lV things).length = things.length := List.length_map _
    let n := min size things.length
    have en : (if ((things.length : Nat) : Int) < ((size : Nat) : Int) then ((things.length : Nat) : Int) else ((size : Nat) : Int)) = ((n : Nat) : Int) := by
      by_cases h : things.length < size
      · rw [if_pos (by omega)]; show _ = ((min size things.length : Nat) : Int); omega
      · rw [if_neg (by omega)]; show _ = ((min size things.length : Nat) : Int); omega
    have hn : n ≤ things.length := Nat.min_le_right _ _
    have en' : (if (((lV things).length : Nat) : Int) < ((size : Nat) : Int) then (((lV things).length : Nat) : Int) else ((size : Nat) : Int)) = ((n : Nat) : Int) := by rw [lt]; exact en
    refine ⟨_, rfl, _, rfl, lf, _, rfl, .inl (.inl (.inl lf1)), _, _, rfl, ((n : Nat) : Int), by rw [en'], by omega, by omega, fun D hD => ?_⟩
    have lfD : lf ≠ D := ne_of_none lf1 hD
    have pD : p ≠ D := ne_of_none hP1.pen hD
    have lD : l ≠ D := ne_of_none hP1.lst hD
    have s2 := same_upd (o := .lst []) hD
    rw [Int.toNat_natCast]
    refine turns (walk_range (lo := 0) (n := n)) (fun i H' => ∃ out left turn' rest', H' D = some (.lst (lV out)) ∧ H' lf = some (.lst (lV left)) ∧ out.length = i ∧ (out ++ left).Perm things ∧ PenAt H' p l ns turn' rest' ∧ turn ≤ turn' ∧ turn' ≤ turn + i ∧ Kp K [p] H H')
      ⟨[], things, turn, rest, upd_same, s2 _ _ lf1, rfl, List.Perm.refl _, ⟨s2 _ _ hP1.pen, s2 _ _ hP1.lst, hP.len, hP.rest0, hP.turn0⟩, Int.le_refl _, by omega, same_kp (Same.trans s1 s2)⟩ (fun _ _ _ _ => trivial) (fun i x H2 H3 hi q y => ?_) (fun H2 q => ?_)
    · obtain ⟨rfl, rfl⟩ := y
      obtain ⟨out, left, turn', rest', eD, elf, lo, pm, hP2, t1, t2, k2⟩ := q
      have ll : left.length + i = things.length := by
        have := pm.length_eq
        rw [List.length_append, lo] at this
        omega
      refine ⟨rfl, yesP (iteT ⟨_, rfl, .inl ⟨rfl, _, .inl (.inl elf)⟩, _, rfl, _, rfl, lf, _, rfl, .inl (.inl (.inl elf)), p, l, ns, turn', rest', _, rfl, hP2, by rw [List.length_map]; omega, by rw [List.length_map]; omega, by omega, fun rr tt rest'' H4 r0 r1 tt1 tt2 k4 hP4 => ?_⟩)⟩
      rw [List.length_map] at r1
      have elf4 : H4 lf = some (.lst (lV left)) := k4.kp _ _ (by simp; exact Ne.symm pf) elf
      have eD4 : H4 D = some (.lst (lV out)) := k4.kp _ _ (by simp; exact Ne.symm pD) eD
      have hk : rr.toNat < left.length := by omega
      refine ⟨lf, _, rr, rr.toNat, .int (left[rr.toNat] : Nat), rfl, rfl, elf4, by omega, by omega, ?_, ?_, ?_⟩
      · rw [List.length_map]; exact seq_nat r0 r1
      · rw [List.getElem?_map, List.getElem?_eq_getElem hk]; rfl
      · have ee : (lV left).eraseIdx rr.toNat = lV (left.eraseIdx rr.toNat) := map_erase _ _ _
        rw [ee]
        have k5 : ∀ a o, a ≠ lf → H4 a = some o → upd H4 lf (.lst (lV (left.eraseIdx rr.toNat))) a = some o := fun a o n h => by rw [upd_ne n]; exact h
        have eD5 := k5 D _ (Ne.symm lfD) eD4
        have sk5 : SK K H4 (upd H4 lf (.lst (lV (left.eraseIdx rr.toNat)))) := .upd elf4 (fun z => z)
        have sk6 : SK K (upd H4 lf (.lst (lV (left.eraseIdx rr.toNat)))) (upd (upd H4 lf (.lst (lV (left.eraseIdx rr.toNat)))) D (.lst (lV out ++ [.int (left[rr.toNat] : Nat)]))) := .upd eD5 (fun z => z)
        have k6 : ∀ a o, a ≠ lf → a ≠ D → H4 a = some o → upd (upd H4 lf (.lst (lV (left.eraseIdx rr.toNat)))) D (.lst (lV out ++ [.int (left[rr.toNat] : Nat)])) a = some o := fun a o n1 n2 h => by rw [upd_ne n2]; exact k5 a o n1 h
        refine ⟨lV out, eD5, by rw [List.length_map, lo]; exact Nat.lt_of_lt_of_le hi (Nat.le_trans (Nat.min_le_left _ _) (Nat.le_trans hs (by decide))), out ++ [left[rr.toNat]], left.eraseIdx rr.toNat, tt, rest'', by rw [upd_same, lV_app]; rfl, by rw [upd_ne lfD, upd_same], by rw [List.length_append, lo]; rfl, ?_, ⟨k6 _ _ pf pD hP4.pen, k6 _ _ llf lD hP4.lst, hP4.len, hP4.rest0, hP4.turn0⟩, by omega, by omega, ⟨(k2.sk.trans k4.sk).trans (sk5.trans sk6), fun a o n h => ?_⟩⟩
        · rw [List.append_assoc]
          exact (List.Perm.append_left out (perm_erase hk)).trans pm
        · exact k6 a o (ne_of_none h hlf) (ne_of_none h (s1.free hD)) (k4.kp a o n (k2.kp a o n h))
    · obtain ⟨out, left, turn', rest', eD, elf, lo, pm, hP2, t1, t2, k2⟩ := q
      exact hQ D out left turn' rest' H2 k2 (s1.free hD) eD pm lo t1 (by omega) hP2
end
end KW
/-! The walk, part 25: functions drawn. -/
namespace KW
open PySem PySem.Spec PyProof.Rows L2 KR K19 StX
section
variable {P : Program} {w : World} {K : PySem.W.Frag} {mg : PySem.Str → Option Value} {base : Heap}
theorem PenAt.same {H H' : Hp} {p l : Addr} {ns : List Int} {turn rest : Int} (h : PenAt H p l ns turn rest) (s : Same H H') : PenAt H' p l ns turn rest := ⟨s _ _ h.pen, s _ _ h.lst, h.len, h.rest0, h.turn0⟩
def spLawFn (K : PySem.W.Frag) : Sp := fun vs H Q _ => ∃ (p l : Addr) (ns : List Int) (turn rest : Int), vs = [.ref p] ∧ PenAt H p l ns turn rest ∧ turn < 900000 ∧
  ∀ q fn turn' rest' H', Kp K [p] H H' → FnV K H' q fn → FnOk1 fn → turn ≤ turn' → turn' ≤ turn + 20 → PenAt H' p l ns turn' rest' → Q (.ref q) H'
def kinds10 : List PySem.Str := ["always", "max", "min", "sum", "turn", "choose", "table", "max", "sum", "turn"]
def nm10 : Option Kd → PySem.Str
  | some k => kName k
  | none => "table"
theorem at10 {i : Nat} (h : i < 10) : ∃ o, kinds10[i]? = some (nm10 o) :=
  match i, h with
  | 0, _ => ⟨some .always, rfl⟩
  | 1, _ => ⟨some .max, rfl⟩
  | 2, _ => ⟨some .min, rfl⟩
  | 3, _ => ⟨some .sum, rfl⟩
  | 4, _ => ⟨some .turn, rfl⟩
  | 5, _ => ⟨some .choose, rfl⟩
  | 6, _ => ⟨none, rfl⟩
  | 7, _ => ⟨some .max, rfl⟩
  | 8, _ => ⟨some .sum, rfl⟩
  | 9, _ => ⟨some .turn, rfl⟩
theorem ok__law_function (T : Txt K mg) : FD P w K mg base CX0 2 d__law_function ["_law_pen_here"] (spLawFn K) := by
  refine fd_of T.d__law_function sc__law_function (fun vs H Q E h => ?_) (fun cdv A outer s H vs Q E hr h => ?_)
  · obtain ⟨p, l, ns, turn, rest, rfl, _⟩ := h
    rfl
  · obtain ⟨p, l, ns, turn, rest, rfl, hP, ht, hQ⟩ := h
    refine ⟨_, (pss_cons (ps_set (i := 1) sc__law_function.nd rfl (by first | exact Or.inl rfl | exact Or.inr rfl | exact Or.inr (Or.inl rfl)) (pe_ix (ix_K K rfl) (pe_lst (pa_cons pe_str (pa_cons pe_str (pa_cons pe_str (pa_cons pe_str (pa_cons pe_str (pa_cons pe_str (pa_cons pe_str (pa_cons pe_str (pa_cons pe_str (pa_cons pe_str pa_nil))))))))))) (pe_def (ok__law_draw T) hr rfl T.g__law_draw rfl b__law_draw (pa_cons (pv 0) (pa_cons pe_int pa_nil))) (fun _ _ => rfl))) (pss_cons (ps_if (pt_cmpR op_ne (pv 1) pe_str (nomark _)) (pss_one (ps_ret (pe_tup (pa_cons (pv 1) (pa_cons (pe_def (ok__law_draw T) hr rfl T.g__law_draw rfl b__law_draw (pa_cons (pv 0) (pa_cons pe_int pa_nil))) pa_nil))))) pss_nil) (pss_one (ps_ret (pe_tup (pa_cons (pv 1) (pa_cons (pe_callTy call_tuple_of rfl T.f_tuple boot_tuple (pa_cons (pe_lc rfl sc__law_function.nd (pi_range1 rfl T.f_range (pa_cons pe_int pa_nil)) (own := [("_law_k", 2)]) (blkOk_by (by kernel_rfl)) (fun _ _ _ _ _ => (pg_name (i := 2) sc__law_function.nd rfl (by first | exact Or.inl rfl | exact Or.inr rfl | exact Or.inr (Or.inl rfl)))) (fun _ _ _ _ _ => pts_nil) (fun _ _ _ _ _ => (pe_def (ok__law_draw T) hr rfl T.g__law_draw rfl b__law_draw (pa_cons (pv 0) (pa_cons pe_int pa_nil))))) pa_nil)) pa_nil))))))), ?_⟩
    refine ⟨(by show 10 ≤ sizeLine; decide), fun c hc => ?_⟩
    have s1 := same_upd (o := .lst (kinds10.map V.str)) hc
    have c1 : upd H c (.lst (kinds10.map V.str)) c = some (.lst (kinds10.map V.str)) := upd_same
    have pc : c ≠ p := fun e => by have := hP.pen; rw [← e, hc] at this; cases this
    have hP1 := hP.same s1
    refine ⟨_, rfl, p, l, ns, turn, rest, 10, rfl, hP1, by decide, by decide, by omega, fun r t1 rest1 H2 r0 r1 a1 a2 k2 hP2 => ?_⟩
    have c2 : H2 c = some (.lst (kinds10.map V.str)) := k2.kp _ _ (by simpa using pc) c1
    have k02 : Kp K [p] H H2 := (same_kp (R := [p]) s1).trans1 k2
    obtain ⟨o, ho⟩ := at10 (by omega : r.toNat < 10)
    have hat : atI (kinds10.map V.str) r = some (.str (nm10 o)) := at_nat r0 (by rw [List.getElem?_map, ho]; rfl)
    refine .inl ⟨c, _, r, _, rfl, rfl, .inl (.inl c2), hat, ?_⟩
    cases o with
    | some k =>
      refine ⟨_, rfl, rfl, _, rfl, iteTb (by rw [show nm10 (some k) = kName k from rfl, name_ne]; rfl) ?_⟩
      refine ⟨_, rfl, _, rfl, p, l, ns, t1, rest1, 8, rfl, hP2, by decide, by decide, by omega, fun v t2 rest2 H3 v0 v1 b1 b2 k3 hP3 => ⟨(by show 2 ≤ sizeLine; decide), fun q hq => ?_⟩⟩
      have s4 := same_upd (o := .tup [.str (kName k), .int v]) hq
      exact hQ q (.lv k v) t2 rest2 _ ((k02.trans1 k3).trans1 (same_kp s4)) sqT_upd ⟨v0, by omega⟩ (by omega) (by omega) (hP3.same s4)
    | none =>
      refine ⟨_, rfl, rfl, _, rfl, iteFb (by decide +kernel) ?_⟩
      refine ⟨_, rfl, 8, rfl, by decide, by decide, fun D hD => ?_⟩
      have pD : p ≠ D := ne_of_none hP2.pen hD
      have lD : l ≠ D := ne_of_none hP2.lst hD
      have s3 := same_upd (o := .lst []) hD
      refine turns (walk_range (lo := 0) (n := 8)) (fun i H' => ∃ vs t' rest', H' D = some (.lst (zV vs)) ∧ vs.length = i ∧ (∀ v ∈ vs, Lev v) ∧ PenAt H' p l ns t' rest' ∧ t1 ≤ t' ∧ t' ≤ t1 + i ∧ Kp K [p] H H')
        ⟨[], t1, rest1, upd_same, rfl, (fun v hv => nomatch hv), hP2.same s3, Int.le_refl _, by omega, k02.trans1 (same_kp s3)⟩ (fun _ _ _ _ => trivial) (fun i x H3 H4 hi q y => ?_) (fun H3 q => ?_)
      · obtain ⟨rfl, rfl⟩ := y
        obtain ⟨vs, t', rest', eD, lv, hv, hP3, b1, b2, k3⟩ := q
        refine ⟨rfl, yesP (iteT ⟨_, rfl, p, l, ns, t', rest', 8, rfl, hP3, by decide, by decide, by omega, fun v t2 rest2 H5 v0 v1 d1 d2 k5 hP5 => ?_⟩)⟩
        have eD5 : H5 D = some (.lst (zV vs)) := k5.kp _ _ (by simpa using Ne.symm pD) eD
        have sk6 : SK K H5 (upd H5 D (.lst (zV vs ++ [.int v]))) := .upd eD5 (fun z => z)
        refine ⟨_, eD5, by rw [List.length_map, lv]; exact Nat.lt_of_lt_of_le hi (by decide), vs ++ [v], t2, rest2, by rw [upd_same]; simp [zV], by rw [List.length_append, lv]; rfl, fun w hw => ?_, ⟨by rw [upd_ne pD]; exact hP5.pen, by rw [upd_ne lD]; exact hP5.lst, hP5.len, hP5.rest0, hP5.turn0⟩, by omega, by omega, ⟨(k3.sk.trans k5.sk).trans sk6, fun a o n h => ?_⟩⟩
        · rcases List.mem_append.mp hw with h | h
          · exact hv w h
          · rw [List.mem_singleton.mp h]; exact ⟨v0, by omega⟩
        · rw [upd_ne (fun e => ?_)]
          · exact k5.kp a o n (k3.kp a o n h)
          · have := k02.kp a o n h
            rw [e, hD] at this
            cases this
      · obtain ⟨vs, t', rest', eD, lv, hv, hP3, b1, b2, k3⟩ := q
        refine ⟨D, _, rfl, .inl ⟨.inl (.inl eD), fun z hz => ⟨(by show 2 ≤ sizeLine; decide), fun q hq => ?_⟩⟩⟩
        have s5 := same_upd (o := .tup (zV vs)) hz
        have s6 := same_upd (o := .tup [.str "table", .ref z]) hq
        exact hQ q (.tb vs) t' rest' _ ((k3.trans1 (same_kp s5)).trans1 (same_kp s6)) ⟨z, sqT_upd, same_tk s6 _ _ sqT_upd⟩ ⟨lv, hv⟩ (by omega) (by omega) ((hP3.same s5).same s6)
end
end KW
/-! The walk, part 26: the law's value. -/
namespace KW
open PySem PySem.Spec PyProof.Rows L2 KR K19 StX
section
variable {P : Program} {w : World} {K : PySem.W.Frag} {mg : PySem.Str → Option Value} {base : Heap}
def spLawVal (K : PySem.W.Frag) : Sp := fun vs H Q _ => ∃ (fa la : Addr) (f : Fn) (ns : List Int), vs = [.ref fa, .ref la] ∧ FnV K H fa f ∧ FnOk1 f ∧ H la = some (.lst (zV ns)) ∧ ns.length ≤ 100 ∧ (∀ v ∈ ns, Lev v) ∧ ∀ H', Same H H' → Q (.int (valueOf f ns)) H'
theorem ok__law_value (T : Txt K mg) : FD P w K mg base CX0 1 d__law_value ["_law_rule", "_law_values"] (spLawVal K) := by
  refine fd_of T.d__law_value sc__law_value (fun vs H Q E h => ?_) (fun cdv A outer s H vs Q E hr h => ?_)
  · obtain ⟨fa, la, f, ns, rfl, _⟩ := h
    rfl
  · obtain ⟨fa, la, f, ns, rfl, hf, ho, hla, hz, hl, hQ⟩ := h
    have hu := Room.u64 hr
    refine ⟨_, (pss_cons (ps_asg (pv 0) (pg_tupK (n := 2) K rfl rfl (pgs_cons (pg_name (i := 2) sc__law_value.nd rfl (by first | exact Or.inl rfl | exact Or.inr rfl | exact Or.inr (Or.inl rfl))) (pgs_cons (pg_name (i := 3) sc__law_value.nd rfl (by first | exact Or.inl rfl | exact Or.inr rfl | exact Or.inr (Or.inl rfl))) pgs_nil)))) (pss_cons (ps_if (pt_cmpR op_eq (pv 2) pe_str (nomark _)) (pss_one (ps_ret (pv 3))) pss_nil) (pss_cons (ps_if (pt_cmpR op_eq (pv 2) pe_str (nomark _)) (pss_one (ps_ret (pe_callB (cr_max rfl) rfl T.f_max boot_max (pa_cons (pe_op op_cat (pv 1) (pe_lst (pa_cons (pv 3) pa_nil))) pa_nil)))) pss_nil) (pss_cons (ps_if (pt_cmpR op_eq (pv 2) pe_str (nomark _)) (pss_one (ps_ret (pe_callB (cr_min rfl) rfl T.f_min boot_min (pa_cons (pe_op op_cat (pv 1) (pe_lst (pa_cons (pv 3) pa_nil))) pa_nil)))) pss_nil) (pss_cons (ps_if (pt_cmpR op_eq (pv 2) pe_str (nomark _)) (pss_one (ps_ret (pe_callB (call_min2 rfl) rfl T.f_min boot_min (pa_cons pe_int (pa_cons (pe_op op_add (pv 3) (pe_callB (cr_sumA rfl) rfl T.f_sum boot_sum (pa_cons (pv 1) pa_nil))) pa_nil))))) pss_nil) (pss_cons (ps_if (pt_cmpR op_eq (pv 2) pe_str (nomark _)) (pss_one (ps_ret (pe_ix (ix_K K rfl) (pv 3) (pe_callB (call_min2 rfl) rfl T.f_min boot_min (pa_cons pe_int (pa_cons (pe_callB (cr_sumA rfl) rfl T.f_sum boot_sum (pa_cons (pv 1) pa_nil)) pa_nil))) (fun _ _ => rfl)))) pss_nil) (pss_cons (ps_if (pt_cmpR op_eq (pv 2) pe_str (nomark _)) (pss_one (ps_ret (pe_ifExp (pt_cmpR (op_neDK K rfl hu) (pv 1) (pe_lst pa_nil) (nomark _)) (pe_ix (ix_K K rfl) (pv 1) (pe_op op_mod (pe_ix (ix_K K rfl) (pv 1) pe_int (fun _ _ => rfl)) (pe_callB (call_lenK K rfl) rfl T.f_len boot_len (pa_cons (pv 1) pa_nil))) (fun _ _ => rfl)) (pv 3)))) pss_nil) (pss_cons (ps_set (i := 4) sc__law_value.nd rfl (by first | exact Or.inl rfl | exact Or.inr rfl | exact Or.inr (Or.inl rfl)) (pv 3)) (pss_cons (ps_for PassesOwn.never rfl (pi_range1 rfl T.f_range (pa_cons (pe_callB (call_lenK K rfl) rfl T.f_len boot_len (pa_cons (pv 1) pa_nil)) pa_nil)) (pg_name (i := 5) sc__law_value.nd rfl (by first | exact Or.inl rfl | exact Or.inr rfl | exact Or.inr (Or.inl rfl))) (pss_one (ps_set (i := 4) sc__law_value.nd rfl (by first | exact Or.inl rfl | exact Or.inr rfl | exact Or.inr (Or.inl rfl)) (pe_op op_add (pv 4) (pe_op op_mul (pe_op op_add (pv 5) pe_int) (pe_ix (ix_K K rfl) (pv 1) (pv 5) (fun _ _ => rfl))))))) (pss_one (ps_ret (pe_op op_mod (pv 4) pe_int)))))))))))), ?_⟩
    have hs0 := sum_lev hl
    have sq : SqL K H la (zV ns) := .inl (.inl hla)
    cases f with
    | tb t =>
      obtain ⟨b, g1, g2⟩ := hf
      refine ⟨_, rfl, _, _, rfl, g1, rfl, _, _, rfl, _, _, rfl, rfl, ?_⟩
      refine ⟨_, rfl, rfl, _, rfl, iteFb (by decide +kernel) ?_⟩
      refine ⟨_, rfl, rfl, _, rfl, iteFb (by decide +kernel) ?_⟩
      refine ⟨_, rfl, rfl, _, rfl, iteFb (by decide +kernel) ?_⟩
      refine ⟨_, rfl, rfl, _, rfl, iteFb (by decide +kernel) ?_⟩
      refine ⟨_, rfl, rfl, _, rfl, iteTb (by decide +kernel) ?_⟩
      have cl := cap_lev hs0
      have e8 : (cap ns.sum).toNat < t.length := by rw [ho.1]; unfold Lev at cl; omega
      exact ⟨_, rfl, _, rfl, _, _, rfl, .inl sq, _, _, rfl, .inr (.inl ⟨_, _, _, _, rfl, rfl, g2, at_nat cl.1 (getD_at e8), hQ _ (Same.refl _)⟩)⟩
    | lv k c =>
      refine ⟨_, rfl, _, _, rfl, hf, rfl, _, _, rfl, _, _, rfl, rfl, ?_⟩
      have cat : ∀ (q : Addr) (H' : Hp), zV ns ++ [V.int c] = zV (ns ++ [c]) := fun _ _ => by simp [zV]
      cases k with
      | always => exact ⟨_, rfl, rfl, _, rfl, iteTb (by decide +kernel) ⟨_, rfl, hQ _ (Same.refl _)⟩⟩
      | max =>
        refine ⟨_, rfl, rfl, _, rfl, iteFb (by decide +kernel) ⟨_, rfl, rfl, _, rfl, iteTb (by decide +kernel) ?_⟩⟩
        refine ⟨_, rfl, _, rfl, (by show 1 ≤ sizeLine; decide), fun y hy => ?_⟩
        have s1 := same_upd (o := .lst [V.int c]) hy
        refine ⟨la, y, _, _, rfl, rfl, s1 _ _ hla, upd_same, by rw [List.length_map]; exact Nat.le_trans (show _ ≤ 101 by simp; omega) (by decide), fun q hq => ?_⟩
        rw [cat q H]
        refine ⟨q, ns ++ [c], rfl, sqL_upd, by simp, fun m h1 h2 => ?_⟩
        obtain ⟨g1, g2⟩ := maxL_spec ns c
        have mem : ∀ x, x ∈ ns ++ [c] ↔ x ∈ c :: ns := fun x => by simp [or_comm]
        have e : m = maxL c ns := Int.le_antisymm (g2 m ((mem m).mp h1)) (h2 _ ((mem _).mpr g1))
        rw [e]
        exact hQ _ (Same.trans s1 (same_upd hq))
      | min =>
        refine ⟨_, rfl, rfl, _, rfl, iteFb (by decide +kernel) ⟨_, rfl, rfl, _, rfl, iteFb (by decide +kernel) ⟨_, rfl, rfl, _, rfl, iteTb (by decide +kernel) ?_⟩⟩⟩
        refine ⟨_, rfl, _, rfl, (by show 1 ≤ sizeLine; decide), fun y hy => ?_⟩
        have s1 := same_upd (o := .lst [V.int c]) hy
        refine ⟨la, y, _, _, rfl, rfl, s1 _ _ hla, upd_same, by rw [List.length_map]; exact Nat.le_trans (show _ ≤ 101 by simp; omega) (by decide), fun q hq => ?_⟩
        rw [cat q H]
        refine ⟨q, ns ++ [c], rfl, sqL_upd, by simp, fun m h1 h2 => ?_⟩
        obtain ⟨g1, g2⟩ := minL_spec ns c
        have mem : ∀ x, x ∈ ns ++ [c] ↔ x ∈ c :: ns := fun x => by simp [or_comm]
        have e : m = minL c ns := Int.le_antisymm (h2 _ ((mem _).mpr g1)) (g2 m ((mem m).mp h1))
        rw [e]
        exact hQ _ (Same.trans s1 (same_upd hq))
      | sum =>
        refine ⟨_, rfl, rfl, _, rfl, iteFb (by decide +kernel) ⟨_, rfl, rfl, _, rfl, iteFb (by decide +kernel) ⟨_, rfl, rfl, _, rfl, iteFb (by decide +kernel) ⟨_, rfl, rfl, _, rfl, iteTb (by decide +kernel) ?_⟩⟩⟩⟩
        exact ⟨_, rfl, _, rfl, _, _, rfl, .inl sq, _, _, rfl, rfl, _, _, rfl, hQ _ (Same.refl _)⟩
      | choose =>
        refine ⟨_, rfl, rfl, _, rfl, iteFb (by decide +kernel) ⟨_, rfl, rfl, _, rfl, iteFb (by decide +kernel) ⟨_, rfl, rfl, _, rfl, iteFb (by decide +kernel) ⟨_, rfl, rfl, _, rfl, iteFb (by decide +kernel) ⟨_, rfl, rfl, _, rfl, iteFb (by decide +kernel) ⟨_, rfl, rfl, _, rfl, iteTb (by decide +kernel) ?_⟩⟩⟩⟩⟩⟩
        refine ⟨_, rfl, Nat.zero_le _, fun y hy => ?_⟩
        have s1 := same_upd (o := .lst []) hy
        have sq1 : SqL K (upd H y (.lst [])) la (zV ns) := .inl (.inl (s1 _ _ hla))
        refine ⟨.list (ns.map PyData.int), .list [], .lst sq1 (dpAll_z ns), .lst sqL_upd .nil, dz_sh ns, dz_sh [], _, rfl, ?_⟩
        have eqn : PyData.eqv (.list (ns.map PyData.int)) (.list []) = (ns.map PyData.int).isEmpty := eqv_nil _
        cases ns with
        | nil => exact iteFb (by rw [eqn]; rfl) ⟨_, rfl, hQ _ s1⟩
        | cons v r =>
          refine iteTb (by rw [eqn]; rfl) ?_
          have hlen : ((zV (v :: r)).length : Int) = ((v :: r).length : Nat) := by rw [List.length_map]
          have hpos : (0 : Int) < ((zV (v :: r)).length : Nat) := by rw [hlen, List.length_cons]; omega
          refine ⟨_, rfl, _, rfl, .inl ⟨_, _, _, _, rfl, rfl, sq1, at_zero, ?_⟩⟩
          refine ⟨_, rfl, _, _, rfl, .inl sq1, _, _, rfl, rfl, hpos, ?_⟩
          have h1 := Int.emod_nonneg v (show ((zV (v :: r)).length : Int) ≠ 0 by omega)
          have h2 := Int.emod_lt_of_pos v hpos
          have hi : (v % ((zV (v :: r)).length : Int)).toNat < (v :: r).length := by rw [hlen] at h1 h2 ⊢; omega
          refine .inl ⟨_, _, _, _, rfl, rfl, sq1, at_nat h1 (getD_at hi), ?_⟩
          rw [hlen]
          exact hQ _ s1
      | turn =>
        refine ⟨_, rfl, rfl, _, rfl, iteFb (by decide +kernel) ⟨_, rfl, rfl, _, rfl, iteFb (by decide +kernel) ⟨_, rfl, rfl, _, rfl, iteFb (by decide +kernel) ⟨_, rfl, rfl, _, rfl, iteFb (by decide +kernel) ⟨_, rfl, rfl, _, rfl, iteFb (by decide +kernel) ⟨_, rfl, rfl, _, rfl, iteFb (by decide +kernel) ?_⟩⟩⟩⟩⟩⟩
        refine ⟨_, rfl, ?_⟩
        have ln : (zV ns).length = ns.length := List.length_map _
        refine ⟨_, rfl, _, _, rfl, .inl sq, _, rfl, by omega, by omega, ?_⟩
        rw [Int.toNat_natCast]
        refine for_range (lo := 0) (n := (zV ns).length) (fun i σ H' => H' = H ∧ ∃ x5, σ = [some (.ref fa), some (.ref la), some (.str (kName .turn)), some (.int c), some (.int (c + wsum 0 (ns.take i))), x5]) ⟨rfl, _, by show _ = [_, _, _, _, some (V.int (c + 0)), _]; rw [Int.add_zero]; rfl⟩ (fun i σ H' hi q => ?_) (fun σ H' q => ?_)
        · obtain ⟨e0, x5, rfl⟩ := q
          rw [e0]
          have hi' : i < ns.length := by omega
          obtain ⟨v, hv⟩ : ∃ v, ns[i]? = some v := ⟨_, List.getElem?_eq_getElem hi'⟩
          refine ⟨_, rfl, _, rfl, _, _, rfl, rfl, _, rfl, _, rfl, .inl ⟨_, _, _, _, rfl, rfl, sq, at_nat (by omega) (getD_at (by omega)), ?_⟩⟩
          have ev : ns.getD ((0 : Int) + i).toNat 0 = v := by rw [Int.zero_add, Int.toNat_natCast, List.getD_eq_getElem?_getD, hv]; rfl
          rw [ev]
          have hvl := hl v (List.mem_of_getElem? hv)
          refine ⟨_, _, rfl, rfl, ?_, _, _, rfl, rfl, rfl, some (.int (0 + i)), ?_⟩
          · exact .inr (by unfold Lev at hvl; omega)
          · have e3 : ns.take (i + 1) = ns.take i ++ [v] := by rw [List.take_add_one, hv]; rfl
            have e4 : c + wsum 0 (ns.take (i + 1)) = c + wsum 0 (ns.take i) + (0 + (i : Int) + 1) * v := by
              rw [e3, wsum_snoc, List.length_take, Nat.min_eq_left (Nat.le_of_lt hi'), Nat.zero_add, Int.zero_add, Int.add_assoc]
            rw [e4]
            rfl
        · obtain ⟨e0, x5, rfl⟩ := q
          rw [e0, ln, List.take_length]
          exact ⟨_, rfl, _, _, rfl, rfl, (by decide : (0:Int) < 8), hQ _ (Same.refl _)⟩
end
end KW
/-! The walk, part 27: the law's cells. -/
namespace KW
open PySem PySem.Spec PyProof.Rows L2 KR K19 StX
theorem at_lt {S : Sys} {c : Cell} {i : Nat} (h : i < S.length) : Sys.at (S ++ [c]) i = Sys.at S i := by
  unfold Sys.at
  rw [List.getD_eq_getElem?_getD, List.getD_eq_getElem?_getD, List.getElem?_append_left h]
theorem at_end {S : Sys} {c : Cell} : Sys.at (S ++ [c]) S.length = c := by
  unfold Sys.at
  rw [List.getD_eq_getElem?_getD, List.getElem?_append_right (Nat.le_refl _), Nat.sub_self]
  rfl
section
variable {P : Program} {w : World} {K : PySem.W.Frag} {mg : PySem.Str → Option Value} {base : Heap}
theorem Trips.snoc {H : Hp} {ps : List Addr} {S : Sys} {q : Addr} {c : Cell} (h : Trips K H ps S) (hq : Trip K H q c) : Trips K H (ps ++ [q]) (S ++ [c]) := by
  refine ⟨by rw [List.length_append, List.length_append, h.1]; rfl, fun i p hp => ?_⟩
  by_cases hi : i < ps.length
  · rw [List.getElem?_append_left hi] at hp
    rw [at_lt (by rw [← h.1]; exact hi)]
    exact h.2 i p hp
  · rw [List.getElem?_append_right (by omega)] at hp
    have hz : i - ps.length = 0 := by
      have := (List.getElem?_eq_some_iff.mp hp).1
      rw [List.length_singleton] at this
      omega
    rw [hz] at hp
    cases hp
    have e : i = S.length := by rw [← h.1]; omega
    rw [e, at_end]
    exact hq
/-- operands that fit n cells -/
structure OpsOk (n : Nat) (l : List Nat) : Prop where
  o8 : l.length ≤ 8
  nd : l.Nodup
  lt : ∀ x ∈ l, x < n
/-- the list of drawn cells at D -/
structure LC (K : PySem.W.Frag) (H0 H : Hp) (p l D : Addr) (ns : List Int) (n : Nat) (ps : List Addr) (S : Sys) (t rest : Int) : Prop where
  lst : H D = some (.lst (rV ps))
  trips : Trips K H ps S
  cok : ∀ i, i < S.length → COk n (S.at i)
  pen : PenAt H p l ns t rest
  kp : Kp K [p] H0 H
theorem LC.same {H0 H H' : Hp} {p l D : Addr} {ns : List Int} {n : Nat} {ps : List Addr} {S : Sys} {t rest : Int} (h : LC K H0 H p l D ns n ps S t rest) (s : Same H H') : LC K H0 H' p l D ns n ps S t rest :=
  ⟨s _ _ h.lst, h.trips.mono (same_sk s), h.cok, h.pen.same s, h.kp.trans1 (same_kp s)⟩
theorem LC.go {H0 H H' : Hp} {p l D : Addr} {ns : List Int} {n : Nat} {ps : List Addr} {S : Sys} {t rest t' rest' : Int} (h : LC K H0 H p l D ns n ps S t rest) (ne : D ≠ p) (k : Kp K [p] H H') (hP : PenAt H' p l ns t' rest') : LC K H0 H' p l D ns n ps S t' rest' :=
  ⟨k.kp _ _ (by simpa using ne) h.lst, h.trips.mono k.sk, h.cok, hP, h.kp.trans1 k⟩
/-- operands drawn for cell i -/
def CJ (K : PySem.W.Frag) (H0 : Hp) (p l D : Addr) (ns : List Int) (n : Nat) (ps : List Addr) (S : Sys) (way : Int) (i : Nat) (t b : Int) : L2.St → Hp → Prop := fun σ H => ∃ x6 s ops t' rest', σ = [some (.ref p), some (.int (n : Nat)), some (.int way), some (.ref D), some (.int (i : Nat)), some (.ref s), x6] ∧ H s = some (.lst (lV ops)) ∧ s ≠ p ∧ s ≠ D ∧ OpsOk n ops ∧ LC K H0 H p l D ns n ps S t' rest' ∧ t ≤ t' ∧ t' ≤ t + b
def nbr (i n : Nat) : Nat → List Nat
  | 0 => []
  | 1 => if 0 < i then [i - 1] else []
  | _ + 2 => (if 0 < i then [i - 1] else []) ++ (if i + 1 < n then [i + 1] else [])
theorem nbr_ok {i n : Nat} (h : i < n) : OpsOk n (nbr i n 2) := by
  unfold nbr
  by_cases h1 : 0 < i
  · rw [if_pos h1]
    by_cases h2 : i + 1 < n
    · rw [if_pos h2]
      refine ⟨(by show 2 ≤ 8; decide), ?_, fun x hx => ?_⟩
      · simp
      · simp at hx; omega
    · rw [if_neg h2]
      refine ⟨(by show 1 ≤ 8; decide), by simp, fun x hx => ?_⟩
      simp at hx; omega
  · rw [if_neg h1]
    by_cases h2 : i + 1 < n
    · rw [if_pos h2]
      refine ⟨(by show 1 ≤ 8; decide), by simp, fun x hx => ?_⟩
      simp at hx; omega
    · rw [if_neg h2]
      exact ⟨by decide, by simp, fun x hx => by simp at hx⟩
theorem at349 {w : Int} (h1 : 2 < w) (h2 : w < 6) : ∃ z : Int, 1 ≤ z ∧ z ≤ 9 ∧ atI [V.int 3, .int 4, .int 9] (w - 3) = some (.int z) := by
  have e : w = 3 ∨ w = 4 ∨ w = 5 := by omega
  rcases e with rfl | rfl | rfl
  · exact ⟨3, by decide, by decide, rfl⟩
  · exact ⟨4, by decide, by decide, rfl⟩
  · exact ⟨9, by decide, by decide, rfl⟩
def spCells (K : PySem.W.Frag) : Sp := fun vs H Q _ => ∃ (p l : Addr) (ns : List Int) (turn rest : Int) (n : Nat), vs = [.ref p, .int (n : Nat)] ∧ PenAt H p l ns turn rest ∧ 1 ≤ n ∧ n ≤ 6 ∧ turn < 500000 ∧
  ∀ a ps S turn' rest' H', H a = none → LC K H H' p l a ns n ps S turn' rest' → S.length = n → turn ≤ turn' → turn' ≤ turn + 5000 → Q (.ref a) H'
theorem ok__law_cells (T : Txt K mg) : FD P w K mg base CX0 3 d__law_cells ["_law_pen_here", "_law_size"] (spCells K) := by
  refine fd_of T.d__law_cells sc__law_cells (fun vs H Q E h => ?_) (fun cdv A outer s H vs Q E hr h => ?_)
  · obtain ⟨p, l, ns, turn, rest, n, rfl, _⟩ := h
    rfl
  · obtain ⟨p, l, ns, turn, rest, n, rfl, hP, n1, n6, ht, hQ⟩ := h
    refine ⟨_, (pss_cons (ps_set (i := 2) sc__law_cells.nd rfl (by first | exact Or.inl rfl | exact Or.inr rfl | exact Or.inr (Or.inl rfl)) (pe_def (ok__law_draw T) hr rfl T.g__law_draw rfl b__law_draw (pa_cons (pv 0) (pa_cons pe_int pa_nil)))) (pss_cons (ps_set (i := 3) sc__law_cells.nd rfl (by first | exact Or.inl rfl | exact Or.inr rfl | exact Or.inr (Or.inl rfl)) (pe_lst pa_nil)) (pss_cons (ps_for PassesOwn.never rfl (pi_range1 rfl T.f_range (pa_cons (pv 1) pa_nil)) (pg_name (i := 4) sc__law_cells.nd rfl (by first | exact Or.inl rfl | exact Or.inr rfl | exact Or.inr (Or.inl rfl))) (pss_cons (ps_set (i := 5) sc__law_cells.nd rfl (by first | exact Or.inl rfl | exact Or.inr rfl | exact Or.inr (Or.inl rfl)) (pe_lst (pa_cons (pe_op op_mod (pe_op op_add (pv 4) pe_int) (pv 1)) pa_nil))) (Evl.pss_cut (ps_if (pt_cmpR op_eq (pv 2) pe_int (nomark _)) (pss_one (ps_set (i := 5) sc__law_cells.nd rfl (by first | exact Or.inl rfl | exact Or.inr rfl | exact Or.inr (Or.inl rfl)) (pe_slice (sl_listK K rfl) (pe_lc rfl sc__law_cells.nd (pi_range1 rfl T.f_range (pa_cons (pv 1) pa_nil)) (own := [("_law_second", 6)]) (blkOk_by (by kernel_rfl)) (fun _ _ _ _ _ => (pg_name (i := 6) sc__law_cells.nd rfl (by first | exact Or.inl rfl | exact Or.inr rfl | exact Or.inr (Or.inl rfl)))) (fun _ _ _ _ _ => (pts_one (pt_cmpR op_ne (pv 6) (pv 4) (nomark _)))) (fun _ _ _ _ _ => (pv 6))) po_none (po_some pe_int)))) pss_nil) (Evl.pss_cut (ps_if (pt_cmpR op_eq (pv 2) pe_int (nomark _)) (pss_one (ps_setLc (i := 5) rfl sc__law_cells.nd rfl rfl rfl (pi_tupK K rfl (pe_tup (pa_cons (pe_op op_sub (pv 4) pe_int) (pa_cons (pe_op op_add (pv 4) pe_int) pa_nil)))) (own := [("_law_second", 6)]) (blkOk_by (by kernel_rfl)) (fun _ _ _ _ _ => (pg_name (i := 6) sc__law_cells.nd rfl (by first | exact Or.inl rfl | exact Or.inr rfl | exact Or.inr (Or.inl rfl)))) (fun _ _ _ _ _ => (pts_one (pt_chain op_le op_lt pe_int (pv 6) (pv 1)))) (fun _ _ _ _ _ => (pv 6)))) pss_nil) (Evl.pss_cut (ps_if (pt_cmpR op_gt (pv 2) pe_int (nomark _)) (pss_one (ps_set (i := 5) sc__law_cells.nd rfl (by first | exact Or.inl rfl | exact Or.inr rfl | exact Or.inr (Or.inl rfl)) (pe_def (ok__law_some T) hr rfl T.g__law_some rfl b__law_some (pa_cons (pv 0) (pa_cons (pe_listRg rfl rfl T.f_list (prg_1 rfl T.f_range (pv 1))) (pa_cons (pe_def (ok__law_draw T) hr rfl T.g__law_draw rfl b__law_draw (pa_cons (pv 0) (pa_cons (pe_ix (ix_K K rfl) (pe_lst (pa_cons pe_int (pa_cons pe_int (pa_cons pe_int pa_nil)))) (pe_op op_sub (pv 2) pe_int) (fun _ _ => rfl)) pa_nil))) pa_nil)))))) pss_nil) (pss_one (ps_expr (pe_bm PySem.F.plainAttrs_list PySem.F.slot_list_append PySem.F.type_list_append mt_append (pv 3) (pa_cons (pe_tup (pa_cons (pe_callTy call_tuple_of rfl T.f_tuple boot_tuple (pa_cons (pv 5) pa_nil)) (pa_cons (pe_def (ok__law_function T) hr rfl T.g__law_function rfl b__law_function (pa_cons (pv 0) pa_nil)) (pa_cons (pe_def (ok__law_draw T) hr rfl T.g__law_draw rfl b__law_draw (pa_cons (pv 0) (pa_cons pe_int pa_nil))) pa_nil)))) pa_nil))))))))) (pss_one (ps_ret (pv 3)))))), ?_⟩
    refine ⟨_, rfl, p, l, ns, turn, rest, 6, rfl, hP, by decide, by decide, by omega, fun way t1 rest1 H1 w0 w1 a1 a2 k1 hP1 => ?_⟩
    refine ⟨Nat.zero_le _, fun D hD => ?_⟩
    have pD : p ≠ D := ne_of_none hP1.pen hD
    have pl : l ≠ D := ne_of_none hP1.lst hD
    have hD0 : H D = none := by
      cases e : H D with
      | none => rfl
      | some o => have := k1.kp D o (by simpa using Ne.symm pD) e; rw [hD] at this; cases this
    have L0 : LC K H (upd H1 D (.lst [])) p l D ns n [] [] t1 rest1 := ⟨upd_same, ⟨rfl, fun i p h => by simp at h⟩, fun i h => by simp at h, hP1.same (same_upd hD), k1.trans1 (same_kp (same_upd hD))⟩
    show (tSeq _ _) _ _ (upd H1 D (.lst []))
    generalize upd H1 D (.lst []) = H2 at *
    refine ⟨_, rfl, _, rfl, by omega, by omega, ?_⟩
    rw [Int.toNat_natCast]
    refine for_range (lo := 0) (n := n) (fun i σ H' => ∃ x4 x5 x6 ps S t rest, σ = [some (.ref p), some (.int (n : Nat)), some (.int way), some (.ref D), x4, x5, x6] ∧ LC K H H' p l D ns n ps S t rest ∧ S.length = i ∧ turn ≤ t ∧ t ≤ turn + 1 + 130 * i) ⟨_, _, _, [], [], t1, rest1, rfl, L0, rfl, a1, by omega⟩ (fun i σ H' hi q => ?_) (fun σ H' q => ?_)
    · obtain ⟨x4, x5, x6, ps, S, t, rest, rfl, L, eS, b1, b2⟩ := q
      have hn0 : (0 : Int) < (n : Nat) := by omega
      have e0 : (0 : Int) + (i : Nat) = (i : Nat) := Int.zero_add _
      show (tSeq _ _) _ [some (.ref p), some (.int (n : Nat)), some (.int way), some (.ref D), some (.int (0 + (i : Nat))), x5, x6] H'
      rw [e0]
      refine ⟨_, rfl, _, _, rfl, rfl, _, rfl, _, _, rfl, rfl, hn0, (by show 1 ≤ sizeLine; decide), fun s1 hs1 => ?_⟩
      have em : ((i : Nat) + 1 : Int) % ((n : Nat) : Int) = (((i + 1) % n : Nat) : Int) := by rw [Int.natCast_emod]; rfl
      have J0 : CJ K H p l D ns n ps S way i t 0 [some (.ref p), some (.int (n : Nat)), some (.int way), some (.ref D), some (.int (i : Nat)), some (.ref s1), x6] (upd H' s1 (.lst [.int (((i : Nat) + 1 : Int) % ((n : Nat) : Int))])) := by
        refine ⟨x6, s1, [(i + 1) % n], t, rest, rfl, by rw [upd_same, em]; rfl, fun e => ?_, fun e => ?_, ⟨(by show 1 ≤ 8; decide), by simp, fun x hx => ?_⟩, L.same (same_upd hs1), Int.le_refl _, by omega⟩
        · rw [e, L.pen.pen] at hs1; cases hs1
        · rw [e, L.lst] at hs1; cases hs1
        · rw [List.mem_singleton.mp hx]; exact Nat.mod_lt _ (by omega)
      show (Evl.tCut _ _) _ [some (.ref p), some (.int (n : Nat)), some (.int way), some (.ref D), some (.int (i : Nat)), some (.ref s1), x6] (upd H' s1 (.lst [.int (((i : Nat) + 1 : Int) % ((n : Nat) : Int))]))
      generalize upd H' s1 (.lst [.int (((i : Nat) + 1 : Int) % ((n : Nat) : Int))]) = H3 at *
      refine ⟨CJ K H p l D ns n ps S way i t 0, ?_, fun σ4 H4 J => ?_⟩
      · refine ⟨_, rfl, rfl, _, rfl, ?_⟩
        by_cases hw : way = 1
        · refine iteTb (decide_eq_true (by rw [hw])) ?_
          obtain ⟨x6, s, ops, t', rest', e1, hs, sp, sD, ook, L3, c1, c2⟩ := J0
          refine ⟨_, rfl, _, rfl, by omega, by omega, fun D2 hD2 => ?_⟩
          rw [Int.toNat_natCast]
          refine lc_same (walk_range (lo := 0) (n := n)) (fun j acc _ => acc = lV (((List.range n).take j).filter fun x => decide (x ≠ i))) hD2 (Nat.lt_of_le_of_lt n6 (by decide)) (fun _ _ => trivial) (fun _ _ => rfl) (fun j x H4 H5 acc K1 K0 hj s4 _ _ ea y k1 k0 => ?_) (fun H4 acc s4 ed ea => ?_)
          · obtain ⟨rfl, rfl⟩ := y
            have ej : (0 : Int) + (j : Nat) = (j : Nat) := Int.zero_add _
            refine ⟨rfl, _, rfl, _, rfl, rfl, _, rfl, ?_⟩
            by_cases hji : j = i
            · refine iteFb (by show (!decide (V.int (0 + (j : Nat)) = V.int (i : Nat))) = false; rw [ej, hji]; simp) (k0 _ (Same.refl _) ?_)
              rw [ea, take_range hj, List.filter_append, hji]
              simp
            · refine iteTb ?_ ⟨_, rfl, k1 _ _ (Same.refl _) fun H7 _ => ?_⟩
              · show (!decide (V.int (0 + (j : Nat)) = V.int (i : Nat))) = true
                rw [ej, decide_eq_false (fun e => hji (by cases e; rfl))]
                rfl
              · rw [ea, take_range hj, List.filter_append]
                show _ ++ [V.int (0 + (j : Nat))] = _
                rw [ej]
                simp [lV, hji]
          · refine ⟨8, rfl, D2, _, rfl, .inl (.inl ed), fun c hc => ?_⟩
            have ne : c ≠ D2 := fun z => by rw [z, ed] at hc; cases hc
            have e9 : cutV acc none (some (8 : Int)) = lV (((List.range n).filter fun x => decide (x ≠ i)).take 8) := by
              rw [ea, List.take_of_length_le (by rw [List.length_range]; exact Nat.le_refl _)]
              rw [show (8 : Int) = ((8 : Nat) : Int) from rfl]
              unfold cutV
              rw [HT.sIx_none, HT.sIx_nat, Nat.sub_zero, List.drop_zero, List.length_map, ← List.map_take]
              congr 1
              by_cases h : 8 ≤ ((List.range n).filter fun x => decide (x ≠ i)).length
              · rw [Nat.min_eq_left h]
              · rw [Nat.min_eq_right (by omega), List.take_of_length_le (Nat.le_refl _), List.take_of_length_le (by omega)]
            have L4 := L3.same s4
            refine ⟨_, c, _, t', rest', rfl, by rw [upd_same, e9], fun z => ?_, fun z => ?_, ⟨?_, ?_, fun x hx => ?_⟩, L4.same (same_upd hc), c1, c2⟩
            · rw [z, L4.pen.pen] at hc; cases hc
            · rw [z, L4.lst] at hc; cases hc
            · rw [List.length_take]; exact Nat.min_le_left _ _
            · exact List.Pairwise.sublist ((List.take_sublist _ _).trans List.filter_sublist) List.nodup_range
            · exact List.mem_range.mp (List.mem_filter.mp (List.mem_of_mem_take hx)).1
        · exact iteFb (decide_eq_false fun z => hw (by cases z; rfl)) J0
      · obtain ⟨x6, s, ops, t', rest', rfl, hs, sp, sD, ook, L4, c1, c2⟩ := J
        refine ⟨CJ K H p l D ns n ps S way i t 0, ?_, fun σ5 H5 J => ?_⟩
        · refine ⟨_, rfl, rfl, _, rfl, ?_⟩
          by_cases hw : way = 2
          · refine iteTb (decide_eq_true (by rw [hw])) ?_
            refine ⟨_, rfl, _, _, rfl, rfl, _, rfl, _, _, rfl, rfl, (by show 2 ≤ sizeLine; decide), fun q hq => ⟨q, rfl, ⟨_, sqT_upd⟩, fun D2 hD2 => ?_⟩⟩
            have L5 := L4.same (same_upd (o := .tup [.int ((i : Nat) - 1), .int ((i : Nat) + 1)]) hq)
            have hq5 : SqT K (upd H4 q (.tup [.int ((i : Nat) - 1), .int ((i : Nat) + 1)])) q [.int ((i : Nat) - 1), .int ((i : Nat) + 1)] := sqT_upd
            generalize upd H4 q (.tup [.int ((i : Nat) - 1), .int ((i : Nat) + 1)]) = H5 at *
            refine lc_same walk_tup (fun j acc _ => acc = lV (nbr i n j)) hD2 (by show 2 < sizeLine; decide) (fun H' s => same_tk s _ _ hq5) (fun _ _ => rfl) (fun j x H6 H7 acc K1 K0 hj s6 _ _ ea y k1 k0 => ?_) (fun H6 acc s6 ed ea => ?_)
            · obtain ⟨rfl, hx⟩ := y
              match j, hj, hx with
              | 0, _, hx =>
                cases hx
                by_cases h0 : 0 < i
                · refine ⟨rfl, _, rfl, _, _, rfl, rfl, true, congrArg V.bl (decide_eq_true (by omega)), iteT ⟨_, rfl, _, _, rfl, rfl, true, congrArg V.bl (decide_eq_true (by omega)), iteT ⟨_, rfl, k1 _ _ (Same.refl _) fun H8 _ => ?_⟩⟩⟩
                  rw [ea]
                  show [V.int ((i : Nat) - 1)] = lV (nbr i n 1)
                  unfold nbr
                  rw [if_pos h0]
                  show _ = [V.int ((i - 1 : Nat) : Int)]
                  rw [Int.ofNat_sub (by omega)]
                  rfl
                · refine ⟨rfl, _, rfl, _, _, rfl, rfl, false, congrArg V.bl (decide_eq_false (by omega)), iteF ⟨_, rfl, iteF (k0 _ (Same.refl _) ?_)⟩⟩
                  rw [ea]
                  show [] = lV (nbr i n 1)
                  unfold nbr
                  rw [if_neg h0]
                  rfl
              | 1, _, hx =>
                cases hx
                by_cases h0 : i + 1 < n
                · refine ⟨rfl, _, rfl, _, _, rfl, rfl, true, congrArg V.bl (decide_eq_true (by omega)), iteT ⟨_, rfl, _, _, rfl, rfl, true, congrArg V.bl (decide_eq_true (by omega)), iteT ⟨_, rfl, k1 _ _ (Same.refl _) fun H8 _ => ?_⟩⟩⟩
                  rw [ea]
                  unfold nbr
                  rw [if_pos h0]
                  simp [lV]
                · refine ⟨rfl, _, rfl, _, _, rfl, rfl, true, congrArg V.bl (decide_eq_true (by omega)), iteT ⟨_, rfl, _, _, rfl, rfl, false, congrArg V.bl (decide_eq_false (by omega)), iteF (k0 _ (Same.refl _) ?_)⟩⟩
                  rw [ea]
                  unfold nbr
                  rw [if_neg h0]
                  simp [lV]
            · have L6 := L5.same s6
              refine ⟨_, D2, nbr i n 2, t', rest', rfl, by rw [ed, ea]; rfl, fun z => ?_, fun z => ?_, nbr_ok hi, L6, c1, c2⟩
              · rw [z, L5.pen.pen] at hD2; cases hD2
              · rw [z, L5.lst] at hD2; cases hD2
          · exact iteFb (decide_eq_false fun z => hw (by cases z; rfl)) ⟨x6, s, ops, t', rest', rfl, hs, sp, sD, ook, L4, c1, c2⟩
        · obtain ⟨x6, s, ops, t', rest', rfl, hs, sp, sD, ook, L5, c1, c2⟩ := J
          refine ⟨CJ K H p l D ns n ps S way i t 101, ?_, fun σ6 H6 J => ?_⟩
          · refine ⟨_, rfl, _, _, rfl, rfl, _, rfl, ?_⟩
            by_cases hw : 2 < way
            · refine iteTb (decide_eq_true hw) ?_
              refine ⟨_, rfl, _, rfl, n, rfl, .of_le (by decide) (by omega) (by decide) (by omega), fun q hq => ?_⟩
              rw [rgV_nat]
              have L6 := L5.same (same_upd (o := .lst (lV (List.range n))) hq)
              have hq6 : upd H5 q (.lst (lV (List.range n))) q = some (.lst (lV (List.range n))) := upd_same
              generalize upd H5 q (.lst (lV (List.range n))) = H6 at *
              obtain ⟨z, z1, z2, hat⟩ := at349 hw w1
              refine ⟨_, rfl, (by show 3 ≤ sizeLine; decide), fun c hc => ⟨_, rfl, _, _, rfl, rfl, .inl ⟨c, _, _, _, rfl, rfl, sqL_upd, hat, ?_⟩⟩⟩
              have L7 := L6.same (same_upd (o := .lst [V.int 3, .int 4, .int 9]) hc)
              have hq7 : upd H6 c (.lst [V.int 3, .int 4, .int 9]) q = some (.lst (lV (List.range n))) := same_upd hc _ _ hq6
              generalize upd H6 c (.lst [V.int 3, .int 4, .int 9]) = H7 at *
              refine ⟨p, l, ns, t', rest', z, rfl, L7.pen, z1, by omega, by omega, fun r tt rest'' H8 r0 r1 tt1 tt2 k8 hP8 => ?_⟩
              have qp : q ≠ p := fun e => by rw [e, L5.pen.pen] at hq; cases hq
              have L8 := L7.go (Ne.symm pD) k8 hP8
              have hq8 := k8.kp _ _ (by simpa using qp) hq7
              obtain ⟨rn, rfl⟩ : ∃ rn : Nat, r = rn := ⟨r.toNat, by omega⟩
              refine ⟨p, l, q, ns, tt, rest'', List.range n, rn, rfl, hP8, .inl (.inl hq8), by rw [List.length_range]; omega, by omega, by omega, fun q2 out left tt' rest3 H9 k9 hq2 hq2' pm lo tt3 tt4 hP9 => ?_⟩
              have nd := List.nodup_append.mp (pm.nodup_iff.mpr List.nodup_range)
              refine ⟨_, q2, out, tt', rest3, rfl, hq2', fun e => ?_, fun e => ?_, ⟨by rw [lo]; omega, nd.1, fun x hx => List.mem_range.mp (pm.mem_iff.mp (List.mem_append_left _ hx))⟩, L8.go (Ne.symm pD) k9 hP9, by omega, by omega⟩
              · rw [e, hP8.pen] at hq2; cases hq2
              · rw [e, L8.lst] at hq2; cases hq2
            · exact iteFb (decide_eq_false hw) ⟨x6, s, ops, t', rest', rfl, hs, sp, sD, ook, L5, by omega, by omega⟩
          · obtain ⟨x6, s, ops, t', rest', rfl, hs, sp, sD, ook, L6, c1, c2⟩ := J
            refine ⟨_, rfl, .inl ⟨rfl, _, .inl (.inl L6.lst)⟩, _, rfl, s, _, rfl, .inl ⟨.inl (.inl hs), fun z hz => ?_⟩⟩
            have L7 := L6.same (same_upd (o := .tup (lV ops)) hz)
            have hz7 : upd H6 z (.tup (lV ops)) z = some (.tup (lV ops)) := upd_same
            generalize upd H6 z (.tup (lV ops)) = H7 at *
            refine ⟨_, rfl, p, l, ns, t', rest', rfl, L7.pen, by omega, fun f fn t2 rest2 H8 k8 hf fok d1 d2 hP8 => ?_⟩
            have L8 := L7.go (Ne.symm pD) k8 hP8
            refine ⟨_, rfl, p, l, ns, t2, rest2, 8, rfl, hP8, by decide, by decide, by omega, fun v t3 rest3 H9 v0 v1 g1 g2 k9 hP9 => ⟨(by show 3 ≤ sizeLine; decide), fun u hu => ?_⟩⟩
            have L9 := L8.go (Ne.symm pD) k9 hP9
            have s10 := same_upd (o := .tup [.ref z, .ref f, .int v]) hu
            have L10 := L9.same s10
            have tr : Trip K (upd H9 u (.tup [.ref z, .ref f, .int v])) u ⟨ops, fn, v⟩ := ⟨z, f, upd_same, (k8.trans1 k9).sk.tk.trans (same_tk s10) _ _ (.inl (.inl hz7)), hf.mono (k9.sk.tk.trans (same_tk s10))⟩
            generalize upd H9 u (.tup [.ref z, .ref f, .int v]) = H10 at *
            have hu : ¬ Stb K (.lst (rV ps)) := fun z => z
            have sk : SK K H10 (upd H10 D (.lst (rV ps ++ [.ref u]))) := .upd L10.lst hu
            refine ⟨D, _, _, rfl, rfl, L10.lst, by rw [List.length_map, L10.trips.1, eS]; exact Nat.lt_of_lt_of_le hi (Nat.le_trans n6 (by decide)), _, _, _, ps ++ [u], S ++ [⟨ops, fn, v⟩], t3, rest3, rfl, ⟨by rw [upd_same]; simp [rV], (L10.trips.mono sk).snoc (tr.mono sk), fun j hj => ?_, ⟨by rw [upd_ne pD]; exact L10.pen.pen, by rw [upd_ne pl]; exact L10.pen.lst, hP.len, L10.pen.rest0, L10.pen.turn0⟩, ⟨L10.kp.sk.trans sk, fun a o n h => ?_⟩⟩, by rw [List.length_append, eS]; rfl, by omega, by omega⟩
            · by_cases hj' : j < S.length
              · rw [at_lt hj']; exact L10.cok j hj'
              · have : j = S.length := by rw [List.length_append, List.length_singleton] at hj; omega
                rw [this, at_end]
                exact ⟨ook.o8, ook.nd, ook.lt, fok, ⟨v0, by show v ≤ 7; omega⟩⟩
            · rw [upd_ne (fun e => by rw [e, hD0] at h; cases h)]
              exact L10.kp.kp a o n h
    · obtain ⟨x4, x5, x6, ps, S, t, rest, rfl, L, eS, b1, b2⟩ := q
      exact ⟨_, rfl, hQ D ps S t rest H' hD0 L eS b1 (by omega)⟩
end
end KW
/-! The walk, part 28: the law's larger systems. -/
namespace KW
open PySem PySem.Spec PyProof.Rows L2 KR K19 StX
/-! ### plain -/
theorem idx_of {l : List Nat} (nd : l.Nodup) {j c : Nat} (h : l[j]? = some c) : l.idxOf c = j := by
  have hj := (List.getElem?_eq_some_iff.mp h).1
  have hc : c ∈ l := List.mem_of_getElem? h
  have h1 : l.idxOf c < l.length := List.idxOf_lt_length_of_mem hc
  have h2 : l[l.idxOf c] = c := List.getElem_idxOf h1
  have h3 : l[j] = c := (List.getElem?_eq_some_iff.mp h).2
  exact (List.getElem_inj nd).mp (h2.trans h3.symm)
/-- few cells at the places of one block -/
theorem blk_few {l : List Nat} {n b : Nat} (nd : l.Nodup) (hm : ∀ c, c < n → c ∈ l) (hb : 0 < b) (r : Nat) : ((List.range n).filter fun c => l.idxOf c / b == r).length ≤ b := by
  let f : Nat → Nat := fun c => l.idxOf c - r * b
  have key : ∀ c ∈ (List.range n).filter (fun c => l.idxOf c / b == r), l[l.idxOf c]? = some c ∧ r * b ≤ l.idxOf c ∧ l.idxOf c < r * b + b := fun c hc => by
    obtain ⟨h1, h2⟩ := List.mem_filter.mp hc
    have hc' := hm c (List.mem_range.mp h1)
    have hi : l.idxOf c < l.length := List.idxOf_lt_length_of_mem hc'
    have e : l.idxOf c / b = r := by simpa using h2
    refine ⟨by rw [List.getElem?_eq_getElem hi, List.getElem_idxOf hi], ?_, ?_⟩
    · rw [← e]; exact Nat.div_mul_le_self _ _
    · have := Nat.lt_div_mul_add hb (a := l.idxOf c)
      rw [← e]; omega
  have h := nodup_le (n := b) (l := ((List.range n).filter fun c => l.idxOf c / b == r).map f) ?_ ?_
  · rwa [List.length_map] at h
  · refine List.pairwise_map.mpr ?_
    refine (List.Pairwise.and_mem.mp (List.Pairwise.sublist List.filter_sublist List.nodup_range)).imp ?_
    rintro c d ⟨hc, hd, hne⟩ e
    obtain ⟨c1, c2, c3⟩ := key c hc
    obtain ⟨d1, d2, d3⟩ := key d hd
    have e' : l.idxOf c = l.idxOf d := by have : l.idxOf c - r * b = l.idxOf d - r * b := e; omega
    rw [e', d1] at c1
    exact hne (Option.some.inj c1).symm
  · intro x hx
    obtain ⟨c, hc, rfl⟩ := List.mem_map.mp hx
    obtain ⟨c1, c2, c3⟩ := key c hc
    show l.idxOf c - r * b < b
    omega
/-- the operands of the cell at place j -/
structure OpB (order : List Nat) (n b j : Nat) (l : List Nat) : Prop where
  ok : OpsOk n l
  blk : ∀ o ∈ l, ∃ k, order[k]? = some o ∧ k / b ≤ j / b
def cutB (order : List Nat) (b j : Nat) : List Nat := (order.drop (j / b * b)).take (min (j / b * b + b) order.length - j / b * b)
theorem opB_of {order : List Nat} {n b j : Nat} {o1 l1 o2 l2 o3 l3 : List Nat} (hb : 0 < b) (nd : order.Nodup) (hl : ∀ x ∈ order, x < n) (p1 : (o1 ++ l1).Perm (cutB order b j)) (p2 : (o2 ++ l2).Perm (order.take (j / b * b))) (p3 : (o3 ++ l3).Perm (o1 ++ o2)) (h8 : o3.length ≤ 8) : OpB order n b j o3 := by
  have sub : (order.take (j / b * b) ++ cutB order b j).Sublist order := by
    conv => rhs; rw [← List.take_append_drop (j / b * b) order]
    exact List.Sublist.append (List.Sublist.refl _) (List.take_sublist _ _)
  have n1 : ((o2 ++ l2) ++ (o1 ++ l1)).Nodup := (List.Perm.append p2 p1).nodup_iff.mpr (List.Pairwise.sublist sub nd)
  have n2 : (o2 ++ o1).Nodup := List.Pairwise.sublist (List.Sublist.append (List.sublist_append_left _ _) (List.sublist_append_left _ _)) n1
  have n3 : (o3 ++ l3).Nodup := p3.nodup_iff.mpr (List.perm_append_comm.nodup_iff.mpr n2)
  have mem : ∀ o ∈ o3, ∃ k, order[k]? = some o ∧ k < j / b * b + b := fun o ho => by
    have h := p3.mem_iff.mp (List.mem_append_left _ ho)
    rcases List.mem_append.mp h with h | h
    · have h := p1.mem_iff.mp (List.mem_append_left _ h)
      obtain ⟨k, hk⟩ := List.mem_iff_getElem?.mp h
      unfold cutB at hk
      have hk1 := (List.getElem?_eq_some_iff.mp hk).1
      rw [List.length_take] at hk1
      rw [List.getElem?_take_of_lt (by omega), List.getElem?_drop] at hk
      exact ⟨_, hk, by omega⟩
    · have h := p2.mem_iff.mp (List.mem_append_left _ h)
      obtain ⟨k, hk⟩ := List.mem_iff_getElem?.mp h
      have hk1 := (List.getElem?_eq_some_iff.mp hk).1
      rw [List.length_take] at hk1
      rw [List.getElem?_take_of_lt (by omega)] at hk
      exact ⟨k, hk, by omega⟩
  refine ⟨⟨h8, (List.nodup_append.mp n3).1, fun x hx => ?_⟩, fun o ho => ?_⟩
  · obtain ⟨k, hk, _⟩ := mem x hx
    exact hl x (List.mem_of_getElem? hk)
  · obtain ⟨k, hk, h⟩ := mem o ho
    refine ⟨k, hk, ?_⟩
    have : k < (j / b + 1) * b := by rw [Nat.add_mul, Nat.one_mul]; exact h
    have := (Nat.div_lt_iff_lt_mul hb).mpr this
    omega
section
variable {P : Program} {w : World} {K : PySem.W.Frag} {mg : PySem.Str → Option Value} {base : Heap}
/-- the places filled so far -/
structure SmI (K : PySem.W.Frag) (H0 H : Hp) (p l D oA : Addr) (order : List Nat) (ns : List Int) (n b i : Nat) (qs : Nat → Addr) (cs : Nat → Cell) (vals : List V) (t rest : Int) : Prop where
  lst : H D = some (.lst vals)
  len : vals.length = n
  ord : H oA = some (.lst (lV order))
  at_ : ∀ j c, j < i → order[j]? = some c → vals[c]? = some (.ref (qs c)) ∧ Trip K H (qs c) (cs c) ∧ OpB order n b j (cs c).ops ∧ FnOk1 (cs c).fn ∧ Lev (cs c).g
  pen : PenAt H p l ns t rest
  kp : Kp K [p] H0 H
theorem SmI.same {H0 H H' : Hp} {p l D oA : Addr} {order : List Nat} {ns : List Int} {n b i : Nat} {qs : Nat → Addr} {cs : Nat → Cell} {vals : List V} {t rest : Int} (h : SmI K H0 H p l D oA order ns n b i qs cs vals t rest) (s : Same H H') : SmI K H0 H' p l D oA order ns n b i qs cs vals t rest :=
  ⟨s _ _ h.lst, h.len, s _ _ h.ord, fun j c hj hc => let ⟨a1, a2, a3⟩ := h.at_ j c hj hc; ⟨a1, a2.mono (same_sk s), a3⟩, h.pen.same s, h.kp.trans1 (same_kp s)⟩
theorem SmI.go {H0 H H' : Hp} {p l D oA : Addr} {order : List Nat} {ns : List Int} {n b i : Nat} {qs : Nat → Addr} {cs : Nat → Cell} {vals : List V} {t rest t' rest' : Int} (h : SmI K H0 H p l D oA order ns n b i qs cs vals t rest) (ne : D ≠ p) (ne2 : oA ≠ p) (k : Kp K [p] H H') (hP : PenAt H' p l ns t' rest') : SmI K H0 H' p l D oA order ns n b i qs cs vals t' rest' :=
  ⟨k.kp _ _ (by simpa using ne) h.lst, h.len, k.kp _ _ (by simpa using ne2) h.ord, fun j c hj hc => let ⟨a1, a2, a3⟩ := h.at_ j c hj hc; ⟨a1, a2.mono k.sk, a3⟩, hP, h.kp.trans1 k⟩
def spSmall (K : PySem.W.Frag) : Sp := fun vs H Q _ => ∃ (p l : Addr) (ns : List Int) (turn rest : Int) (n : Nat), vs = [.ref p, .int (n : Nat), .int 5] ∧ PenAt H p l ns turn rest ∧ 1 ≤ n ∧ n ≤ 12 ∧ turn < 500000 ∧
  ∀ a ps S rk turn' rest' H', H a = none → H' a = some (.lst (rV ps)) → Trips K H' ps S → SysOk S rk 5 → S.length = n → PenAt H' p l ns turn' rest' → Kp K [p] H H' → turn ≤ turn' → turn' ≤ turn + 10000 → Q (.ref a) H'
theorem ok__law_small (T : Txt K mg) : FD P w K mg base CX0 3 d__law_small ["_law_pen_here", "_law_size", "_law_most"] (spSmall K) := by
  refine fd_of T.d__law_small sc__law_small (fun vs H Q E h => ?_) (fun cdv A outer s H vs Q E hr h => ?_)
  · obtain ⟨p, l, ns, turn, rest, n, rfl, _⟩ := h
    rfl
  · obtain ⟨p, l, ns, turn, rest, n, rfl, hP, n1, n12, ht, hQ⟩ := h
    refine ⟨_, (pss_cons (ps_set (i := 3) sc__law_small.nd rfl (by first | exact Or.inl rfl | exact Or.inr rfl | exact Or.inr (Or.inl rfl)) (pe_def (ok__law_some T) hr rfl T.g__law_some rfl b__law_some (pa_cons (pv 0) (pa_cons (pe_listRg rfl rfl T.f_list (prg_1 rfl T.f_range (pv 1))) (pa_cons (pv 1) pa_nil))))) (pss_cons (ps_set (i := 4) sc__law_small.nd rfl (by first | exact Or.inl rfl | exact Or.inr rfl | exact Or.inr (Or.inl rfl)) (pe_op op_add pe_int (pe_def (ok__law_draw T) hr rfl T.g__law_draw rfl b__law_draw (pa_cons (pv 0) (pa_cons (pv 2) pa_nil))))) (pss_cons (ps_set (i := 5) sc__law_small.nd rfl (by first | exact Or.inl rfl | exact Or.inr rfl | exact Or.inr (Or.inl rfl)) (pe_def (ok__law_draw T) hr rfl T.g__law_draw rfl b__law_draw (pa_cons (pv 0) (pa_cons pe_int pa_nil)))) (pss_cons (ps_set (i := 6) sc__law_small.nd rfl (by first | exact Or.inl rfl | exact Or.inr rfl | exact Or.inr (Or.inl rfl)) (pe_op op_rep (pe_lst (pa_cons pe_non pa_nil)) (pv 1))) (pss_cons (ps_for PassesOwn.never rfl (pi_range1 rfl T.f_range (pa_cons (pv 1) pa_nil)) (pg_name (i := 7) sc__law_small.nd rfl (by first | exact Or.inl rfl | exact Or.inr rfl | exact Or.inr (Or.inl rfl))) (pss_cons (ps_set (i := 8) sc__law_small.nd rfl (by first | exact Or.inl rfl | exact Or.inr rfl | exact Or.inr (Or.inl rfl)) (pe_op op_mul (pe_op op_fdiv (pv 7) (pv 4)) (pv 4))) (pss_cons (ps_set (i := 9) sc__law_small.nd rfl (by first | exact Or.inl rfl | exact Or.inr rfl | exact Or.inr (Or.inl rfl)) (pe_slice (sl_listK K rfl) (pv 3) (po_some (pv 8)) (po_some (pe_op op_add (pv 8) (pv 4))))) (Evl.pss_cut (ps_if (pt_cmpR op_gt (pv 5) pe_int (nomark _)) (pss_one (ps_set (i := 9) sc__law_small.nd rfl (by first | exact Or.inl rfl | exact Or.inr rfl | exact Or.inr (Or.inl rfl)) (pe_def (ok__law_some T) hr rfl T.g__law_some rfl b__law_some (pa_cons (pv 0) (pa_cons (pv 9) (pa_cons (pe_def (ok__law_draw T) hr rfl T.g__law_draw rfl b__law_draw (pa_cons (pv 0) (pa_cons (pe_op op_add (pe_callB (call_lenK K rfl) rfl T.f_len boot_len (pa_cons (pv 9) pa_nil)) pe_int) pa_nil))) pa_nil)))))) pss_nil) (pss_cons (ps_set (i := 9) sc__law_small.nd rfl (by first | exact Or.inl rfl | exact Or.inr rfl | exact Or.inr (Or.inl rfl)) (pe_op op_cat (pv 9) (pe_def (ok__law_some T) hr rfl T.g__law_some rfl b__law_some (pa_cons (pv 0) (pa_cons (pe_slice (sl_listK K rfl) (pv 3) po_none (po_some (pv 8))) (pa_cons (pe_def (ok__law_draw T) hr rfl T.g__law_draw rfl b__law_draw (pa_cons (pv 0) (pa_cons (pe_op op_add (pe_callB (call_min2 rfl) rfl T.f_min boot_min (pa_cons pe_int (pa_cons (pv 8) pa_nil))) pe_int) pa_nil))) pa_nil)))))) (pss_cons (ps_set (i := 9) sc__law_small.nd rfl (by first | exact Or.inl rfl | exact Or.inr rfl | exact Or.inr (Or.inl rfl)) (pe_def (ok__law_some T) hr rfl T.g__law_some rfl b__law_some (pa_cons (pv 0) (pa_cons (pv 9) (pa_cons pe_int pa_nil))))) (pss_one (ps_asg (pe_tup (pa_cons (pe_callTy call_tuple_of rfl T.f_tuple boot_tuple (pa_cons (pv 9) pa_nil)) (pa_cons (pe_def (ok__law_function T) hr rfl T.g__law_function rfl b__law_function (pa_cons (pv 0) pa_nil)) (pa_cons (pe_def (ok__law_draw T) hr rfl T.g__law_draw rfl b__law_draw (pa_cons (pv 0) (pa_cons pe_int pa_nil))) pa_nil)))) (pg_sub (pv 6) (pe_ix (ix_K K rfl) (pv 3) (pv 7) (fun _ _ => rfl)) set_list))))))))) (pss_one (ps_ret (pv 6)))))))), ?_⟩
    -- order
    refine ⟨_, rfl, _, rfl, n, rfl, .of_le (by decide) (by omega) (by decide) (by omega), fun q hq => ?_⟩
    rw [rgV_nat]
    have s1 := same_upd (o := .lst (lV (List.range n))) hq
    refine ⟨_, rfl, p, l, q, ns, turn, rest, List.range n, n, rfl, hP.same s1, sqL_upd, by rw [List.length_range]; omega, by omega, by omega, fun oA order left t1 rest1 H1 k1 hoA hoA' pm lo a1 a2 hP1 => ?_⟩
    rw [List.length_range, Nat.min_self] at lo
    obtain rfl : left = [] := by
      have := pm.length_eq
      rw [List.length_append, List.length_range] at this
      exact List.eq_nil_of_length_eq_zero (by omega)
    rw [List.append_nil] at pm
    have nd : order.Nodup := pm.nodup_iff.mpr List.nodup_range
    have hlt : ∀ x ∈ order, x < n := fun x hx => List.mem_range.mp (pm.mem_iff.mp hx)
    have hmem : ∀ c, c < n → c ∈ order := fun c hc => pm.mem_iff.mpr (List.mem_range.mpr hc)
    have k01 : Kp K [p] H H1 := (same_kp (R := [p]) s1).trans1 k1
    have oAp : oA ≠ p := fun e => by rw [e, s1 _ _ hP.pen] at hoA; cases hoA
    have hoA0 := s1.free hoA
    -- block
    refine ⟨_, rfl, _, rfl, p, l, ns, t1, rest1, 5, rfl, hP1, by decide, by decide, by omega, fun rb t2 rest2 H2 b0 b1 c1 c2 k2 hP2 => ⟨_, _, rfl, rfl, ?_⟩⟩
    obtain ⟨b, hb⟩ : ∃ b : Nat, (1 : Int) + rb = b := ⟨(1 + rb).toNat, by omega⟩
    have hb0 : 0 < b := by omega
    have hb5 : b ≤ 5 := by omega
    show (tSeq _ _) _ [some (.ref p), some (.int (n : Nat)), some (.int 5), some (.ref oA), some (.int (1 + rb)), none, none, none, none, none] H2
    rw [hb]
    -- dense
    refine ⟨_, rfl, p, l, ns, t2, rest2, 3, rfl, hP2, by decide, by decide, by omega, fun dn t3 rest3 H3 d0 d1 e1 e2 k3 hP3 => ?_⟩
    -- found
    refine ⟨(by show 1 ≤ sizeLine; decide), fun z hz => ⟨_, rfl, ?_⟩⟩
    have s4 := same_upd (o := .lst [V.non]) hz
    have hz4 : upd H3 z (.lst [V.non]) z = some (.lst [V.non]) := upd_same
    have k23 := k2.trans1 k3
    have hord3 : H3 oA = some (.lst (lV order)) := k23.kp _ _ (by simpa using oAp) hoA'
    have hP4 := hP3.same s4
    have hord4 := s4 _ _ hord3
    have k4 := (k01.trans1 k23).trans1 (same_kp (R := [p]) s4)
    generalize upd H3 z (.lst [V.non]) = H4 at *
    refine ⟨z, _, _, rfl, rfl, hz4, by omega, by omega, by show 1 * _ ≤ _; rw [Int.toNat_natCast, Nat.one_mul]; exact Nat.le_trans n12 (by decide), fun D hD => ?_⟩
    rw [Int.toNat_natCast]
    have fl : ∀ m : Nat, (List.replicate m [V.non]).flatten = List.replicate m V.non := fun m => by
      induction m with
      | zero => rfl
      | succ m ih => rw [List.replicate_succ, List.flatten_cons, ih]; rfl
    rw [fl]
    have pD : p ≠ D := ne_of_none hP4.pen hD
    have lD : l ≠ D := ne_of_none hP4.lst hD
    have oD : oA ≠ D := ne_of_none hord4 hD
    have hD0 : H D = none := by
      cases e : H D with
      | none => rfl
      | some o => have := k4.kp D o (by simpa using Ne.symm pD) e; rw [hD] at this; cases this
    have I0 : SmI K H (upd H4 D (.lst (List.replicate n V.non))) p l D oA order ns n b 0 (fun _ => 0) (fun _ => dcell) (List.replicate n V.non) t3 rest3 :=
      ⟨upd_same, List.length_replicate, same_upd hD _ _ hord4, fun j c hj => absurd hj (Nat.not_lt_zero j), hP4.same (same_upd hD), k4.trans1 (same_kp (same_upd hD))⟩
    show (tSeq _ _) _ _ (upd H4 D (.lst (List.replicate n V.non)))
    generalize upd H4 D (.lst (List.replicate n V.non)) = H5 at *
    refine ⟨_, rfl, _, rfl, by omega, by omega, ?_⟩
    rw [Int.toNat_natCast]
    refine for_range (lo := 0) (n := n) (fun i σ H' => ∃ x7 x8 x9 qs cs vals t rest, σ = [some (.ref p), some (.int (n : Nat)), some (.int 5), some (.ref oA), some (.int (b : Nat)), some (.int dn), some (.ref D), x7, x8, x9] ∧ SmI K H H' p l D oA order ns n b i qs cs vals t rest ∧ turn ≤ t ∧ t ≤ turn + 200 + 400 * i) ⟨_, _, _, _, _, _, t3, rest3, rfl, I0, by omega, by omega⟩ (fun i σ H' hi q => ?_) (fun σ H' q => ?_)
    · obtain ⟨x7, x8, x9, qs, cs, vals, t, rest, rfl, I, f1, f2⟩ := q
      have ez : (0 : Int) + (i : Nat) = (i : Nat) := Int.zero_add _
      show (tSeq _ _) _ [some (.ref p), some (.int (n : Nat)), some (.int 5), some (.ref oA), some (.int (b : Nat)), some (.int dn), some (.ref D), some (.int (0 + (i : Nat))), x8, x9] H'
      rw [ez]
      have bp : (0 : Int) < (b : Nat) := by omega
      have lord : (lV order).length = n := by rw [List.length_map]; exact lo
      -- start
      refine ⟨_, rfl, _, rfl, _, _, rfl, rfl, ⟨bp, by omega⟩, _, rfl, _, _, rfl, rfl, .inr (by omega), ?_⟩
      have es : ((i : Nat) : Int) / (b : Nat) * (b : Nat) = ((i / b * b : Nat) : Int) := by rw [Int.natCast_mul, Int.natCast_ediv]
      show (tSeq _ _) _ [some (.ref p), some (.int (n : Nat)), some (.int 5), some (.ref oA), some (.int (b : Nat)), some (.int dn), some (.ref D), some (.int (i : Nat)), some (.int (((i : Nat) : Int) / (b : Nat) * (b : Nat))), x9] H'
      rw [es]
      have hst : i / b * b ≤ i := Nat.div_mul_le_self _ _
      generalize hs0 : i / b * b = st at *
      -- some_here
      refine ⟨_, rfl, _, rfl, _, rfl, _, rfl, _, rfl, _, _, rfl, rfl, _, rfl, oA, _, rfl, .inl (.inl I.ord), fun a ha => ?_⟩
      have ecut : cutV (lV order) (some ((st : Nat) : Int)) (some (((st : Nat) : Int) + ((b : Nat) : Int))) = lV (cutB order b i) := by
        have hm : min st n = st := Nat.min_eq_left (by omega)
        unfold cutV cutB
        rw [show ((st : Nat) : Int) + ((b : Nat) : Int) = ((st + b : Nat) : Int) from rfl, HT.sIx_nat, HT.sIx_nat, lord, hs0, lo, hm]
        simp [lV, List.map_take, List.map_drop]
      rw [ecut]
      have Ia := I.same (same_upd (o := .lst (lV (cutB order b i))) ha)
      have J0 : ∃ s o1 l1 t' rest', [some (.ref p), some (.int (n : Nat)), some (.int 5), some (.ref oA), some (.int (b : Nat)), some (.int dn), some (.ref D), some (.int (i : Nat)), some (.int (st : Nat)), some (V.ref a)] = [some (.ref p), some (.int (n : Nat)), some (.int 5), some (.ref oA), some (.int (b : Nat)), some (.int dn), some (.ref D), some (.int (i : Nat)), some (.int (st : Nat)), some (.ref s)] ∧ (upd H' a (.lst (lV (cutB order b i)))) s = some (.lst (lV o1)) ∧ s ≠ p ∧ (o1 ++ l1).Perm (cutB order b i) ∧ SmI K H (upd H' a (.lst (lV (cutB order b i)))) p l D oA order ns n b i qs cs vals t' rest' ∧ t ≤ t' ∧ t' ≤ t + 0 :=
        ⟨a, cutB order b i, [], t, rest, rfl, upd_same, (fun e => by rw [e, I.pen.pen] at ha; cases ha), by rw [List.append_nil], Ia, Int.le_refl _, by omega⟩
      show (Evl.tCut _ _) _ [some (.ref p), some (.int (n : Nat)), some (.int 5), some (.ref oA), some (.int (b : Nat)), some (.int dn), some (.ref D), some (.int (i : Nat)), some (.int (st : Nat)), some (V.ref a)] (upd H' a (.lst (lV (cutB order b i))))
      have ha7 : upd H' a (.lst (lV (cutB order b i))) a = some (.lst (lV (cutB order b i))) := upd_same
      have ap : a ≠ p := fun e => by rw [e, I.pen.pen] at ha; cases ha
      have lcut : (cutB order b i).length ≤ 12 := by
        unfold cutB
        rw [List.length_take]
        omega
      generalize upd H' a (.lst (lV (cutB order b i))) = H7 at *
      refine ⟨fun σ' H'' => ∃ s o1 l1 t' rest', σ' = [some (.ref p), some (.int (n : Nat)), some (.int 5), some (.ref oA), some (.int (b : Nat)), some (.int dn), some (.ref D), some (.int (i : Nat)), some (.int (st : Nat)), some (.ref s)] ∧ H'' s = some (.lst (lV o1)) ∧ s ≠ p ∧ (o1 ++ l1).Perm (cutB order b i) ∧ SmI K H H'' p l D oA order ns n b i qs cs vals t' rest' ∧ t ≤ t' ∧ t' ≤ t + 101, ?_, fun σ8 H8 J => ?_⟩
      · refine ⟨_, rfl, _, _, rfl, rfl, _, rfl, ?_⟩
        by_cases hd : 0 < dn
        · refine iteTb (decide_eq_true hd) ?_
          have la : (lV (cutB order b i)).length = (cutB order b i).length := List.length_map _
          refine ⟨_, rfl, _, rfl, _, rfl, _, rfl, a, _, rfl, .inl (.inl (.inl ha7)), _, _, rfl, rfl, ?_⟩
          rw [la]
          refine ⟨p, l, ns, t, rest, _, rfl, Ia.pen, by omega, by omega, by omega, fun r t4 rest4 H8 r0 r1 g1 g2 k8 hP8 => ?_⟩
          obtain ⟨rn, rfl⟩ : ∃ rn : Nat, r = rn := ⟨r.toNat, by omega⟩
          have I8 := Ia.go (Ne.symm pD) oAp k8 hP8
          refine ⟨p, l, a, ns, t4, rest4, cutB order b i, rn, rfl, hP8, .inl (.inl (k8.kp _ _ (by simpa using ap) ha7)), by omega, by omega, by omega, fun q2 out left t5 rest5 H9 k9 hq2 hq2' pm2 lo2 g3 g4 hP9 => ?_⟩
          exact ⟨q2, out, left, t5, rest5, rfl, hq2', (fun e => by rw [e, hP8.pen] at hq2; cases hq2), pm2, I8.go (Ne.symm pD) oAp k9 hP9, by omega, by omega⟩
        · refine iteFb (decide_eq_false hd) ?_
          obtain ⟨s, o1, l1, t', rest', e1, e2, e3, e4, e5, e6, e7⟩ := J0
          exact ⟨s, o1, l1, t', rest', e1, e2, e3, e4, e5, e6, by omega⟩
      · obtain ⟨s, o1, l1, t4, rest4, rfl, hs, sp, pm1, I8, g1, g2⟩ := J
        -- .. of the blocks ahead
        refine ⟨_, rfl, _, rfl, _, rfl, _, rfl, _, rfl, oA, _, rfl, .inl (.inl I8.ord), fun a2 ha2 => ?_⟩
        have ecut2 : cutV (lV order) none (some ((st : Nat) : Int)) = lV (order.take st) := by
          rw [cut_to (by rw [lord]; omega)]
          simp [lV, List.map_take]
        rw [ecut2]
        have I9 := I8.same (same_upd (o := .lst (lV (order.take st))) ha2)
        have ha9 : upd H8 a2 (.lst (lV (order.take st))) a2 = some (.lst (lV (order.take st))) := upd_same
        have hs9 := same_upd (o := .lst (lV (order.take st))) ha2 _ _ hs
        have a2p : a2 ≠ p := fun e => by rw [e, I8.pen.pen] at ha2; cases ha2
        generalize upd H8 a2 (.lst (lV (order.take st))) = H9 at *
        refine ⟨_, rfl, _, rfl, _, _, rfl, _, _, rfl, rfl, ?_⟩
        have hmn : 0 ≤ (if ((st : Nat) : Int) < 3 then ((st : Nat) : Int) else 3) ∧ (if ((st : Nat) : Int) < 3 then ((st : Nat) : Int) else 3) ≤ 3 := by split <;> omega
        refine ⟨p, l, ns, t4, rest4, _, rfl, I9.pen, by omega, by omega, by omega, fun r t5 rest5 H10 r0 r1 g3 g4 k10 hP10 => ?_⟩
        obtain ⟨rn, rfl⟩ : ∃ rn : Nat, r = rn := ⟨r.toNat, by omega⟩
        have I10 := I9.go (Ne.symm pD) oAp k10 hP10
        have hs10 := k10.kp _ _ (by simpa using sp) hs9
        refine ⟨p, l, a2, ns, t5, rest5, order.take st, rn, rfl, hP10, .inl (.inl (k10.kp _ _ (by simpa using a2p) ha9)), by rw [List.length_take]; omega, by omega, by omega, fun q3 o2 l2 t6 rest6 H11 k11 hq3 hq3' pm2 lo2 g5 g6 hP11 => ?_⟩
        have I11 := I10.go (Ne.symm pD) oAp k11 hP11
        have hs11 := k11.kp _ _ (by simpa using sp) hs10
        have lo1 : o1.length ≤ 12 := by
          have := pm1.length_eq
          rw [List.length_append] at this
          omega
        have lo2' : o2.length ≤ 12 := by
          have := pm2.length_eq
          rw [List.length_append, List.length_take] at this
          omega
        refine ⟨s, q3, _, _, rfl, rfl, hs11, hq3', by rw [List.length_map, List.length_map]; exact Nat.le_trans (show _ ≤ 24 by omega) (by decide), fun c hc => ?_⟩
        rw [← lV_app]
        have I12 := I11.same (same_upd (o := .lst (lV (o1 ++ o2))) hc)
        have hc12 : upd H11 c (.lst (lV (o1 ++ o2))) c = some (.lst (lV (o1 ++ o2))) := upd_same
        show (tSeq _ _) _ _ (upd H11 c (.lst (lV (o1 ++ o2))))
        generalize upd H11 c (.lst (lV (o1 ++ o2))) = H12 at *
        refine ⟨_, rfl, _, rfl, p, l, c, ns, t6, rest6, o1 ++ o2, 8, rfl, I12.pen, .inl (.inl hc12), by rw [List.length_append]; omega, by omega, by omega, fun q4 o3 l3 t7 rest7 H13 k13 hq4 hq4' pm3 lo3 g7 g8 hP13 => ?_⟩
        have I13 := I12.go (Ne.symm pD) oAp k13 hP13
        have ob : OpB order n b i o3 := by
          refine opB_of hb0 nd hlt pm1 (by rw [hs0]; exact pm2) pm3 (by rw [lo3]; omega)
        -- the tuple
        refine ⟨_, rfl, q4, _, rfl, .inl ⟨.inl (.inl hq4'), fun z hz => ?_⟩⟩
        have I14 := I13.same (same_upd (o := .tup (lV o3)) hz)
        have hz14 : upd H13 z (.tup (lV o3)) z = some (.tup (lV o3)) := upd_same
        generalize upd H13 z (.tup (lV o3)) = H14 at *
        refine ⟨_, rfl, p, l, ns, t7, rest7, rfl, I14.pen, by omega, fun f fn t8 rest8 H15 k15 hf fok d8 d9 hP15 => ?_⟩
        have I15 := I14.go (Ne.symm pD) oAp k15 hP15
        refine ⟨_, rfl, p, l, ns, t8, rest8, 8, rfl, hP15, by decide, by decide, by omega, fun v t9 rest9 H16 v0 v1 g9 g10 k16 hP16 => ⟨(by show 3 ≤ sizeLine; decide), fun u hu => ?_⟩⟩
        have I16 := I15.go (Ne.symm pD) oAp k16 hP16
        have s17 := same_upd (o := .tup [.ref z, .ref f, .int v]) hu
        have I17 := I16.same s17
        have tr : Trip K (upd H16 u (.tup [.ref z, .ref f, .int v])) u ⟨o3, fn, v⟩ := ⟨z, f, upd_same, (k15.trans1 k16).sk.tk.trans (same_tk s17) _ _ (.inl (.inl hz14)), hf.mono (k16.sk.tk.trans (same_tk s17))⟩
        generalize upd H16 u (.tup [.ref z, .ref f, .int v]) = H17 at *
        have nst : ¬ Stb K (.lst vals) := fun z => z
        have hci : i < order.length := by omega
        obtain ⟨ci, hci'⟩ : ∃ ci, order[i]? = some ci := ⟨_, List.getElem?_eq_getElem hci⟩
        have hcin : ci < n := hlt ci (List.mem_of_getElem? hci')
        have hat : atI (lV order) ((i : Nat) : Int) = some (.int (ci : Nat)) := at_nat (by omega) (by rw [Int.toNat_natCast, List.getElem?_map, hci']; rfl)
        have sk : SK K H17 (upd H17 D (.lst (vals.set ci (.ref u)))) := .upd I17.lst nst
        refine ⟨_, rfl, _, rfl, _, rfl, .inl ⟨oA, _, _, _, rfl, rfl, .inl (.inl I17.ord), hat, ?_⟩⟩
        refine ⟨D, vals, ((ci : Nat) : Int), ci, rfl, rfl, I17.lst, by rw [I17.len]; exact Evl.ixN_nat hcin, ?_⟩
        refine ⟨_, _, _, fun x => if x = ci then u else qs x, fun x => if x = ci then ⟨o3, fn, v⟩ else cs x, _, t9, rest9, rfl, ⟨upd_same, by rw [List.length_set]; exact I17.len, by rw [upd_ne oD]; exact I17.ord, fun j c hj hc => ?_, ⟨by rw [upd_ne pD]; exact I17.pen.pen, by rw [upd_ne lD]; exact I17.pen.lst, hP.len, I17.pen.rest0, I17.pen.turn0⟩, ⟨I17.kp.sk.trans sk, fun a o m h => ?_⟩⟩, by omega, by omega⟩
        · by_cases ej : j = i
          · subst ej
            rw [hci'] at hc
            obtain rfl := Option.some.inj hc
            rw [if_pos rfl, if_pos rfl]
            exact ⟨List.getElem?_set_self (by rw [I17.len]; exact hcin), tr.mono sk, ob, fok, v0, by show v ≤ 7; omega⟩
          · have ne : c ≠ ci := fun e => by
              rw [e] at hc
              have h1 := idx_of nd hc
              have h2 := idx_of nd hci'
              omega
            obtain ⟨q1, q2, q3⟩ := I17.at_ j c (by omega) hc
            rw [if_neg ne, if_neg ne]
            exact ⟨by rw [List.getElem?_set_ne (Ne.symm ne)]; exact q1, q2.mono sk, q3⟩
        · rw [upd_ne (fun e => by rw [e, hD0] at h; cases h)]
          exact I17.kp.kp a o m h
    · obtain ⟨x7, x8, x9, qs, cs, vals, t, rest, rfl, I, f1, f2⟩ := q
      have at' : ∀ c, c < n → vals[c]? = some (.ref (qs c)) ∧ Trip K H' (qs c) (cs c) ∧ OpB order n b (order.idxOf c) (cs c).ops ∧ FnOk1 (cs c).fn ∧ Lev (cs c).g := fun c hc => by
        obtain ⟨j, hj⟩ := List.mem_iff_getElem?.mp (hmem c hc)
        rw [idx_of nd hj]
        have := (List.getElem?_eq_some_iff.mp hj).1
        exact I.at_ j c (by omega) hj
      have ev : vals = rV ((List.range n).map qs) := by
        refine List.ext_getElem? fun c => ?_
        by_cases hc : c < n
        · rw [(at' c hc).1, List.getElem?_map, List.getElem?_map, List.getElem?_range hc]; rfl
        · rw [List.getElem?_eq_none (by rw [I.len]; omega), List.getElem?_eq_none (by simp; omega)]
      have eat : ∀ c, c < n → Sys.at ((List.range n).map cs) c = cs c := fun c hc => by
        unfold Sys.at
        rw [List.getD_eq_getElem?_getD, List.getElem?_map, List.getElem?_range hc]
        rfl
      have ln : ((List.range n).map cs).length = n := by simp
      refine ⟨_, rfl, hQ D ((List.range n).map qs) ((List.range n).map cs) (fun c => order.idxOf c / b) t rest H' hD0 (by rw [← ev]; exact I.lst) ⟨by simp, fun i q hq => ?_⟩ ?_ ln I.pen I.kp f1 (by omega)⟩
      · have hi : i < n := by have := (List.getElem?_eq_some_iff.mp hq).1; simpa using this
        rw [List.getElem?_map, List.getElem?_range hi] at hq
        rw [eat i hi, ← Option.some.inj hq]
        exact (at' i hi).2.1
      · refine ⟨by omega, by omega, by decide, fun c hc => ?_, fun c hc => ?_, fun c hc => ?_, fun c hc o ho => ?_, fun r => ?_, fun c hc => ?_, fun c hc => ?_⟩
        all_goals try rw [ln] at *
        all_goals try rw [eat c hc] at *
        · exact (at' c hc).2.2.1.ok.o8
        · exact (at' c hc).2.2.1.ok.nd
        · exact (at' c hc).2.2.1.ok.lt
        · obtain ⟨k, hk, hkb⟩ := (at' c hc).2.2.1.blk o ho
          show order.idxOf o / b ≤ order.idxOf c / b
          rw [idx_of nd hk]
          exact hkb
        · exact Nat.le_trans (blk_few nd hmem hb0 r) hb5
        · exact (at' c hc).2.2.2.1
        · exact (at' c hc).2.2.2.2
end
end KW
/-! The walk, part 29: the law's plain evaluation. -/
namespace KW
open PySem PySem.Spec PyProof.Rows L2 KR K19 StX
section
variable {P : Program} {w : World} {K : PySem.W.Frag} {mg : PySem.Str → Option Value} {base : Heap}
def spLawCall (K : PySem.W.Frag) (f : Nat) : Sp := fun vs H Q _ => ∃ (tl b u : Addr) (ps : List Addr) (S : Sys) (rk : Nat → Nat) (bs : Nat) (st : K19.St) (B : List Nat) (c : Nat), vs = [.ref tl, .ref b, .ref u, .int (c : Nat), .str "clean"] ∧ H tl = some (.lst (rV ps)) ∧ Trips K H ps S ∧ SysOk S rk bs ∧ H b = some (.lst (st.board.map bV)) ∧ H u = some (.lst (lV B)) ∧ b ≠ tl ∧ b ≠ u ∧
  Pre S rk st B c ∧ S.length < f + B.length ∧ ∀ r t H', Kp K [b] H H' → H t = none → H' b = some (.lst ((M false S f st B c).2.board.map bV)) → H' r = some (.tup [.int (M false S f st B c).1.val, .ref t]) → H' t = some (.lst (lV (M false S f st B c).1.taint)) → Q (.ref r) H'
theorem trip_at {H : Hp} {ps : List Addr} {S : Sys} {c : Nat} (h : Trips K H ps S) (hc : c < S.length) : ∃ p, atI (rV ps) ((c : Nat) : Int) = some (.ref p) ∧ Trip K H p (S.at c) := by
  have hl : c < ps.length := by rw [h.1]; exact hc
  refine ⟨ps[c], at_nat (by omega) ?_, h.2 c _ (List.getElem?_eq_getElem hl)⟩
  rw [Int.toNat_natCast, List.getElem?_map, List.getElem?_eq_getElem hl]
  rfl
theorem sorted_perm {ns : List Int} {F : List Nat} (h : ns.Perm (iN F)) (hs : ns.Pairwise (· ≤ ·)) (nd : F.Nodup) : zV ns = lV (norm F) := by
  have n1 : ns.Nodup := h.nodup_iff.mpr (List.pairwise_map.mpr (nd.imp fun h e => h (by omega)))
  refine sorted_nat ((hs.and n1).imp fun {a b} ⟨h1, h2⟩ => by have : a ≠ b := h2; omega) fun k => ?_
  rw [h.mem_iff]
  unfold iN
  rw [List.mem_map]
  exact ⟨fun ⟨x, h1, h2⟩ => ⟨x, h1, h2.symm⟩, fun ⟨x, h1, h2⟩ => ⟨x, h1, h2.symm⟩⟩
theorem ok__law_call (T : Txt K mg) : ∀ f, FD P w K mg base CX0 (2 + f) d__law_call ["_law_triples", "_law_board", "_law_under", "_law_spot", "_law_mode"] (spLawCall K f)
  | 0 => by
    refine FD.mono (j := 1) (fd_of T.d__law_call sc__law_call (fun vs H Q E h => ?_) (fun cdv A outer s H vs Q E hr h => ?_)) (by decide)
    · obtain ⟨tl, b, u, ps, S, rk, bs, st, B, c, rfl, _⟩ := h
      rfl
    · obtain ⟨tl, b, u, ps, S, rk, bs, st, B, c, rfl, h1, h2, ok, h4, h5, h6, h7, pre, hf, _⟩ := h
      have := nodup_le pre.bn pre.bl
      omega
  | f + 1 => by
    have C := ok__law_call T f
    refine fd_of T.d__law_call sc__law_call (fun vs H Q E h => ?_) (fun cdv A outer s H vs Q E hr h => ?_)
    · obtain ⟨tl, b, u, ps, S, rk, bs, st, B, c, rfl, _⟩ := h
      rfl
    · obtain ⟨tl, b, u, ps, S, rk, bs, st, B, c, rfl, htl, htr, ok, hb, hun, nbt, nbu, pre, hf, hQ⟩ := h
      have hr1 := hr.mono (show 1 ≤ 2 + f by omega)
      have hu := Room.u64 hr
      refine ⟨_, (pss_cons (ps_if (pt_cmpR op_notN (pe_ix (ix_K K rfl) (pv 1) (pv 3) (fun _ _ => rfl)) pe_non (nomark _)) (pss_one (ps_ret (pe_tup (pa_cons (pe_ix (ix_K K rfl) (pv 1) (pv 3) (fun _ _ => rfl)) (pa_cons (pe_lst pa_nil) pa_nil))))) pss_nil) (pss_cons (ps_if (pt_cmpR (op_inK K rfl) (pv 3) (pv 2) rfl) (pss_one (ps_ret (pe_tup (pa_cons (pe_ix (ix_K K rfl) (pe_ix (ix_K K rfl) (pv 0) (pv 3) (fun _ _ => rfl)) pe_int (fun _ _ => rfl)) (pa_cons (pe_lst (pa_cons (pv 3) pa_nil)) pa_nil))))) pss_nil) (pss_cons (ps_set (i := 5) sc__law_call.nd rfl (by first | exact Or.inl rfl | exact Or.inr rfl | exact Or.inr (Or.inl rfl)) (pe_lst pa_nil)) (pss_cons (ps_set (i := 6) sc__law_call.nd rfl (by first | exact Or.inl rfl | exact Or.inr rfl | exact Or.inr (Or.inl rfl)) (pe_lst pa_nil)) (pss_cons (ps_for PassesOwn.never rfl (pi_tupK K rfl (pe_ix (ix_K K rfl) (pe_ix (ix_K K rfl) (pv 0) (pv 3) (fun _ _ => rfl)) pe_int (fun _ _ => rfl))) (pg_name (i := 7) sc__law_call.nd rfl (by first | exact Or.inl rfl | exact Or.inr rfl | exact Or.inr (Or.inl rfl))) (pss_cons (ps_asg (pe_def C hr rfl T.g__law_call rfl b__law_call (pa_cons (pv 0) (pa_cons (pv 1) (pa_cons (pe_op op_cat (pv 2) (pe_lst (pa_cons (pv 3) pa_nil))) (pa_cons (pv 7) (pa_cons (pv 4) pa_nil))))) (hk := Nat.le_refl _)) (pg_tupK (n := 2) K rfl rfl (pgs_cons (pg_name (i := 8) sc__law_call.nd rfl (by first | exact Or.inl rfl | exact Or.inr rfl | exact Or.inr (Or.inl rfl))) (pgs_cons (pg_name (i := 9) sc__law_call.nd rfl (by first | exact Or.inl rfl | exact Or.inr rfl | exact Or.inr (Or.inl rfl))) pgs_nil)))) (pss_cons (ps_expr (pe_bm PySem.F.plainAttrs_list PySem.F.slot_list_append PySem.F.type_list_append mt_append (pv 5) (pa_cons (pv 8) pa_nil))) (pss_one (ps_expr (pe_bm PySem.F.plainAttrs_list PySem.F.slot_list_extend PySem.F.type_list_extend mt_extend (pv 6) (pa_cons (pe_lc rfl sc__law_call.nd (pi_listK K rfl (pv 9)) (own := [("_law_one", 10)]) (blkOk_by (by kernel_rfl)) (fun _ _ _ _ _ => (pg_name (i := 10) sc__law_call.nd rfl (by first | exact Or.inl rfl | exact Or.inr rfl | exact Or.inr (Or.inl rfl)))) (fun _ _ _ _ _ => (pts_one (PW.pt (pw_and (pt_cmpR op_ne (pv 10) (pv 3) (nomark _)) (pw_and1 (pt_cmpR (op_ninK K rfl) (pv 10) (pv 6) rfl)))))) (fun _ _ _ _ _ => (pv 10))) pa_nil))))))) (pss_cons (ps_set (i := 8) sc__law_call.nd rfl (by first | exact Or.inl rfl | exact Or.inr rfl | exact Or.inr (Or.inl rfl)) (pe_def (ok__law_value T) hr1 rfl T.g__law_value rfl b__law_value (pa_cons (pe_ix (ix_K K rfl) (pe_ix (ix_K K rfl) (pv 0) (pv 3) (fun _ _ => rfl)) pe_int (fun _ _ => rfl)) (pa_cons (pv 5) pa_nil)))) (Evl.pss_cut (ps_if (PW.pt (pw_or (pt_cmpR op_eq (pv 4) pe_str (nomark _)) (pw_or1 (PW.pt (pw_and (pt_cmpR op_eq (pv 4) pe_str (nomark _)) (pw_and1 (pt_cmpR (op_eqDK K rfl hu) (pv 6) (pe_lst pa_nil) (nomark _)))))))) (pss_one (ps_asg (pv 8) (pg_sub (pv 1) (pv 3) set_list))) pss_nil) (pss_one (ps_ret (pe_tup (pa_cons (pv 8) (pa_cons (pe_callB cr_sortedI rfl T.f_sorted boot_sorted (pa_cons (pv 6) pa_nil)) pa_nil)))))))))))), ?_⟩
      have hcb : c < st.board.length := by rw [pre.bok.len]; exact pre.cN
      have hat : atI (st.board.map bV) (c : Int) = some (bV (bat st.board c)) := at_nat (by omega) (by rw [Int.toNat_natCast]; exact board_at hcb)
      obtain ⟨tp, htp, ttr⟩ := trip_at htr pre.cN
      have ⟨oA, fA, htu, hops, hfn⟩ := ttr
      refine ⟨_, rfl, _, rfl, .inl ⟨b, _, _, _, rfl, rfl, .inl (.inl hb), hat, rfl, _, rfl, ?_⟩⟩
      cases hb0 : bat st.board c with
      | some v =>
        have e0 : M false S (f + 1) st B c = (⟨v, [], []⟩, st.say (.stored c v)) := by
          show callB _ _ _ _ _ _ = _
          unfold callB
          rw [hb0]
        rw [e0] at hQ
        rw [hb0] at hat
        refine iteTb rfl ?_
        refine ⟨_, rfl, _, rfl, .inl ⟨b, _, _, _, rfl, rfl, .inl (.inl hb), hat, Nat.zero_le _, fun t ht => ⟨(by show 2 ≤ sizeLine; decide), fun r hr => ?_⟩⟩⟩
        have s1 := same_upd (o := .lst []) ht
        have s2 := same_upd (o := .tup [.int v, .ref t]) hr
        exact hQ r t _ (same_kp (Same.trans s1 s2)) ht ((Same.trans s1 s2) _ _ hb) upd_same (s2 _ _ upd_same)
      | none =>
        refine iteFb rfl ?_
        refine ⟨_, rfl, _, rfl, u, _, rfl, .inl (.inl (.inl hun)), rfl, flat_nat _, _, rfl, ?_⟩
        rw [inV_nat]
        by_cases hcB : c ∈ B
        · rw [decide_eq_true hcB]
          have e0 : M false S (f + 1) st B c = (⟨(S.at c).g, [c], []⟩, st.say (.busy c (S.at c).g)) := by
            show callB _ _ _ _ _ _ = _
            unfold callB
            rw [hb0]
            exact if_pos hcB
          rw [e0] at hQ
          refine iteT ⟨_, rfl, _, rfl, .inl ⟨tl, _, _, _, rfl, rfl, .inl (.inl htl), htp, .inr (.inl ⟨tp, _, _, _, rfl, rfl, .inl (.inl htu), at_two, ?_⟩)⟩⟩
          refine ⟨_, rfl, (by show 1 ≤ sizeLine; decide), fun t ht => ⟨(by show 2 ≤ sizeLine; decide), fun r hr => ?_⟩⟩
          have s1 := same_upd (o := .lst (lV [c])) ht
          have s2 := same_upd (o := .tup [.int (S.at c).g, .ref t]) hr
          exact hQ r t _ (same_kp (Same.trans s1 s2)) ht ((Same.trans s1 s2) _ _ hb) upd_same (s2 _ _ upd_same)
        · rw [decide_eq_false hcB]
          have e0 : M false S (f + 1) st B c = evalB (M false S f) false S st B c := by
            show callB _ _ _ _ _ _ = _
            unfold callB
            rw [hb0]
            exact if_neg hcB
          rw [e0] at hQ
          refine iteF ⟨Nat.zero_le _, fun Vl hVl => ⟨Nat.zero_le _, fun Tt hTt => ?_⟩⟩
          have hlen : S.length < f + (B ++ [c]).length := by rw [List.length_append, List.length_singleton]; omega
          obtain ⟨hpre, hres, hbok⟩ := ops_pre (ex := false) (f := f) ok pre hb0 hcB hlen
          have VT : Vl ≠ Tt := by
            rintro rfl
            rw [upd_same] at hTt
            cases hTt
          have hT0 : H Tt = none := (same_upd hVl).free hTt
          have s2 : Same H (upd (upd H Vl (.lst [])) Tt (.lst [])) := Same.trans (same_upd hVl) (same_upd hTt)
          have hV2 : upd (upd H Vl (.lst [])) Tt (.lst []) Vl = some (.lst []) := by rw [upd_ne VT, upd_same]
          have hT2 : upd (upd H Vl (.lst [])) Tt (.lst []) Tt = some (.lst []) := upd_same
          show (tSeq _ _) _ _ (upd (upd H Vl (.lst [])) Tt (.lst []))
          generalize upd (upd H Vl (.lst [])) Tt (.lst []) = H2 at *
          have lops : (S.at c).ops.length ≤ 8 := ok.ops8 c pre.cN
          have bV' : b ≠ Vl := ne_of_none hb hVl
          have bT' : b ≠ Tt := ne_of_none hb hT0
          refine ⟨_, rfl, _, rfl, .inl ⟨tl, _, _, _, rfl, rfl, .inl (.inl (s2 _ _ htl)), htp, .inr (.inl ⟨tp, _, _, _, rfl, rfl, .inl (.inl (s2 _ _ htu)), at_zero, oA, rfl, ⟨_, same_tk s2 _ _ hops⟩, ?_⟩)⟩⟩
          refine for_tup (fun i σ H' => ∃ x7 x8 x9 x10 Lt, σ = [some (.ref tl), some (.ref b), some (.ref u), some (.int (c : Nat)), some (.str "clean"), some (.ref Vl), some (.ref Tt), x7, x8, x9, x10] ∧ H' Vl = some (.lst (zV ((opsR false S f st B c ((S.at c).ops.take i)).1.map (·.val)))) ∧ H' Tt = some (.lst (lV Lt)) ∧ Lt.Nodup ∧
              (∀ x, x ∈ Lt ↔ x ≠ c ∧ ∃ r ∈ (opsR false S f st B c ((S.at c).ops.take i)).1, x ∈ r.taint) ∧ H' b = some (.lst ((opsR false S f st B c ((S.at c).ops.take i)).2.board.map bV)) ∧ Kp K [b] H H')
            ⟨_, _, _, _, [], rfl, hV2, hT2, List.nodup_nil, fun x => ⟨fun h => absurd h List.not_mem_nil, fun ⟨_, r, hr, _⟩ => absurd hr List.not_mem_nil⟩, s2 _ _ hb, same_kp s2⟩ (fun i σ H' _ q => by obtain ⟨_, _, _, _, _, _, _, _, _, _, _, k⟩ := q; exact k.sk.tk _ _ hops) (fun i x σ H' hx q => ?_) (fun σ H' q => ?_)
          · obtain ⟨x7, x8, x9, x10, Lt, rfl, hV, hT, nd, mm, hbb, k0⟩ := q
            obtain ⟨v, hv, rfl⟩ := nat_at hx
            have er := runOps_take (F := fun s o => M false S f s (B ++ [c]) o) (s := opened st c) hv
            have hpr := hpre i v hv
            have po := M_ok (ex := false) ok f _ (B ++ [c]) v hlen hpr
            have hrs := hres i
            have lR : (opsR false S f st B c ((S.at c).ops.take i)).1.length ≤ 8 := by
              have := runOps_len (F := fun s o => M false S f s (B ++ [c]) o) ((S.at c).ops.take i) (opened st c)
              rw [List.length_take] at this
              show (runOps (fun s o => M false S f s (B ++ [c]) o) (opened st c) ((S.at c).ops.take i)).1.length ≤ 8
              omega
            have lLt : Lt.length ≤ 12 := Nat.le_trans (nodup_le nd fun x hx => by
              obtain ⟨_, r, hr, hxr⟩ := (mm x).mp hx
              exact (hrs r hr).2.2.2 x hxr) ok.len
            have er' : opsR false S f st B c ((S.at c).ops.take (i + 1)) = ((opsR false S f st B c ((S.at c).ops.take i)).1 ++ [(M false S f (opsR false S f st B c ((S.at c).ops.take i)).2 (B ++ [c]) v).1], (M false S f (opsR false S f st B c ((S.at c).ops.take i)).2 (B ++ [c]) v).2) := er
            rw [er']
            generalize opsR false S f st B c ((S.at c).ops.take i) = R at *
            have lB : B.length ≤ 12 := Nat.le_trans (nodup_le pre.bn pre.bl) ok.len
            refine ⟨_, rfl, _, rfl, _, rfl, _, rfl, (by show 1 ≤ sizeLine; decide), fun y hy => ?_⟩
            have hun' := k0.kp _ _ (by simpa using Ne.symm nbu) hun
            refine ⟨u, y, _, _, rfl, rfl, same_upd hy _ _ hun', upd_same, by rw [List.length_map]; exact Nat.le_trans (show _ ≤ 13 by simp; omega) (by decide), fun q hq => ?_⟩
            have eB : lV B ++ [V.int (c : Nat)] = lV (B ++ [c]) := by rw [lV_app]; rfl
            rw [eB]
            have s3 : Same H' (upd (upd H' y (.lst [.int (c : Nat)])) q (.lst (lV (B ++ [c])))) := Same.trans (same_upd hy) (same_upd hq)
            have hq3 : upd (upd H' y (.lst [.int (c : Nat)])) q (.lst (lV (B ++ [c]))) q = some (.lst (lV (B ++ [c]))) := upd_same
            have bq : b ≠ q := ne_of_none hbb ((same_upd hy).free hq)
            generalize upd (upd H' y (.lst [.int (c : Nat)])) q (.lst (lV (B ++ [c]))) = H3 at *
            have k3 := k0.trans1 (same_kp (R := [b]) s3)
            refine ⟨_, rfl, _, rfl, tl, b, q, ps, S, rk, bs, R.2, B ++ [c], v, rfl, k3.kp _ _ (by simpa using Ne.symm nbt) htl, htr.mono k3.sk, ok, s3 _ _ hbb, hq3, nbt, bq, hpr, hlen, fun r t H4 k4 htn hb4 hr4 ht4 => ?_⟩
            generalize (M false S f R.2 (B ++ [c]) v).1 = z at *
            generalize (M false S f R.2 (B ++ [c]) v).2 = stz at *
            have hV4 := k4.kp _ _ (by simpa using Ne.symm bV') (s3 _ _ hV)
            have hT4 := k4.kp _ _ (by simpa using Ne.symm bT') (s3 _ _ hT)
            have k04 := k3.trans1 k4
            refine ⟨r, _, rfl, .inl (.inl hr4), rfl, _, _, rfl, _, _, rfl, rfl, ?_⟩
            -- values
            refine ⟨_, rfl, .inl ⟨rfl, _, .inl (.inl hV4)⟩, _, rfl, Vl, _, _, rfl, rfl, hV4, by rw [List.length_map, List.length_map]; exact Nat.lt_of_le_of_lt lR (by decide), ?_⟩
            have nst : ∀ l, ¬ Stb K (.lst l) := fun l z => z
            have k5 : Kp K [b] H (upd H4 Vl (.lst (zV (R.1.map (·.val)) ++ [.int z.val]))) := ⟨k04.sk.trans (.upd hV4 (nst _)), fun a o n h => by rw [upd_ne (ne_of_none h hVl)]; exact k04.kp a o n h⟩
            have hV5 : upd H4 Vl (.lst (zV (R.1.map (·.val)) ++ [.int z.val])) Vl = some (.lst (zV ((R.1 ++ [z]).map (·.val)))) := by rw [upd_same]; simp [zV]
            have hT5 : upd H4 Vl (.lst (zV (R.1.map (·.val)) ++ [.int z.val])) Tt = some (.lst (lV Lt)) := by rw [upd_ne (Ne.symm VT)]; exact hT4
            have hb5 : upd H4 Vl (.lst (zV (R.1.map (·.val)) ++ [.int z.val])) b = some (.lst (stz.board.map bV)) := by rw [upd_ne bV']; exact hb4
            have tV : t ≠ Vl := fun e => by
              rw [e] at htn
              rw [s3 _ _ hV] at htn
              cases htn
            have ht5 : upd H4 Vl (.lst (zV (R.1.map (·.val)) ++ [.int z.val])) t = some (.lst (lV z.taint)) := by rw [upd_ne tV]; exact ht4
            generalize upd H4 Vl (.lst (zV (R.1.map (·.val)) ++ [.int z.val])) = H5 at *
            have lz : z.taint.length ≤ 12 := Nat.le_trans (nodup_le (asc_nodup po.tasc) fun x hx => by
              rcases List.mem_append.mp (po.tB x hx) with h | h
              · exact pre.bl x h
              · rw [List.mem_singleton.mp h]; exact pre.cN) ok.len
            have lzV : (lV z.taint).length = z.taint.length := List.length_map _
            refine ⟨_, rfl, .inl ⟨rfl, _, .inl (.inl hT5)⟩, _, rfl, t, rfl, ⟨_, .inl (.inl ht5)⟩, fun D hD => ?_⟩
            refine lc_same (walk_list (xs := lV z.taint)) (fun j acc _ => acc = lV ((z.taint.take j).filter fun x => decide (x ≠ c) && decide (x ∉ Lt))) hD (by rw [lzV]; exact Nat.lt_of_le_of_lt lz (by decide)) (fun H' s => .inl (.inl (s _ _ ht5))) (fun _ _ => rfl) (fun j x H6 H7 acc K1 K0 hj s6 _ _ ea y k1 k0 => ?_) (fun H6 acc s6 ed ea => ?_)
            · obtain ⟨rfl, hx⟩ := y
              obtain ⟨w', hw, rfl⟩ := nat_at hx
              have etk : (z.taint.take (j + 1)).filter (fun x => decide (x ≠ c) && decide (x ∉ Lt)) = (z.taint.take j).filter (fun x => decide (x ≠ c) && decide (x ∉ Lt)) ++ [w'].filter (fun x => decide (x ≠ c) && decide (x ∉ Lt)) := by
                rw [List.take_add_one, hw, List.filter_append]; rfl
              refine ⟨rfl, _, rfl, _, rfl, rfl, _, rfl, ?_⟩
              by_cases h1 : w' = c
              · refine iteFb (by rw [h1]; simp) (k0 _ (Same.refl _) ?_)
                rw [ea, etk]
                simp [h1]
              · refine iteTb (by rw [vint_dec, decide_eq_false h1]; rfl) ⟨_, rfl, _, rfl, Tt, lV Lt, rfl, .inl (.inl (.inl (s6 _ _ hT5))), rfl, flat_nat _, _, rfl, ?_⟩
                rw [inV_nat]
                by_cases h2 : w' ∈ Lt
                · refine iteFb (by rw [decide_eq_true h2]; rfl) (k0 _ (Same.refl _) ?_)
                  rw [ea, etk]
                  simp [h2]
                · refine iteTb (by rw [decide_eq_false h2]; rfl) ⟨_, rfl, k1 _ _ (Same.refl _) fun H8 _ => ?_⟩
                  rw [ea, etk, lV_app]
                  simp [h1, h2, lV]
            · rw [lzV, List.take_length] at ea
              refine ⟨Tt, D, _, _, rfl, rfl, s6 _ _ hT5, ed, ?_, ?_⟩
              · rw [ea, List.length_map, List.length_map]
                exact Nat.le_trans (Nat.add_le_add lLt (Nat.le_trans (List.length_filter_le _ _) lz)) (by decide)
              · rw [ea, ← lV_app]
                have TD : Tt ≠ D := ne_of_none hT5 hD
                have k6 := k5.trans1 (same_kp (R := [b]) s6)
                refine ⟨_, _, _, _, Lt ++ z.taint.filter (fun x => decide (x ≠ c) && decide (x ∉ Lt)), rfl, by rw [upd_ne VT]; exact s6 _ _ hV5, upd_same, ?_, fun x => ?_, by rw [upd_ne bT']; exact s6 _ _ hb5, ⟨k6.sk.trans (.upd (s6 _ _ hT5) (nst _)), fun a o n h => by rw [upd_ne (ne_of_none h hT0)]; exact k6.kp a o n h⟩⟩
                · refine List.nodup_append.mpr ⟨nd, List.Pairwise.sublist List.filter_sublist (asc_nodup po.tasc), fun x hx y hy e => ?_⟩
                  subst e
                  have := (List.mem_filter.mp hy).2
                  simp [hx] at this
                · rw [List.mem_append, List.mem_filter]
                  constructor
                  · rintro (h | ⟨h1, h2⟩)
                    · obtain ⟨h1, r, h2, h3⟩ := (mm x).mp h
                      exact ⟨h1, r, List.mem_append_left _ h2, h3⟩
                    · rw [Bool.and_eq_true, decide_eq_true_eq] at h2
                      exact ⟨h2.1, z, List.mem_append_right _ (List.mem_singleton.mpr rfl), h1⟩
                  · rintro ⟨h1, r, h2, h3⟩
                    rcases List.mem_append.mp h2 with h2 | h2
                    · exact .inl ((mm x).mpr ⟨h1, r, h2, h3⟩)
                    · rw [List.mem_singleton.mp h2] at h3
                      by_cases hx : x ∈ Lt
                      · exact .inl hx
                      · exact .inr ⟨h3, by simp [h1, hx]⟩
          · obtain ⟨x7, x8, x9, x10, Lt, rfl, hV, hT, nd, mm, hbb, k0⟩ := q
            have lop : (lV (S.at c).ops).length = (S.at c).ops.length := List.length_map _
            rw [lop, List.take_length] at hV mm hbb
            have hrs := hres (S.at c).ops.length
            rw [List.take_length] at hrs
            have lR : (opsR false S f st B c (S.at c).ops).1.length ≤ 8 := by
              have := runOps_len (F := fun s o => M false S f s (B ++ [c]) o) (S.at c).ops (opened st c)
              show (runOps (fun s o => M false S f s (B ++ [c]) o) (opened st c) (S.at c).ops).1.length ≤ 8
              omega
            have eE : evalB (M false S f) false S st B c = close false c (valueOf (S.at c).fn ((opsR false S f st B c (S.at c).ops).1.map (·.val))) (taintOf c (opsR false S f st B c (S.at c).ops).1) (usedOf c (opsR false S f st B c (S.at c).ops).1) (opsR false S f st B c (S.at c).ops).2 := rfl
            rw [eE] at hQ
            generalize opsR false S f st B c (S.at c).ops = R at *
            have lLt : Lt.length ≤ 12 := Nat.le_trans (nodup_le nd fun x hx => by
              obtain ⟨_, r, hr, hxr⟩ := (mm x).mp hx
              exact (hrs r hr).2.2.2 x hxr) ok.len
            have hlev : ∀ v ∈ R.1.map (·.val), Lev v := fun v hv => by
              obtain ⟨r, hr, rfl⟩ := List.mem_map.mp hv
              exact (hrs r hr).2.2.1
            have htl' := k0.kp _ _ (by simpa using Ne.symm nbt) htl
            refine ⟨_, rfl, _, rfl, .inl ⟨tl, _, _, _, rfl, rfl, .inl (.inl htl'), htp, .inr (.inl ⟨tp, _, _, _, rfl, rfl, .inl (.inl (k0.sk _ _ trivial htu)), at_one, ?_⟩)⟩⟩
            refine ⟨_, rfl, fA, Vl, (S.at c).fn, R.1.map (·.val), rfl, hfn.mono k0.sk.tk, ok.fnOk c pre.cN, hV, by rw [List.length_map]; omega, hlev, fun H2 s2 => ?_⟩
            have eT : taintOf c R.1 = norm Lt := asc_ext (asc_norm _) (asc_norm _) fun x => by rw [mem_norm, mm x]; exact mem_taintOf
            have k2 := k0.trans1 (same_kp (R := [b]) s2)
            have hb2 := s2 _ _ hbb
            have hT2 := s2 _ _ hT
            rw [eT] at hQ
            generalize valueOf (S.at c).fn (R.1.map (·.val)) = v at *
            have fin : ∀ H5, Kp K [b] H H5 → H5 Tt = some (.lst (lV Lt)) → H5 b = some (.lst ((close false c v (norm Lt) (usedOf c R.1) R.2).2.board.map bV)) → ∀ x9 x10, tRet (tTup (tCons (tVar 8) (tCons (tCB (rSortedI K) (tCons (tVar 6) tNil)) tNil))) { nx := fun x H' => Q V.non H', rt := Q } [some (.ref tl), some (.ref b), some (.ref u), some (.int (c : Nat)), some (.str "clean"), some (.ref Vl), some (.ref Tt), x7, some (.int v), x9, x10] H5 := fun H5 k5 hT5 hb5 x9 x10 => by
              refine ⟨_, rfl, _, rfl, Tt, iN Lt, rfl, by rw [show (iN Lt).map V.int = lV Lt from zl Lt]; exact .inl (.inl hT5), fun ns' q hp hs hq => ?_⟩
              rw [show List.map V.int ns' = lV (norm Lt) from sorted_perm hp hs nd]
              refine ⟨(by show 2 ≤ sizeLine; decide), fun r hr => ?_⟩
              have s6 := same_upd (o := .lst (lV (norm Lt))) hq
              have s7 := same_upd (o := .tup [.int v, .ref q]) hr
              have k7 := k5.trans1 (same_kp (R := [b]) (Same.trans s6 s7))
              have q0 : H q = none := by
                cases e : H q with
                | none => rfl
                | some o =>
                  by_cases eb : q = b
                  · rw [eb, hb5] at hq; cases hq
                  · rw [k5.kp q o (by simpa using eb) e] at hq; cases hq
              exact hQ r q _ k7 q0 ((Same.trans s6 s7) _ _ hb5) (by rw [close_val.1]; exact upd_same) (by rw [close_val.2]; exact s7 _ _ upd_same)
            have nst : ∀ l, ¬ Stb K (.lst l) := fun l z => z
            refine ⟨fun σ H5 => (∃ x9 x10, σ = [some (.ref tl), some (.ref b), some (.ref u), some (.int (c : Nat)), some (.str "clean"), some (.ref Vl), some (.ref Tt), x7, some (.int v), x9, x10]) ∧ Kp K [b] H H5 ∧ H5 Tt = some (.lst (lV Lt)) ∧ H5 b = some (.lst ((close false c v (norm Lt) (usedOf c R.1) R.2).2.board.map bV)), ?_, fun σ H5 ⟨⟨x9, x10, e⟩, k5, hT5, hb5⟩ => by rw [e]; exact fin H5 k5 hT5 hb5 x9 x10⟩
            refine ⟨_, rfl, rfl, _, rfl, iteFb (by decide +kernel) ?_⟩
            refine ⟨_, rfl, rfl, _, rfl, iteTb (by decide +kernel) ?_⟩
            refine ⟨_, rfl, Nat.zero_le _, fun y hy => ?_⟩
            have s3 := same_upd (o := .lst []) hy
            refine ⟨dL Lt, dL [], dp_lst (.inl (.inl (s3 _ _ hT2))), dp_lst (l := []) sqL_upd, sh_dL _, sh_dL _, _, rfl, ?_⟩
            rw [eqv_dL]
            have k3 := k2.trans1 (same_kp (R := [b]) s3)
            by_cases hE : Lt = []
            · refine iteTb (decide_eq_true hE) ?_
              have eb : (close false c v (norm Lt) (usedOf c R.1) R.2).2.board = R.2.board.set c (some v) := by
                unfold close
                rw [if_pos (norm_nil.mpr hE)]
              have hb3 := s3 _ _ hb2
              refine ⟨_, rfl, _, rfl, _, rfl, b, _, (c : Int), c, rfl, rfl, hb3, by rw [List.length_map, hbok.len]; exact Evl.ixN_nat pre.cN, ⟨_, _, rfl⟩, k3.trans1 (Kp.upd List.mem_cons_self hb3 (nst _)), by rw [upd_ne (Ne.symm bT')]; exact s3 _ _ hT2, ?_⟩
              rw [upd_same, eb, List.map_set]
              rfl
            · refine iteFb (decide_eq_false hE) ?_
              have eb : (close false c v (norm Lt) (usedOf c R.1) R.2).2.board = R.2.board := by
                unfold close
                rw [if_neg (fun h => hE (norm_nil.mp h))]
              exact ⟨⟨_, _, rfl⟩, k3, s3 _ _ hT2, by rw [eb]; exact s3 _ _ hb2⟩
end
end KW
/-! The walk, part 30: the law's evaluation with remembered results. -/
namespace KW
open PySem PySem.Spec PyProof.Rows L2 KR K19 StX
/-- a remembered row: the tuple, its taint's list, its used list -/
def RowL (K : PySem.W.Frag) (H : Hp) (p : Addr × Addr × Addr) (r : K19.Row) : Prop := H p.1 = some (.tup [.int (r.cell : Nat), .int r.val, .ref p.2.1, .ref p.2.2]) ∧ H p.2.1 = some (.lst (lV r.taint)) ∧ ∃ L, H p.2.2 = some (.lst (lV L)) ∧ norm L = r.used ∧ L.Nodup
abbrev RowsL (K : PySem.W.Frag) (H : Hp) (rs : List (Addr × Addr × Addr)) (l : List K19.Row) : Prop := Paired (RowL K H) rs l
structure LX (K : PySem.W.Frag) (H : Hp) (tl b lg kn : Addr) (ps : List Addr) (S : Sys) (st : K19.St) (es : List Addr) (rs : List (Addr × Addr × Addr)) : Prop where
  hTl : H tl = some (.lst (rV ps))
  trips : Trips K H ps S
  hB : H b = some (.lst (st.board.map bV))
  hLg : H lg = some (.lst (rV es))
  evs : EvsAt K H es st.log
  hKn : H kn = some (.lst (rV (rs.map (·.1))))
  rows : RowsL K H rs st.known
  d1 : b ≠ lg
  d2 : b ≠ kn
  d3 : lg ≠ kn
  d4 : tl ≠ b
  d5 : tl ≠ lg
  d6 : tl ≠ kn
  av : ∀ p ∈ rs, (p.2.1 ≠ b ∧ p.2.1 ≠ lg ∧ p.2.1 ≠ kn) ∧ p.2.2 ≠ b ∧ p.2.2 ≠ lg ∧ p.2.2 ≠ kn
/-- a list that is new, or a remembered row's own -/
def Apt (H : Hp) (rs : List (Addr × Addr × Addr)) (t : Addr) : Prop := H t = none ∨ ∃ p ∈ rs, t = p.2.1 ∨ t = p.2.2
section
variable {P : Program} {w : World} {K : PySem.W.Frag} {mg : PySem.Str → Option Value} {base : Heap} {H H' : Hp} {tl b lg kn : Addr} {ps : List Addr} {S : Sys} {st : K19.St} {es : List Addr} {rs : List (Addr × Addr × Addr)}
theorem rowsL_keep {a : Addr} {l : List K19.Row} (sk : SK K H H') (kp : ∀ x o, x ≠ a → H x = some o → H' x = some o) (h : RowsL K H rs l) (n : ∀ p ∈ rs, p.2.1 ≠ a ∧ p.2.2 ≠ a) : RowsL K H' rs l := by
  induction h with
  | nil => exact .nil
  | @cons p w rs l hd tl ih =>
    obtain ⟨h1, h2, L, h3, h4⟩ := hd
    obtain ⟨n1, n2⟩ := n p List.mem_cons_self
    exact .cons ⟨sk _ _ trivial h1, kp _ _ n1 h2, L, kp _ _ n2 h3, h4⟩ (ih fun q hq => n q (List.mem_cons_of_mem _ hq))
/-- all but a, that is none of its own, is as it was -/
theorem LX.keep (h : LX K H tl b lg kn ps S st es rs) {a : Addr} (sk : SK K H H') (kp : ∀ x o, x ≠ a → H x = some o → H' x = some o) (n1 : a ≠ tl) (n2 : a ≠ b) (n3 : a ≠ lg) (n4 : a ≠ kn) (n5 : ∀ p ∈ rs, p.2.1 ≠ a ∧ p.2.2 ≠ a) : LX K H' tl b lg kn ps S st es rs :=
  ⟨kp _ _ (Ne.symm n1) h.hTl, h.trips.mono sk, kp _ _ (Ne.symm n2) h.hB, kp _ _ (Ne.symm n3) h.hLg, h.evs.mono sk, kp _ _ (Ne.symm n4) h.hKn, rowsL_keep sk kp h.rows n5, h.d1, h.d2, h.d3, h.d4, h.d5, h.d6, h.av⟩
theorem RowsL.same {l : List K19.Row} (s : Same H H') (h : RowsL K H rs l) : RowsL K H' rs l := Paired.mapP h fun _ _ ⟨h1, h2, L, h3, h4⟩ => ⟨s _ _ h1, s _ _ h2, L, s _ _ h3, h4⟩
theorem LX.same (h : LX K H tl b lg kn ps S st es rs) (s : Same H H') : LX K H' tl b lg kn ps S st es rs :=
  ⟨s _ _ h.hTl, h.trips.mono (same_sk s), s _ _ h.hB, s _ _ h.hLg, h.evs.mono (same_sk s), s _ _ h.hKn, h.rows.same s, h.d1, h.d2, h.d3, h.d4, h.d5, h.d6, h.av⟩
theorem paired_mem {α β : Type} {F : α → β → Prop} : ∀ {l : List α} {m : List β}, Paired F l m → ∀ {x : α}, x ∈ l → ∃ y ∈ m, F x y
  | _, _, .nil, _, h => absurd h List.not_mem_nil
  | _, _, .cons hd tl, x, h => by
    rcases List.mem_cons.mp h with rfl | h
    · exact ⟨_, List.mem_cons_self, hd⟩
    · obtain ⟨y, hy, q⟩ := paired_mem tl h
      exact ⟨y, List.mem_cons_of_mem _ hy, q⟩
/-- the rows' lists stand in the heap -/
theorem LX.has (h : LX K H tl b lg kn ps S st es rs) {p : Addr × Addr × Addr} (hp : p ∈ rs) : (∃ o, H p.2.1 = some o) ∧ ∃ o, H p.2.2 = some o := by
  obtain ⟨w, _, _, h2, L, h3, _⟩ := paired_mem h.rows hp
  exact ⟨⟨_, h2⟩, _, h3⟩
/-- log.append(..) -/
theorem LX.say (h : LX K H tl b lg kn ps S st es rs) {p : Addr} {e : Ev} (he : EvT K H p e) : LX K (upd H lg (.lst (rV es ++ [.ref p]))) tl b lg kn ps S (st.say e) (es ++ [p]) rs := by
  have sk : SK K H (upd H lg (.lst (rV es ++ [.ref p]))) := .upd h.hLg (fun z => z)
  refine ⟨by rw [upd_ne h.d5]; exact h.hTl, h.trips.mono sk, by rw [upd_ne h.d1]; exact h.hB, by rw [upd_same]; simp [rV], (h.evs.mono sk).snoc (he.mono sk), by rw [upd_ne (Ne.symm h.d3)]; exact h.hKn,
    rowsL_keep sk (fun x o n q => by rw [upd_ne n]; exact q) h.rows fun p hp => ⟨(h.av p hp).1.2.1, (h.av p hp).2.2.1⟩, h.d1, h.d2, h.d3, h.d4, h.d5, h.d6, h.av⟩
theorem app_lx (h : LX K H tl b lg kn ps S st es rs) {σ : L2.St} (h5 : σ[5]? = some (some (.ref lg))) (hz : st.log.length ≤ 100000) {t : TE} {e : Ev} {Nx : VK}
    (ht : ∀ Q : VK, (∀ p H1, Same H H1 → EvT K H1 p e → Q (.ref p) H1) → t σ H Q) (k : ∀ H' p, (∀ a o, a ≠ lg → H a = some o → H' a = some o) → Kp K [b, lg, kn] H H' → LX K H' tl b lg kn ps S (st.say e) (es ++ [p]) rs → Nx .non H') :
    tBM K "list" rAppend (tVar 5) (tCons t tNil) σ H Nx := by
  refine ⟨_, h5, .inl ⟨rfl, _, .inl (.inl h.hLg)⟩, ht _ fun p H1 s1 he => ?_⟩
  have h1 := h.same s1
  refine ⟨lg, _, _, rfl, rfl, h1.hLg, ?_, k _ p (fun a o n q => by rw [upd_ne n]; exact s1 _ _ q) ?_ (h1.say he)⟩
  · rw [List.length_map, h.evs.length]; exact Nat.lt_of_le_of_lt hz (by decide)
  · exact (same_kp (R := [b, lg, kn]) s1).trans1 (Kp.upd (by simp) h1.hLg (fun z => z))
def spLawEx (K : PySem.W.Frag) (f : Nat) : Sp := fun vs H Q _ => ∃ (tl b un lg kn : Addr) (ps : List Addr) (S : Sys) (rk : Nat → Nat) (bs : Nat) (st : K19.St) (B : List Nat) (c : Nat) (es : List Addr) (rs : List (Addr × Addr × Addr)), vs = [.ref tl, .ref b, .ref un, .int (c : Nat), .ref kn, .ref lg] ∧
  LX K H tl b lg kn ps S st es rs ∧ SysOk S rk bs ∧ H un = some (.lst (lV B)) ∧ un ≠ b ∧ un ≠ lg ∧ un ≠ kn ∧ Pre S rk st B c ∧ S.length < f + B.length ∧ st.known.length ≤ st.log.length ∧ (M true S f st B c).2.log.length ≤ 100000 ∧
  ∀ r t u L es' rs' H', Kp K [b, lg, kn] H H' → LX K H' tl b lg kn ps S (M true S f st B c).2 es' (rs ++ rs') → (∀ p ∈ rs', H p.2.1 = none ∧ H p.2.2 = none) → Apt H rs t → Apt H rs u → SqT K H' r [.int (M true S f st B c).1.val, .ref t, .ref u] →
    H' t = some (.lst (lV (M true S f st B c).1.taint)) → H' u = some (.lst (lV L)) → norm L = (M true S f st B c).1.used → L.Nodup → Q (.ref r) H'
theorem at_three {α : Type} {x y z u : α} {xs : List α} : atI (x :: y :: z :: u :: xs) 3 = some u := at_nat (by decide) rfl
theorem wrong_hit {b : Board} {B L : List Nat} {c : Nat} {w : K19.Row} (hc : w.cell = c) (hL : norm L = w.used) : decide (((w.taint.filter fun x => decide (x ∉ B)) ++ (L.filter fun x => decide (x ∈ B))) ++ (L.filter fun x => (bat b x).isSome) = []) = hit b B c w := by
  have hm : ∀ x, x ∈ w.used ↔ x ∈ L := fun x => by rw [← hL]; exact mem_norm
  rw [hit_row, decide_eq_true hc, Bool.true_and, Bool.eq_iff_iff, decide_eq_true_eq, Bool.and_eq_true, List.all_eq_true, List.all_eq_true, List.append_eq_nil_iff, List.append_eq_nil_iff, List.filter_eq_nil_iff, List.filter_eq_nil_iff, List.filter_eq_nil_iff]
  constructor
  · rintro ⟨⟨h1, h2⟩, h3⟩
    refine ⟨fun x hx => ?_, fun x hx => ?_⟩
    · have := h1 x hx; simpa using this
    · have a := h2 x ((hm x).mp hx)
      have b' := h3 x ((hm x).mp hx)
      cases e : bat b x with
      | none => simpa using a
      | some v => rw [e] at b'; simp at b'
  · rintro ⟨h1, h2⟩
    refine ⟨⟨fun x hx => ?_, fun x hx => ?_⟩, fun x hx => ?_⟩
    · have := h1 x hx; simpa using this
    · have := h2 x ((hm x).mpr hx)
      rw [Bool.and_eq_true] at this
      simpa using this.1
    · have := h2 x ((hm x).mpr hx)
      rw [Bool.and_eq_true] at this
      cases e : bat b x with
      | none => simp
      | some v => rw [e] at this; simp at this
theorem LX.rest (h : LX K H tl b lg kn ps S st es rs) {st' : K19.St} (e1 : st'.board = st.board) (e2 : st'.log = st.log) (e3 : st'.known = st.known) : LX K H tl b lg kn ps S st' es rs :=
  ⟨h.hTl, h.trips, by rw [e1]; exact h.hB, h.hLg, by rw [e2]; exact h.evs, h.hKn, by rw [e3]; exact h.rows, h.d1, h.d2, h.d3, h.d4, h.d5, h.d6, h.av⟩
theorem LX.setB (h : LX K H tl b lg kn ps S st es rs) (bd : Board) : LX K (upd H b (.lst (bd.map bV))) tl b lg kn ps S { st with board := bd } es rs := by
  have sk : SK K H (upd H b (.lst (bd.map bV))) := .upd h.hB (fun z => z)
  exact ⟨by rw [upd_ne h.d4]; exact h.hTl, h.trips.mono sk, upd_same, by rw [upd_ne (Ne.symm h.d1)]; exact h.hLg, h.evs.mono sk, by rw [upd_ne (Ne.symm h.d2)]; exact h.hKn, rowsL_keep sk (fun x o n q => by rw [upd_ne n]; exact q) h.rows (fun p hp => ⟨(h.av p hp).1.1, (h.av p hp).2.1⟩), h.d1, h.d2, h.d3, h.d4, h.d5, h.d6, h.av⟩
theorem LX.addK (h : LX K H tl b lg kn ps S st es rs) {p : Addr × Addr × Addr} {w : K19.Row} (hr : RowL K H p w) (n1 : p.2.1 ≠ b ∧ p.2.1 ≠ lg ∧ p.2.1 ≠ kn) (n2 : p.2.2 ≠ b ∧ p.2.2 ≠ lg ∧ p.2.2 ≠ kn) : LX K (upd H kn (.lst (rV (rs.map (·.1)) ++ [.ref p.1]))) tl b lg kn ps S { st with known := st.known ++ [w] } es (rs ++ [p]) := by
  have sk : SK K H (upd H kn (.lst (rV (rs.map (·.1)) ++ [.ref p.1]))) := .upd h.hKn (fun z => z)
  have kp : ∀ x o, x ≠ kn → H x = some o → upd H kn (.lst (rV (rs.map (·.1)) ++ [.ref p.1])) x = some o := fun x o n q => by rw [upd_ne n]; exact q
  have av : ∀ q ∈ rs ++ [p], (q.2.1 ≠ b ∧ q.2.1 ≠ lg ∧ q.2.1 ≠ kn) ∧ q.2.2 ≠ b ∧ q.2.2 ≠ lg ∧ q.2.2 ≠ kn := fun q hq => by
    rcases List.mem_append.mp hq with z | z
    · exact h.av q z
    · rw [List.mem_singleton.mp z]; exact ⟨n1, n2⟩
  obtain ⟨g1, g2, L, g3, g4⟩ := hr
  exact ⟨kp _ _ h.d6 h.hTl, h.trips.mono sk, kp _ _ h.d2 h.hB, kp _ _ h.d3 h.hLg, h.evs.mono sk, by rw [upd_same]; simp [rV], (rowsL_keep sk kp h.rows fun p hp => ⟨(h.av p hp).1.2.2, (h.av p hp).2.2.2⟩).snoc ⟨sk _ _ trivial g1, kp _ _ n1.2.2 g2, L, kp _ _ n2.2.2 g3, g4⟩, h.d1, h.d2, h.d3, h.d4, h.d5, h.d6, av⟩
/-- the state along the operands -/
structure EvI (K : PySem.W.Frag) (H H' : Hp) (tl b lg kn : Addr) (ps : List Addr) (S : Sys) (R : List Res × K19.St) (c : Nat) (rs : List (Addr × Addr × Addr)) (Vl Tt Ul : Addr) (Lt Lu : List Nat) (es' : List Addr) (rs' : List (Addr × Addr × Addr)) : Prop where
  vl : H' Vl = some (.lst (zV (R.1.map (·.val))))
  tt : H' Tt = some (.lst (lV Lt))
  ul : H' Ul = some (.lst (lV Lu))
  nt : Lt.Nodup
  nu : Lu.Nodup
  mt : ∀ x, x ∈ Lt ↔ x ≠ c ∧ ∃ r ∈ R.1, x ∈ r.taint
  mu : ∀ x, x ∈ Lu ↔ x = c ∨ ∃ r ∈ R.1, x ∈ r.used
  lx : LX K H' tl b lg kn ps S R.2 es' (rs ++ rs')
  fr : ∀ p ∈ rs', H p.2.1 = none ∧ H p.2.2 = none
  ap : ∀ p ∈ rs ++ rs', (p.2.1 ≠ Vl ∧ p.2.1 ≠ Tt ∧ p.2.1 ≠ Ul) ∧ (p.2.2 ≠ Vl ∧ p.2.2 ≠ Tt ∧ p.2.2 ≠ Ul)
  kp : Kp K [b, lg, kn] H H'
theorem and_dec {p q z : Bool} (h : q = (p && z)) : q = decide (p = true ∧ q = true) := by
  subst h
  cases p <;> cases z <;> rfl
theorem LX.free (h : LX K H' tl b lg kn ps S st es rs) (k : Kp K [b, lg, kn] H H') {t : Addr} (ht : H' t = none) : H t = none := by
  cases e : H t with
  | none => rfl
  | some o =>
    have n : t ∉ [b, lg, kn] := fun m => by
      simp only [List.mem_cons, List.not_mem_nil, or_false] at m
      rcases m with m | m | m
      · rw [m, h.hB] at ht; cases ht
      · rw [m, h.hLg] at ht; cases ht
      · rw [m, h.hKn] at ht; cases ht
    rw [k.kp t o n e] at ht
    cases ht
theorem ok__law_exact (T : Txt K mg) : ∀ f, FD P w K mg base CX0 (2 + f) d__law_exact ["_law_triples", "_law_board", "_law_under", "_law_spot", "_law_known", "_law_log"] (spLawEx K f)
  | 0 => by
    refine FD.mono (j := 1) (fd_of T.d__law_exact sc__law_exact (fun vs H Q E h => ?_) (fun cdv A outer s H vs Q E hr h => ?_)) (by decide)
    · obtain ⟨tl, b, u, lg, kn, ps, S, rk, bs, st, B, c, es, rs, rfl, _⟩ := h
      rfl
    · obtain ⟨tl, b, u, lg, kn, ps, S, rk, bs, st, B, c, es, rs, rfl, hX, ok, h4, h5, h6, h7, pre, hf, _⟩ := h
      have := nodup_le pre.bn pre.bl
      omega
  | f + 1 => by
    have C := ok__law_exact T f
    refine fd_of T.d__law_exact sc__law_exact (fun vs H Q E h => ?_) (fun cdv A outer s H vs Q E hr h => ?_)
    · obtain ⟨tl, b, u, lg, kn, ps, S, rk, bs, st, B, c, es, rs, rfl, _⟩ := h
      rfl
    · obtain ⟨tl, b, un, lg, kn, ps, S, rk, bs, st, B, c, es, rs, rfl, hX, ok, hun, nub, nul, nuk, pre, hf, hkn, hlog, hQ⟩ := h
      have hr1 := hr.mono (show 1 ≤ 2 + f by omega)
      have hu := Room.u64 hr
      refine ⟨_, (pss_cons (ps_if (pt_cmpR op_notN (pe_ix (ix_K K rfl) (pv 1) (pv 3) (fun _ _ => rfl)) pe_non (nomark _)) (pss_cons (ps_expr (pe_bm PySem.F.plainAttrs_list PySem.F.slot_list_append PySem.F.type_list_append mt_append (pv 5) (pa_cons (pe_tup (pa_cons pe_str (pa_cons (pv 3) (pa_cons (pe_ix (ix_K K rfl) (pv 1) (pv 3) (fun _ _ => rfl)) pa_nil)))) pa_nil))) (pss_one (ps_ret (pe_tup (pa_cons (pe_ix (ix_K K rfl) (pv 1) (pv 3) (fun _ _ => rfl)) (pa_cons (pe_lst pa_nil) (pa_cons (pe_lst pa_nil) pa_nil))))))) pss_nil) (pss_cons (ps_if (pt_cmpR (op_inK K rfl) (pv 3) (pv 2) rfl) (pss_cons (ps_expr (pe_bm PySem.F.plainAttrs_list PySem.F.slot_list_append PySem.F.type_list_append mt_append (pv 5) (pa_cons (pe_tup (pa_cons pe_str (pa_cons (pv 3) (pa_cons (pe_ix (ix_K K rfl) (pe_ix (ix_K K rfl) (pv 0) (pv 3) (fun _ _ => rfl)) pe_int (fun _ _ => rfl)) pa_nil)))) pa_nil))) (pss_one (ps_ret (pe_tup (pa_cons (pe_ix (ix_K K rfl) (pe_ix (ix_K K rfl) (pv 0) (pv 3) (fun _ _ => rfl)) pe_int (fun _ _ => rfl)) (pa_cons (pe_lst (pa_cons (pv 3) pa_nil)) (pa_cons (pe_lst pa_nil) pa_nil))))))) pss_nil) (pss_cons (ps_for PassesOwn.never rfl (pi_listK K rfl (pe_lc rfl sc__law_exact.nd (pi_listK K rfl (pv 4)) (own := [("_law_row", 6)]) (blkOk_by (by kernel_rfl)) (fun _ _ _ _ _ => (pg_name (i := 6) sc__law_exact.nd rfl (by first | exact Or.inl rfl | exact Or.inr rfl | exact Or.inr (Or.inl rfl)))) (fun _ _ _ _ _ => (pts_one (pt_cmpR op_eq (pe_ix (ix_K K rfl) (pv 6) pe_int (fun _ _ => rfl)) (pv 3) (nomark _)))) (fun _ _ _ _ _ => (pv 6)))) (pg_name (i := 6) sc__law_exact.nd rfl (by first | exact Or.inl rfl | exact Or.inr rfl | exact Or.inr (Or.inl rfl))) (pss_cons (ps_set (i := 7) sc__law_exact.nd rfl (by first | exact Or.inl rfl | exact Or.inr rfl | exact Or.inr (Or.inl rfl)) (pe_op op_cat (pe_lc rfl sc__law_exact.nd (pi_listK K rfl (pe_ix (ix_K K rfl) (pv 6) pe_int (fun _ _ => rfl))) (own := [("_law_one", 15)]) (blkOk_by (by kernel_rfl)) (fun _ _ _ _ _ => (pg_name (i := 15) sc__law_exact.nd rfl (by first | exact Or.inl rfl | exact Or.inr rfl | exact Or.inr (Or.inl rfl)))) (fun _ _ _ _ _ => (pts_one (pt_cmpR (op_ninK K rfl) (pv 15) (pv 2) rfl))) (fun _ _ _ _ _ => (pv 15))) (pe_lc rfl sc__law_exact.nd (pi_listK K rfl (pe_ix (ix_K K rfl) (pv 6) pe_int (fun _ _ => rfl))) (own := [("_law_one", 15)]) (blkOk_by (by kernel_rfl)) (fun _ _ _ _ _ => (pg_name (i := 15) sc__law_exact.nd rfl (by first | exact Or.inl rfl | exact Or.inr rfl | exact Or.inr (Or.inl rfl)))) (fun _ _ _ _ _ => (pts_one (pt_cmpR (op_inK K rfl) (pv 15) (pv 2) rfl))) (fun _ _ _ _ _ => (pv 15))))) (pss_one (ps_if (pt_cmpR (op_eqDK K rfl hu) (pe_op op_cat (pv 7) (pe_lc rfl sc__law_exact.nd (pi_listK K rfl (pe_ix (ix_K K rfl) (pv 6) pe_int (fun _ _ => rfl))) (own := [("_law_one", 15)]) (blkOk_by (by kernel_rfl)) (fun _ _ _ _ _ => (pg_name (i := 15) sc__law_exact.nd rfl (by first | exact Or.inl rfl | exact Or.inr rfl | exact Or.inr (Or.inl rfl)))) (fun _ _ _ _ _ => (pts_one (pt_cmpR op_notN (pe_ix (ix_K K rfl) (pv 1) (pv 15) (fun _ _ => rfl)) pe_non (nomark _)))) (fun _ _ _ _ _ => (pv 15)))) (pe_lst pa_nil) (nomark _)) (pss_cons (ps_expr (pe_bm PySem.F.plainAttrs_list PySem.F.slot_list_append PySem.F.type_list_append mt_append (pv 5) (pa_cons (pe_tup (pa_cons pe_str (pa_cons (pv 3) (pa_cons (pe_ix (ix_K K rfl) (pv 6) pe_int (fun _ _ => rfl)) (pa_cons (pe_callTy call_tuple_of rfl T.f_tuple boot_tuple (pa_cons (pe_ix (ix_K K rfl) (pv 6) pe_int (fun _ _ => rfl)) pa_nil)) pa_nil))))) pa_nil))) (pss_one (ps_ret (pe_slice (sl_tupK K rfl) (pv 6) (po_some pe_int) po_none)))) pss_nil)))) (pss_cons (ps_expr (pe_bm PySem.F.plainAttrs_list PySem.F.slot_list_append PySem.F.type_list_append mt_append (pv 5) (pa_cons (pe_tup (pa_cons pe_str (pa_cons (pv 3) pa_nil))) pa_nil))) (pss_cons (ps_set (i := 8) sc__law_exact.nd rfl (by first | exact Or.inl rfl | exact Or.inr rfl | exact Or.inr (Or.inl rfl)) (pe_lst pa_nil)) (pss_cons (ps_set (i := 9) sc__law_exact.nd rfl (by first | exact Or.inl rfl | exact Or.inr rfl | exact Or.inr (Or.inl rfl)) (pe_lst pa_nil)) (pss_cons (ps_set (i := 10) sc__law_exact.nd rfl (by first | exact Or.inl rfl | exact Or.inr rfl | exact Or.inr (Or.inl rfl)) (pe_lst (pa_cons (pv 3) pa_nil))) (pss_cons (ps_for PassesOwn.never rfl (pi_tupK K rfl (pe_ix (ix_K K rfl) (pe_ix (ix_K K rfl) (pv 0) (pv 3) (fun _ _ => rfl)) pe_int (fun _ _ => rfl))) (pg_name (i := 11) sc__law_exact.nd rfl (by first | exact Or.inl rfl | exact Or.inr rfl | exact Or.inr (Or.inl rfl))) (pss_cons (ps_asg (pe_def C hr rfl T.g__law_exact rfl b__law_exact (pa_cons (pv 0) (pa_cons (pv 1) (pa_cons (pe_op op_cat (pv 2) (pe_lst (pa_cons (pv 3) pa_nil))) (pa_cons (pv 11) (pa_cons (pv 4) (pa_cons (pv 5) pa_nil)))))) (hk := Nat.le_refl _)) (pg_tupK (n := 3) K rfl rfl (pgs_cons (pg_name (i := 12) sc__law_exact.nd rfl (by first | exact Or.inl rfl | exact Or.inr rfl | exact Or.inr (Or.inl rfl))) (pgs_cons (pg_name (i := 13) sc__law_exact.nd rfl (by first | exact Or.inl rfl | exact Or.inr rfl | exact Or.inr (Or.inl rfl))) (pgs_cons (pg_name (i := 14) sc__law_exact.nd rfl (by first | exact Or.inl rfl | exact Or.inr rfl | exact Or.inr (Or.inl rfl))) pgs_nil))))) (pss_cons (ps_expr (pe_bm PySem.F.plainAttrs_list PySem.F.slot_list_append PySem.F.type_list_append mt_append (pv 8) (pa_cons (pv 12) pa_nil))) (pss_cons (ps_expr (pe_bm PySem.F.plainAttrs_list PySem.F.slot_list_extend PySem.F.type_list_extend mt_extend (pv 9) (pa_cons (pe_lc rfl sc__law_exact.nd (pi_listK K rfl (pv 13)) (own := [("_law_one", 15)]) (blkOk_by (by kernel_rfl)) (fun _ _ _ _ _ => (pg_name (i := 15) sc__law_exact.nd rfl (by first | exact Or.inl rfl | exact Or.inr rfl | exact Or.inr (Or.inl rfl)))) (fun _ _ _ _ _ => (pts_one (PW.pt (pw_and (pt_cmpR op_ne (pv 15) (pv 3) (nomark _)) (pw_and1 (pt_cmpR (op_ninK K rfl) (pv 15) (pv 9) rfl)))))) (fun _ _ _ _ _ => (pv 15))) pa_nil))) (pss_one (ps_expr (pe_bm PySem.F.plainAttrs_list PySem.F.slot_list_extend PySem.F.type_list_extend mt_extend (pv 10) (pa_cons (pe_lc rfl sc__law_exact.nd (pi_listK K rfl (pv 14)) (own := [("_law_one", 15)]) (blkOk_by (by kernel_rfl)) (fun _ _ _ _ _ => (pg_name (i := 15) sc__law_exact.nd rfl (by first | exact Or.inl rfl | exact Or.inr rfl | exact Or.inr (Or.inl rfl)))) (fun _ _ _ _ _ => (pts_one (pt_cmpR (op_ninK K rfl) (pv 15) (pv 10) rfl))) (fun _ _ _ _ _ => (pv 15))) pa_nil)))))))) (pss_cons (ps_set (i := 12) sc__law_exact.nd rfl (by first | exact Or.inl rfl | exact Or.inr rfl | exact Or.inr (Or.inl rfl)) (pe_def (ok__law_value T) hr1 rfl T.g__law_value rfl b__law_value (pa_cons (pe_ix (ix_K K rfl) (pe_ix (ix_K K rfl) (pv 0) (pv 3) (fun _ _ => rfl)) pe_int (fun _ _ => rfl)) (pa_cons (pv 8) pa_nil)))) (Evl.pss_cut (ps_if (pt_cmpR (op_eqDK K rfl hu) (pv 9) (pe_lst pa_nil) (nomark _)) (pss_cons (ps_asg (pv 12) (pg_sub (pv 1) (pv 3) set_list)) (pss_one (ps_set (i := 10) sc__law_exact.nd rfl (by first | exact Or.inl rfl | exact Or.inr rfl | exact Or.inr (Or.inl rfl)) (pe_lst pa_nil)))) (pss_one (ps_expr (pe_bm PySem.F.plainAttrs_list PySem.F.slot_list_append PySem.F.type_list_append mt_append (pv 4) (pa_cons (pe_tup (pa_cons (pv 3) (pa_cons (pv 12) (pa_cons (pe_callB cr_sortedI rfl T.f_sorted boot_sorted (pa_cons (pv 9) pa_nil)) (pa_cons (pv 10) pa_nil))))) pa_nil))))) (pss_cons (ps_expr (pe_bm PySem.F.plainAttrs_list PySem.F.slot_list_append PySem.F.type_list_append mt_append (pv 5) (pa_cons (pe_tup (pa_cons pe_str (pa_cons (pv 3) (pa_cons (pv 12) (pa_cons (pe_callTy call_tuple_of rfl T.f_tuple boot_tuple (pa_cons (pe_callB cr_sortedI rfl T.f_sorted boot_sorted (pa_cons (pv 9) pa_nil)) pa_nil)) (pa_cons (pe_cmpR (op_eqDK K rfl hu) (pv 9) (pe_lst pa_nil) (nomark _)) pa_nil)))))) pa_nil))) (pss_one (ps_ret (pe_tup (pa_cons (pv 12) (pa_cons (pe_callB cr_sortedI rfl T.f_sorted boot_sorted (pa_cons (pv 9) pa_nil)) (pa_cons (pv 10) pa_nil))))))))))))))))), ?_⟩
      have hcb : c < st.board.length := by rw [pre.bok.len]; exact pre.cN
      have hat : atI (st.board.map bV) (c : Int) = some (bV (bat st.board c)) := at_nat (by omega) (by rw [Int.toNat_natCast]; exact board_at hcb)
      have htl := hX.hTl
      have htr := hX.trips
      have hb := hX.hB
      obtain ⟨tp, htp, ttr⟩ := trip_at htr pre.cN
      have ⟨oA, fA, htu, hops, hfn⟩ := ttr
      have lg0 : st.log.length ≤ 100000 := Nat.le_trans (gr_M true S (f + 1) st B c).len hlog
      have hun' : ∀ {H'}, Kp K [b, lg, kn] H H' → H' un = some (.lst (lV B)) := fun k => k.kp _ _ (by simp [nub, nul, nuk]) hun
      have ret : ∀ (H2 : Hp) (es2 : List Addr) (st2 : K19.St) (v : Int) (TT : List Nat), M true S (f + 1) st B c = (⟨v, TT, []⟩, st2) → Kp K [b, lg, kn] H H2 → LX K H2 tl b lg kn ps S st2 es2 rs → ∀ t u r, H2 t = none → upd H2 t (.lst (lV TT)) u = none → upd (upd H2 t (.lst (lV TT))) u (.lst []) r = none →
          Q (.ref r) (upd (upd (upd H2 t (.lst (lV TT))) u (.lst [])) r (.tup [.int v, .ref t, .ref u])) := fun H2 es2 st2 v TT e0 k2 hX2 t u r ht hu hr => by
        rw [e0] at hQ
        have s1 := same_upd (o := .lst (lV TT)) ht
        have s2 := same_upd (o := .lst []) hu
        have s3 := same_upd (o := .tup [.int v, .ref t, .ref u]) hr
        refine hQ r t u [] es2 [] _ (k2.trans1 (same_kp (Same.trans s1 (Same.trans s2 s3)))) (by rw [List.append_nil]; exact hX2.same (Same.trans s1 (Same.trans s2 s3))) (fun p hp => absurd hp List.not_mem_nil) (.inl (hX2.free k2 ht)) (.inl (hX2.free k2 (s1.free hu))) sqT_upd ((Same.trans s2 s3) _ _ upd_same) (s3 _ _ upd_same) rfl List.nodup_nil
      refine ⟨_, rfl, _, rfl, .inl ⟨b, _, _, _, rfl, rfl, .inl (.inl hb), hat, rfl, _, rfl, ?_⟩⟩
      cases hb0 : bat st.board c with
      | some v =>
        have e0 : M true S (f + 1) st B c = (⟨v, [], []⟩, st.say (.stored c v)) := by
          show callB _ _ _ _ _ _ = _
          unfold callB
          rw [hb0]
        rw [hb0] at hat
        refine iteTb rfl ?_
        refine app_lx (e := .stored c v) hX rfl lg0 (fun Q' hq => ⟨_, rfl, _, rfl, _, rfl, .inl ⟨b, _, _, _, rfl, rfl, .inl (.inl hb), hat, (by show 3 ≤ sizeLine; decide), fun p hp => hq p _ (same_upd hp) upd_same⟩⟩) (fun H2 p kp2 k2 hX2 => ?_)
        refine ⟨_, rfl, _, rfl, .inl ⟨b, _, _, _, rfl, rfl, .inl (.inl hX2.hB), hat, Nat.zero_le _, fun t ht => ⟨Nat.zero_le _, fun u hu => ⟨(by show 3 ≤ sizeLine; decide), fun r hr => ?_⟩⟩⟩⟩
        exact ret H2 _ _ v [] e0 k2 hX2 t u r ht hu hr
      | none =>
        refine iteFb rfl ?_
        refine ⟨_, rfl, _, rfl, un, _, rfl, .inl (.inl (.inl hun)), rfl, flat_nat _, _, rfl, ?_⟩
        rw [inV_nat]
        by_cases hcB : c ∈ B
        · rw [decide_eq_true hcB]
          have e0 : M true S (f + 1) st B c = (⟨(S.at c).g, [c], []⟩, st.say (.busy c (S.at c).g)) := by
            show callB _ _ _ _ _ _ = _
            unfold callB
            rw [hb0]
            exact if_pos hcB
          refine iteT ?_
          refine app_lx (e := .busy c (S.at c).g) hX rfl lg0 (fun Q' hq => ⟨_, rfl, _, rfl, _, rfl, .inl ⟨tl, _, _, _, rfl, rfl, .inl (.inl htl), htp, .inr (.inl ⟨tp, _, _, _, rfl, rfl, .inl (.inl htu), at_two, (by show 3 ≤ sizeLine; decide), fun p hp => hq p _ (same_upd hp) upd_same⟩)⟩⟩) (fun H2 p kp2 k2 hX2 => ?_)
          refine ⟨_, rfl, _, rfl, .inl ⟨tl, _, _, _, rfl, rfl, .inl (.inl hX2.hTl), htp, .inr (.inl ⟨tp, _, _, _, rfl, rfl, .inl (.inl (k2.sk _ _ trivial htu)), at_two, ?_⟩)⟩⟩
          refine ⟨_, rfl, (by show 1 ≤ sizeLine; decide), fun t ht => ⟨Nat.zero_le _, fun u hu => ⟨(by show 3 ≤ sizeLine; decide), fun r hr => ?_⟩⟩⟩
          exact ret H2 _ _ _ [c] e0 k2 hX2 t u r ht hu hr
        · rw [decide_eq_false hcB]
          have e0 : M true S (f + 1) st B c = evalX (M true S f) true S st B c := by
            show callB _ _ _ _ _ _ = _
            unfold callB
            rw [hb0]
            exact if_neg hcB
          rw [e0] at hQ hlog
          refine iteF ?_
          have gr := gr_evalX (gr_M true S f) true S st B c
          have bl12 : B.length ≤ 12 := Nat.le_trans (nodup_le pre.bn pre.bl) ok.len
          have lrs : (rV (rs.map (·.1))).length = st.known.length := by rw [List.length_map, List.length_map]; exact hX.rows.length
          have small : ∀ {n : Nat}, n ≤ 1000 → n < sizeLine := fun h => Nat.lt_of_le_of_lt h (by decide)
          have sm : ∀ {n : Nat}, n ≤ 100000 → n < sizeLine := fun h => Nat.lt_of_le_of_lt h (by decide)
          refine ⟨_, rfl, kn, rfl, ⟨_, .inl (.inl hX.hKn)⟩, fun D0 hD0 => ?_⟩
          refine lc_same (walk_list (xs := rV (rs.map (·.1)))) (fun i acc _ => ∃ rr, acc = rV (rr.map (·.1)) ∧ RowsL K H rr ((st.known.take i).filter fun w => decide (w.cell = c)) ∧ ∀ p ∈ rr, p ∈ rs) hD0 (by rw [lrs]; exact sm (by omega)) (fun H' s => .inl (.inl (s _ _ hX.hKn))) (fun _ _ => ⟨[], rfl, .nil, fun p hp => absurd hp List.not_mem_nil⟩) (fun i x H2 H3 acc K1 K0 hi s2 _ _ ea y k1 k0 => ?_) (fun H2 acc s2 ed ea => ?_)
          · obtain ⟨rfl, hx⟩ := y
            obtain ⟨rr, e1, e2, e3⟩ := ea
            obtain ⟨q, hq, rfl⟩ := ref_at hx
            rw [List.getElem?_map] at hq
            obtain ⟨p, hp, rfl⟩ := Option.map_eq_some_iff.mp hq
            obtain ⟨w, hw, hrow⟩ := paired_at hX.rows hp
            have hrow' := hrow
            obtain ⟨g1, g2, L, g3, g4, g5⟩ := hrow
            have etk : (st.known.take (i + 1)).filter (fun w => decide (w.cell = c)) = (st.known.take i).filter (fun w => decide (w.cell = c)) ++ [w].filter (fun w => decide (w.cell = c)) := by
              rw [List.take_add_one, hw, List.filter_append]; rfl
            refine ⟨rfl, _, rfl, .inr (.inl ⟨_, _, _, _, rfl, rfl, .inl (.inl (s2 _ _ g1)), at_zero, _, rfl, rfl, _, rfl, ?_⟩)⟩
            rw [vint_dec]
            by_cases hc : w.cell = c
            · refine iteTb (decide_eq_true hc) ⟨_, rfl, k1 _ _ (Same.refl _) fun H5 _ => ⟨rr ++ [p], by rw [e1]; simp [rV], ?_, fun z hz => ?_⟩⟩
              · rw [etk]
                simp only [List.filter_cons, decide_eq_true hc, if_true, List.filter_nil]
                exact e2.snoc hrow'
              · rcases List.mem_append.mp hz with z1 | z1
                · exact e3 z z1
                · rw [List.mem_singleton.mp z1]; exact List.mem_of_getElem? hp
            · refine iteFb (decide_eq_false hc) (k0 _ (Same.refl _) ⟨rr, e1, ?_, e3⟩)
              rw [etk]
              simp only [List.filter_cons, decide_eq_false hc, List.filter_nil]
              simpa using e2
          · obtain ⟨rr, rfl, e2, e3⟩ := ea
            rw [lrs, List.take_length] at e2
            generalize hkf : (st.known.filter fun w => decide (w.cell = c)) = kf at *
            have eF : st.known.find? (hit st.board B c) = kf.find? (hit st.board B c) := by
              rw [← hkf, List.find?_filter]
              congr 1
              funext w
              exact and_dec hit_row
            have lrr : (rV (rr.map (·.1))).length = kf.length := by rw [List.length_map, List.length_map]; exact e2.length
            refine ⟨D0, rfl, ⟨_, .inl (.inl ed)⟩, ?_⟩
            refine for_list (xs := rV (rr.map (·.1))) (fun i σ H' => (∃ x6 x7 x15, σ = [some (.ref tl), some (.ref b), some (.ref un), some (.int (c : Nat)), some (.ref kn), some (.ref lg), x6, x7, none, none, none, none, none, none, none, x15]) ∧ Same H H' ∧ H' D0 = some (.lst (rV (rr.map (·.1)))) ∧ ∀ w ∈ kf.take i, hit st.board B c w = false) ⟨⟨_, _, _, rfl⟩, s2, ed, fun w hw => by simp at hw⟩ (fun i σ H' _ q => .inl (.inl q.2.2.1)) (fun i x σ H1 hx q => ?_) (fun σ H1 q => ?_)
            · obtain ⟨⟨x6, x7, x15, rfl⟩, s1, hD1, hno⟩ := q
              obtain ⟨q, hq, rfl⟩ := ref_at hx
              rw [List.getElem?_map] at hq
              obtain ⟨p, hp, rfl⟩ := Option.map_eq_some_iff.mp hq
              obtain ⟨w, hw, hrow⟩ := paired_at e2 hp
              have hwk : w ∈ st.known ∧ w.cell = c := by
                have h := List.mem_of_getElem? hw
                rw [← hkf] at h
                obtain ⟨h1, h2⟩ := List.mem_filter.mp h
                exact ⟨h1, by simpa using h2⟩
              have rok := pre.known w hwk.1
              have hps := e3 p (List.mem_of_getElem? hp)
              obtain ⟨g1, g2, L, g3, g4, g5⟩ := hrow
              have lT : w.taint.length ≤ 12 := Nat.le_trans (nodup_le (asc_nodup rok.tasc) rok.tN) ok.len
              have hLS : ∀ x ∈ L, x < S.length := fun x hx => rok.uN x (by rw [← g4]; exact mem_norm.mpr hx)
              have lL : L.length ≤ 12 := Nat.le_trans (nodup_le g5 hLS) ok.len
              have lTv : (lV w.taint).length = w.taint.length := List.length_map _
              have lLv : (lV L).length = L.length := List.length_map _
              have hun1 := s1 _ _ hun
              -- wrong
              refine ⟨_, rfl, .inr (.inl ⟨_, _, _, _, rfl, rfl, .inl (.inl (s1 _ _ g1)), at_two, _, rfl, ⟨_, .inl (.inl (s1 _ _ g2))⟩, fun D1 hD1n => ?_⟩)⟩
              refine lc_same (walk_list (xs := lV w.taint)) (fun j acc _ => acc = lV ((w.taint.take j).filter fun x => decide (x ∉ B))) hD1n (by rw [lTv]; exact small (by omega)) (fun H' s => .inl (.inl (s _ _ (s1 _ _ g2)))) (fun _ _ => rfl) (fun j x H2 H3 acc K1 K0 hj s2 _ _ ea y k1 k0 => ?_) (fun H2 acc s2 ed2 ea2 => ?_)
              · obtain ⟨rfl, hx⟩ := y
                obtain ⟨v, hv, rfl⟩ := nat_at hx
                have etk : (w.taint.take (j + 1)).filter (fun x => decide (x ∉ B)) = (w.taint.take j).filter (fun x => decide (x ∉ B)) ++ [v].filter (fun x => decide (x ∉ B)) := by
                  rw [List.take_add_one, hv, List.filter_append]; rfl
                refine ⟨rfl, _, rfl, _, rfl, un, lV B, rfl, .inl (.inl (.inl (s2 _ _ hun1))), rfl, flat_nat _, _, rfl, ?_⟩
                rw [inV_nat]
                by_cases h2 : v ∈ B
                · refine iteFb (by rw [decide_eq_true h2]; rfl) (k0 _ (Same.refl _) ?_)
                  rw [ea, etk]
                  simp [h2]
                · refine iteTb (by rw [decide_eq_false h2]; rfl) ⟨_, rfl, k1 _ _ (Same.refl _) fun H8 _ => ?_⟩
                  rw [ea, etk, lV_app]
                  simp [h2, lV]
              · rw [lTv, List.take_length] at ea2
                have s12 := Same.trans s1 s2
                refine ⟨_, rfl, .inr (.inl ⟨_, _, _, _, rfl, rfl, .inl (.inl (s12 _ _ g1)), at_three, _, rfl, ⟨_, .inl (.inl (s12 _ _ g3))⟩, fun D2 hD2n => ?_⟩)⟩
                refine lc_same (walk_list (xs := lV L)) (fun j acc _ => acc = lV ((L.take j).filter fun x => decide (x ∈ B))) hD2n (by rw [lLv]; exact small (by omega)) (fun H' s => .inl (.inl (s _ _ (s12 _ _ g3)))) (fun _ _ => rfl) (fun j x H3 H4 acc K1 K0 hj s3 _ _ ea y k1 k0 => ?_) (fun H3 acc3 s3 ed3 ea3 => ?_)
                · obtain ⟨rfl, hx⟩ := y
                  obtain ⟨v, hv, rfl⟩ := nat_at hx
                  have etk : (L.take (j + 1)).filter (fun x => decide (x ∈ B)) = (L.take j).filter (fun x => decide (x ∈ B)) ++ [v].filter (fun x => decide (x ∈ B)) := by
                    rw [List.take_add_one, hv, List.filter_append]; rfl
                  refine ⟨rfl, _, rfl, _, rfl, un, lV B, rfl, .inl (.inl (.inl ((Same.trans s12 s3) _ _ hun))), rfl, flat_nat _, _, rfl, ?_⟩
                  rw [inV_nat]
                  by_cases h2 : v ∈ B
                  · refine iteTb (decide_eq_true h2) ⟨_, rfl, k1 _ _ (Same.refl _) fun H8 _ => ?_⟩
                    rw [ea, etk, lV_app]
                    simp [h2, lV]
                  · refine iteFb (decide_eq_false h2) (k0 _ (Same.refl _) ?_)
                    rw [ea, etk]
                    simp [h2]
                · rw [lLv, List.take_length] at ea3
                  have s13 := Same.trans s12 s3
                  have f1 := List.length_filter_le (fun x => decide (x ∉ B)) w.taint
                  have f2 := List.length_filter_le (fun x => decide (x ∈ B)) L
                  have f3 := List.length_filter_le (fun x => (bat st.board x).isSome) L
                  refine ⟨D1, D2, _, _, rfl, rfl, s3 _ _ ed2, ed3, by rw [ea2, ea3, List.length_map, List.length_map]; exact Nat.le_of_lt (small (by omega)), fun wq hwq => ?_⟩
                  rw [ea2, ea3, ← lV_app]
                  have s14 := Same.trans s13 (same_upd (o := .lst (lV ((w.taint.filter fun x => decide (x ∉ B)) ++ (L.filter fun x => decide (x ∈ B))))) hwq)
                  have hwq4 : upd H3 wq (.lst (lV ((w.taint.filter fun x => decide (x ∉ B)) ++ (L.filter fun x => decide (x ∈ B))))) wq = some (.lst (lV ((w.taint.filter fun x => decide (x ∉ B)) ++ (L.filter fun x => decide (x ∈ B))))) := upd_same
                  have hD04 := (Same.trans (Same.trans s2 s3) (same_upd (o := .lst (lV ((w.taint.filter fun x => decide (x ∉ B)) ++ (L.filter fun x => decide (x ∈ B))))) hwq)) _ _ hD1
                  generalize upd H3 wq (.lst (lV ((w.taint.filter fun x => decide (x ∉ B)) ++ (L.filter fun x => decide (x ∈ B))))) = H4 at *
                  refine ⟨_, rfl, _, rfl, .inr (.inl ⟨_, _, _, _, rfl, rfl, .inl (.inl (s14 _ _ g1)), at_three, _, rfl, ⟨_, .inl (.inl (s14 _ _ g3))⟩, fun D3 hD3n => ?_⟩)⟩
                  refine lc_same (walk_list (xs := lV L)) (fun j acc _ => acc = lV ((L.take j).filter fun x => (bat st.board x).isSome)) hD3n (by rw [lLv]; exact small (by omega)) (fun H' s => .inl (.inl (s _ _ (s14 _ _ g3)))) (fun _ _ => rfl) (fun j x H5 H6 acc K1 K0 hj s5 _ _ ea y k1 k0 => ?_) (fun H5 acc5 s5 ed5 ea5 => ?_)
                  · obtain ⟨rfl, hx⟩ := y
                    obtain ⟨v, hv, rfl⟩ := nat_at hx
                    have hvb : v < st.board.length := by rw [pre.bok.len]; exact hLS v (List.mem_of_getElem? hv)
                    have hatv : atI (st.board.map bV) (v : Int) = some (bV (bat st.board v)) := at_nat (by omega) (by rw [Int.toNat_natCast]; exact board_at hvb)
                    have etk : (L.take (j + 1)).filter (fun x => (bat st.board x).isSome) = (L.take j).filter (fun x => (bat st.board x).isSome) ++ [v].filter (fun x => (bat st.board x).isSome) := by
                      rw [List.take_add_one, hv, List.filter_append]; rfl
                    refine ⟨rfl, _, rfl, _, rfl, .inl ⟨_, _, _, _, rfl, rfl, .inl (.inl ((Same.trans s14 s5) _ _ hb)), hatv, rfl, _, rfl, ?_⟩⟩
                    cases hbv : bat st.board v with
                    | none =>
                      refine iteF (k0 _ (Same.refl _) ?_)
                      rw [ea, etk]
                      simp [hbv]
                    | some z =>
                      refine iteT ⟨_, rfl, k1 _ _ (Same.refl _) fun H9 _ => ?_⟩
                      rw [ea, etk, lV_app]
                      simp [hbv, lV]
                  · rw [lLv, List.take_length] at ea5
                    have s15 := Same.trans s14 s5
                    refine ⟨wq, D3, _, _, rfl, rfl, s5 _ _ hwq4, ed5, by rw [ea5, List.length_map, List.length_map, List.length_append]; exact Nat.le_of_lt (small (by omega)), fun z hz => ?_⟩
                    rw [ea5, ← lV_app]
                    refine ⟨Nat.zero_le _, fun y hy => ?_⟩
                    have s6 := same_upd (o := .lst (lV (((w.taint.filter fun x => decide (x ∉ B)) ++ (L.filter fun x => decide (x ∈ B))) ++ (L.filter fun x => (bat st.board x).isSome)))) hz
                    have s7 := same_upd (o := .lst []) hy
                    have s67 := Same.trans s6 s7
                    refine ⟨dL (((w.taint.filter fun x => decide (x ∉ B)) ++ (L.filter fun x => decide (x ∈ B))) ++ (L.filter fun x => (bat st.board x).isSome)), dL [], dp_lst (.inl (.inl (s7 _ _ upd_same))), dp_lst (l := []) sqL_upd, sh_dL _, sh_dL _, _, rfl, ?_⟩
                    rw [eqv_dL, wrong_hit hwk.2 g4]
                    have s17 := Same.trans s15 s67
                    have hD07 := (Same.trans s5 s67) _ _ hD04
                    cases hh : hit st.board B c w with
                    | false =>
                      refine iteF ⟨⟨_, _, _, rfl⟩, s17, hD07, fun z hz => ?_⟩
                      rw [List.take_add_one, hw] at hz
                      rcases List.mem_append.mp hz with q | q
                      · exact hno z q
                      · rw [List.mem_singleton.mp q]; exact hh
                    | true =>
                      have ef : st.known.find? (hit st.board B c) = some w := by
                        rw [eF]
                        exact find_at hno hw hh
                      have eX : evalX (M true S f) true S st B c = (⟨w.val, w.taint, w.used⟩, st.say (.reused c w.val w.taint)) := by
                        unfold evalX
                        rw [if_pos rfl, ef]
                      rw [eX] at hQ
                      refine iteT ?_
                      have hX7 := hX.same s17
                      have g17 := s17 _ _ g1
                      have g27 := s17 _ _ g2
                      refine app_lx (e := .reused c w.val w.taint) hX7 rfl lg0 (fun Q' hq => ⟨_, rfl, _, rfl, .inr (.inl ⟨_, _, _, _, rfl, rfl, .inl (.inl g17), at_one, _, rfl, .inr (.inl ⟨_, _, _, _, rfl, rfl, .inl (.inl g17), at_two, _, _, rfl, .inl ⟨.inl (.inl g27), fun tt htt => ⟨(by show 4 ≤ sizeLine; decide), fun pp hpp => hq pp _ (Same.trans (same_upd htt) (same_upd hpp)) ⟨tt, upd_same, same_tk (same_upd hpp) _ _ sqT_upd⟩⟩⟩⟩)⟩)⟩) (fun H8 pp kp8 k8 hX8 => ?_)
                      have k08 := (same_kp (R := [b, lg, kn]) s17).trans1 k8
                      refine ⟨_, rfl, 1, rfl, ?_⟩
                      unfold tNoPart
                      refine sl_any (.inl (.inl (k8.sk _ _ trivial g17))) fun r H9 s9 hr => ?_
                      have av := hX.av p hps
                      refine hQ r p.2.1 p.2.2 L (es ++ [pp]) [] H9 (k08.trans1 (same_kp s9)) (by rw [List.append_nil]; exact hX8.same s9) (fun p hp => absurd hp List.not_mem_nil) (.inr ⟨p, hps, .inl rfl⟩) (.inr ⟨p, hps, .inr rfl⟩) hr (s9 _ _ (k8.kp _ _ (by simp [av.1]) g27)) (s9 _ _ (k8.kp _ _ (by simp [av.2]) (s17 _ _ g3))) g4 g5
            · obtain ⟨⟨x6, x7, x15, rfl⟩, s1, hD1, hno⟩ := q
              rw [lrr, List.take_length] at hno
              have ef : st.known.find? (hit st.board B c) = none := by
                rw [eF]
                exact List.find?_eq_none.mpr fun w hw => by rw [hno w hw]; exact Bool.false_ne_true
              have eX : evalX (M true S f) true S st B c = evalB (M true S f) true S st B c := by
                unfold evalX
                rw [if_pos rfl, ef]
              rw [eX] at hQ hlog
              refine app_lx (e := .call c) (hX.same s1) rfl lg0 (fun Q' hq => ⟨_, rfl, (by show 2 ≤ sizeLine; decide), fun p hp => hq p _ (same_upd hp) upd_same⟩) (fun H2 pc kp2 k2 hX2' => ?_)
              have hX2 : LX K H2 tl b lg kn ps S (opened st c) (es ++ [pc]) rs := hX2'.rest rfl rfl rfl
              have k02 := (same_kp (R := [b, lg, kn]) s1).trans1 k2
              have hlen : S.length < f + (B ++ [c]).length := by rw [List.length_append, List.length_singleton]; omega
              obtain ⟨hpre, hres, hbok⟩ := ops_pre (ex := true) (f := f) ok pre hb0 hcB hlen
              have clog : ∀ (ex : Bool) (v : Int) (TT U : List Nat) (s : K19.St), (close ex c v TT U s).2.log.length = s.log.length + 1 := fun ex v TT U s => by unfold close; split <;> simp
              have eE : evalB (M true S f) true S st B c = close true c (valueOf (S.at c).fn ((opsR true S f st B c (S.at c).ops).1.map (·.val))) (taintOf c (opsR true S f st B c (S.at c).ops).1) (usedOf c (opsR true S f st B c (S.at c).ops).1) (opsR true S f st B c (S.at c).ops).2 := rfl
              rw [eE] at hQ hlog
              rw [clog] at hlog
              have grs : ∀ i, Gr (opsR true S f st B c ((S.at c).ops.take i)).2 (opsR true S f st B c (S.at c).ops).2 := fun i => gr_rest (fun s o => gr_M true S f s (B ++ [c]) o) _ _ i
              have gro : ∀ i, Gr (opened st c) (opsR true S f st B c ((S.at c).ops.take i)).2 := fun i => gr_runOps (fun s o => gr_M true S f s (B ++ [c]) o) _ _
              -- values, taint, used
              refine ⟨Nat.zero_le _, fun Vl hVl => ⟨Nat.zero_le _, fun Tt hTt => ⟨_, rfl, (by show 1 ≤ sizeLine; decide), fun Ul hUl => ?_⟩⟩⟩
              have VT : Vl ≠ Tt := by
                rintro rfl
                rw [upd_same] at hTt
                cases hTt
              have TU : Tt ≠ Ul := by
                rintro rfl
                rw [upd_same] at hUl
                cases hUl
              have VU : Vl ≠ Ul := by
                rintro rfl
                rw [upd_ne VT, upd_same] at hUl
                cases hUl
              have hV0 : H Vl = none := hX2.free k02 hVl
              have hT0 : H Tt = none := hX2.free k02 ((same_upd hVl).free hTt)
              have hU0 : H Ul = none := hX2.free k02 ((same_upd hVl).free ((same_upd hTt).free hUl))
              have s5 : Same H2 (upd (upd (upd H2 Vl (.lst [])) Tt (.lst [])) Ul (.lst [.int (c : Nat)])) := Same.trans (same_upd hVl) (Same.trans (same_upd hTt) (same_upd hUl))
              have I0 : EvI K H (upd (upd (upd H2 Vl (.lst [])) Tt (.lst [])) Ul (.lst [.int (c : Nat)])) tl b lg kn ps S ([], opened st c) c rs Vl Tt Ul [] [c] (es ++ [pc]) [] := by
                refine ⟨by rw [upd_ne VU, upd_ne VT, upd_same]; rfl, by rw [upd_ne TU, upd_same]; rfl, upd_same, List.nodup_nil, by simp, fun x => ⟨fun h => absurd h List.not_mem_nil, fun ⟨_, r, hr, _⟩ => absurd hr List.not_mem_nil⟩, fun x => ⟨fun h => .inl (List.mem_singleton.mp h), fun h => ?_⟩, by rw [List.append_nil]; exact hX2.same s5, fun p hp => absurd hp List.not_mem_nil, fun p hp => ?_, k02.trans1 (same_kp s5)⟩
                · rcases h with h | ⟨r, hr, _⟩
                  · exact List.mem_singleton.mpr h
                  · exact absurd hr List.not_mem_nil
                · rw [List.append_nil] at hp
                  obtain ⟨⟨o1, h1⟩, o2, h2⟩ := hX.has hp
                  exact ⟨⟨ne_of_none h1 hV0, ne_of_none h1 hT0, ne_of_none h1 hU0⟩, ne_of_none h2 hV0, ne_of_none h2 hT0, ne_of_none h2 hU0⟩
              have nst : ∀ l, ¬ Stb K (.lst l) := fun l z => z
              -- one of the three lists is written
              have hup : ∀ {Hx : Hp} {a : Addr} {l l' : List V} {stx : K19.St} {esx : List Addr} {rsx : List (Addr × Addr × Addr)}, H a = none → Hx a = some (.lst l) → LX K Hx tl b lg kn ps S stx esx rsx → (∀ p ∈ rsx, p.2.1 ≠ a ∧ p.2.2 ≠ a) → Kp K [b, lg, kn] H Hx →
                  LX K (upd Hx a (.lst l')) tl b lg kn ps S stx esx rsx ∧ Kp K [b, lg, kn] H (upd Hx a (.lst l')) := fun {Hx a l l' stx esx rsx} h0 hx hX' hp hk =>
                ⟨hX'.keep (a := a) (.upd hx (nst _)) (fun x o n q => by rw [upd_ne n]; exact q) (Ne.symm (ne_of_none hX.hTl h0)) (Ne.symm (ne_of_none hX.hB h0)) (Ne.symm (ne_of_none hX.hLg h0)) (Ne.symm (ne_of_none hX.hKn h0)) hp,
                  hk.sk.trans (.upd hx (nst _)), fun x o n q => by rw [upd_ne (ne_of_none q h0)]; exact hk.kp x o n q⟩
              generalize upd (upd (upd H2 Vl (.lst [])) Tt (.lst [])) Ul (.lst [.int (c : Nat)]) = H5 at *
              refine ⟨_, rfl, _, rfl, .inl ⟨tl, _, _, _, rfl, rfl, .inl (.inl I0.lx.hTl), htp, .inr (.inl ⟨tp, _, _, _, rfl, rfl, .inl (.inl (I0.kp.sk _ _ trivial htu)), at_zero, oA, rfl, ⟨_, I0.kp.sk.tk _ _ hops⟩, ?_⟩)⟩⟩
              refine for_tup (fun i σ H' => ∃ x6 x7 x11 x12 x13 x14 x15 Lt Lu es' rs', σ = [some (.ref tl), some (.ref b), some (.ref un), some (.int (c : Nat)), some (.ref kn), some (.ref lg), x6, x7, some (.ref Vl), some (.ref Tt), some (.ref Ul), x11, x12, x13, x14, x15] ∧ EvI K H H' tl b lg kn ps S (opsR true S f st B c ((S.at c).ops.take i)) c rs Vl Tt Ul Lt Lu es' rs')
                ⟨_, _, _, _, _, _, _, _, _, _, _, rfl, I0⟩ (fun i σ H' _ q => by obtain ⟨_, _, _, _, _, _, _, _, _, _, _, _, I⟩ := q; exact I.kp.sk.tk _ _ hops) (fun i x σ H' hx q => ?_) (fun σ H' q => ?_)
              · obtain ⟨x6, x7, x11, x12, x13, x14, x15, Lt, Lu, es', rs', rfl, I⟩ := q
                obtain ⟨v, hv, rfl⟩ := nat_at hx
                have er' : opsR true S f st B c ((S.at c).ops.take (i + 1)) = ((opsR true S f st B c ((S.at c).ops.take i)).1 ++ [(M true S f (opsR true S f st B c ((S.at c).ops.take i)).2 (B ++ [c]) v).1], (M true S f (opsR true S f st B c ((S.at c).ops.take i)).2 (B ++ [c]) v).2) :=
                  runOps_take (F := fun s o => M true S f s (B ++ [c]) o) (s := opened st c) hv
                have hpr := hpre i v hv
                have po := M_ok (ex := true) ok f _ (B ++ [c]) v hlen hpr
                have hrs := hres i
                have lR : (opsR true S f st B c ((S.at c).ops.take i)).1.length ≤ 8 := by
                  have := runOps_len (F := fun s o => M true S f s (B ++ [c]) o) ((S.at c).ops.take i) (opened st c)
                  rw [List.length_take] at this
                  have := ok.ops8 c pre.cN
                  show (runOps (fun s o => M true S f s (B ++ [c]) o) (opened st c) ((S.at c).ops.take i)).1.length ≤ 8
                  omega
                have lLt : Lt.length ≤ 12 := Nat.le_trans (nodup_le I.nt fun x hx => by
                  obtain ⟨_, r, hr, hxr⟩ := (I.mt x).mp hx
                  exact (hrs r hr).2.2.2 x hxr) ok.len
                have lLu : Lu.length ≤ 12 := Nat.le_trans (nodup_le I.nu fun x hx => by
                  rcases (I.mu x).mp hx with h | ⟨r, hr, hxr⟩
                  · rw [h]; exact pre.cN
                  · exact (hrs r hr).2.1 x hxr) ok.len
                have lgi : (M true S f (opsR true S f st B c ((S.at c).ops.take i)).2 (B ++ [c]) v).2.log.length ≤ 100000 := by
                  have := (grs (i + 1)).len
                  rw [er'] at this
                  exact Nat.le_trans this (by omega)
                have kni : (opsR true S f st B c ((S.at c).ops.take i)).2.known.length ≤ (opsR true S f st B c ((S.at c).ops.take i)).2.log.length := by
                  obtain ⟨k, z1, z2⟩ := (gro i).kn
                  rw [z1, List.length_append]
                  have z3 : (opened st c).known.length = st.known.length := rfl
                  have z4 : (opened st c).log.length = st.log.length + 1 := by simp [opened]
                  omega
                rw [er']
                generalize opsR true S f st B c ((S.at c).ops.take i) = R at *
                refine ⟨_, rfl, _, rfl, _, rfl, _, rfl, (by show 1 ≤ sizeLine; decide), fun y hy => ?_⟩
                refine ⟨un, y, _, _, rfl, rfl, same_upd hy _ _ (hun' I.kp), upd_same, by rw [List.length_map]; exact Nat.le_trans (show _ ≤ 13 by simp; omega) (by decide), fun q hq => ?_⟩
                have eB : lV B ++ [V.int (c : Nat)] = lV (B ++ [c]) := by rw [lV_app]; rfl
                rw [eB]
                have s3 : Same H' (upd (upd H' y (.lst [.int (c : Nat)])) q (.lst (lV (B ++ [c])))) := Same.trans (same_upd hy) (same_upd hq)
                have hq3 : upd (upd H' y (.lst [.int (c : Nat)])) q (.lst (lV (B ++ [c]))) q = some (.lst (lV (B ++ [c]))) := upd_same
                have q0 := (same_upd hy).free hq
                generalize upd (upd H' y (.lst [.int (c : Nat)])) q (.lst (lV (B ++ [c]))) = H3 at *
                have X3 := I.lx.same s3
                refine ⟨_, rfl, _, rfl, _, rfl, tl, b, q, lg, kn, ps, S, rk, bs, R.2, B ++ [c], v, es', rs ++ rs', rfl, X3, ok, hq3, Ne.symm (ne_of_none I.lx.hB q0), Ne.symm (ne_of_none I.lx.hLg q0), Ne.symm (ne_of_none I.lx.hKn q0), hpr, hlen, kni, lgi, fun r t u L es2 rs2 H4 k4 hX4 fr4 at4 au4 hr4 ht4 hu4 nL ndL => ?_⟩
                generalize (M true S f R.2 (B ++ [c]) v).1 = z at *
                generalize (M true S f R.2 (B ++ [c]) v).2 = stz at *
                have k04 := (I.kp.trans1 (same_kp s3)).trans1 k4
                have hv3 := s3 _ _ I.vl
                have ht3 := s3 _ _ I.tt
                have hu3 := s3 _ _ I.ul
                have nin : ∀ {a : Addr} {o : HO}, H a = none → a ∉ [b, lg, kn] := fun {a o} h0 m => by
                  simp only [List.mem_cons, List.not_mem_nil, or_false] at m
                  rcases m with m | m | m
                  · rw [m, hX.hB] at h0; cases h0
                  · rw [m, hX.hLg] at h0; cases h0
                  · rw [m, hX.hKn] at h0; cases h0
                have hv4 := k4.kp _ _ (nin (o := .lst []) hV0) hv3
                have ht4' := k4.kp _ _ (nin (o := .lst []) hT0) ht3
                have hu4' := k4.kp _ _ (nin (o := .lst []) hU0) hu3
                have apt : ∀ {a : Addr}, Apt H3 (rs ++ rs') a → a ≠ Vl ∧ a ≠ Tt ∧ a ≠ Ul := fun {a} h => by
                  rcases h with h | ⟨p, hp, h | h⟩
                  · exact ⟨Ne.symm (ne_of_none hv3 h), Ne.symm (ne_of_none ht3 h), Ne.symm (ne_of_none hu3 h)⟩
                  · rw [h]; exact (I.ap p hp).1
                  · rw [h]; exact (I.ap p hp).2
                have ap4 : ∀ p ∈ (rs ++ rs') ++ rs2, (p.2.1 ≠ Vl ∧ p.2.1 ≠ Tt ∧ p.2.1 ≠ Ul) ∧ (p.2.2 ≠ Vl ∧ p.2.2 ≠ Tt ∧ p.2.2 ≠ Ul) := fun p hp => by
                  rcases List.mem_append.mp hp with h | h
                  · exact I.ap p h
                  · exact ⟨apt (.inl (fr4 p h).1), apt (.inl (fr4 p h).2)⟩
                have fr0 : ∀ p ∈ rs' ++ rs2, H p.2.1 = none ∧ H p.2.2 = none := fun p hp => by
                  rcases List.mem_append.mp hp with h | h
                  · exact I.fr p h
                  · exact ⟨I.lx.free I.kp (s3.free (fr4 p h).1), I.lx.free I.kp (s3.free (fr4 p h).2)⟩
                refine ⟨r, _, rfl, hr4, rfl, _, _, rfl, _, _, rfl, _, _, rfl, rfl, ?_⟩
                -- values
                refine ⟨_, rfl, .inl ⟨rfl, _, .inl (.inl hv4)⟩, _, rfl, Vl, _, _, rfl, rfl, hv4, by rw [List.length_map, List.length_map]; exact small (by omega), ?_⟩
                obtain ⟨X5, k5⟩ := hup (l' := zV (R.1.map (·.val)) ++ [.int z.val]) hV0 hv4 hX4 (fun p hp => ⟨(ap4 p hp).1.1, (ap4 p hp).2.1⟩) k04
                have hv5 : upd H4 Vl (.lst (zV (R.1.map (·.val)) ++ [.int z.val])) Vl = some (.lst (zV ((R.1 ++ [z]).map (·.val)))) := by rw [upd_same]; simp [zV]
                have o5 : ∀ a o, a ≠ Vl → H4 a = some o → upd H4 Vl (.lst (zV (R.1.map (·.val)) ++ [.int z.val])) a = some o := fun a o n h => by rw [upd_ne n]; exact h
                generalize upd H4 Vl (.lst (zV (R.1.map (·.val)) ++ [.int z.val])) = H6 at *
                have ht6 := o5 _ _ (apt at4).1 ht4
                have hu6 := o5 _ _ (apt au4).1 hu4
                have htt6 := o5 _ _ (Ne.symm VT) ht4'
                have huu6 := o5 _ _ (Ne.symm VU) hu4'
                have lz : z.taint.length ≤ 12 := Nat.le_trans (nodup_le (asc_nodup po.tasc) fun x hx => by
                  rcases List.mem_append.mp (po.tB x hx) with h | h
                  · exact pre.bl x h
                  · rw [List.mem_singleton.mp h]; exact pre.cN) ok.len
                have lzL : L.length ≤ 12 := Nat.le_trans (nodup_le ndL fun x hx => (po.uN x (by rw [← nL]; exact mem_norm.mpr hx)).1) ok.len
                have lzV : (lV z.taint).length = z.taint.length := List.length_map _
                have lLV : (lV L).length = L.length := List.length_map _
                -- taint
                refine ⟨_, rfl, .inl ⟨rfl, _, .inl (.inl htt6)⟩, _, rfl, t, rfl, ⟨_, .inl (.inl ht6)⟩, fun D hD => ?_⟩
                refine lc_same (walk_list (xs := lV z.taint)) (fun j acc _ => acc = lV ((z.taint.take j).filter fun x => decide (x ≠ c) && decide (x ∉ Lt))) hD (by rw [lzV]; exact small (by omega)) (fun H' s => .inl (.inl (s _ _ ht6))) (fun _ _ => rfl) (fun j x H7 H8 acc K1 K0 hj s7 _ _ ea y k1 k0 => ?_) (fun H7 acc s7 ed ea => ?_)
                · obtain ⟨rfl, hx⟩ := y
                  obtain ⟨w', hw, rfl⟩ := nat_at hx
                  have etk : (z.taint.take (j + 1)).filter (fun x => decide (x ≠ c) && decide (x ∉ Lt)) = (z.taint.take j).filter (fun x => decide (x ≠ c) && decide (x ∉ Lt)) ++ [w'].filter (fun x => decide (x ≠ c) && decide (x ∉ Lt)) := by
                    rw [List.take_add_one, hw, List.filter_append]; rfl
                  refine ⟨rfl, _, rfl, _, rfl, rfl, _, rfl, ?_⟩
                  by_cases h1 : w' = c
                  · refine iteFb (by rw [h1]; simp) (k0 _ (Same.refl _) ?_)
                    rw [ea, etk]
                    simp [h1]
                  · refine iteTb (by rw [vint_dec, decide_eq_false h1]; rfl) ⟨_, rfl, _, rfl, Tt, lV Lt, rfl, .inl (.inl (.inl (s7 _ _ htt6))), rfl, flat_nat _, _, rfl, ?_⟩
                    rw [inV_nat]
                    by_cases h2 : w' ∈ Lt
                    · refine iteFb (by rw [decide_eq_true h2]; rfl) (k0 _ (Same.refl _) ?_)
                      rw [ea, etk]
                      simp [h2]
                    · refine iteTb (by rw [decide_eq_false h2]; rfl) ⟨_, rfl, k1 _ _ (Same.refl _) fun H8 _ => ?_⟩
                      rw [ea, etk, lV_app]
                      simp [h1, h2, lV]
                · rw [lzV, List.take_length] at ea
                  refine ⟨Tt, D, _, _, rfl, rfl, s7 _ _ htt6, ed, by rw [ea, List.length_map, List.length_map]; exact Nat.le_trans (Nat.add_le_add lLt (Nat.le_trans (List.length_filter_le _ _) lz)) (by decide), ?_⟩
                  rw [ea, ← lV_app]
                  obtain ⟨X8, k8⟩ := hup (l' := lV (Lt ++ z.taint.filter fun x => decide (x ≠ c) && decide (x ∉ Lt))) hT0 (s7 _ _ htt6) (X5.same s7) (fun p hp => ⟨(ap4 p hp).1.2.1, (ap4 p hp).2.2.1⟩) (k5.trans1 (same_kp s7))
                  have htt8 : upd H7 Tt (.lst (lV (Lt ++ z.taint.filter fun x => decide (x ≠ c) && decide (x ∉ Lt)))) Tt = some (.lst (lV (Lt ++ z.taint.filter fun x => decide (x ≠ c) && decide (x ∉ Lt)))) := upd_same
                  have o8 : ∀ a o, a ≠ Tt → H7 a = some o → upd H7 Tt (.lst (lV (Lt ++ z.taint.filter fun x => decide (x ≠ c) && decide (x ∉ Lt)))) a = some o := fun a o n h => by rw [upd_ne n]; exact h
                  generalize upd H7 Tt (.lst (lV (Lt ++ z.taint.filter fun x => decide (x ≠ c) && decide (x ∉ Lt)))) = H8 at *
                  have hv8 := o8 _ _ VT (s7 _ _ hv5)
                  have huu8 := o8 _ _ (Ne.symm TU) (s7 _ _ huu6)
                  have hu8 := o8 _ _ (apt au4).2.1 (s7 _ _ hu6)
                  -- used
                  refine ⟨_, rfl, .inl ⟨rfl, _, .inl (.inl huu8)⟩, _, rfl, u, rfl, ⟨_, .inl (.inl hu8)⟩, fun D2 hD2 => ?_⟩
                  refine lc_same (walk_list (xs := lV L)) (fun j acc _ => acc = lV ((L.take j).filter fun x => decide (x ∉ Lu))) hD2 (by rw [lLV]; exact small (by omega)) (fun H' s => .inl (.inl (s _ _ hu8))) (fun _ _ => rfl) (fun j x H9 H10 acc K1 K0 hj s9 _ _ ea y k1 k0 => ?_) (fun H9 acc9 s9 ed9 ea9 => ?_)
                  · obtain ⟨rfl, hx⟩ := y
                    obtain ⟨w', hw, rfl⟩ := nat_at hx
                    have etk : (L.take (j + 1)).filter (fun x => decide (x ∉ Lu)) = (L.take j).filter (fun x => decide (x ∉ Lu)) ++ [w'].filter (fun x => decide (x ∉ Lu)) := by
                      rw [List.take_add_one, hw, List.filter_append]; rfl
                    refine ⟨rfl, _, rfl, _, rfl, Ul, lV Lu, rfl, .inl (.inl (.inl (s9 _ _ huu8))), rfl, flat_nat _, _, rfl, ?_⟩
                    rw [inV_nat]
                    by_cases h2 : w' ∈ Lu
                    · refine iteFb (by rw [decide_eq_true h2]; rfl) (k0 _ (Same.refl _) ?_)
                      rw [ea, etk]
                      simp [h2]
                    · refine iteTb (by rw [decide_eq_false h2]; rfl) ⟨_, rfl, k1 _ _ (Same.refl _) fun H8 _ => ?_⟩
                      rw [ea, etk, lV_app]
                      simp [h2, lV]
                  · rw [lLV, List.take_length] at ea9
                    refine ⟨Ul, D2, _, _, rfl, rfl, s9 _ _ huu8, ed9, by rw [ea9, List.length_map, List.length_map]; exact Nat.le_trans (Nat.add_le_add lLu (Nat.le_trans (List.length_filter_le _ _) lzL)) (by decide), ?_⟩
                    rw [ea9, ← lV_app]
                    obtain ⟨X10, k10⟩ := hup (l' := lV (Lu ++ L.filter fun x => decide (x ∉ Lu))) hU0 (s9 _ _ huu8) (X8.same s9) (fun p hp => ⟨(ap4 p hp).1.2.2, (ap4 p hp).2.2.2⟩) (k8.trans1 (same_kp s9))
                    have o10 : ∀ a o, a ≠ Ul → H9 a = some o → upd H9 Ul (.lst (lV (Lu ++ L.filter fun x => decide (x ∉ Lu)))) a = some o := fun a o n h => by rw [upd_ne n]; exact h
                    refine ⟨_, _, _, _, _, _, _, Lt ++ z.taint.filter (fun x => decide (x ≠ c) && decide (x ∉ Lt)), Lu ++ L.filter (fun x => decide (x ∉ Lu)), es2, rs' ++ rs2, rfl, ⟨o10 _ _ VU (s9 _ _ hv8), o10 _ _ TU (s9 _ _ htt8), upd_same, ?_, ?_, fun x => ?_, fun x => ?_, by rw [← List.append_assoc]; exact X10, fr0, by rw [← List.append_assoc]; exact ap4, k10⟩⟩
                    · refine List.nodup_append.mpr ⟨I.nt, List.Pairwise.sublist List.filter_sublist (asc_nodup po.tasc), fun x hx y hy e => ?_⟩
                      subst e
                      have := (List.mem_filter.mp hy).2
                      simp [hx] at this
                    · refine List.nodup_append.mpr ⟨I.nu, List.Pairwise.sublist List.filter_sublist ndL, fun x hx y hy e => ?_⟩
                      subst e
                      have := (List.mem_filter.mp hy).2
                      simp [hx] at this
                    · rw [List.mem_append, List.mem_filter]
                      constructor
                      · rintro (h | ⟨h1, h2⟩)
                        · obtain ⟨h1, r, h2, h3⟩ := (I.mt x).mp h
                          exact ⟨h1, r, List.mem_append_left _ h2, h3⟩
                        · rw [Bool.and_eq_true, decide_eq_true_eq] at h2
                          exact ⟨h2.1, z, List.mem_append_right _ (List.mem_singleton.mpr rfl), h1⟩
                      · rintro ⟨h1, r, h2, h3⟩
                        rcases List.mem_append.mp h2 with h2 | h2
                        · exact .inl ((I.mt x).mpr ⟨h1, r, h2, h3⟩)
                        · rw [List.mem_singleton.mp h2] at h3
                          by_cases hx : x ∈ Lt
                          · exact .inl hx
                          · exact .inr ⟨h3, by simp [h1, hx]⟩
                    · have mL : x ∈ L ↔ x ∈ z.used := by rw [← nL]; exact mem_norm.symm
                      rw [List.mem_append, List.mem_filter]
                      constructor
                      · rintro (h | ⟨h1, h2⟩)
                        · rcases (I.mu x).mp h with h | ⟨r, h2, h3⟩
                          · exact .inl h
                          · exact .inr ⟨r, List.mem_append_left _ h2, h3⟩
                        · exact .inr ⟨z, List.mem_append_right _ (List.mem_singleton.mpr rfl), mL.mp h1⟩
                      · rintro (h | ⟨r, h2, h3⟩)
                        · exact .inl ((I.mu x).mpr (.inl h))
                        · rcases List.mem_append.mp h2 with h2 | h2
                          · exact .inl ((I.mu x).mpr (.inr ⟨r, h2, h3⟩))
                          · rw [List.mem_singleton.mp h2] at h3
                            by_cases hx : x ∈ Lu
                            · exact .inl hx
                            · exact .inr ⟨mL.mpr h3, by simp [hx]⟩
              · obtain ⟨x6, x7, x11, x12, x13, x14, x15, Lt, Lu, es', rs', rfl, I⟩ := q
                have lop : (lV (S.at c).ops).length = (S.at c).ops.length := List.length_map _
                rw [lop, List.take_length] at I
                have hrs := hres (S.at c).ops.length
                rw [List.take_length] at hrs
                have lR : (opsR true S f st B c (S.at c).ops).1.length ≤ 8 := by
                  have := runOps_len (F := fun s o => M true S f s (B ++ [c]) o) (S.at c).ops (opened st c)
                  have := ok.ops8 c pre.cN
                  show (runOps (fun s o => M true S f s (B ++ [c]) o) (opened st c) (S.at c).ops).1.length ≤ 8
                  omega
                have knE : (opsR true S f st B c (S.at c).ops).2.known.length ≤ (opsR true S f st B c (S.at c).ops).2.log.length := by
                  have gg := gro (S.at c).ops.length
                  rw [List.take_length] at gg
                  obtain ⟨k, z1, z2⟩ := gg.kn
                  rw [z1, List.length_append]
                  have z3 : (opened st c).known.length = st.known.length := rfl
                  have z4 : (opened st c).log.length = st.log.length + 1 := by simp [opened]
                  omega
                generalize opsR true S f st B c (S.at c).ops = R at *
                have lLt : Lt.length ≤ 12 := Nat.le_trans (nodup_le I.nt fun x hx => by
                  obtain ⟨_, r, hr, hxr⟩ := (I.mt x).mp hx
                  exact (hrs r hr).2.2.2 x hxr) ok.len
                have hlev : ∀ v ∈ R.1.map (·.val), Lev v := fun v hv => by
                  obtain ⟨r, hr, rfl⟩ := List.mem_map.mp hv
                  exact (hrs r hr).2.2.1
                refine ⟨_, rfl, _, rfl, .inl ⟨tl, _, _, _, rfl, rfl, .inl (.inl I.lx.hTl), htp, .inr (.inl ⟨tp, _, _, _, rfl, rfl, .inl (.inl (I.kp.sk _ _ trivial htu)), at_one, ?_⟩)⟩⟩
                refine ⟨_, rfl, fA, Vl, (S.at c).fn, R.1.map (·.val), rfl, hfn.mono I.kp.sk.tk, ok.fnOk c pre.cN, I.vl, by rw [List.length_map]; omega, hlev, fun H6 s6 => ?_⟩
                have eT : taintOf c R.1 = norm Lt := asc_ext (asc_norm _) (asc_norm _) fun x => by rw [mem_norm, I.mt x]; exact mem_taintOf
                have eU : usedOf c R.1 = norm Lu := asc_ext (asc_norm _) (asc_norm _) fun x => by rw [mem_norm, I.mu x]; exact mem_usedOf
                rw [eT, eU] at hQ
                generalize valueOf (S.at c).fn (R.1.map (·.val)) = v at *
                have X6 := I.lx.same s6
                have k6 := I.kp.trans1 (same_kp s6)
                have tt6 := s6 _ _ I.tt
                have ul6 := s6 _ _ I.ul
                have nT : Tt ≠ b ∧ Tt ≠ lg ∧ Tt ≠ kn := ⟨Ne.symm (ne_of_none hX.hB hT0), Ne.symm (ne_of_none hX.hLg hT0), Ne.symm (ne_of_none hX.hKn hT0)⟩
                have nU : Ul ≠ b ∧ Ul ≠ lg ∧ Ul ≠ kn := ⟨Ne.symm (ne_of_none hX.hB hU0), Ne.symm (ne_of_none hX.hLg hU0), Ne.symm (ne_of_none hX.hKn hU0)⟩
                refine ⟨fun σ H7 => ∃ x6 x7 x11 x13 x14 x15 Ux Lx st3 rsx, σ = [some (.ref tl), some (.ref b), some (.ref un), some (.int (c : Nat)), some (.ref kn), some (.ref lg), x6, x7, some (.ref Vl), some (.ref Tt), some (.ref Ux), x11, some (.int v), x13, x14, x15] ∧ H7 Tt = some (.lst (lV Lt)) ∧ H7 Ux = some (.lst (lV Lx)) ∧ norm Lx = (close true c v (norm Lt) (norm Lu) R.2).1.used ∧ Lx.Nodup ∧ H Ux = none ∧
                    LX K H7 tl b lg kn ps S st3 es' (rs ++ rsx) ∧ (∀ p ∈ rsx, H p.2.1 = none ∧ H p.2.2 = none) ∧ Kp K [b, lg, kn] H H7 ∧ st3.board = (close true c v (norm Lt) (norm Lu) R.2).2.board ∧ st3.known = (close true c v (norm Lt) (norm Lu) R.2).2.known ∧ st3.log = R.2.log, ?_, fun σ H7 qq => ?_⟩
                · refine ⟨_, rfl, Nat.zero_le _, fun y hy => ?_⟩
                  have s7 := same_upd (o := .lst []) hy
                  have X7 := X6.same s7
                  have k7 := k6.trans1 (same_kp (R := [b, lg, kn]) s7)
                  have tt7 := s7 _ _ tt6
                  have ul7 := s7 _ _ ul6
                  have hy7 : upd H6 y (.lst []) y = some (.lst []) := upd_same
                  refine ⟨dL Lt, dL [], dp_lst (.inl (.inl tt7)), dp_lst (l := []) sqL_upd, sh_dL _, sh_dL _, _, rfl, ?_⟩
                  rw [eqv_dL]
                  generalize upd H6 y (.lst []) = H7 at *
                  by_cases hE : Lt = []
                  · refine iteTb (decide_eq_true hE) ?_
                    have hT := norm_nil.mpr hE
                    refine ⟨_, rfl, _, rfl, _, rfl, b, _, (c : Int), c, rfl, rfl, X7.hB, by rw [List.length_map, hbok.len]; exact Evl.ixN_nat pre.cN, ?_⟩
                    have X8 := X7.setB (R.2.board.set c (some v))
                    have eb : (R.2.board.set c (some v)).map bV = (R.2.board.map bV).set c (.int v) := by rw [List.map_set]; rfl
                    rw [eb] at X8
                    have k8 : Kp K [b, lg, kn] H (upd H7 b (.lst ((R.2.board.map bV).set c (.int v)))) := k7.trans1 (Kp.upd (by simp) X7.hB (nst _))
                    have tt8 : upd H7 b (.lst ((R.2.board.map bV).set c (.int v))) Tt = some (.lst (lV Lt)) := by rw [upd_ne nT.1]; exact tt7
                    generalize upd H7 b (.lst ((R.2.board.map bV).set c (.int v))) = H8 at *
                    refine ⟨Nat.zero_le _, fun z hz => ?_⟩
                    have s9 := same_upd (o := .lst []) hz
                    refine ⟨_, _, _, _, _, _, z, [], { R.2 with board := R.2.board.set c (some v) }, rs', rfl, s9 _ _ tt8, upd_same, ?_, List.nodup_nil, X8.free k8 hz, X8.same s9, I.fr, k8.trans1 (same_kp s9), ?_, ?_, rfl⟩
                    · unfold close; rw [if_pos hT]; rfl
                    · unfold close; rw [if_pos hT]
                    · unfold close; rw [if_pos hT]
                  · refine iteFb (decide_eq_false hE) ?_
                    have hT : ¬ norm Lt = [] := fun h => hE (norm_nil.mp h)
                    refine ⟨_, rfl, .inl ⟨rfl, _, .inl (.inl X7.hKn)⟩, _, rfl, _, rfl, _, rfl, Tt, iN Lt, rfl, by rw [show (iN Lt).map V.int = lV Lt from zl Lt]; exact .inl (.inl tt7), fun ns' q hp hs hq => ?_⟩
                    rw [show List.map V.int ns' = lV (norm Lt) from sorted_perm hp hs I.nt]
                    have s8 := same_upd (o := .lst (lV (norm Lt))) hq
                    have hq8 : upd H7 q (.lst (lV (norm Lt))) q = some (.lst (lV (norm Lt))) := upd_same
                    have X8 := X7.same s8
                    have q0 := X7.free k7 hq
                    have k8 := k7.trans1 (same_kp (R := [b, lg, kn]) s8)
                    have tt8 := s8 _ _ tt7
                    have ul8 := s8 _ _ ul7
                    generalize upd H7 q (.lst (lV (norm Lt))) = H8 at *
                    refine ⟨_, rfl, (by show 4 ≤ sizeLine; decide), fun rp hrp => ?_⟩
                    have s9 := same_upd (o := .tup [.int (c : Nat), .int v, .ref q, .ref Ul]) hrp
                    have X9 := X8.same s9
                    have k9 := k8.trans1 (same_kp (R := [b, lg, kn]) s9)
                    have tt9 := s9 _ _ tt8
                    have ul9 := s9 _ _ ul8
                    have nq : q ≠ b ∧ q ≠ lg ∧ q ≠ kn := ⟨Ne.symm (ne_of_none hX.hB q0), Ne.symm (ne_of_none hX.hLg q0), Ne.symm (ne_of_none hX.hKn q0)⟩
                    have row : RowL K (upd H8 rp (.tup [.int (c : Nat), .int v, .ref q, .ref Ul])) (rp, q, Ul) ⟨c, v, norm Lt, norm Lu⟩ := ⟨upd_same, s9 _ _ hq8, Lu, ul9, rfl, I.nu⟩
                    generalize upd H8 rp (.tup [.int (c : Nat), .int v, .ref q, .ref Ul]) = H9 at *
                    have X10 := X9.addK row nq nU
                    have lk : (rV ((rs ++ rs').map (·.1))).length < sizeLine := by
                      rw [List.length_map, List.length_map, X9.rows.length]
                      exact sm (by omega)
                    refine ⟨kn, _, _, rfl, rfl, X9.hKn, lk, _, _, _, _, _, _, Ul, Lu, { R.2 with known := R.2.known ++ [⟨c, v, norm Lt, norm Lu⟩] }, rs' ++ [(rp, q, Ul)], rfl, by rw [upd_ne nT.2.2]; exact tt9, by rw [upd_ne nU.2.2]; exact ul9, ?_, I.nu, hU0, by rw [← List.append_assoc]; exact X10, fun p hp => ?_, k9.trans1 (Kp.upd (by simp) X9.hKn (nst _)), ?_, ?_, rfl⟩
                    · unfold close; rw [if_neg hT]
                    · rcases List.mem_append.mp hp with h | h
                      · exact I.fr p h
                      · rw [List.mem_singleton.mp h]; exact ⟨q0, hU0⟩
                    · unfold close; rw [if_neg hT]
                    · unfold close; rw [if_neg hT]; rfl
                · obtain ⟨x6, x7, x11, x13, x14, x15, Ux, Lx, st3, rsx, rfl, tt7, ux7, eUx, ndx, hUx0, X7, fr7, k7, eb, ek, el⟩ := qq
                  have nx : Ux ≠ lg := Ne.symm (ne_of_none hX.hLg hUx0)
                  have dT : decide (Lt = []) = decide (norm Lt = []) := by
                    by_cases h : Lt = []
                    · rw [decide_eq_true h, decide_eq_true (norm_nil.mpr h)]
                    · rw [decide_eq_false h, decide_eq_false (fun z => h (norm_nil.mp z))]
                  have lz : st3.log.length ≤ 100000 := by rw [el]; omega
                  refine app_lx (e := .fin c v (norm Lt) (decide (norm Lt = []))) X7 rfl lz (fun Q' hq => ⟨_, rfl, _, rfl, _, rfl, Tt, iN Lt, rfl, by rw [show (iN Lt).map V.int = lV Lt from zl Lt]; exact .inl (.inl tt7), fun ns' q hp hs hqn => ?_⟩) (fun H8 pe kp8 k8 hX8 => ?_)
                  · rw [show List.map V.int ns' = lV (norm Lt) from sorted_perm hp hs I.nt]
                    have s8 := same_upd (o := .lst (lV (norm Lt))) hqn
                    refine ⟨q, _, rfl, .inl ⟨sqL_upd, fun tt htt => ?_⟩⟩
                    have s9 := same_upd (o := .tup (lV (norm Lt))) htt
                    refine ⟨_, rfl, Nat.zero_le _, fun y hy => ?_⟩
                    have s10 := same_upd (o := .lst []) hy
                    have s810 := Same.trans s8 (Same.trans s9 s10)
                    refine ⟨dL Lt, dL [], dp_lst (.inl (.inl (s810 _ _ tt7))), dp_lst (l := []) sqL_upd, sh_dL _, sh_dL _, ?_⟩
                    rw [eqv_dL, dT]
                    refine ⟨(by show 5 ≤ sizeLine; decide), fun p hp => ?_⟩
                    exact hq p _ (Same.trans s810 (same_upd hp)) ⟨tt, upd_same, same_tk (Same.trans s10 (same_upd hp)) _ _ sqT_upd⟩
                  · have k08 := k7.trans1 k8
                    have tt8 := kp8 _ _ nT.2.1 tt7
                    have ux8 := kp8 _ _ nx ux7
                    refine ⟨_, rfl, _, rfl, Tt, iN Lt, rfl, by rw [show (iN Lt).map V.int = lV Lt from zl Lt]; exact .inl (.inl tt8), fun ns' q hp hs hq => ?_⟩
                    rw [show List.map V.int ns' = lV (norm Lt) from sorted_perm hp hs I.nt]
                    have s9 := same_upd (o := .lst (lV (norm Lt))) hq
                    refine ⟨_, rfl, (by show 3 ≤ sizeLine; decide), fun r hr => ?_⟩
                    have s10 := same_upd (o := .tup [.int v, .ref q, .ref Ux]) hr
                    have s910 := Same.trans s9 s10
                    have ecv := close_val (ex := true) (c := c) (v := v) (T := norm Lt) (U := norm Lu) (s := R.2)
                    have elog : ((st3.say (.fin c v (norm Lt) (decide (norm Lt = []))))).log = (close true c v (norm Lt) (norm Lu) R.2).2.log := by
                      show st3.log ++ _ = _
                      rw [el]
                      unfold close
                      by_cases h : norm Lt = []
                      · rw [if_pos h, decide_eq_true h, h]
                      · rw [if_neg h, decide_eq_false h]
                    refine hQ r q Ux Lx (es' ++ [pe]) rsx _ (k08.trans1 (same_kp s910)) ((hX8.same s910).rest (st' := (close true c v (norm Lt) (norm Lu) R.2).2) eb.symm elog.symm ek.symm) fr7 (.inl (hX8.free k08 hq)) (.inl hUx0) (by rw [ecv.1]; exact sqT_upd) (by rw [ecv.2]; exact s10 _ _ upd_same) (s910 _ _ ux8) eUx ndx
end
end KW
/-! The walk, part 31: reused results looked at; asks of the law. -/
namespace KW
open PySem PySem.Spec PyProof.Rows L2 KR K19 StX
section
variable {P : Program} {w : World} {K : PySem.W.Frag} {mg : PySem.Str → Option Value} {base : Heap}
theorem at_four {α : Type} {x y z u v : α} {xs : List α} : atI (x :: y :: z :: u :: v :: xs) 4 = some v := at_nat (by decide) rfl
/-- the name of an event -/
def evName : Ev → PySem.Str
  | .stored _ _ => "stored"
  | .busy _ _ => "busy"
  | .call _ => "call"
  | .fin _ _ _ _ => "end"
  | .reused _ _ _ => "reused"
/-- the tuple of an event begins with its name -/
theorem evT_name {H : Hp} {a : Addr} {e : Ev} (h : EvT K H a e) : ∃ r, H a = some (.tup (.str (evName e) :: r)) := by
  cases e with
  | stored c v => exact ⟨_, h⟩
  | busy c g => exact ⟨_, h⟩
  | call c => exact ⟨_, h⟩
  | fin c v T k => obtain ⟨t, h, _⟩ := h; exact ⟨_, h⟩
  | reused c v T => obtain ⟨t, h, _⟩ := h; exact ⟨_, h⟩
theorem sh_vT (v : Int) (l : List Nat) : SeqAt.shaped (.tuple [.int v, dT l]) = true := by
  unfold SeqAt.shaped
  simp only [PyData.canLay0, PyData.canLayAll0, cl_ints, PyData.depth, PyData.depthAll, dp_ints]
  decide
def spReused (K : PySem.W.Frag) : Sp := fun vs H Q _ => ∃ (tl bo lg : Addr) (ps : List Addr) (S : Sys) (rk : Nat → Nat) (bs : Nat) (bd : Board) (es : List Addr) (L : List Ev), vs = [.ref tl, .ref bo, .ref lg] ∧ H tl = some (.lst (rV ps)) ∧ Trips K H ps S ∧ SysOk S rk bs ∧ H bo = some (.lst (bd.map bV)) ∧ bd.length = S.length ∧
  H lg = some (.lst (rV es)) ∧ EvsAt K H es L ∧ lok S rk 13 bd [] L ∧ L.length ≤ 100000 ∧ bo ≠ tl ∧ bo ≠ lg ∧ ∀ H', Kp K [bo] H H' → Q (.bl true) H'
theorem ok__law_reused_right (T : Txt K mg) : FD P w K mg base CX0 16 d__law_reused_right ["_law_triples", "_law_board", "_law_log"] (spReused K) := by
  have LC := ok__law_call (P := P) (w := w) (base := base) T 13
  refine fd_of T.d__law_reused_right sc__law_reused_right (fun vs H Q E h => ?_) (fun cdv A outer s H vs Q E hr h => ?_)
  · obtain ⟨tl, bo, lg, ps, S, rk, bs, bd, es, L, rfl, _⟩ := h
    rfl
  · obtain ⟨tl, bo, lg, ps, S, rk, bs, bd, es, L, rfl, htl, htr, ok, hbo, lbd, hlg, hev, hlok, hL, nbt, nbl, hQ⟩ := h
    have hu := Room.u64 hr
    refine ⟨_, (pss_cons (ps_set (i := 3) sc__law_reused_right.nd rfl (by first | exact Or.inl rfl | exact Or.inr rfl | exact Or.inr (Or.inl rfl)) (pe_lst pa_nil)) (pss_cons (ps_set (i := 4) sc__law_reused_right.nd rfl (by first | exact Or.inl rfl | exact Or.inr rfl | exact Or.inr (Or.inl rfl)) pe_int) (pss_cons (ps_for PassesOwn.never rfl (pi_listK K rfl (pv 2)) (pg_name (i := 5) sc__law_reused_right.nd rfl (by first | exact Or.inl rfl | exact Or.inr rfl | exact Or.inr (Or.inl rfl))) (pss_one (ps_if (pt_cmpR op_eq (pe_ix (ix_K K rfl) (pv 5) pe_int (fun _ _ => rfl)) pe_str (nomark _)) (pss_one (ps_expr (pe_bm PySem.F.plainAttrs_list PySem.F.slot_list_append PySem.F.type_list_append mt_append (pv 3) (pa_cons (pe_ix (ix_K K rfl) (pv 5) pe_int (fun _ _ => rfl)) pa_nil)))) (pss_one (ps_if (pt_cmpR op_eq (pe_ix (ix_K K rfl) (pv 5) pe_int (fun _ _ => rfl)) pe_str (nomark _)) (pss_cons (ps_expr (pe_bm0 PySem.F.plainAttrs_list PySem.F.slot_list_pop PySem.F.type_list_pop mt_pop (pv 3))) (pss_one (ps_if (pt_val (pe_ix (ix_K K rfl) (pv 5) pe_int (fun _ _ => rfl))) (pss_one (ps_asg (pe_ix (ix_K K rfl) (pv 5) pe_int (fun _ _ => rfl)) (pg_sub (pv 1) (pe_ix (ix_K K rfl) (pv 5) pe_int (fun _ _ => rfl)) set_list))) pss_nil))) (pss_one (ps_if (PW.pt (pw_and (pt_cmpR op_eq (pe_ix (ix_K K rfl) (pv 5) pe_int (fun _ _ => rfl)) pe_str (nomark _)) (pw_and1 (pt_cmpR op_gt (pv 4) pe_int (nomark _))))) (pss_cons (ps_set (i := 4) sc__law_reused_right.nd rfl (by first | exact Or.inl rfl | exact Or.inr rfl | exact Or.inr (Or.inl rfl)) (pe_op op_sub (pv 4) pe_int)) (pss_cons (ps_asg (pe_def LC hr rfl T.g__law_call rfl b__law_call (pa_cons (pv 0) (pa_cons (pe_callTy call_list_of rfl T.f_list boot_list (pa_cons (pv 1) pa_nil)) (pa_cons (pe_callTy call_list_of rfl T.f_list boot_list (pa_cons (pv 3) pa_nil)) (pa_cons (pe_ix (ix_K K rfl) (pv 5) pe_int (fun _ _ => rfl)) (pa_cons pe_str pa_nil)))))) (pg_tupK (n := 2) K rfl rfl (pgs_cons (pg_name (i := 6) sc__law_reused_right.nd rfl (by first | exact Or.inl rfl | exact Or.inr rfl | exact Or.inr (Or.inl rfl))) (pgs_cons (pg_name (i := 7) sc__law_reused_right.nd rfl (by first | exact Or.inl rfl | exact Or.inr rfl | exact Or.inr (Or.inl rfl))) pgs_nil)))) (pss_one (ps_if (pt_cmpR (op_neDK K rfl hu) (pe_tup (pa_cons (pv 6) (pa_cons (pe_callTy call_tuple_of rfl T.f_tuple boot_tuple (pa_cons (pv 7) pa_nil)) pa_nil))) (pe_tup (pa_cons (pe_ix (ix_K K rfl) (pv 5) pe_int (fun _ _ => rfl)) (pa_cons (pe_ix (ix_K K rfl) (pv 5) pe_int (fun _ _ => rfl)) pa_nil))) (nomark _)) (pss_one (ps_ret pe_bl)) pss_nil)))) pss_nil))))))) (pss_one (ps_ret pe_bl))))), ?_⟩
    have sm : ∀ {n : Nat}, n ≤ 100000 → n < sizeLine := fun h => Nat.lt_of_le_of_lt h (by decide)
    refine ⟨Nat.zero_le _, fun un hun => ?_⟩
    have s1 := same_upd (o := .lst []) hun
    have hun1 : upd H un (.lst []) un = some (.lst []) := upd_same
    have bun : bo ≠ un := ne_of_none hbo hun
    show (tSeq _ _) _ _ (upd H un (.lst []))
    generalize upd H un (.lst []) = H1 at *
    have les : (rV es).length = L.length := by rw [List.length_map]; exact hev.length
    refine ⟨_, rfl, lg, rfl, ⟨_, .inl (.inl (s1 _ _ hlg))⟩, ?_⟩
    refine for_list (xs := rV es) (fun i σ H' => ∃ bd B left x5 x6 x7, σ = [some (.ref tl), some (.ref bo), some (.ref lg), some (.ref un), some (.int left), x5, x6, x7] ∧ H' un = some (.lst (lV B)) ∧ H' bo = some (.lst (bd.map bV)) ∧ bd.length = S.length ∧ B.length ≤ i ∧ lok S rk 13 bd B (L.drop i) ∧ Kp K [bo] H H')
      ⟨bd, [], 40, _, _, _, rfl, hun1, s1 _ _ hbo, lbd, Nat.le_refl _, hlok, same_kp s1⟩ (fun i σ H' _ q => by obtain ⟨_, _, _, _, _, _, _, _, _, _, _, _, k⟩ := q; exact .inl (.inl (k.kp _ _ (by simpa using Ne.symm nbl) hlg))) (fun i x σ H' hx q => ?_) (fun σ H' q => ?_)
    · obtain ⟨bd, B, left, x5, x6, x7, rfl, hun2, hbo2, lbd2, lB, hl, k2⟩ := q
      obtain ⟨p, hp, rfl⟩ := ref_at hx
      obtain ⟨e, he, hevt⟩ := paired_at (hev.mono k2.sk) hp
      have hi : i < L.length := (List.getElem?_eq_some_iff.mp he).1
      have ed : L.drop i = e :: L.drop (i + 1) := by
        rw [List.drop_eq_getElem_cons hi]
        congr 1
        exact (List.getElem?_eq_some_iff.mp he).2
      rw [ed] at hl
      obtain ⟨rr, hn⟩ := evT_name hevt
      have k2' : Kp K [bo] H H' := k2
      refine ⟨_, rfl, .inr (.inl ⟨_, _, _, _, rfl, rfl, .inl (.inl hn), at_zero, rfl, _, rfl, ?_⟩)⟩
      cases e with
      | call c =>
        refine iteTb (by show decide (V.str ("call" : PySem.Str) = .str "call") = true; decide +kernel) ?_
        refine ⟨_, rfl, .inl ⟨rfl, _, .inl (.inl hun2)⟩, _, rfl, .inr (.inl ⟨_, _, _, _, rfl, rfl, .inl (.inl hevt), at_one, ?_⟩)⟩
        refine ⟨un, _, _, rfl, rfl, hun2, by rw [List.length_map]; exact sm (by omega), ?_⟩
        have sk : SK K H' (upd H' un (.lst (lV B ++ [.int (c : Nat)]))) := .upd hun2 (fun z => z)
        exact ⟨bd, B ++ [c], left, _, _, _, rfl, by rw [upd_same, lV_app]; rfl, by rw [upd_ne bun]; exact hbo2, lbd2, by rw [List.length_append]; exact Nat.succ_le_succ lB, hl, k2.sk.trans sk, fun a o n h => by rw [upd_ne (ne_of_none h hun)]; exact k2.kp a o n h⟩
      | fin c v TT kept =>
        obtain ⟨tt, hevt, htt⟩ := hevt
        obtain ⟨hB, hc, hl⟩ := hl
        refine iteFb (by show decide (V.str ("end" : PySem.Str) = .str "call") = false; decide +kernel) ?_
        refine ⟨_, rfl, .inr (.inl ⟨_, _, _, _, rfl, rfl, .inl (.inl hn), at_zero, rfl, _, rfl, iteTb (by show decide (V.str ("end" : PySem.Str) = .str "end") = true; decide +kernel) ?_⟩)⟩
        rcases List.eq_nil_or_concat B with h | ⟨Bi, h, eW⟩
        · exact absurd h hB
        rw [List.concat_eq_append] at eW
        subst eW
        have e1 : lV (Bi ++ [h]) = lV Bi ++ [.int (h : Nat)] := by rw [lV_app]; rfl
        rw [List.dropLast_concat] at hl
        rw [e1] at hun2
        refine ⟨_, rfl, .inl ⟨rfl, _, .inl (.inl hun2)⟩, un, _, .int (h : Nat), rfl, rfl, hun2, by rw [List.length_append]; simp, ?_⟩
        rw [List.dropLast_concat]
        have k3 : Kp K [bo] H (upd H' un (.lst (lV Bi))) := ⟨k2.sk.trans (.upd hun2 (fun z => z)), fun a o n h => by rw [upd_ne (ne_of_none h hun)]; exact k2.kp a o n h⟩
        have hun3 : upd H' un (.lst (lV Bi)) un = some (.lst (lV Bi)) := upd_same
        have hbo3 : upd H' un (.lst (lV Bi)) bo = some (.lst (bd.map bV)) := by rw [upd_ne bun]; exact hbo2
        have hev3 : upd H' un (.lst (lV Bi)) p = some (.tup [.str "end", .int (c : Nat), .int v, .ref tt, .bl kept]) := by rw [upd_ne (ne_of hevt hun2 (by simp))]; exact hevt
        generalize upd H' un (.lst (lV Bi)) = H3 at *
        have lBi : Bi.length ≤ i + 1 := by rw [List.length_append] at lB; omega
        refine ⟨_, rfl, .inr (.inl ⟨_, _, _, _, rfl, rfl, .inl (.inl hev3), at_four, _, rfl, ?_⟩)⟩
        cases kept with
        | false => exact iteF ⟨bd, Bi, left, _, _, _, rfl, hun3, hbo3, lbd2, lBi, hl, k3⟩
        | true =>
          refine iteT ⟨_, rfl, .inr (.inl ⟨_, _, _, _, rfl, rfl, .inl (.inl hev3), at_two, ?_⟩)⟩
          refine ⟨_, rfl, _, rfl, .inr (.inl ⟨_, _, _, _, rfl, rfl, .inl (.inl hev3), at_one, ?_⟩)⟩
          refine ⟨bo, _, ((c : Nat) : Int), c, rfl, rfl, hbo3, by rw [List.length_map, lbd2]; exact Evl.ixN_nat hc, ?_⟩
          exact ⟨bd.set c (some v), Bi, left, _, _, _, rfl, by rw [upd_ne (Ne.symm bun)]; exact hun3, by rw [upd_same, List.map_set]; rfl, by rw [List.length_set]; exact lbd2, lBi, hl, k3.trans1 (Kp.upd List.mem_cons_self hbo3 (fun z => z))⟩
      | reused c v TT =>
        obtain ⟨tt, hevt, htt⟩ := hevt
        obtain ⟨pre, hC1, hC2, hl⟩ := hl
        refine iteFb (by show decide (V.str ("reused" : PySem.Str) = .str "call") = false; decide +kernel) ?_
        refine ⟨_, rfl, .inr (.inl ⟨_, _, _, _, rfl, rfl, .inl (.inl hn), at_zero, rfl, _, rfl, iteFb (by show decide (V.str ("reused" : PySem.Str) = .str "end") = false; decide +kernel) ?_⟩)⟩
        refine ⟨_, rfl, .inr (.inl ⟨_, _, _, _, rfl, rfl, .inl (.inl hn), at_zero, rfl, _, rfl, iteTb (by show decide (V.str ("reused" : PySem.Str) = .str "reused") = true; decide +kernel) ⟨_, rfl, _, _, rfl, rfl, _, rfl, ?_⟩⟩)⟩
        by_cases hleft : 0 < left
        · refine iteTb (decide_eq_true hleft) ?_
          refine ⟨_, rfl, _, _, rfl, rfl, ?_⟩
          refine ⟨_, rfl, _, rfl, bo, _, rfl, .inl (.inl (.inl hbo2)), fun lf hlf => ?_⟩
          have s3 := same_upd (o := .lst (bd.map bV)) hlf
          have lf3 : upd H' lf (.lst (bd.map bV)) lf = some (.lst (bd.map bV)) := upd_same
          have lf0 : lf ≠ tl := fun e => by
            rw [e, k2.kp _ _ (by simpa using Ne.symm nbt) htl] at hlf
            cases hlf
          have lfH : H lf = none := by
            cases e : H lf with
            | none => rfl
            | some o =>
              by_cases eb : lf = bo
              · rw [eb, hbo2] at hlf; cases hlf
              · rw [k2.kp _ _ (by simpa using eb) e] at hlf; cases hlf
          generalize upd H' lf (.lst (bd.map bV)) = H3 at *
          refine ⟨_, rfl, un, _, rfl, .inl (.inl (.inl (s3 _ _ hun2))), fun uf huf => ?_⟩
          have s4 := same_upd (o := .lst (lV B)) huf
          have uf4 : upd H3 uf (.lst (lV B)) uf = some (.lst (lV B)) := upd_same
          have lu : lf ≠ uf := ne_of_none lf3 huf
          have lf4 := s4 _ _ lf3
          have s34 := Same.trans s3 s4
          generalize upd H3 uf (.lst (lV B)) = H4 at *
          have k4 := k2.trans1 (same_kp (R := [bo]) s34)
          have sim := M_sim (ex := false) ok 13 ⟨bd, 0, [], []⟩ B c (by have := ok.len; omega) pre (fun _ h => absurd h List.not_mem_nil)
          refine ⟨_, rfl, .inr (.inl ⟨_, _, _, _, rfl, rfl, .inl (.inl (s34 _ _ hevt)), at_one, ?_⟩)⟩
          refine ⟨tl, lf, uf, ps, S, rk, bs, ⟨bd, 0, [], []⟩, B, c, rfl, k4.kp _ _ (by simpa using Ne.symm nbt) htl, htr.mono k4.sk, ok, lf4, uf4, lf0, lu, pre, by have := ok.len; omega, fun r t H5 k5 ht0 hb5 hr5 ht5 => ?_⟩
          rw [← sim.val, hC1] at hr5
          rw [← sim.taint, hC2] at ht5
          have k05 : Kp K [bo] H H5 := k4.trans k5 fun a ha => .inr (by rw [List.mem_singleton.mp ha]; exact lfH)
          have hev5 : H5 p = some (.tup [.str "reused", .int (c : Nat), .int v, .ref tt]) := k5.sk _ _ (show Stb K (.tup _) from trivial) (s34 _ _ hevt)
          have htt5 := k5.sk.tk _ _ (same_tk s34 _ _ htt)
          refine ⟨r, _, rfl, .inl (.inl hr5), rfl, _, _, rfl, _, _, rfl, rfl, ?_⟩
          refine ⟨_, rfl, _, rfl, t, _, rfl, .inl ⟨.inl (.inl ht5), fun z hz => ⟨(by show 2 ≤ sizeLine; decide), fun y hy => ?_⟩⟩⟩
          have s6 := same_upd (o := .tup (lV TT)) hz
          have s7 := same_upd (o := .tup [.int v, .ref z]) hy
          have s67 := Same.trans s6 s7
          refine ⟨_, rfl, .inr (.inl ⟨_, _, _, _, rfl, rfl, .inl (.inl (s67 _ _ hev5)), at_two, _, rfl, .inr (.inl ⟨_, _, _, _, rfl, rfl, .inl (.inl (s67 _ _ hev5)), at_three, (by show 2 ≤ sizeLine; decide), fun w hw => ?_⟩)⟩)⟩
          have s8 := same_upd (o := .tup [.int v, .ref tt]) hw
          have s68 := Same.trans s67 s8
          refine ⟨.tuple [.int v, dT TT], .tuple [.int v, dT TT], .tup (same_tk s8 _ _ sqT_upd) (.cons (.int v) (.cons (dp_tup (same_tk (Same.trans s7 s8) _ _ sqT_upd)) .nil)), .tup sqT_upd (.cons (.int v) (.cons (dp_tup (same_tk s68 _ _ htt5)) .nil)), sh_vT v TT, sh_vT v TT, _, rfl, ?_⟩
          rw [SeqAt.eqv_refl _ (SeqAt.canLay_of_shaped (sh_vT v TT))]
          refine iteF ?_
          have un5 := k5.kp _ _ (by simpa using ne_of_none hun2 hlf) (s34 _ _ hun2)
          have bo5 := k5.kp _ _ (by simpa using ne_of_none hbo2 hlf) (s34 _ _ hbo2)
          exact ⟨bd, B, left - 1, _, _, _, rfl, s68 _ _ un5, s68 _ _ bo5, lbd2, by omega, hl, k05.trans1 (same_kp s68)⟩
        · refine iteFb (decide_eq_false hleft) ?_
          exact ⟨bd, B, left, _, _, _, rfl, hun2, hbo2, lbd2, by omega, hl, k2⟩
      | stored c v =>
        refine iteFb (by show decide (V.str ("stored" : PySem.Str) = .str "call") = false; decide +kernel) ?_
        refine ⟨_, rfl, .inr (.inl ⟨_, _, _, _, rfl, rfl, .inl (.inl hn), at_zero, rfl, _, rfl, iteFb (by show decide (V.str ("stored" : PySem.Str) = .str "end") = false; decide +kernel) ?_⟩)⟩
        refine ⟨_, rfl, .inr (.inl ⟨_, _, _, _, rfl, rfl, .inl (.inl hn), at_zero, rfl, _, rfl, iteFb (by show decide (V.str ("stored" : PySem.Str) = .str "reused") = false; decide +kernel) ?_⟩)⟩
        exact ⟨bd, B, left, _, _, _, rfl, hun2, hbo2, lbd2, by omega, hl, k2⟩
      | busy c v =>
        refine iteFb (by show decide (V.str ("busy" : PySem.Str) = .str "call") = false; decide +kernel) ?_
        refine ⟨_, rfl, .inr (.inl ⟨_, _, _, _, rfl, rfl, .inl (.inl hn), at_zero, rfl, _, rfl, iteFb (by show decide (V.str ("busy" : PySem.Str) = .str "end") = false; decide +kernel) ?_⟩)⟩
        refine ⟨_, rfl, .inr (.inl ⟨_, _, _, _, rfl, rfl, .inl (.inl hn), at_zero, rfl, _, rfl, iteFb (by show decide (V.str ("busy" : PySem.Str) = .str "reused") = false; decide +kernel) ?_⟩)⟩
        exact ⟨bd, B, left, _, _, _, rfl, hun2, hbo2, lbd2, by omega, hl, k2⟩
    · obtain ⟨bd, B, left, x5, x6, x7, rfl, hun2, hbo2, lbd2, lB, hl, k2⟩ := q
      exact hQ _ k2
end
end KW
/-! The walk, part 32: asks of the law. -/
namespace KW
open PySem PySem.Spec PyProof.Rows L2 KR K19 StX
/-- the boards ahead and the logs -/
def trail (S : Sys) : Board → List Nat → List (Board × List Ev)
  | _, [] => []
  | b, c :: cs => (b, (M true S 13 ⟨b, 0, [], []⟩ [] c).2.log) :: trail S (M true S 13 ⟨b, 0, [], []⟩ [] c).2.board cs
theorem trail_app (S : Sys) : ∀ (l : List Nat) (b : Board) (cnt : Nat) (log : List Ev) (c : Nat), trail S b (l ++ [c]) = trail S b l ++ [((asks true S b cnt log l).2.1, (M true S 13 ⟨(asks true S b cnt log l).2.1, 0, [], []⟩ [] c).2.log)]
  | [], b, cnt, log, c => rfl
  | a :: l, b, cnt, log, c => by
    show (b, _) :: trail S _ (l ++ [c]) = _
    rw [trail_app S l _ (cnt + (M true S 13 ⟨b, 0, [], []⟩ [] a).2.begun) (M true S 13 ⟨b, 0, [], []⟩ [] a).2.log c]
    rfl
theorem asks_len (ex : Bool) (S : Sys) : ∀ (l : List Nat) (b : Board) (cnt : Nat) (log : List Ev), (asks ex S b cnt log l).1.length = l.length
  | [], _, _, _ => rfl
  | c :: l, b, cnt, log => congrArg Nat.succ (asks_len ex S l _ _ _)
theorem trail_len (S : Sys) : ∀ (l : List Nat) (b : Board), (trail S b l).length = l.length
  | [], _ => rfl
  | c :: l, b => congrArg Nat.succ (trail_len S l _)
def RowA (K : PySem.W.Frag) (H : Hp) (p : Addr × Addr × Addr) (x : Board × List Ev) : Prop := H p.1 = some (.tup [.ref p.2.1, .ref p.2.2]) ∧ H p.2.1 = some (.lst (x.1.map bV)) ∧ ∃ es, H p.2.2 = some (.lst (rV es)) ∧ EvsAt K H es x.2
abbrev RowsA (K : PySem.W.Frag) (H : Hp) (rs : List (Addr × Addr × Addr)) (l : List (Board × List Ev)) : Prop := Paired (RowA K H) rs l
section
variable {P : Program} {w : World} {K : PySem.W.Frag} {mg : PySem.Str → Option Value} {base : Heap}
theorem rowsA_keep {H H' : Hp} {R : List Addr} {rs : List (Addr × Addr × Addr)} {l : List (Board × List Ev)} (k : Kp K R H H') (h : RowsA K H rs l) (n : ∀ p ∈ rs, p.2.1 ∉ R ∧ p.2.2 ∉ R) : RowsA K H' rs l := by
  induction h with
  | nil => exact .nil
  | @cons p w rs l hd tl ih =>
    obtain ⟨h1, h2, es, h3, h4⟩ := hd
    obtain ⟨n1, n2⟩ := n p List.mem_cons_self
    exact .cons ⟨k.sk _ _ trivial h1, k.kp _ _ n1 h2, es, k.kp _ _ n2 h3, h4.mono k.sk⟩ (ih fun q hq => n q (List.mem_cons_of_mem _ hq))
theorem asks_bok {S : Sys} {rk : Nat → Nat} {bs : Nat} (ok : SysOk S rk bs) : ∀ (l : List Nat) (b : Board) (cnt : Nat) (log : List Ev), BoardOk S b → (∀ c ∈ l, c < S.length) → BoardOk S (asks true S b cnt log l).2.1
  | [], b, _, _, h, _ => h
  | c :: l, b, cnt, log, h, hl => asks_bok ok l _ _ _ (ask_ok ok (hl c List.mem_cons_self) h true).mid.bok fun d hd => hl d (List.mem_cons_of_mem _ hd)
def spAsks (K : PySem.W.Frag) : Sp := fun vs H Q _ => ∃ (tl b sp : Addr) (ps : List Addr) (S : Sys) (rk : Nat → Nat) (bs : Nat) (bd : Board) (cs : List Nat), vs = [.ref tl, .ref b, .ref sp] ∧ H tl = some (.lst (rV ps)) ∧ Trips K H ps S ∧ SysOk S rk bs ∧ H b = some (.lst (bd.map bV)) ∧ BoardOk S bd ∧
  H sp = some (.lst (lV cs)) ∧ cs.length ≤ 100 ∧ (∀ c ∈ cs, c < S.length) ∧ b ≠ tl ∧ b ≠ sp ∧
  ∀ r vl rl rs H', Kp K [b] H H' → H' b = some (.lst ((asks true S bd 0 [] cs).2.1.map bV)) → SqT K H' r [.ref vl, .ref rl] → H vl = none → H rl = none → H' vl = some (.lst (zV (asks true S bd 0 [] cs).1)) → H' rl = some (.lst (rV (rs.map (·.1)))) → RowsA K H' rs (trail S bd cs) →
    (rs.map (·.2.1)).Nodup → (∀ p ∈ rs, H p.2.1 = none ∧ H p.2.2 = none) → (∀ p ∈ rs, p.2.1 ≠ rl) → Q (.ref r) H'
theorem ok__law_asks (T : Txt K mg) : FD P w K mg base CX0 16 d__law_asks ["_law_triples", "_law_board", "_law_spots"] (spAsks K) := by
  have LE := ok__law_exact (P := P) (w := w) (base := base) T 13
  refine fd_of T.d__law_asks sc__law_asks (fun vs H Q E h => ?_) (fun cdv A outer s H vs Q E hr h => ?_)
  · obtain ⟨tl, b, sp, ps, S, rk, bs, bd, cs, rfl, _⟩ := h
    rfl
  · obtain ⟨tl, b, sp, ps, S, rk, bs, bd, cs, rfl, htl, htr, ok, hb, bok, hsp, lcs, hcs, nbt, nbs, hQ⟩ := h
    refine ⟨_, (pss_cons (ps_set (i := 3) sc__law_asks.nd rfl (by first | exact Or.inl rfl | exact Or.inr rfl | exact Or.inr (Or.inl rfl)) (pe_lst pa_nil)) (pss_cons (ps_set (i := 4) sc__law_asks.nd rfl (by first | exact Or.inl rfl | exact Or.inr rfl | exact Or.inr (Or.inl rfl)) (pe_lst pa_nil)) (pss_cons (ps_for PassesOwn.never rfl (pi_listK K rfl (pv 2)) (pg_name (i := 5) sc__law_asks.nd rfl (by first | exact Or.inl rfl | exact Or.inr rfl | exact Or.inr (Or.inl rfl))) (pss_cons (ps_set (i := 6) sc__law_asks.nd rfl (by first | exact Or.inl rfl | exact Or.inr rfl | exact Or.inr (Or.inl rfl)) (pe_lst pa_nil)) (pss_cons (ps_set (i := 7) sc__law_asks.nd rfl (by first | exact Or.inl rfl | exact Or.inr rfl | exact Or.inr (Or.inl rfl)) (pe_callTy call_list_of rfl T.f_list boot_list (pa_cons (pv 1) pa_nil))) (pss_cons (ps_asg (pe_def LE hr rfl T.g__law_exact rfl b__law_exact (pa_cons (pv 0) (pa_cons (pv 1) (pa_cons (pe_lst pa_nil) (pa_cons (pv 5) (pa_cons (pe_lst pa_nil) (pa_cons (pv 6) pa_nil))))))) (pg_tupK (n := 3) K rfl rfl (pgs_cons (pg_name (i := 8) sc__law_asks.nd rfl (by first | exact Or.inl rfl | exact Or.inr rfl | exact Or.inr (Or.inl rfl))) (pgs_cons (pg_name (i := 9) sc__law_asks.nd rfl (by first | exact Or.inl rfl | exact Or.inr rfl | exact Or.inr (Or.inl rfl))) (pgs_cons (pg_name (i := 10) sc__law_asks.nd rfl (by first | exact Or.inl rfl | exact Or.inr rfl | exact Or.inr (Or.inl rfl))) pgs_nil))))) (pss_cons (ps_expr (pe_bm PySem.F.plainAttrs_list PySem.F.slot_list_append PySem.F.type_list_append mt_append (pv 3) (pa_cons (pv 8) pa_nil))) (pss_one (ps_expr (pe_bm PySem.F.plainAttrs_list PySem.F.slot_list_append PySem.F.type_list_append mt_append (pv 4) (pa_cons (pe_tup (pa_cons (pv 7) (pa_cons (pv 6) pa_nil))) pa_nil))))))))) (pss_one (ps_ret (pe_tup (pa_cons (pv 3) (pa_cons (pv 4) pa_nil)))))))), ?_⟩
    refine ⟨Nat.zero_le _, fun Vl hVl => ⟨Nat.zero_le _, fun Rl hRl => ?_⟩⟩
    have VR : Vl ≠ Rl := by
      rintro rfl
      rw [upd_same] at hRl
      cases hRl
    have hR0 : H Rl = none := (same_upd hVl).free hRl
    have s2 : Same H (upd (upd H Vl (.lst [])) Rl (.lst [])) := Same.trans (same_upd hVl) (same_upd hRl)
    have hV2 : upd (upd H Vl (.lst [])) Rl (.lst []) Vl = some (.lst []) := by rw [upd_ne VR, upd_same]
    have hR2 : upd (upd H Vl (.lst [])) Rl (.lst []) Rl = some (.lst []) := upd_same
    show (tSeq _ _) _ _ (upd (upd H Vl (.lst [])) Rl (.lst []))
    generalize upd (upd H Vl (.lst [])) Rl (.lst []) = H2 at *
    have lcsv : (lV cs).length = cs.length := List.length_map _
    have bV' : b ≠ Vl := ne_of_none hb hVl
    have bR' : b ≠ Rl := ne_of_none hb hR0
    refine ⟨_, rfl, sp, rfl, ⟨_, .inl (.inl (s2 _ _ hsp))⟩, ?_⟩
    refine for_list (xs := lV cs) (fun i σ H' => ∃ (x5 x6 x7 x8 x9 x10 : Option V) (rs : List (Addr × Addr × Addr)), σ = [some (.ref tl), some (.ref b), some (.ref sp), some (.ref Vl), some (.ref Rl), x5, x6, x7, x8, x9, x10] ∧ H' Vl = some (.lst (zV (asks true S bd 0 [] (cs.take i)).1)) ∧ H' Rl = some (.lst (rV (rs.map (·.1)))) ∧ RowsA K H' rs (trail S bd (cs.take i)) ∧
        (rs.map (·.2.1)).Nodup ∧ (∀ p ∈ rs, H p.2.1 = none ∧ H p.2.2 = none) ∧ (∀ p ∈ rs, (p.2.1 ≠ Vl ∧ p.2.1 ≠ Rl) ∧ p.2.2 ≠ Vl ∧ p.2.2 ≠ Rl) ∧ H' b = some (.lst ((asks true S bd 0 [] (cs.take i)).2.1.map bV)) ∧ Kp K [b] H H')
      ⟨_, _, _, _, _, _, [], rfl, hV2, hR2, .nil, List.nodup_nil, fun p hp => absurd hp List.not_mem_nil, fun p hp => absurd hp List.not_mem_nil, s2 _ _ hb, same_kp s2⟩ (fun i σ H' _ q => by obtain ⟨_, _, _, _, _, _, _, _, _, _, _, _, _, _, _, k⟩ := q; exact .inl (.inl (k.kp _ _ (by simpa using Ne.symm nbs) hsp))) (fun i x σ H' hx q => ?_) (fun σ H' q => ?_)
    · obtain ⟨x5, x6, x7, x8, x9, x10, rs, rfl, hV, hRr, hrs, nd, fr, av, hbb, k0⟩ := q
      obtain ⟨c, hc, rfl⟩ := nat_at hx
      have hcN := hcs c (List.mem_of_getElem? hc)
      have hi : i < cs.length := (List.getElem?_eq_some_iff.mp hc).1
      have etk : cs.take (i + 1) = cs.take i ++ [c] := by rw [List.take_add_one, hc]; rfl
      have bok1 := asks_bok ok (cs.take i) bd 0 [] bok fun d hd => hcs d (List.mem_of_mem_take hd)
      have e1 : (asks true S bd 0 [] (cs.take (i + 1))).1 = (asks true S bd 0 [] (cs.take i)).1 ++ [(M true S 13 ⟨(asks true S bd 0 [] (cs.take i)).2.1, 0, [], []⟩ [] c).1.val] := by rw [etk, asks_app]
      have e2 : (asks true S bd 0 [] (cs.take (i + 1))).2.1 = (M true S 13 ⟨(asks true S bd 0 [] (cs.take i)).2.1, 0, [], []⟩ [] c).2.board := by rw [etk, asks_app]
      have e3 : trail S bd (cs.take (i + 1)) = trail S bd (cs.take i) ++ [((asks true S bd 0 [] (cs.take i)).2.1, (M true S 13 ⟨(asks true S bd 0 [] (cs.take i)).2.1, 0, [], []⟩ [] c).2.log)] := by rw [etk, trail_app S _ bd 0 [] c]
      have lvs : (asks true S bd 0 [] (cs.take i)).1.length ≤ 100 := by
        rw [asks_len, List.length_take]; omega
      rw [e1, e2, e3]
      generalize (asks true S bd 0 [] (cs.take i)).2.1 = bd1 at *
      generalize (asks true S bd 0 [] (cs.take i)).1 = vs1 at *
      have lrs : rs.length ≤ 100 := by
        rw [hrs.length, trail_len, List.length_take]; omega
      generalize trail S bd (cs.take i) = tr1 at *
      -- log, ahead
      refine ⟨Nat.zero_le _, fun lg hlg => ?_⟩
      have s3 := same_upd (o := .lst []) hlg
      have lg3 : upd H' lg (.lst []) lg = some (.lst []) := upd_same
      show (tSeq _ _) _ _ (upd H' lg (.lst []))
      generalize upd H' lg (.lst []) = H3 at *
      refine ⟨_, rfl, b, _, rfl, .inl (.inl (.inl (s3 _ _ hbb))), fun ah hah => ?_⟩
      have s4 := same_upd (o := .lst (bd1.map bV)) hah
      have ah4 : upd H3 ah (.lst (bd1.map bV)) ah = some (.lst (bd1.map bV)) := upd_same
      have lg4 := s4 _ _ lg3
      show (tSeq _ _) _ _ (upd H3 ah (.lst (bd1.map bV)))
      generalize upd H3 ah (.lst (bd1.map bV)) = H4 at *
      refine ⟨_, rfl, _, rfl, Nat.zero_le _, fun un hun => ?_⟩
      have s5 := same_upd (o := .lst []) hun
      have un5 : upd H4 un (.lst []) un = some (.lst []) := upd_same
      generalize upd H4 un (.lst []) = H5 at *
      refine ⟨_, rfl, Nat.zero_le _, fun kn hkn => ?_⟩
      have s6 := same_upd (o := .lst []) hkn
      have kn6 : upd H5 kn (.lst []) kn = some (.lst []) := upd_same
      have s36 := Same.trans s3 (Same.trans s4 (Same.trans s5 s6))
      have s46 := Same.trans s4 (Same.trans s5 s6)
      have s56 := Same.trans s5 s6
      have un6 := s6 _ _ un5
      have k6 := k0.trans1 (same_kp (R := [b]) s36)
      have lgk : lg ≠ kn := ne_of_none (s5 _ _ lg4) hkn
      have unk : un ≠ kn := ne_of_none un5 hkn
      have ahk : ah ≠ kn := ne_of_none (s5 _ _ ah4) hkn
      have ahg : ah ≠ lg := Ne.symm (ne_of_none lg3 hah)
      have unl : un ≠ lg := Ne.symm (ne_of_none lg4 hun)
      have kn' : H' kn = none := s3.free (s4.free (s5.free hkn))
      have un' : H' un = none := s3.free (s4.free hun)
      have ah' : H' ah = none := s3.free hah
      have fb : ∀ {a : Addr}, H' a = none → H a = none := fun {a} ha => by
        cases e : H a with
        | none => rfl
        | some o =>
          by_cases eb : a = b
          · rw [eb, hbb] at ha; cases ha
          · rw [k0.kp _ _ (by simpa using eb) e] at ha; cases ha
      have htl' := k0.kp _ _ (by simpa using Ne.symm nbt) htl
      have s6all := s36
      generalize upd H5 kn (.lst []) = H6 at *
      have X : LX K H6 tl b lg kn ps S ⟨bd1, 0, [], []⟩ [] [] := ⟨s36 _ _ htl', htr.mono k6.sk, s36 _ _ hbb, s46 _ _ lg3, .nil, kn6, .nil, ne_of_none hbb hlg, ne_of_none hbb kn', lgk, Ne.symm nbt, ne_of_none htl' hlg, ne_of_none htl' kn', fun p hp => absurd hp List.not_mem_nil⟩
      refine ⟨_, rfl, tl, b, un, lg, kn, ps, S, rk, bs, ⟨bd1, 0, [], []⟩, [], c, [], [], rfl, X, ok, un6, Ne.symm (ne_of_none hbb un'), unl, unk, ask_pre hcN bok1, by have := ok.len; simp; omega, Nat.le_refl _, Nat.le_trans (ask_log ok hcN bok1 true) (by decide), fun r t u L es' rs' H7 k7 hX7 _ _ _ hr7 ht7 hu7 _ _ => ?_⟩
      have Vb : Vl ∉ [b, lg, kn] := by
        simp only [List.mem_cons, List.not_mem_nil, or_false, not_or]
        exact ⟨Ne.symm bV', ne_of_none hV hlg, ne_of_none hV kn'⟩
      have Rb : Rl ∉ [b, lg, kn] := by
        simp only [List.mem_cons, List.not_mem_nil, or_false, not_or]
        exact ⟨Ne.symm bR', ne_of_none hRr hlg, ne_of_none hRr kn'⟩
      have hV7 := k7.kp _ _ Vb (s36 _ _ hV)
      have hR7 := k7.kp _ _ Rb (s36 _ _ hRr)
      have ahR : ah ∉ [b, lg, kn] := by
        simp only [List.mem_cons, List.not_mem_nil, or_false, not_or]
        exact ⟨Ne.symm (ne_of_none hbb ah'), ahg, ahk⟩
      have ah7 := k7.kp _ _ ahR (s56 _ _ ah4)
      have ahV : ah ≠ Vl := Ne.symm (ne_of_none hV ah')
      have ahRl : ah ≠ Rl := Ne.symm (ne_of_none hRr ah')
      have lgV : lg ≠ Vl := Ne.symm (ne_of_none hV hlg)
      have lgR : lg ≠ Rl := Ne.symm (ne_of_none hRr hlg)
      have nst : ∀ l, ¬ Stb K (.lst l) := fun l z => z
      generalize hz : M true S 13 ⟨bd1, 0, [], []⟩ [] c = z at *
      refine ⟨r, _, rfl, hr7, rfl, _, _, rfl, _, _, rfl, _, _, rfl, rfl, ?_⟩
      -- values
      refine ⟨_, rfl, .inl ⟨rfl, _, .inl (.inl hV7)⟩, _, rfl, Vl, _, _, rfl, rfl, hV7, by rw [List.length_map]; exact Nat.lt_of_le_of_lt lvs (by decide), ?_⟩
      have sk8 : SK K H7 (upd H7 Vl (.lst (zV vs1 ++ [.int z.1.val]))) := .upd hV7 (nst _)
      have o8 : ∀ a o, a ≠ Vl → H7 a = some o → upd H7 Vl (.lst (zV vs1 ++ [.int z.1.val])) a = some o := fun a o n h => by rw [upd_ne n]; exact h
      have hV8 : upd H7 Vl (.lst (zV vs1 ++ [.int z.1.val])) Vl = some (.lst (zV (vs1 ++ [z.1.val]))) := by rw [upd_same]; simp [zV]
      generalize upd H7 Vl (.lst (zV vs1 ++ [.int z.1.val])) = H8 at *
      have hR8 := o8 _ _ (Ne.symm VR) hR7
      -- rows
      refine ⟨_, rfl, .inl ⟨rfl, _, .inl (.inl hR8)⟩, _, rfl, _, rfl, (by show 2 ≤ sizeLine; decide), fun q hq => ?_⟩
      have s9 := same_upd (o := .tup [.ref ah, .ref lg]) hq
      have hq9 : upd H8 q (.tup [.ref ah, .ref lg]) q = some (.tup [.ref ah, .ref lg]) := upd_same
      generalize upd H8 q (.tup [.ref ah, .ref lg]) = H9 at *
      have hR9 := s9 _ _ hR8
      refine ⟨Rl, _, _, rfl, rfl, hR9, by rw [List.length_map, List.length_map]; exact Nat.lt_of_le_of_lt lrs (by decide), ?_⟩
      have sk10 : SK K H9 (upd H9 Rl (.lst (rV (rs.map (·.1)) ++ [.ref q]))) := .upd hR9 (nst _)
      have o10 : ∀ a o, a ≠ Rl → H9 a = some o → upd H9 Rl (.lst (rV (rs.map (·.1)) ++ [.ref q])) a = some o := fun a o n h => by rw [upd_ne n]; exact h
      have hR10 : upd H9 Rl (.lst (rV (rs.map (·.1)) ++ [.ref q])) Rl = some (.lst (rV ((rs ++ [(q, ah, lg)]).map (·.1)))) := by rw [upd_same]; simp [rV]
      generalize upd H9 Rl (.lst (rV (rs.map (·.1)) ++ [.ref q])) = H10 at *
      have o710 : ∀ a o, a ≠ Vl → a ≠ Rl → H7 a = some o → H10 a = some o := fun a o n1 n2 h => o10 _ _ n2 (s9 _ _ (o8 _ _ n1 h))
      have k10 : Kp K [b, lg, kn, Vl, Rl] H' H10 := by
        refine ⟨((same_sk s36).trans k7.sk).trans (sk8.trans ((same_sk s9).trans sk10)), fun a o n h => ?_⟩
        simp only [List.mem_cons, List.not_mem_nil, or_false, not_or] at n
        exact o710 _ _ n.2.2.2.1 n.2.2.2.2 (k7.kp _ _ (by simp [n.1, n.2.1, n.2.2.1]) (s36 _ _ h))
      have lg0 : H lg = none := fb hlg
      have ah0 : H ah = none := fb ah'
      have rin : ∀ p ∈ rs, (∃ o, H' p.2.1 = some o) ∧ ∃ o, H' p.2.2 = some o := fun p hp => by
        obtain ⟨w, _, _, h2, es, h3, _⟩ := paired_mem hrs hp
        exact ⟨⟨_, h2⟩, _, h3⟩
      have hrs10 : RowsA K H10 rs tr1 := rowsA_keep k10 hrs fun p hp => by
        obtain ⟨f1, f2⟩ := fr p hp
        obtain ⟨⟨a1, a2⟩, a3, a4⟩ := av p hp
        obtain ⟨⟨o1, h1⟩, o2, h2⟩ := rin p hp
        refine ⟨?_, ?_⟩
        · simp only [List.mem_cons, List.not_mem_nil, or_false, not_or]
          exact ⟨Ne.symm (ne_of_none hb f1), ne_of_none h1 hlg, ne_of_none h1 kn', a1, a2⟩
        · simp only [List.mem_cons, List.not_mem_nil, or_false, not_or]
          exact ⟨Ne.symm (ne_of_none hb f2), ne_of_none h2 hlg, ne_of_none h2 kn', a3, a4⟩
      have evs7 := hX7.evs
      refine ⟨_, _, _, _, _, _, rs ++ [(q, ah, lg)], rfl, o10 _ _ VR (s9 _ _ hV8), hR10, hrs10.snoc ⟨o10 _ _ (ne_of hq9 hR9 (by simp)) hq9, o710 _ _ ahV ahRl ah7, es', o710 _ _ lgV lgR hX7.hLg, evs7.mono (sk8.trans ((same_sk s9).trans sk10))⟩, ?_, fun p hp => ?_, fun p hp => ?_, o710 _ _ bV' bR' hX7.hB, ⟨k0.sk.trans k10.sk, fun a o n h => ?_⟩⟩
      · rw [List.map_append]
        refine List.nodup_append.mpr ⟨nd, by simp, fun x hx y hy e => ?_⟩
        rw [List.mem_singleton.mp hy] at e
        obtain ⟨p, hp, rfl⟩ := List.mem_map.mp hx
        obtain ⟨⟨o, ho⟩, _⟩ := rin p hp
        rw [e, ah'] at ho
        cases ho
      · rcases List.mem_append.mp hp with h | h
        · exact fr p h
        · rw [List.mem_singleton.mp h]; exact ⟨ah0, lg0⟩
      · rcases List.mem_append.mp hp with h | h
        · exact av p h
        · rw [List.mem_singleton.mp h]; exact ⟨⟨ahV, ahRl⟩, lgV, lgR⟩
      · have nb : a ≠ b := by simpa using n
        have h' := k0.kp a o n h
        refine k10.kp a o ?_ h'
        simp only [List.mem_cons, List.not_mem_nil, or_false, not_or]
        exact ⟨nb, ne_of_none h' hlg, ne_of_none h' kn', ne_of_none h hVl, ne_of_none h hR0⟩
    · obtain ⟨x5, x6, x7, x8, x9, x10, rs, rfl, hV, hRr, hrs, nd, fr, av, hbb, k0⟩ := q
      rw [lcsv, List.take_length] at hV hrs hbb
      refine ⟨_, rfl, _, rfl, (by show 2 ≤ sizeLine; decide), fun r hr => ?_⟩
      have s3 := same_upd (o := .tup [.ref Vl, .ref Rl]) hr
      have k3 : Kp K ([] : List Addr) H' (upd H' r (.tup [.ref Vl, .ref Rl])) := same_kp s3
      exact hQ r Vl Rl rs _ (k0.trans1 (same_kp s3)) (s3 _ _ hbb) sqT_upd hVl hR0 (s3 _ _ hV) (s3 _ _ hRr) (rowsA_keep k3 hrs fun p _ => ⟨List.not_mem_nil, List.not_mem_nil⟩) nd fr fun p hp => (av p hp).1.2
def spAllRight (K : PySem.W.Frag) : Sp := fun vs H Q _ => ∃ (tl rl : Addr) (ps : List Addr) (S : Sys) (rk : Nat → Nat) (bs : Nat) (rs : List (Addr × Addr × Addr)) (tr : List (Board × List Ev)), vs = [.ref tl, .ref rl] ∧ H tl = some (.lst (rV ps)) ∧ Trips K H ps S ∧ SysOk S rk bs ∧ H rl = some (.lst (rV (rs.map (·.1)))) ∧ RowsA K H rs tr ∧ rs.length ≤ 100 ∧
  (rs.map (·.2.1)).Nodup ∧ (∀ x ∈ tr, lok S rk 13 x.1 [] x.2 ∧ x.1.length = S.length ∧ x.2.length ≤ 100000) ∧ (∀ p ∈ rs, p.2.1 ≠ tl ∧ p.2.1 ≠ rl) ∧ ∀ H', Kp K (rs.map (·.2.1)) H H' → Q (.bl true) H'
theorem ok__law_all_right (T : Txt K mg) : FD P w K mg base CX0 17 d__law_all_right ["_law_triples", "_law_rows"] (spAllRight K) := by
  refine fd_of T.d__law_all_right sc__law_all_right (fun vs H Q E h => ?_) (fun cdv A outer s H vs Q E hr h => ?_)
  · obtain ⟨tl, rl, ps, S, rk, bs, rs, tr, rfl, _⟩ := h
    rfl
  · obtain ⟨tl, rl, ps, S, rk, bs, rs, tr, rfl, htl, htr, ok, hrl, hrs, lrs, nd, hx, av, hQ⟩ := h
    have hu := Room.u64 hr
    refine ⟨_, (pss_one (ps_ret (pe_cmpR (op_eqDK K rfl hu) (pe_lc rfl sc__law_all_right.nd (pi_listK K rfl (pv 1)) (own := [("_law_ahead", 2), ("_law_log", 3)]) (blkOk_by (by kernel_rfl)) (fun _ _ _ _ _ => (pg_tupK (n := 2) K rfl rfl (pgs_cons (pg_name (i := 2) sc__law_all_right.nd rfl (by first | exact Or.inl rfl | exact Or.inr rfl | exact Or.inr (Or.inl rfl))) (pgs_cons (pg_name (i := 3) sc__law_all_right.nd rfl (by first | exact Or.inl rfl | exact Or.inr rfl | exact Or.inr (Or.inl rfl))) pgs_nil)))) (fun _ _ _ _ _ => (pts_one (pt_not (pt_val (pe_def (ok__law_reused_right T) hr rfl T.g__law_reused_right rfl b__law_reused_right (pa_cons (pv 0) (pa_cons (pv 2) (pa_cons (pv 3) pa_nil)))))))) (fun _ _ _ _ _ => pe_int)) (pe_lst pa_nil) (nomark _)))), ?_⟩
    refine ⟨_, rfl, rl, rfl, ⟨_, .inl (.inl hrl)⟩, fun D hD => ?_⟩
    have lr : (rV (rs.map (·.1))).length = rs.length := by rw [List.length_map, List.length_map]
    have s1 := same_upd (o := .lst []) hD
    have tlR : tl ∉ rs.map (·.2.1) := fun m => by
      obtain ⟨p, hp, e⟩ := List.mem_map.mp m
      exact (av p hp).1 e
    have rlR : rl ∉ rs.map (·.2.1) := fun m => by
      obtain ⟨p, hp, e⟩ := List.mem_map.mp m
      exact (av p hp).2 e
    have DR : D ∉ rs.map (·.2.1) := fun m => by
      obtain ⟨p, hp, e⟩ := List.mem_map.mp m
      obtain ⟨w, _, _, h2, _⟩ := paired_mem hrs hp
      have e : p.2.1 = D := e
      rw [e, hD] at h2
      cases h2
    refine turns (walk_list (xs := rV (rs.map (·.1)))) (fun i H' => H' D = some (.lst []) ∧ Kp K ((rs.take i).map (·.2.1)) H H') ⟨upd_same, same_kp s1⟩ (fun i H' _ q => .inl (.inl (q.2.kp _ _ (fun m => rlR ((List.take_sublist i rs).map _ |>.subset m)) hrl))) (fun i x H2 H3 hi q y => ?_) (fun H2 q => ?_)
    · obtain ⟨rfl, hx'⟩ := y
      obtain ⟨hD2, k2⟩ := q
      obtain ⟨a, ha, rfl⟩ := ref_at hx'
      rw [List.getElem?_map] at ha
      obtain ⟨p, hp, rfl⟩ := Option.map_eq_some_iff.mp ha
      obtain ⟨w', hw, h1, h2, es, h3, h4⟩ := paired_at hrs hp
      obtain ⟨lk, ll, l5⟩ := hx w' (List.mem_of_getElem? hw)
      have hpm := List.mem_of_getElem? hp
      have il : i < rs.length := (List.getElem?_eq_some_iff.mp hp).1
      have nin : p.2.1 ∉ (rs.take i).map (·.2.1) := fun m => by
        obtain ⟨q, hq, e⟩ := List.mem_map.mp m
        obtain ⟨j, hj⟩ := List.mem_iff_getElem?.mp hq
        have jl := (List.getElem?_eq_some_iff.mp hj).1
        rw [List.length_take] at jl
        rw [List.getElem?_take_of_lt (by omega)] at hj
        have e1 : (rs.map (·.2.1))[j]? = some p.2.1 := by rw [List.getElem?_map, hj]; exact congrArg some e
        have e2 : (rs.map (·.2.1))[i]? = some p.2.1 := by rw [List.getElem?_map, hp]; rfl
        have := (List.getElem_inj nd).mp ((List.getElem?_eq_some_iff.mp e1).2.trans (List.getElem?_eq_some_iff.mp e2).2.symm)
        omega
      have nlg : p.2.2 ∉ rs.map (·.2.1) := fun m => by
        obtain ⟨q, hq, e⟩ := List.mem_map.mp m
        obtain ⟨v, hv, _, g2, _⟩ := paired_mem hrs hq
        have e : q.2.1 = p.2.2 := e
        rw [e, h3] at g2
        have g3 := HO.lst.inj (Option.some.inj g2)
        have lv := (hx v hv).2.1
        have := ok.pos
        cases hv1 : v.1 with
        | nil => rw [hv1] at lv; simp at lv; omega
        | cons o r =>
          rw [hv1] at g3
          cases es with
          | nil => cases g3
          | cons e es =>
            have := (List.cons.inj g3).1
            cases o <;> cases this
      have sub : ∀ {a : Addr}, a ∉ rs.map (·.2.1) → a ∉ (rs.take i).map (·.2.1) := fun {a} h m => h ((List.take_sublist i rs).map _ |>.subset m)
      refine ⟨p.1, _, rfl, .inl (.inl (k2.sk _ _ (show Stb K (.tup _) from trivial) h1)), rfl, _, _, rfl, _, _, rfl, rfl, rfl, ?_⟩
      refine ⟨_, rfl, _, rfl, _, rfl, tl, p.2.1, p.2.2, ps, S, rk, bs, w'.1, es, w'.2, rfl, k2.kp _ _ (sub tlR) htl, htr.mono k2.sk, ok, k2.kp _ _ nin h2, ll, k2.kp _ _ (sub nlg) h3, h4.mono k2.sk, lk, l5, (av p hpm).1, fun e => nlg (by rw [← e]; exact List.mem_map.mpr ⟨p, hpm, rfl⟩), fun H4 k4 => ⟨_, rfl, iteF ⟨k4.kp _ _ (fun m => DR (by rw [List.mem_singleton.mp m]; exact List.mem_map.mpr ⟨p, hpm, rfl⟩)) hD2, ?_⟩⟩⟩
      have etk : (rs.take (i + 1)).map (·.2.1) = (rs.take i).map (·.2.1) ++ [p.2.1] := by rw [List.take_add_one, hp, List.map_append]; rfl
      rw [etk]
      exact (k2.mono fun a h => List.mem_append_left _ h).trans1 (k4.mono fun a h => List.mem_append_right _ h)
    · obtain ⟨hD2, k2⟩ := q
      rw [lr, List.take_length] at k2
      refine ⟨Nat.zero_le _, fun y hy => ?_⟩
      have s3 := same_upd (o := .lst []) hy
      refine ⟨dL [], dL [], dp_lst (l := []) (.inl (.inl (s3 _ _ hD2))), dp_lst (l := []) sqL_upd, sh_dL _, sh_dL _, ?_⟩
      rw [eqv_dL]
      exact hQ _ (k2.trans1 (same_kp s3))
end
end KW
/-! The walk, part 33: shown data; the law's look at a limit. -/
namespace KW
open PySem PySem.Spec PyProof.Rows L2 KR K19 StX
/-! ### shown data -/
structure DOk (d : PyData) (n k : Nat) : Prop where
  sh : d.showable = true
  nd : d.hasDict = false
  dp : d.depth ≤ k
  lf : d.leavesShort 8 = true
  bk : d.bulk ≤ n
structure DOks (l : List PyData) (n k : Nat) : Prop where
  sh : PyData.showableAll l = true
  nd : PyData.hasDictAll l = false
  dp : PyData.depthAll l ≤ k
  lf : PyData.leavesShortAll 8 l = true
  bk : PyData.bulkAll l ≤ n
theorem doks_nil (n k : Nat) : DOks [] n k := ⟨rfl, rfl, Nat.zero_le _, rfl, Nat.zero_le _⟩
theorem DOk.cons {d : PyData} {l : List PyData} {n m k : Nat} (h : DOk d n k) (t : DOks l m k) : DOks (d :: l) (n + 1 + m) k := by
  refine ⟨?_, ?_, ?_, ?_, ?_⟩
  · rw [PyData.showableAll, h.sh, t.sh]; rfl
  · rw [PyData.hasDictAll, h.nd, t.nd]; rfl
  · rw [PyData.depthAll]; exact Nat.max_le.mpr ⟨h.dp, t.dp⟩
  · rw [PyData.leavesShortAll, h.lf, t.lf]; rfl
  · rw [PyData.bulkAll]; have := h.bk; have := t.bk; omega
theorem DOk.mono {d : PyData} {n m k j : Nat} (h : DOk d n k) (h1 : n ≤ m) (h2 : k ≤ j) : DOk d m j := ⟨h.sh, h.nd, Nat.le_trans h.dp h2, h.lf, Nat.le_trans h.bk h1⟩
theorem doks_of {n k : Nat} : ∀ {l : List PyData}, (∀ x ∈ l, DOk x n k) → DOks l (l.length * (n + 1)) k
  | [], _ => doks_nil _ _
  | x :: l, h => by
    have := (h x List.mem_cons_self).cons (doks_of fun y hy => h y (List.mem_cons_of_mem _ hy))
    refine ⟨this.sh, this.nd, this.dp, this.lf, Nat.le_trans this.bk ?_⟩
    rw [List.length_cons, Nat.succ_mul]; omega
theorem DOks.list {l : List PyData} {n k : Nat} (h : DOks l n k) : DOk (.list l) n (k + 1) := by
  refine ⟨?_, ?_, ?_, ?_, ?_⟩
  · rw [PyData.showable]; exact h.sh
  · rw [PyData.hasDict]; exact h.nd
  · have := h.dp; rw [PyData.depth]; omega
  · rw [PyData.leavesShort]; exact h.lf
  · rw [PyData.bulk]; exact h.bk
theorem DOks.tup {l : List PyData} {n k : Nat} (h : DOks l n k) : DOk (.tuple l) n (k + 1) := by
  refine ⟨?_, ?_, ?_, ?_, ?_⟩
  · rw [PyData.showable]; exact h.sh
  · rw [PyData.hasDict]; exact h.nd
  · have := h.dp; rw [PyData.depth]; omega
  · rw [PyData.leavesShort]; exact h.lf
  · rw [PyData.bulk]; exact h.bk
theorem dok_int {i : Int} (h : i.natAbs < 10 ^ 7) (k : Nat) : DOk (.int i) 0 k := by
  have e := int_text_length_le10 (k := 7) (by decide) h
  have e2 : (PyData.shown (.int i)).length ≤ 8 := by
    show (Str.ofString (toString i)).length ≤ 8
    rw [PySem.ofString_length]; exact e
  have h1 : i.natAbs.log2 < 1920 := by
    by_cases h0 : i.natAbs = 0
    · rw [h0]; decide
    · have := (Nat.log2_lt h0 (k := 24)).mpr (Nat.lt_trans h (by decide))
      omega
  refine ⟨?_, ?_, ?_, ?_, ?_⟩
  · rw [PyData.showable]; exact decide_eq_true h1
  · rw [PyData.hasDict]
  · rw [PyData.depth]; exact Nat.zero_le _
  · rw [PyData.leavesShort]; exact decide_eq_true e2
  · rw [PyData.bulk]; exact Nat.le_refl _
theorem dok_nat {n : Nat} (h : n < 10 ^ 7) (k : Nat) : DOk (.int (n : Nat)) 0 k := dok_int (by rw [Int.natAbs_natCast]; exact h) k
theorem dok_none (k : Nat) : DOk .none 0 k := ⟨rfl, rfl, Nat.zero_le _, rfl, Nat.le_refl _⟩
theorem dok_bool (b : Bool) (k : Nat) : DOk (.bool b) 0 k := ⟨rfl, rfl, Nat.zero_le _, rfl, Nat.le_refl _⟩
theorem dok_len {d : PyData} {n k : Nat} (h : DOk d n k) (hn : n ≤ 1600000) : d.shown.length ≤ sizeLine := by
  have := PyData.shown_le_bulk 8 (by decide) d h.lf
  have := h.bk
  show _ ≤ 2 ^ 24
  omega
theorem dok_lev {v : Int} (h : Lev v) (k : Nat) : DOk (.int v) 0 k := dok_int (by unfold Lev at h; omega) k
def evD : Ev → PyData
  | .stored c v => .tuple [.str "stored", .int (c : Nat), .int v]
  | .busy c g => .tuple [.str "busy", .int (c : Nat), .int g]
  | .call c => .tuple [.str "call", .int (c : Nat)]
  | .fin c v T k => .tuple [.str "end", .int (c : Nat), .int v, dT T, .bool k]
  | .reused c v T => .tuple [.str "reused", .int (c : Nat), .int v, dT T]
theorem dp_ev {K : PySem.W.Frag} {H : Hp} {a : Addr} : ∀ {e : Ev}, EvT K H a e → Dp K H (.ref a) (evD e)
  | .stored c v, h => .tup (.inl (.inl h)) (.cons (.str _) (.cons (.int _) (.cons (.int _) .nil)))
  | .busy c v, h => .tup (.inl (.inl h)) (.cons (.str _) (.cons (.int _) (.cons (.int _) .nil)))
  | .call c, h => .tup (.inl (.inl h)) (.cons (.str _) (.cons (.int _) .nil))
  | .fin c v T k, ⟨t, h, ht⟩ => .tup (.inl (.inl h)) (.cons (.str _) (.cons (.int _) (.cons (.int _) (.cons (dp_tup ht) (.cons (.bl _) .nil)))))
  | .reused c v T, ⟨t, h, ht⟩ => .tup (.inl (.inl h)) (.cons (.str _) (.cons (.int _) (.cons (.int _) (.cons (dp_tup ht) .nil))))
theorem dp_evs {K : PySem.W.Frag} {H : Hp} {es : List Addr} {l : List Ev} (h : EvsAt K H es l) : DpAll K H (rV es) (l.map evD) := by
  induction h with
  | nil => exact .nil
  | cons hd _ ih => exact .cons (dp_ev hd) ih
theorem dok_nats {n : Nat} {l : List Nat} (hn : n ≤ 12) (hl : ∀ x ∈ l, x < n) (k : Nat) : DOks (l.map dN) (l.length * 1) k := by
  have := doks_of (l := l.map dN) (n := 0) (k := k) fun x hx => by
    obtain ⟨y, hy, rfl⟩ := List.mem_map.mp hx
    exact dok_nat (Nat.lt_of_lt_of_le (hl y hy) (Nat.le_trans hn (by decide))) k
  rwa [List.length_map] at this
theorem dok_dT {n : Nat} {l : List Nat} (hn : n ≤ 12) (ha : Asc l) (hl : ∀ x ∈ l, x < n) (k : Nat) : DOk (dT l) 12 (k + 1) := by
  have h := (dok_nats hn hl k).tup
  refine h.mono ?_ (Nat.le_refl _)
  have := nodup_le (asc_nodup ha) hl
  omega
theorem dok_str {s : PySem.Str} (h : (s.cps.toList.all fun c => decide (c < 16 ^ 8)) = true) (h2 : s.cps.size ≤ 6) (k : Nat) : DOk (.str s) 6 k := ⟨rfl, rfl, Nat.zero_le _, by rw [PyData.leavesShort]; exact h, by rw [PyData.bulk]; exact h2⟩
theorem dok_ev {n : Nat} (hn : n ≤ 12) : ∀ {e : Ev}, EvOk n e → DOk (evD e) 24 3
  | .stored c v, ⟨h1, h2⟩ => ((dok_str (by decide +kernel) (by decide +kernel) 2).cons ((dok_nat (by omega) 2).cons ((dok_lev h2 2).cons (doks_nil 0 2)))).tup.mono (by decide) (by decide)
  | .busy c v, ⟨h1, h2⟩ => ((dok_str (by decide +kernel) (by decide +kernel) 2).cons ((dok_nat (by omega) 2).cons ((dok_lev h2 2).cons (doks_nil 0 2)))).tup.mono (by decide) (by decide)
  | .call c, h1 => ((dok_str (by decide +kernel) (by decide +kernel) 2).cons ((dok_nat (Nat.lt_of_lt_of_le h1 (Nat.le_trans hn (by decide))) 2).cons (doks_nil 0 2))).tup.mono (by decide) (by decide)
  | .fin c v T k, ⟨h1, h2, h3, h4⟩ => ((dok_str (by decide +kernel) (by decide +kernel) 2).cons ((dok_nat (by omega) 2).cons ((dok_lev h2 2).cons ((dok_dT hn h3 h4 1).cons ((dok_bool k 2).cons (doks_nil 0 2)))))).tup.mono (by decide) (by decide)
  | .reused c v T, ⟨h1, h2, h3, h4⟩ => ((dok_str (by decide +kernel) (by decide +kernel) 2).cons ((dok_nat (by omega) 2).cons ((dok_lev h2 2).cons ((dok_dT hn h3 h4 1).cons (doks_nil 0 2))))).tup.mono (by decide) (by decide)
theorem dok_evs {n : Nat} (hn : n ≤ 12) {l : List Ev} (h : ∀ e ∈ l, EvOk n e) (hl : l.length ≤ 42380) : DOk (.list (l.map evD)) 1059500 4 := by
  have := (doks_of (l := l.map evD) (n := 24) (k := 3) fun x hx => by
    obtain ⟨e, he, rfl⟩ := List.mem_map.mp hx
    exact dok_ev hn (h e he)).list
  rw [List.length_map] at this
  exact this.mono (by omega) (Nat.le_refl _)
theorem dok_b {S : Sys} {b : Board} (bok : BoardOk S b) (hn : S.length ≤ 12) (k : Nat) : DOks (b.map bD) 12 k := by
  have := doks_of (l := b.map bD) (n := 0) (k := k) fun x hx => by
    obtain ⟨o, ho, rfl⟩ := List.mem_map.mp hx
    cases o with
    | none => exact dok_none k
    | some v =>
      obtain ⟨i, hi⟩ := List.mem_iff_getElem?.mp ho
      refine dok_lev (bok.lev i v ?_) k
      unfold bat
      rw [List.getD_eq_getElem?_getD, hi]
      rfl
  rw [List.length_map] at this
  exact ⟨this.sh, this.nd, this.dp, this.lf, Nat.le_trans this.bk (by rw [bok.len]; omega)⟩
/-! ### o.m(e, ..) in a try; defs that ask that no repr is under way -/
def tMethA (C : Addr) (m : PySem.Str) (sp : Sp) (E : L2.St → XK) (ta : TE) (t : TA) : TE := fun σ H Q => ta σ H fun x H1 => ∃ a dx fs, x = .ref a ∧ H1 a = some (.ins C dx fs) ∧ fs.lookup m = none ∧ t σ H1 fun vs H2 => sp (.ref a :: vs) H2 Q (E σ)
theorem pe_methA {X : Cx} {CX : CXT} {k : Nat} {f C : Addr} {fd : FuncData} {ps : List PySem.Str} {sp : Sp} {E : L2.St → XK} {m : PySem.Str} {pos apos : Pos} {e o : Expr} {es : List Expr} {ta : TE} {t : TA} {pl : Sem Bool} (he : PE X o ta) (c : Cls X.K C) (hm : Meth X.K C m f) (F : FnOk X.prog X.w X.K X.mg X.base CX k f fd ps sp) (hr : Room k X.A) (hb : Binds X.K fd ps []) (hx : ∀ σ, PassesAt CX X σ (E σ)) (ha : PA X (e :: es) t)
    (hst : starEach (e :: es) X.env = (false, eval e X.env) :: starEach es X.env := by rfl) (hpl : (backTo pos (starEach es X.env)).any (·.1) = false := by rfl)
    (ht : eval (.Call (.Attribute o m apos) (e :: es) [] pos) X.env = (do
      let ov ← eval o X.env
      standAt apos.atName
      let (f, first) ← holding [ov] (getMethod ov m pl)
      callWith pos f first (backTo pos (starEach (e :: es) X.env)) (backToKw pos (keywordEach [] X.env))) := by rfl) :
    PE X (.Call (.Attribute o m apos) (e :: es) [] pos) (tMethA C m sp E ta t) := by
  refine ⟨fun pins s σ H Q I h => ?_⟩
  refine PySem.W.methodCall_KW (pl := pl) (thn (he.run pins s σ H _ I h) fun u s1 ⟨x, H1, I1, rx, a, dx, fs, ex, ea, l, q⟩ => ?_) ht
  subst ex
  obtain rfl : u = Value.ref a := rx
  refine getmeth_ok I1 ea c hm l ?_
  refine PySem.W.callWith_K (first := [.ref a]) (h₀ := X.base) I.ok.mod.kin hm.kp (thn (ha.run pos pins s1 σ H1 _ I1 q) fun us s2 ⟨vs, H2, I2, r, q2⟩ => ⟨I2.kIn, ?_⟩) hst hpl
  exact run_fnS (us := .ref a :: us) (vs := .ref a :: vs) F hr hb (hx σ) I2 (.cons rfl r) q2
structure FG (P : Program) (w : World) (K : PySem.W.Frag) (mg : PySem.Str → Option Value) (base : Heap) (CX : CXT) (k : Nat) (d : Df) (ps : List PySem.Str) (sp : Sp) : Prop where
  ex : ∃ fd, FunD K d.name d.qual d.params d.body d.scope (d.dvs K) (d.kws K) (d.ad K) fd ∧ FnG P w K mg base CX k (d.ad K) fd ps sp
theorem fg_of {P : Program} {w : World} {K : PySem.W.Frag} {mg : PySem.Str → Option Value} {base : Heap} {k : Nat} {d : Df} {N ps : List PySem.Str} {sp : Sp} (F : Stands K d) (S : FnScope N ps d.scope) (len : ∀ vs H Q E, sp vs H Q E → vs.length = ps.length)
    (hbody : ∀ (cdv : Value) (A : Around) (outer : List Env) (s : Shared) (H : Hp) (vs : List V) (Q : VK) (E : XK), Room k (A.deeper (envOfC d.qual d.scope s.heap.objs.size (d.ad K) cdv)) → (A.deeper (envOfC d.qual d.scope s.heap.objs.size (d.ad K) cdv)).guards = some [] → sp vs H Q E →
      ∃ t, PSs (cxOf CX0 P w K mg base N d.qual d.scope (d.ad K) cdv A outer s H E).nox d.body t ∧ t { nx := fun _ H' => Q .non H', rt := Q } (start N vs) H) : FG P w K mg base CX0 (k + 1) d ps sp := by
  obtain ⟨fd, F⟩ := F
  refine ⟨fd, F, fnG_of F S len fun cdv A outer s H vs Q E hr hG h => ?_⟩
  obtain ⟨t, h1, h2⟩ := hbody cdv A outer s H vs Q E hr (guards_deeper hG) h
  exact ⟨t, h1.nox, h2⟩
theorem pe_defG {X : Cx} {k j : Nat} {d : Df} {ps : List PySem.Str} {sp : Sp} {x : PySem.Str} {p pos : Pos} {e : Expr} {es : List Expr} {t : TA} (D : FG X.prog X.w X.K X.mg X.base CX0 k d ps sp) (hr : Room j X.A) (hG : X.A.guards = some []) (hg : Gl X x) (hm : X.mg x = some (.ref (d.ad X.K))) (hd : d.dfl = []) (hb : BindN d ps) (ha : PA X (e :: es) t) (hk : k ≤ j := by decide) (hdb : (x == ("__debug__" : PySem.Str)) = false := by decide)
    (he : starEach (e :: es) X.env = (false, eval e X.env) :: starEach es X.env := by rfl) (hpl : (backTo pos (starEach es X.env)).any (·.1) = false := by rfl) : PE X (.Call (.Name x p) (e :: es) [] pos) (tCall sp [] E0 t) := by
  obtain ⟨fd, F, G⟩ := D.ex
  have e0 : d.dvs X.K = [] := by unfold Df.dvs; rw [hd]; rfl
  rw [e0] at F
  exact pe_callG G (hr.mono hk) hG hg hm F.kp (F.bindsN hb) pass0 ha hdb he hpl
/-! ### the look at a limit -/
section
variable {P : Program} {w : World} {K : PySem.W.Frag} {mg : PySem.Str → Option Value} {base : Heap}
theorem Room.u66 {k : Nat} {A : Around} (r : Room k A) : A.units + 66 < cLine := by have := r.un; omega
def memoD (b : Board) (cnt : Nat) (log : List Ev) : PyData := .tuple [.tuple (b.map bD), .int (cnt : Nat), .list (log.map evD)]
theorem dok_memo {S : Sys} {b : Board} {cnt : Nat} {log : List Ev} (bok : BoardOk S b) (hn : S.length ≤ 12) (hc : cnt < 10 ^ 7) (hl : log.length ≤ 42380) (he : ∀ e ∈ log, EvOk S.length e) : DOk (memoD b cnt log) 1500000 5 :=
  (((dok_b bok hn 3).tup).cons ((dok_nat hc 4).cons ((dok_evs hn he hl).cons (doks_nil 0 4)))).tup.mono (by decide) (by decide)
def spLimited (K : PySem.W.Frag) : Sp := fun vs H Q _ => ∃ (m : Addr) (S : Sys) (rk : Nat → Nat) (bs : Nat) (b : Board) (cnt : Nat) (log : List Ev) (lim : Option Nat) (c need : Nat), vs = [.ref m, .int (c : Nat), .int (need : Nat)] ∧ MemoAt K H true m S b cnt log lim ∧ SysOk S rk bs ∧ BoardOk S b ∧ c < S.length ∧ need = (M true S 13 ⟨b, 0, [], []⟩ [] c).2.begun ∧
  log.length ≤ 42380 ∧ (∀ e ∈ log, EvOk S.length e) ∧ cnt < 10 ^ 7 ∧ ∀ H', ButX K m H H' → MemoAt K H' true m S b cnt log (if need = 0 then lim else some need) → Q (.bl true) H'
theorem ok__law_limited (T : Txt K mg) (TS : TxtS P K) (KB : K.In base) : FG P w K mg base CX0 50 d__law_limited ["_law_memo", "_law_spot", "_law_need"] (spLimited K) := by
  have F := cmf T true
  obtain ⟨q1, q_table⟩ := T.p_KeepExact_table
  obtain ⟨q2, q_calls⟩ := T.p_KeepExact_calls
  obtain ⟨f1, pF1, pG_table⟩ := (ok_Memo_table (P := P) (w := w) (base := base) T true).ex
  have pB_table := FunD.bindsN pF1 b_Memo_table
  obtain ⟨f2, pF2, pG_calls⟩ := (ok_Memo_calls (P := P) (w := w) (base := base) T true).ex
  have pB_calls := FunD.bindsN pF2 b_Memo_calls
  obtain ⟨f4, eF, eG⟩ := ok_Memo_events (P := P) (w := w) (base := base) T true
  have eB := FunD.bindsN eF b_Memo_events
  obtain ⟨f5, aF, aG⟩ := (ok_Memo_ask (w := w) T TS KB true).ex
  have aB := FunD.bindsN aF b_Memo_ask
  refine fg_of T.d__law_limited sc__law_limited (fun vs H Q E h => ?_) (fun cdv A outer s H vs Q E hr hG h => ?_)
  · obtain ⟨m, S, rk, bs, b, cnt, log, lim, c, need, rfl, _⟩ := h
    rfl
  · obtain ⟨m, S, rk, bs, b, cnt, log, lim, c, need, rfl, hM, ok, bok, hc, hneed, hlog, hev, hcnt, hQ⟩ := h
    have hu66 := Room.u66 hr
    refine ⟨_, (pss_cons (ps_if (pt_cmpR op_eq (pv 2) pe_int (nomark _)) (pss_one (ps_ret pe_bl)) pss_nil) (pss_cons (ps_set (i := 3) sc__law_limited.nd rfl (by first | exact Or.inl rfl | exact Or.inr rfl | exact Or.inr (Or.inl rfl)) (pe_callB (call_repr hG hu66) rfl T.f_repr boot_repr (pa_cons (pe_tup (pa_cons (pe_prop (pv 0) T.c_KeepExact q_table pG_table (hr.mono (by decide)) pB_table .nil pass0 rfl) (pa_cons (pe_prop (pv 0) T.c_KeepExact q_calls pG_calls (hr.mono (by decide)) pB_calls .nil pass0 rfl) (pa_cons (pe_listG (pgen_meth0 (pv 0) T.c_KeepExact T.m_KeepExact_events eG (hr.mono (by decide)) eB .nil) passE0 noStop0 (hr.mono (by decide)) rfl T.f_list boot_list) pa_nil)))) pa_nil))) (pss_cons (ps_expr (pe_mdX (ok_Memo_set_limit T true) hr pass0 T.c_KeepExact T.m_KeepExact_set_limit rfl b_Memo_set_limit (pv 0) (pa_cons (pe_op op_sub (pv 2) pe_int) pa_nil))) (pss_cons (ps_set (i := 4) sc__law_limited.nd rfl (by first | exact Or.inl rfl | exact Or.inr rfl | exact Or.inr (Or.inl rfl)) pe_bl) (pss_cons (ps_try_as (i := 5) (tb := fun W => tDrop (tMethA (He.ga K "KeepExact") "ask" (spAsk K true) (WE W) (tVar 0) (tCons (tVar 1) tNil))) (ts := fun a cls d => tAsg (tOp rEq (tXf a cls d (He.ga K "TooManyCalls") "limit" (tVar 5)) (tOp (rI0 fun x y => .int (x - y)) (tVar 2) (tC (.int 1)))) (gName 4)) (Wout := fun _ _ _ _ => False) rfl rfl sc__law_limited.nd rfl rfl ⟨rfl, by decide, .inl T.g_TooManyCalls⟩ takes0 (fun W pn xe tk _ => pss_one (ps_expr (pe_methA (pv 0) T.c_KeepExact T.m_KeepExact_ask aG (hr.mono (by decide)) aB (fun σ => passAt tk σ) (pa_cons (pv 1) pa_nil)))) (fun a oe cls d pn hz hf => pss_one (ps_set (i := 4) sc__law_limited.nd rfl (Or.inl rfl) (pe_cmpR op_eq (pe_xf T.x_tm T.tm.noN hz hf (pv 5)) (pe_op op_sub (pv 2) pe_int) (nomark _))))) (pss_cons (ps_expr (pe_mdX (ok_Memo_set_limit T true) hr pass0 T.c_KeepExact T.m_KeepExact_set_limit rfl b_Memo_set_limit (pv 0) (pa_cons (pv 2) pa_nil))) (pss_one (ps_ret (pe_and (pv 4) (pe_one (pe_cmpR op_eq (pe_callB (call_repr hG hu66) rfl T.f_repr boot_repr (pa_cons (pe_tup (pa_cons (pe_prop (pv 0) T.c_KeepExact q_table pG_table (hr.mono (by decide)) pB_table .nil pass0 rfl) (pa_cons (pe_prop (pv 0) T.c_KeepExact q_calls pG_calls (hr.mono (by decide)) pB_calls .nil pass0 rfl) (pa_cons (pe_listG (pgen_meth0 (pv 0) T.c_KeepExact T.m_KeepExact_events eG (hr.mono (by decide)) eB .nil) passE0 noStop0 (hr.mono (by decide)) rfl T.f_list boot_list) pa_nil)))) pa_nil)) (pv 3) (nomark _)))))))))))), ?_⟩
    have les : ∀ {es : List Addr} {H' : Hp}, EvsAt K H' es log → (rV es).length ≤ sizeLine := fun {es H'} h => by rw [List.length_map, h.length]; exact Nat.le_trans hlog (by decide)
    have dok := dok_memo bok ok.len hcnt hlog hev
    have ⟨⟨dx, sys, tb, lt, es, h1, h2, h3, h4, h5⟩⟩ := hM
    refine ⟨_, rfl, rfl, _, rfl, ?_⟩
    cases hn : need with
    | zero =>
      refine iteTb (by decide +kernel) ?_
      exact hQ H (ButX.refl K m H) (by rw [if_pos hn]; exact hM)
    | succ n' =>
      have hne : ¬ need = 0 := by omega
      rw [if_neg hne, hn] at hQ
      refine iteFb (decide_eq_false fun e => by have := V.int.inj e; omega) ?_
      -- before
      refine ⟨_, rfl, m, dx, _, rfl, h1, m, dx, _, _, rfl, h1, rfl, ?_⟩
      refine ⟨_, rfl, m, dx, _, rfl, h1, m, dx, _, _, rfl, h1, rfl, ?_⟩
      refine ⟨_, rfl, m, dx, _, rfl, h1, rfl, m, dx, lt, _, _, rfl, h1, rfl, h4, les h5, fun q hq => ⟨(by show 3 ≤ sizeLine; decide), fun t ht => ?_⟩⟩
      have s1 := same_upd (o := .lst (rV es)) hq
      have s2 := same_upd (o := .tup [.ref tb, .int (cnt : Nat), .ref q]) ht
      have s12 := Same.trans s1 s2
      refine ⟨t, memoD b cnt log, rfl, .tup sqT_upd (.cons (.tup (.inl (.inl (s12 _ _ h3))) (dpAll_b b)) (.cons (.int _) (.cons (.lst (.inl (.inl (s2 _ _ upd_same))) (dp_evs (h5.mono (same_sk s12)))) .nil))), dok.sh, dok.nd, Nat.le_trans dok.dp (by decide), dok_len dok (by decide), ?_⟩
      have hM2 := hM.same s12
      show (tSeq _ _) _ _ (upd (upd H q (.lst (rV es))) t (.tup [.ref tb, .int (cnt : Nat), .ref q]))
      generalize upd (upd H q (.lst (rV es))) t (.tup [.ref tb, .int (cnt : Nat), .ref q]) = H2 at *
      -- set_limit
      have ⟨⟨dx2, sys2, tb2, lt2, es2, g1, g2, g3, g4, g5⟩⟩ := hM2
      have en : ((n' + 1 : Nat) : Int) - 1 = (n' : Nat) := by omega
      refine ⟨_, rfl, m, dx2, _, rfl, g1, rfl, _, rfl, _, _, rfl, rfl, m, S, b, cnt, log, lim, some n', by show [_, V.int (((n' + 1 : Nat) : Int) - 1)] = _; rw [en]; rfl, hM2, fun H3 k3 hM3 => ?_⟩
      have b03 : ButX K m H H3 := ⟨(same_sk s12).trans k3.sk, fun a o n h => k3.kp a o n (s12 _ _ h)⟩
      have ⟨⟨dx3, sys3, tb3, lt3, es3, i1, i2, i3, i4, i5⟩⟩ := hM3
      -- try
      refine ⟨_, rfl, m, dx3, _, rfl, i1, rfl, _, rfl, m, S, rk, bs, b, cnt, log, some n', c, rfl, hM3, ok, bok, hc, fun hfit => ?_, fun _ d H4 L eL s4 hd => ?_⟩
      · have := hfit n' rfl
        omega
      · cases eL
        refine ⟨true, T.e_tm, fun _ a ha => ?_, fun z => Bool.noConfusion z⟩
        refine ⟨_, rfl, rfl, rfl, d, _, _, rfl, hd, rfl, _, rfl, _, _, rfl, rfl, rfl, ?_⟩
        have hM4 := hM3.same s4
        have b04 := b03.same s4
        have ⟨⟨dx4, sys4, tb4, lt4, es4, j1, j2, j3, j4, j5⟩⟩ := hM4
        -- set_limit
        refine ⟨_, rfl, m, dx4, _, rfl, j1, rfl, _, rfl, m, S, b, cnt, log, some n', some (n' + 1), rfl, hM4, fun H5 k5 hM5 => ?_⟩
        have b05 : ButX K m H H5 := ⟨b04.sk.trans k5.sk, fun a o n h => k5.kp a o n (b04.kp a o n h)⟩
        have ⟨⟨dx5, sys5, tb5, lt5, es5, l1, l2, l3, l4, l5⟩⟩ := hM5
        refine ⟨_, rfl, true, congrArg V.bl (decide_eq_true (by show V.int (n' : Nat) = V.int (((n' + 1 : Nat) : Int) - 1); rw [en])), iteT ?_⟩
        refine ⟨_, rfl, m, dx5, _, rfl, l1, m, dx5, _, _, rfl, l1, rfl, ?_⟩
        refine ⟨_, rfl, m, dx5, _, rfl, l1, m, dx5, _, _, rfl, l1, rfl, ?_⟩
        refine ⟨_, rfl, m, dx5, _, rfl, l1, rfl, m, dx5, lt5, _, _, rfl, l1, rfl, l4, les l5, fun q hq => ⟨(by show 3 ≤ sizeLine; decide), fun t ht => ?_⟩⟩
        have s6 := same_upd (o := .lst (rV es5)) hq
        have s7 := same_upd (o := .tup [.ref tb5, .int (cnt : Nat), .ref q]) ht
        have s67 := Same.trans s6 s7
        refine ⟨t, memoD b cnt log, rfl, .tup sqT_upd (.cons (.tup (.inl (.inl (s67 _ _ l3))) (dpAll_b b)) (.cons (.int _) (.cons (.lst (.inl (.inl (s7 _ _ upd_same))) (dp_evs (l5.mono (same_sk s67)))) .nil))), dok.sh, dok.nd, Nat.le_trans dok.dp (by decide), dok_len dok (by decide), ?_⟩
        exact ⟨_, rfl, rfl, q_bl (decide_eq_true rfl) (hQ _ (b05.same s67) (hM5.same s67))⟩
end
end KW
/-! The walk, part 34: repr of an exact table; the law's late cell. -/
namespace KW
open PySem PySem.Spec PyProof.Rows L2 KR K19 StX
section
variable {P : Program} {w : World} {K : PySem.W.Frag} {mg : PySem.Str → Option Value} {base : Heap}
def spRepr (K : PySem.W.Frag) : Sp := fun vs H Q _ => ∃ (m : Addr) (S : Sys) (b : Board) (cnt : Nat) (log : List Ev) (lim : Option Nat), vs = [.ref m] ∧ MemoAt K H true m S b cnt log lim ∧ S.length = 5 ∧ Q (.str "KeepExact(5 cells)") H
theorem ok_KeepExact_repr (T : Txt K mg) : FD P w K mg base CX0 3 d_KeepExact_repr ["self"] (spRepr K) := by
  have F := cmf T true
  refine fd_of T.d_KeepExact_repr sc_KeepExact_repr (fun vs H Q E h => ?_) (fun cdv A outer s H vs Q E hr h => ?_)
  · obtain ⟨m, S, b, cnt, log, lim, rfl, _⟩ := h
    rfl
  · obtain ⟨m, S, b, cnt, log, lim, rfl, ⟨⟨dx, sys, tb, lt, es, h1, h2, h3, h4, h5⟩⟩, hS, hQ⟩ := h
    refine ⟨_, (pss_one (ps_ret (pe_joined (.cons pe_str (.cons (pe_fmt (pe_callB (call_lenD (ok_System_len T) T.m_System_len hr rfl b_System_len) rfl T.f_len boot_len (pa_cons (pe_fldK K rfl (pv 0) rfl) pa_nil))) (.cons pe_str .nil)))))), ?_⟩
    have ⟨dxs, ts, pss, hs1, _⟩ := h2
    refine ⟨_, rfl, (by decide +kernel), _, rfl, m, _, dx, _, _, rfl, h1, F.c, F.present, rfl, sys, dxs, _, rfl, hs1, sys, S, rfl, h2, S.length, rfl, by omega, .inr ⟨5, by rw [hS]; rfl, by decide, _, rfl, (by decide +kernel), _, rfl, (by decide +kernel), ?_⟩⟩
    have e : (PySem.Str.empty ++ ("KeepExact(" : PySem.Str) ++ PySem.Str.ofString (toString (5 : Int)) ++ (" cells)" : PySem.Str)) = "KeepExact(5 cells)" := by decide +kernel
    show Q (.str (PySem.Str.empty ++ ("KeepExact(" : PySem.Str) ++ PySem.Str.ofString (toString (5 : Int)) ++ (" cells)" : PySem.Str))) H
    rw [e]
    exact hQ
def lateS : Sys := [⟨[1, 2, 3], .lv .max 0, 0⟩, ⟨[3], .lv .max 0, 0⟩, ⟨[3], .lv .sum 1, 0⟩, ⟨[4, 1], .lv .sum 1, 0⟩, ⟨[2], .lv .max 0, 0⟩]
theorem late_ok : SysOk lateS (fun _ => 0) 6 := by
  have all : ∀ c, c < lateS.length → (Sys.at lateS c).ops.length ≤ 8 ∧ (Sys.at lateS c).ops.Nodup ∧ (∀ o ∈ (Sys.at lateS c).ops, o < lateS.length) ∧ FnOk1 (Sys.at lateS c).fn ∧ Lev (Sys.at lateS c).g := fun c hc => by
    match c, hc with
    | 0, _ => exact ⟨by decide, by decide, by decide, by unfold FnOk1; show Lev 0; unfold Lev; decide, by show Lev 0; unfold Lev; decide⟩
    | 1, _ => exact ⟨by decide, by decide, by decide, by unfold FnOk1; show Lev 0; unfold Lev; decide, by show Lev 0; unfold Lev; decide⟩
    | 2, _ => exact ⟨by decide, by decide, by decide, by unfold FnOk1; show Lev 1; unfold Lev; decide, by show Lev 0; unfold Lev; decide⟩
    | 3, _ => exact ⟨by decide, by decide, by decide, by unfold FnOk1; show Lev 1; unfold Lev; decide, by show Lev 0; unfold Lev; decide⟩
    | 4, _ => exact ⟨by decide, by decide, by decide, by unfold FnOk1; show Lev 0; unfold Lev; decide, by show Lev 0; unfold Lev; decide⟩
    | n + 5, h => exact absurd h (by show ¬ n + 5 < 5; omega)
  exact ⟨by decide, by decide, by decide, fun c hc => (all c hc).1, fun c hc => (all c hc).2.1, fun c hc => (all c hc).2.2.1, fun c hc o ho => Nat.le_refl _, fun r => Nat.le_trans (List.length_filter_le _ _) (by decide), fun c hc => (all c hc).2.2.2.1, fun c hc => (all c hc).2.2.2.2⟩
theorem late_val : (M true lateS 13 ⟨List.replicate lateS.length none, 0, [], []⟩ [] 0).1.val = 7 := by decide +kernel
theorem late_val0 : (M false lateS 13 ⟨List.replicate lateS.length none, 0, [], []⟩ [] 0).1.val = 7 := by decide +kernel
theorem kbn_plain {x qual : PySem.Str} {params : Arguments} {bd : List Stmt} {scope : Scope} {kws : List (PySem.Str × V)} {f : Addr} {fd : FuncData} {ps : List PySem.Str} (F : FunD K x qual params bd scope [] kws f fd) (n : Nat) (ks : List PySem.Str)
    (h : ∀ (kV doc pm : Value) (an : Option Addr) (cdv ct : Value) (us ws : List Value), us.length = n → ws.length = ks.length → bindArgs (PySem.W.fnOf x qual params bd scope .none kV doc pm an cdv ct) ⟨us, ks.zip ws⟩ = pure (ps.zip (us ++ ws))) : KBn K fd ps n ks (fun us ws => us ++ ws) (fun vs zs => vs ++ zs) := by
  obtain ⟨oc, od, dV, kV, doc, pm, an, cdv, ct, osl, rfl, lk, hcd, hD, hK⟩ := F.ex
  rcases hD with ⟨_, rfl⟩ | ⟨e, _⟩
  · exact ⟨fun s us ws _ l1 l2 => .of_eq (h kV doc pm an cdv ct us ws l1 l2), fun r1 r2 => r1.append r2⟩
  · exact absurd rfl e
theorem mk_trip {H : Hp} {ops : List Nat} {k : Kd} {c g : Int} {o f t : Addr} (ho : H o = none) (hf : upd H o (.tup (lV ops)) f = none) (ht : upd (upd H o (.tup (lV ops))) f (.tup [.str (kName k), .int c]) t = none) :
    Trip K (upd (upd (upd H o (.tup (lV ops))) f (.tup [.str (kName k), .int c])) t (.tup [.ref o, .ref f, .int g])) t ⟨ops, .lv k c, g⟩ ∧ Same H (upd (upd (upd H o (.tup (lV ops))) f (.tup [.str (kName k), .int c])) t (.tup [.ref o, .ref f, .int g])) :=
  ⟨⟨o, f, upd_same, same_tk (Same.trans (same_upd hf) (same_upd ht)) _ _ sqT_upd, same_tk (same_upd ht) _ _ sqT_upd⟩, Same.trans (same_upd ho) (Same.trans (same_upd hf) (same_upd ht))⟩
def spLate : Sp := fun vs _ Q _ => vs = [] ∧ ∀ H', Q (.bl true) H'
theorem ok__law_late_right (T : Txt K mg) (TS : TxtS P K) (KB : K.In base) : FD P w K mg base CX0 50 d__law_late_right [] spLate := by
  have F := cmf T true
  obtain ⟨i1, iF, iG⟩ := (ok_Memo_init (P := P) (w := w) (base := base) T true).ex
  obtain ⟨j1, jF, jG⟩ := (ok_Memo_init (P := P) (w := w) (base := base) T false).ex
  obtain ⟨a1, aF, aG⟩ := (ok_Memo_ask (w := w) T TS KB true).ex
  obtain ⟨c1, cF, cG⟩ := (ok_Memo_ask (w := w) T TS KB false).ex
  obtain ⟨mc, q, cr, cm⟩ := T.cm_System
  obtain ⟨vc, u, vr, vv⟩ := T.cv_KeepExact
  obtain ⟨o1, oF, oG⟩ := (ok_System_of (P := P) (w := w) (base := base) T).ex
  have oR := oG.raw (FunD.bindsN oF b_System_of) .nil
  have iK : KBn K i1 ["self", "system"] 1 ["system"] (fun us ws => us ++ ws) (fun vs zs => vs ++ zs) :=
    kbn_plain iF 1 ["system"] fun kV doc pm an cdv ct us ws l1 l2 => match us, ws, l1, l2 with
      | [_], [_], _, _ => rfl
  refine fd_of T.d__law_late_right sc__law_late_right (fun vs H Q E h => ?_) (fun cdv A outer s H vs Q E hr h => ?_)
  · obtain ⟨rfl, _⟩ := h
    rfl
  · obtain ⟨rfl, hQ⟩ := h
    have hu := Room.u64 hr
    refine ⟨_, (pss_cons (ps_set (i := 0) sc__law_late_right.nd rfl (by first | exact Or.inl rfl | exact Or.inr rfl | exact Or.inr (Or.inl rfl)) (pe_lst (pa_cons (pe_tup (pa_cons (pe_tup (pa_cons pe_int (pa_cons pe_int (pa_cons pe_int pa_nil)))) (pa_cons (pe_tup (pa_cons pe_str (pa_cons pe_int pa_nil))) (pa_cons pe_int pa_nil)))) (pa_cons (pe_tup (pa_cons (pe_tup (pa_cons pe_int pa_nil)) (pa_cons (pe_tup (pa_cons pe_str (pa_cons pe_int pa_nil))) (pa_cons pe_int pa_nil)))) (pa_cons (pe_tup (pa_cons (pe_tup (pa_cons pe_int pa_nil)) (pa_cons (pe_tup (pa_cons pe_str (pa_cons pe_int pa_nil))) (pa_cons pe_int pa_nil)))) (pa_cons (pe_tup (pa_cons (pe_tup (pa_cons pe_int (pa_cons pe_int pa_nil))) (pa_cons (pe_tup (pa_cons pe_str (pa_cons pe_int pa_nil))) (pa_cons pe_int pa_nil)))) pa_nil)))))) (pss_cons (ps_expr (pe_bm PySem.F.plainAttrs_list PySem.F.slot_list_append PySem.F.type_list_append mt_append (pv 0) (pa_cons (pe_tup (pa_cons (pe_tup (pa_cons pe_int pa_nil)) (pa_cons (pe_tup (pa_cons pe_str (pa_cons pe_int pa_nil))) (pa_cons pe_int pa_nil)))) pa_nil))) (pss_cons (ps_set (i := 1) sc__law_late_right.nd rfl (by first | exact Or.inl rfl | exact Or.inr rfl | exact Or.inr (Or.inl rfl)) (pe_makeK0 T.k_KeepExact iG (hr.mono (by decide)) rfl T.g_KeepExact iK pass0 (pk_cons (ClX.pe_cmeth (pe_gref rfl T.g_System) cr cm oR (hr.mono (by decide)) pass0 (pa_cons (pv 0) pa_nil)) pk_nil))) (pss_cons (ps_set (i := 2) sc__law_late_right.nd rfl (by first | exact Or.inl rfl | exact Or.inr rfl | exact Or.inr (Or.inl rfl)) (pe_make T.k_KeepClean jG (hr.mono (by decide)) rfl T.g_KeepClean (FunD.bindsN jF b_Memo_init) .nil pass0 (pa_cons (ClX.pe_cmeth (pe_gref rfl T.g_System) cr cm oR (hr.mono (by decide)) pass0 (pa_cons (pv 0) pa_nil)) pa_nil))) (pss_cons (ps_set (i := 3) sc__law_late_right.nd rfl (by first | exact Or.inl rfl | exact Or.inr rfl | exact Or.inr (Or.inl rfl)) (pe_lst (pa_cons (pe_and (pe_callB (call_isiK' K rfl) rfl T.f_isinstance boot_isinstance (pa_cons (pv 1) (pa_cons (pe_gref rfl T.g_KeepClean) pa_nil))) (pe_one (pe_callB (call_isiK' K rfl) rfl T.f_isinstance boot_isinstance (pa_cons (pv 1) (pa_cons (pe_gref rfl T.g_Memo) pa_nil))))) (pa_cons (pe_callB (call_isiK' K rfl) rfl T.f_isinstance boot_isinstance (pa_cons (pv 2) (pa_cons (pe_gref rfl T.g_KeepExact) pa_nil))) pa_nil)))) (pss_cons (ps_if (PW.pt (pw_or (pt_cmpR (op_neDK K rfl hu) (pe_lst (pa_cons (pe_meth (pv 1) T.c_KeepExact T.m_KeepExact_ask aG (hr.mono (by decide)) (FunD.bindsN aF b_Memo_ask) .nil passE0 (pa_cons pe_int pa_nil)) (pa_cons (pe_meth (pv 2) T.c_KeepClean T.m_KeepClean_ask cG (hr.mono (by decide)) (FunD.bindsN cF b_Memo_ask) .nil passE0 (pa_cons pe_int pa_nil)) pa_nil))) (pe_lst (pa_cons pe_int (pa_cons pe_int pa_nil))) (nomark _)) (pw_or1 (pt_cmpR (op_neDK K rfl hu) (pv 3) (pe_lst (pa_cons pe_bl (pa_cons pe_bl pa_nil))) (nomark _))))) (pss_one (ps_ret pe_bl)) pss_nil) (pss_one (ps_ret (pe_and (pe_cmpR op_eq (pe_callB (call_reprD (ok_KeepExact_repr T) T.m_KeepExact_repr hr rfl b_KeepExact_repr) rfl T.f_repr boot_repr (pa_cons (pv 1) pa_nil)) pe_str (nomark _)) (pe_one (pe_cmpR op_eq (ClX.pe_cval (pe_gref rfl T.g_KeepExact)) pe_str (nomark _)))))))))))), ?_⟩
    refine ⟨(by show 3 ≤ sizeLine; decide), fun o1 ho1 => ⟨(by show 2 ≤ sizeLine; decide), fun f1 hf1 => ⟨(by show 3 ≤ sizeLine; decide), fun t1 ht1 => ?_⟩⟩⟩
    have w1 := mk_trip (K := K) (ops := [1, 2, 3]) (k := .max) (c := 0) (g := 0) ho1 hf1 ht1
    have x1 : Trip K (upd (upd (upd H o1 (.tup [.int 1, .int 2, .int 3])) f1 (.tup [.str "max", .int 0])) t1 (.tup [.ref o1, .ref f1, .int 0])) t1 ⟨[1, 2, 3], .lv .max 0, 0⟩ := w1.1
    have s1 : Same H (upd (upd (upd H o1 (.tup [.int 1, .int 2, .int 3])) f1 (.tup [.str "max", .int 0])) t1 (.tup [.ref o1, .ref f1, .int 0])) := w1.2
    clear w1
    generalize upd (upd (upd H o1 (.tup [.int 1, .int 2, .int 3])) f1 (.tup [.str "max", .int 0])) t1 (.tup [.ref o1, .ref f1, .int 0]) = G1 at *
    refine ⟨(by show 1 ≤ sizeLine; decide), fun o2 ho2 => ⟨(by show 2 ≤ sizeLine; decide), fun f2 hf2 => ⟨(by show 3 ≤ sizeLine; decide), fun t2 ht2 => ?_⟩⟩⟩
    have w2 := mk_trip (K := K) (ops := [3]) (k := .max) (c := 0) (g := 0) ho2 hf2 ht2
    have x2 : Trip K (upd (upd (upd G1 o2 (.tup [.int 3])) f2 (.tup [.str "max", .int 0])) t2 (.tup [.ref o2, .ref f2, .int 0])) t2 ⟨[3], .lv .max 0, 0⟩ := w2.1
    have s2 : Same G1 (upd (upd (upd G1 o2 (.tup [.int 3])) f2 (.tup [.str "max", .int 0])) t2 (.tup [.ref o2, .ref f2, .int 0])) := w2.2
    clear w2
    generalize upd (upd (upd G1 o2 (.tup [.int 3])) f2 (.tup [.str "max", .int 0])) t2 (.tup [.ref o2, .ref f2, .int 0]) = G2 at *
    refine ⟨(by show 1 ≤ sizeLine; decide), fun o3 ho3 => ⟨(by show 2 ≤ sizeLine; decide), fun f3 hf3 => ⟨(by show 3 ≤ sizeLine; decide), fun t3 ht3 => ?_⟩⟩⟩
    have w3 := mk_trip (K := K) (ops := [3]) (k := .sum) (c := 1) (g := 0) ho3 hf3 ht3
    have x3 : Trip K (upd (upd (upd G2 o3 (.tup [.int 3])) f3 (.tup [.str "sum", .int 1])) t3 (.tup [.ref o3, .ref f3, .int 0])) t3 ⟨[3], .lv .sum 1, 0⟩ := w3.1
    have s3 : Same G2 (upd (upd (upd G2 o3 (.tup [.int 3])) f3 (.tup [.str "sum", .int 1])) t3 (.tup [.ref o3, .ref f3, .int 0])) := w3.2
    clear w3
    generalize upd (upd (upd G2 o3 (.tup [.int 3])) f3 (.tup [.str "sum", .int 1])) t3 (.tup [.ref o3, .ref f3, .int 0]) = G3 at *
    refine ⟨(by show 2 ≤ sizeLine; decide), fun o4 ho4 => ⟨(by show 2 ≤ sizeLine; decide), fun f4 hf4 => ⟨(by show 3 ≤ sizeLine; decide), fun t4 ht4 => ?_⟩⟩⟩
    have w4 := mk_trip (K := K) (ops := [4, 1]) (k := .sum) (c := 1) (g := 0) ho4 hf4 ht4
    have x4 : Trip K (upd (upd (upd G3 o4 (.tup [.int 4, .int 1])) f4 (.tup [.str "sum", .int 1])) t4 (.tup [.ref o4, .ref f4, .int 0])) t4 ⟨[4, 1], .lv .sum 1, 0⟩ := w4.1
    have s4 : Same G3 (upd (upd (upd G3 o4 (.tup [.int 4, .int 1])) f4 (.tup [.str "sum", .int 1])) t4 (.tup [.ref o4, .ref f4, .int 0])) := w4.2
    clear w4
    generalize upd (upd (upd G3 o4 (.tup [.int 4, .int 1])) f4 (.tup [.str "sum", .int 1])) t4 (.tup [.ref o4, .ref f4, .int 0]) = G4 at *
    refine ⟨(by show 4 ≤ sizeLine; decide), fun l hl => ?_⟩
    have sl := same_upd (o := .lst (rV [t1, t2, t3, t4])) hl
    have l5 : upd G4 l (.lst (rV [t1, t2, t3, t4])) l = some (.lst (rV [t1, t2, t3, t4])) := upd_same
    show (tSeq _ _) _ _ (upd G4 l (.lst (rV [t1, t2, t3, t4])))
    generalize upd G4 l (.lst (rV [t1, t2, t3, t4])) = G5 at *
    refine ⟨_, rfl, .inl ⟨rfl, _, .inl (.inl l5)⟩, ?_⟩
    refine ⟨(by show 1 ≤ sizeLine; decide), fun o6 ho6 => ⟨(by show 2 ≤ sizeLine; decide), fun f6 hf6 => ⟨(by show 3 ≤ sizeLine; decide), fun t6 ht6 => ?_⟩⟩⟩
    have w6 := mk_trip (K := K) (ops := [2]) (k := .max) (c := 0) (g := 0) ho6 hf6 ht6
    have x6 : Trip K (upd (upd (upd G5 o6 (.tup [.int 2])) f6 (.tup [.str "max", .int 0])) t6 (.tup [.ref o6, .ref f6, .int 0])) t6 ⟨[2], .lv .max 0, 0⟩ := w6.1
    have s6 : Same G5 (upd (upd (upd G5 o6 (.tup [.int 2])) f6 (.tup [.str "max", .int 0])) t6 (.tup [.ref o6, .ref f6, .int 0])) := w6.2
    clear w6
    generalize upd (upd (upd G5 o6 (.tup [.int 2])) f6 (.tup [.str "max", .int 0])) t6 (.tup [.ref o6, .ref f6, .int 0]) = G6 at *
    have l6 := s6 _ _ l5
    refine ⟨l, _, _, rfl, rfl, l6, (by show 4 < sizeLine; decide), ?_⟩
    have sk7 : SK K G6 (upd G6 l (.lst (rV [t1, t2, t3, t4] ++ [.ref t6]))) := .upd l6 (fun z => z)
    have l7 : upd G6 l (.lst (rV [t1, t2, t3, t4] ++ [.ref t6])) l = some (.lst (rV [t1, t2, t3, t4, t6])) := upd_same
    show (tSeq _ _) _ _ (upd G6 l (.lst (rV [t1, t2, t3, t4] ++ [.ref t6])))
    generalize upd G6 l (.lst (rV [t1, t2, t3, t4] ++ [.ref t6])) = G7 at *
    have s46 := Same.trans sl s6
    have y4 := ((x4.mono (same_sk s46)).mono sk7)
    have y3 := ((x3.mono (same_sk (Same.trans s4 s46))).mono sk7)
    have y2 := ((x2.mono (same_sk (Same.trans s3 (Same.trans s4 s46)))).mono sk7)
    have y1 := ((x1.mono (same_sk (Same.trans s2 (Same.trans s3 (Same.trans s4 s46))))).mono sk7)
    have y6 := x6.mono sk7
    have tr : Trips K G7 [t1, t2, t3, t4, t6] lateS := ⟨rfl, fun i p hp => match i, hp with
      | 0, hp => by cases hp; exact y1
      | 1, hp => by cases hp; exact y2
      | 2, hp => by cases hp; exact y3
      | 3, hp => by cases hp; exact y4
      | 4, hp => by cases hp; exact y6
      | n + 5, hp => by simp at hp⟩
    have sok := sok_of late_ok
    -- KeepExact(system=System.of(late))
    refine ⟨rfl, _, rfl, l, _, lateS, rfl, .inr (.inl (.inl l7)), tr, sok, fun sy G8 s8 hsy hS8 => ⟨rfl, rfl, fun x dx hx hdx ne => ?_⟩⟩
    have sm := made_same (C := He.ga K "KeepExact") hx hdx ne
    refine ⟨x, dx, sy, lateS, (fun _ => 0), 6, rfl, upd_same, hS8.mono (same_sk sm), late_ok, fun G9 k9 hM9 => ⟨rfl, ?_⟩⟩
    have s9 := butx_same hx hdx ne k9
    have l9 := s9 _ _ (s8 _ _ l7)
    have tr9 := tr.mono (same_sk (Same.trans s8 s9))
    -- KeepClean(System.of(late))
    refine ⟨rfl, _, rfl, l, _, lateS, rfl, .inr (.inl (.inl l9)), tr9, sok, fun sy2 G10 s10 hsy2 hS10 => fun x2 dx2 hx2 hdx2 ne2 => ?_⟩
    have sm2 := made_same (C := He.ga K "KeepClean") hx2 hdx2 ne2
    refine ⟨x2, dx2, sy2, lateS, (fun _ => 0), 6, rfl, upd_same, hS10.mono (same_sk sm2), late_ok, fun G11 k11 hM11 => ⟨rfl, ?_⟩⟩
    have s11 := butx_same hx2 hdx2 ne2 k11
    have hE := hM9.same (Same.trans s10 s11)
    have ⟨⟨dy, sy', tb, lt, es, e1, e2, e3, e4, e5⟩⟩ := hE
    have ⟨⟨dz, sz', tbz, ltz, esz, c1', c2, c3, c4, c5⟩⟩ := hM11
    have x12 : x2 ≠ x := fun e => by rw [e, (hM9.same s10).ex.choose_spec.choose_spec.choose_spec.choose_spec.choose_spec.1] at hx2; cases hx2
    have bokL : BoardOk lateS (List.replicate lateS.length none) := ⟨by rw [List.length_replicate], fun c v h => by
      unfold bat at h
      rw [List.getD_eq_getElem?_getD, List.getElem?_replicate] at h
      split at h <;> cases h⟩
    -- both
    refine ⟨_, rfl, _, _, _, _, true, rfl, .own _, T.ty_KeepExact _ _ _ _ e1, T.ki_KeepExact_KeepClean, true, rfl, iteT ?_⟩
    refine ⟨_, rfl, _, _, _, _, true, rfl, .own _, T.ty_KeepExact _ _ _ _ e1, T.ki_KeepExact_Memo, ?_⟩
    refine ⟨_, rfl, _, _, _, _, false, rfl, .own _, T.ty_KeepClean _ _ _ _ c1', T.ki_KeepClean_KeepExact, (by show 2 ≤ sizeLine; decide), fun bo hbo => ?_⟩
    have sb := same_upd (o := .lst [.bl true, .bl false]) hbo
    have bo1 : upd G11 bo (.lst [.bl true, .bl false]) bo = some (.lst [.bl true, .bl false]) := upd_same
    have hE1 := hE.same sb
    have hC1 := hM11.same sb
    show (tSeq _ _) _ _ (upd G11 bo (.lst [.bl true, .bl false]))
    generalize upd G11 bo (.lst [.bl true, .bl false]) = G12 at *
    have ⟨⟨dy1, sy1, tb1, lt1, es1, f1', f2, f3, f4, f5⟩⟩ := hE1
    have lim0 : ∀ n, fitsL none n := fun n L e => by cases e
    -- the asks
    refine ⟨_, rfl, x, dy1, _, rfl, f1', rfl, x, lateS, (fun _ => 0), 6, List.replicate lateS.length none, 0, [], none, 0, rfl, hE1, late_ok, bokL, (by decide), fun _ G13 k13 hE2 => ?_, fun nf => absurd (lim0 _) nf⟩
    have hC2 := hC1.but k13 x12 f1'
    have bo2 := k13.kp _ _ (ne_of bo1 f1' (by simp)) bo1
    have ⟨⟨dz2, sz2, tbz2, ltz2, esz2, g1, g2, g3, g4, g5⟩⟩ := hC2
    refine ⟨_, rfl, x2, dz2, _, rfl, g1, rfl, x2, lateS, (fun _ => 0), 6, List.replicate lateS.length none, 0, [], none, 0, rfl, hC2, late_ok, bokL, (by decide), fun _ G14 k14 hC3 => ?_, fun nf => absurd (lim0 _) nf⟩
    have hE3 := hE2.but k14 (Ne.symm x12) g1
    have bo3 := k14.kp _ _ (ne_of bo2 g1 (by simp)) bo2
    rw [late_val, late_val0]
    refine ⟨(by show 2 ≤ sizeLine; decide), fun l1 hl1 => ⟨(by show 2 ≤ sizeLine; decide), fun l2 hl2 => ?_⟩⟩
    have t1' := same_upd (o := .lst [.int 7, .int 7]) hl1
    have t2' := same_upd (o := .lst [.int 7, .int 7]) hl2
    have t12 := Same.trans t1' t2'
    refine ⟨dL [7, 7], dL [7, 7], dp_lst (.inl (.inl (t2' _ _ upd_same))), dp_lst (.inl (.inl upd_same)), sh_dL _, sh_dL _, _, rfl, ?_⟩
    rw [eqv_dL]
    have bo4 := t12 _ _ bo3
    have hE4 := hE3.same t12
    generalize upd (upd G14 l1 (.lst [.int 7, .int 7])) l2 (.lst [.int 7, .int 7]) = G15 at *
    refine iteFb (by decide) ?_
    refine ⟨_, rfl, (by show 2 ≤ sizeLine; decide), fun l3 hl3 => ?_⟩
    have t3' := same_upd (o := .lst [.bl true, .bl false]) hl3
    refine ⟨.list [.bool true, .bool false], .list [.bool true, .bool false], .lst (.inl (.inl (t3' _ _ bo4))) (.cons (.bl _) (.cons (.bl _) .nil)), .lst (.inl (.inl upd_same)) (.cons (.bl _) (.cons (.bl _) .nil)), by decide +kernel, by decide +kernel, _, rfl, ?_⟩
    have hE5 := hE4.same t3'
    generalize upd G15 l3 (.lst [.bl true, .bl false]) = G16 at *
    refine iteFb (by rw [SeqAt.eqv_refl _ (by decide +kernel)]; rfl) ?_
    -- repr, POLICY
    have ⟨⟨dy5, sy5, tb5, lt5, es5, k1, k2, k3, k4, k5⟩⟩ := hE5
    refine ⟨_, rfl, x, _, _, rfl, k1, x, lateS, _, _, _, _, rfl, hE5, rfl, _, rfl, rfl, true, congrArg V.bl (decide_eq_true rfl), iteT ?_⟩
    refine ⟨_, vc, _, u, rfl, vr, vv, rfl, q_bl (decide_eq_true rfl) (hQ _)⟩
end
end KW
/-! The walk, part 35: what the law compares, in plain words. -/
namespace KW
open PySem PySem.Spec PyProof.Rows L2 KR K19 StX
section
variable {S : Sys} {rk : Nat → Nat} {bs c : Nat} {b : Board}
theorem ask_taint (ok : SysOk S rk bs) (hc : c < S.length) (bok : BoardOk S b) (ex : Bool) : (M ex S 13 ⟨b, 0, [], []⟩ [] c).1.taint = [] :=
  List.eq_nil_iff_forall_not_mem.mpr fun x hx => absurd ((ask_ok ok hc bok ex).tB x hx) List.not_mem_nil
theorem ask_kept (ok : SysOk S rk bs) (hc : c < S.length) (bok : BoardOk S b) (ex : Bool) : bat (M ex S 13 ⟨b, 0, [], []⟩ [] c).2.board c = some (M ex S 13 ⟨b, 0, [], []⟩ [] c).1.val := (ask_ok ok hc bok ex).kept (ask_taint ok hc bok ex)
theorem ask_again {v : Int} (h : bat b c = some v) (ex : Bool) : M ex S 13 ⟨b, 0, [], []⟩ [] c = (⟨v, [], []⟩, ⟨b, 0, [.stored c v], []⟩) := by
  show callB _ _ _ _ _ _ = _
  unfold callB
  rw [h]
  rfl
theorem ask_begun (ok : SysOk S rk bs) (hc : c < S.length) (bok : BoardOk S b) (ex : Bool) : (M ex S 13 ⟨b, 0, [], []⟩ [] c).2.begun = calls (M ex S 13 ⟨b, 0, [], []⟩ [] c).2.log ∧ ∀ e ∈ (M ex S 13 ⟨b, 0, [], []⟩ [] c).2.log, EvOk S.length e := by
  obtain ⟨seg, h1, h2, h3⟩ := ask_calls (ex := ex) ok (f := 13) (B := []) (by have := ok.len; simp; omega) (ask_pre (rk := rk) hc bok)
  rw [h1, h2]
  exact ⟨by simp, h3⟩
theorem ask_small (ok : SysOk S rk bs) (hc : c < S.length) (bok : BoardOk S b) (ex : Bool) : (M ex S 13 ⟨b, 0, [], []⟩ [] c).2.begun ≤ 42380 := by
  rw [(ask_begun ok hc bok ex).1]
  exact Nat.le_trans List.countP_le_length (ask_log ok hc bok ex)
theorem ask_two (ok : SysOk S rk bs) (hc : c < S.length) (bok : BoardOk S b) : (M false S 13 ⟨b, 0, [], []⟩ [] c).1.val = (M true S 13 ⟨b, 0, [], []⟩ [] c).1.val ∧ (M false S 13 ⟨b, 0, [], []⟩ [] c).2.board = (M true S 13 ⟨b, 0, [], []⟩ [] c).2.board ∧ (M true S 13 ⟨b, 0, [], []⟩ [] c).2.begun ≤ (M false S 13 ⟨b, 0, [], []⟩ [] c).2.begun := by
  have hl : S.length < 13 + ([] : List Nat).length := by have := ok.len; simp; omega
  have s1 := M_sim (ex := false) ok 13 ⟨b, 0, [], []⟩ [] c hl (ask_pre hc bok) (fun _ h => absurd h List.not_mem_nil)
  have s2 := M_sim (ex := true) ok 13 ⟨b, 0, [], []⟩ [] c hl (ask_pre hc bok) (fun _ h => absurd h List.not_mem_nil)
  exact ⟨s1.val.symm.trans s2.val, s1.board.symm.trans s2.board, by have a := s1.eq rfl; have d := s2.le; omega⟩
theorem ask_lok (ok : SysOk S rk bs) (hc : c < S.length) (bok : BoardOk S b) : lok S rk 13 b [] (M true S 13 ⟨b, 0, [], []⟩ [] c).2.log := by
  have hl : S.length < 13 + ([] : List Nat).length := by have := ok.len; simp; omega
  obtain ⟨seg, h1, h2⟩ := M_lok (fu := 13) ok (by have := ok.len; omega) 13 ⟨b, 0, [], []⟩ [] c hl (ask_pre hc bok) (fun _ h => absurd h List.not_mem_nil)
  have := h2 [] trivial
  rw [List.append_nil] at this
  have e : (M true S 13 ⟨b, 0, [], []⟩ [] c).2.log = seg := h1
  rw [e]
  exact this
def begs (S : Sys) : Board → List Nat → List Nat
  | _, [] => []
  | b, c :: cs => (M true S 13 ⟨b, 0, [], []⟩ [] c).2.begun :: begs S (M true S 13 ⟨b, 0, [], []⟩ [] c).2.board cs
theorem asks_two (ok : SysOk S rk bs) : ∀ (l : List Nat) (b : Board) (c1 c2 : Nat) (l1 l2 : List Ev), BoardOk S b → (∀ c ∈ l, c < S.length) →
    (asks false S b c1 l1 l).1 = (asks true S b c2 l2 l).1 ∧ (asks false S b c1 l1 l).2.1 = (asks true S b c2 l2 l).2.1 ∧ (asks true S b c2 l2 l).2.2.1 + c1 ≤ (asks false S b c1 l1 l).2.2.1 + c2
  | [], b, c1, c2, l1, l2, _, _ => ⟨rfl, rfl, by show c2 + c1 ≤ c1 + c2; omega⟩
  | c :: l, b, c1, c2, l1, l2, bok, hl => by
    have hc := hl c List.mem_cons_self
    obtain ⟨e1, e2, e3⟩ := ask_two ok hc bok
    have bok' := (ask_ok ok hc bok true).mid.bok
    have ih := asks_two ok l (M true S 13 ⟨b, 0, [], []⟩ [] c).2.board (c1 + (M false S 13 ⟨b, 0, [], []⟩ [] c).2.begun) (c2 + (M true S 13 ⟨b, 0, [], []⟩ [] c).2.begun) (M false S 13 ⟨b, 0, [], []⟩ [] c).2.log (M true S 13 ⟨b, 0, [], []⟩ [] c).2.log bok' fun d hd => hl d (List.mem_cons_of_mem _ hd)
    unfold asks
    rw [e1, e2]
    exact ⟨by rw [ih.1], ih.2.1, by have := ih.2.2; dsimp only; omega⟩
theorem asks_ind (ex : Bool) (S : Sys) : ∀ (l : List Nat) (b : Board) (cnt cnt' : Nat) (log log' : List Ev), (asks ex S b cnt log l).1 = (asks ex S b cnt' log' l).1 ∧ (asks ex S b cnt log l).2.1 = (asks ex S b cnt' log' l).2.1 ∧ (l ≠ [] → (asks ex S b cnt log l).2.2.2 = (asks ex S b cnt' log' l).2.2.2)
  | [], b, cnt, cnt', log, log' => ⟨rfl, rfl, fun h => absurd rfl h⟩
  | c :: l, b, cnt, cnt', log, log' => by
    have ih := asks_ind ex S l (M ex S 13 ⟨b, 0, [], []⟩ [] c).2.board (cnt + (M ex S 13 ⟨b, 0, [], []⟩ [] c).2.begun) (cnt' + (M ex S 13 ⟨b, 0, [], []⟩ [] c).2.begun) (M ex S 13 ⟨b, 0, [], []⟩ [] c).2.log (M ex S 13 ⟨b, 0, [], []⟩ [] c).2.log
    unfold asks
    refine ⟨by rw [ih.1], ih.2.1, fun _ => ?_⟩
    cases l with
    | nil => rfl
    | cons d l => exact ih.2.2 (by simp)
theorem asks_cnt (S : Sys) : ∀ (l : List Nat) (b : Board) (cnt : Nat) (log : List Ev), (asks true S b cnt log l).2.2.1 = cnt + (begs S b l).sum
  | [], b, cnt, log => by show cnt = cnt + 0; omega
  | c :: l, b, cnt, log => by
    unfold asks begs
    rw [asks_cnt S l, List.sum_cons]
    omega
theorem trail_begs (ok : SysOk S rk bs) : ∀ (l : List Nat) (b : Board), BoardOk S b → (∀ c ∈ l, c < S.length) → (trail S b l).map (fun x => calls x.2) = begs S b l
  | [], b, _, _ => rfl
  | c :: l, b, bok, hl => by
    have hc := hl c List.mem_cons_self
    unfold trail begs
    rw [List.map_cons, trail_begs ok l _ (ask_ok ok hc bok true).mid.bok fun d hd => hl d (List.mem_cons_of_mem _ hd), (ask_begun ok hc bok true).1]
theorem trail_ok (ok : SysOk S rk bs) : ∀ (l : List Nat) (b : Board), BoardOk S b → (∀ c ∈ l, c < S.length) → ∀ x ∈ trail S b l, lok S rk 13 x.1 [] x.2 ∧ x.1.length = S.length ∧ x.2.length ≤ 100000
  | [], b, _, _, x, hx => absurd hx List.not_mem_nil
  | c :: l, b, bok, hl, x, hx => by
    have hc := hl c List.mem_cons_self
    unfold trail at hx
    rcases List.mem_cons.mp hx with rfl | hx
    · exact ⟨ask_lok ok hc bok, bok.len, Nat.le_trans (ask_log ok hc bok true) (by decide)⟩
    · exact trail_ok ok l _ (ask_ok ok hc bok true).mid.bok (fun d hd => hl d (List.mem_cons_of_mem _ hd)) x hx
theorem fit_max {L : Nat} : ∀ (l : List Nat) (b : Board), (∀ x ∈ begs S b l, x ≤ L) → fitAll (some L) true S b l
  | [], b, _ => trivial
  | c :: l, b, h => ⟨fun L' e => by cases e; exact h _ (by unfold begs; exact List.mem_cons_self), fit_max l _ fun x hx => h x (by unfold begs; exact List.mem_cons_of_mem _ hx)⟩
theorem fit_none : ∀ (l : List Nat) (b : Board), fitAll none true S b l
  | [], b => trivial
  | c :: l, b => ⟨(fun L e => nomatch e), fit_none l _⟩
/-- asked twice: the second answer is stored -/
theorem tried_two (ok : SysOk S rk bs) (hc : c < S.length) (bok : BoardOk S b) (cnt : Nat) (log : List Ev) : (asks true S b cnt log [c, c]).1 = [(M true S 13 ⟨b, 0, [], []⟩ [] c).1.val, (M true S 13 ⟨b, 0, [], []⟩ [] c).1.val] := by
  unfold asks asks asks
  rw [ask_again (ask_kept ok hc bok true)]
theorem tried_fit (ok : SysOk S rk bs) (hc : c < S.length) (bok : BoardOk S b) (lim : Option Nat) (h : fitsL lim (M true S 13 ⟨b, 0, [], []⟩ [] c).2.begun) : fitAll lim true S b [c, c] := by
  refine ⟨h, ?_, trivial⟩
  rw [ask_again (ask_kept ok hc bok true)]
  exact fun L _ => Nat.zero_le L
theorem asks_log (ok : SysOk S rk bs) : ∀ (l : List Nat) (b : Board) (cnt : Nat) (log : List Ev), BoardOk S b → (∀ c ∈ l, c < S.length) → log.length ≤ 42380 → (∀ e ∈ log, EvOk S.length e) → (asks true S b cnt log l).2.2.2.length ≤ 42380 ∧ ∀ e ∈ (asks true S b cnt log l).2.2.2, EvOk S.length e
  | [], b, cnt, log, _, _, h1, h2 => ⟨h1, h2⟩
  | c :: l, b, cnt, log, bok, hl, _, _ => by
    have hc := hl c List.mem_cons_self
    exact asks_log ok l _ _ _ (ask_ok ok hc bok true).mid.bok (fun d hd => hl d (List.mem_cons_of_mem _ hd)) (ask_log ok hc bok true) (ask_begun ok hc bok true).2
theorem begs_small (ok : SysOk S rk bs) : ∀ (l : List Nat) (b : Board), BoardOk S b → (∀ c ∈ l, c < S.length) → (begs S b l).sum ≤ 42380 * l.length
  | [], b, _, _ => Nat.zero_le _
  | c :: l, b, bok, hl => by
    have hc := hl c List.mem_cons_self
    have ih := begs_small ok l (M true S 13 ⟨b, 0, [], []⟩ [] c).2.board (ask_ok ok hc bok true).mid.bok fun d hd => hl d (List.mem_cons_of_mem _ hd)
    have := ask_small ok hc bok true
    unfold begs
    rw [List.sum_cons, List.length_cons]
    omega
theorem asks_vals (ok : SysOk S rk bs) : ∀ (l : List Nat) (b : Board) (cnt : Nat) (log : List Ev), BoardOk S b → (∀ c ∈ l, c < S.length) → ∀ v ∈ (asks true S b cnt log l).1, Lev v
  | [], b, _, _, _, _, v, hv => absurd hv List.not_mem_nil
  | c :: l, b, cnt, log, bok, hl, v, hv => by
    have hc := hl c List.mem_cons_self
    unfold asks at hv
    rcases List.mem_cons.mp hv with rfl | hv
    · exact (ask_ok ok hc bok true).lev
    · exact asks_vals ok l _ _ _ (ask_ok ok hc bok true).mid.bok (fun d hd => hl d (List.mem_cons_of_mem _ hd)) v hv
theorem sum_iN : ∀ l : List Nat, (iN l).sum = ((l.sum : Nat) : Int)
  | [] => rfl
  | x :: l => by
    show ((x : Int) + (iN l).sum) = _
    rw [sum_iN l, List.sum_cons]
    omega
end
end KW
/-! The walk, part 36: what the law holds. -/
namespace KW
open PySem PySem.Spec PyProof.Rows L2 KR K19 StX
section
variable {K : PySem.W.Frag} {H H' : Hp} {mg : PySem.Str → Option Value}
theorem lst_ne {a b : Addr} {xs ys : List V} (h1 : H a = some (.lst xs)) (h2 : H b = some (.lst ys)) (n : xs ≠ ys) : a ≠ b := by
  rintro rfl
  rw [h1] at h2
  exact n (HO.lst.inj (Option.some.inj h2))
theorem pen_rV {l : Addr} {t r : Int} {es : List Addr} (h : [V.ref l, .int t, .int r] = rV es) : False := by
  match es, h with
  | [], h => cases h
  | [_], h => cases h
  | _ :: _ :: _, h => cases (List.cons.inj (List.cons.inj h).2).1
theorem bV_rV {bd : Board} {es : List Addr} (hb : bd ≠ []) (h : bd.map bV = rV es) : False := by
  match bd, es, hb, h with
  | [], _, hb, _ => exact hb rfl
  | _ :: _, [], _, h => cases h
  | none :: _, _ :: _, _, h => cases (List.cons.inj h).1
  | some _ :: _, _ :: _, _, h => cases (List.cons.inj h).1
theorem pen_bV {l : Addr} {t r : Int} {bd : Board} (h : [V.ref l, .int t, .int r] = bd.map bV) : False := by
  match bd, h with
  | [], h => cases h
  | none :: _, h => cases (List.cons.inj h).1
  | some _ :: _, h => cases (List.cons.inj h).1
theorem rV_inj : ∀ {a b : List Addr}, rV a = rV b → a = b
  | [], [], _ => rfl
  | [], _ :: _, h => by cases h
  | _ :: _, [], h => by cases h
  | x :: a, y :: b, h => by
    obtain ⟨h1, h2⟩ := List.cons.inj h
    cases h1
    rw [rV_inj h2]
theorem zV_rV {ns : List Int} {ps : List Addr} (hp : ps ≠ []) (h : zV ns = rV ps) : False := by
  match ns, ps, hp, h with
  | _, [], hp, _ => exact hp rfl
  | [], _ :: _, _, h => cases h
  | _ :: _, _ :: _, _, h => cases (List.cons.inj h).1
theorem trip_evT {p : Addr} {c : Cell} {e : Ev} (h : Trip K H p c) (q : EvT K H p e) : False := by
  obtain ⟨o, f, h1, _⟩ := h
  obtain ⟨r, h2⟩ := evT_name q
  rw [h1] at h2
  have := (List.cons.inj (HO.tup.inj (Option.some.inj h2))).1
  cases this
theorem trips_evs {ps es : List Addr} {S : Sys} {log : List Ev} (hp : ps ≠ []) (h : Trips K H ps S) (e : rV ps = rV es) (q : EvsAt K H es log) : False := by
  have e := rV_inj e
  subst e
  cases ps with
  | nil => exact hp rfl
  | cons p ps =>
    cases q with
    | cons hd _ => exact trip_evT (h.2 0 p rfl) hd
/-- a memo stays when one list that is not its own is written -/
theorem MemoAt.kp1 {ex : Bool} {m a : Addr} {S : Sys} {b : Board} {cnt : Nat} {log : List Ev} {lim : Option Nat} {xs : List V} (h : MemoAt K H ex m S b cnt log lim) (k : Kp K [a] H H') (ha : H a = some (.lst xs)) (n : ∀ es, xs = rV es → EvsAt K H es log → False) : MemoAt K H' ex m S b cnt log lim := by
  obtain ⟨⟨dx, sys, tb, lt, es, h1, h2, h3, h4, h5⟩⟩ := h
  have l1 : lt ≠ a := by
    rintro rfl
    rw [h4] at ha
    exact n es (HO.lst.inj (Option.some.inj ha)).symm h5
  exact ⟨⟨dx, sys, tb, lt, es, k.kp _ _ (by simpa using ne_of h1 ha (by simp)) h1, h2.mono k.sk, k.sk _ _ trivial h3, k.kp _ _ (by simpa using l1) h4, h5.mono k.sk⟩⟩
structure LawI (K : PySem.W.Frag) (H : Hp) (p l : Addr) (ns : List Int) (tl : Addr) (ps : List Addr) (St : Sys) (mc : Addr) (Sc : Sys) (bc : Board) (cc : Nat) (lc : List Ev) (me : Addr) (Se : Sys) (be : Board) (ce : Nat) (le : List Ev) (lim : Option Nat) (bo : Addr) (bd : Board) (t rest : Int) : Prop where
  pen : PenAt H p l ns t rest
  htl : H tl = some (.lst (rV ps))
  tr : Trips K H ps St
  hmc : MemoAt K H false mc Sc bc cc lc none
  hme : MemoAt K H true me Se be ce le lim
  hbo : H bo = some (.lst (bd.map bV))
  lb : l ≠ bo
  ps0 : ps ≠ []
  bd0 : bd ≠ []
  mm : mc ≠ me
section
variable {p l tl mc me bo : Addr} {ns : List Int} {ps : List Addr} {St Sc Se : Sys} {bc be bd : Board} {cc ce : Nat} {lc le : List Ev} {lim : Option Nat} {t rest : Int}
theorem LawI.same (h : LawI K H p l ns tl ps St mc Sc bc cc lc me Se be ce le lim bo bd t rest) (s : Same H H') : LawI K H' p l ns tl ps St mc Sc bc cc lc me Se be ce le lim bo bd t rest :=
  ⟨h.pen.same s, s _ _ h.htl, h.tr.mono (same_sk s), h.hmc.same s, h.hme.same s, s _ _ h.hbo, h.lb, h.ps0, h.bd0, h.mm⟩
theorem LawI.pdraw (h : LawI K H p l ns tl ps St mc Sc bc cc lc me Se be ce le lim bo bd t rest) (k : Kp K [p] H H') {t' rest' : Int} (hP : PenAt H' p l ns t' rest') : LawI K H' p l ns tl ps St mc Sc bc cc lc me Se be ce le lim bo bd t' rest' := by
  have n1 : tl ≠ p := Ne.symm (lst_ne h.pen.pen h.htl fun e => pen_rV e)
  have n2 : bo ≠ p := Ne.symm (lst_ne h.pen.pen h.hbo fun e => pen_bV e)
  exact ⟨hP, k.kp _ _ (by simpa using n1) h.htl, h.tr.mono k.sk, h.hmc.kp1 k h.pen.pen fun es e _ => pen_rV e, h.hme.kp1 k h.pen.pen fun es e _ => pen_rV e, k.kp _ _ (by simpa using n2) h.hbo, h.lb, h.ps0, h.bd0, h.mm⟩
/-- the board's list is written -/
theorem LawI.board (h : LawI K H p l ns tl ps St mc Sc bc cc lc me Se be ce le lim bo bd t rest) (k : Kp K [bo] H H') {bd' : Board} (hb : H' bo = some (.lst (bd'.map bV))) (h0 : bd' ≠ []) : LawI K H' p l ns tl ps St mc Sc bc cc lc me Se be ce le lim bo bd' t rest := by
  have n1 : tl ≠ bo := Ne.symm (lst_ne h.hbo h.htl fun e => bV_rV h.bd0 e)
  have n2 : p ≠ bo := lst_ne h.pen.pen h.hbo fun e => pen_bV e
  exact ⟨⟨k.kp _ _ (by simpa using n2) h.pen.pen, k.kp _ _ (by simpa using h.lb) h.pen.lst, h.pen.len, h.pen.rest0, h.pen.turn0⟩, k.kp _ _ (by simpa using n1) h.htl, h.tr.mono k.sk, h.hmc.kp1 k h.hbo fun es e _ => bV_rV h.bd0 e, h.hme.kp1 k h.hbo fun es e _ => bV_rV h.bd0 e, hb, h.lb, h.ps0, h0, h.mm⟩
/-- another list is the board -/
theorem LawI.newB (h : LawI K H p l ns tl ps St mc Sc bc cc lc me Se be ce le lim bo bd t rest) {bo' : Addr} {bd' : Board} (hb : H bo' = some (.lst (bd'.map bV))) (h0 : bd' ≠ []) (n : l ≠ bo') : LawI K H p l ns tl ps St mc Sc bc cc lc me Se be ce le lim bo' bd' t rest :=
  ⟨h.pen, h.htl, h.tr, h.hmc, h.hme, hb, n, h.ps0, h0, h.mm⟩
/-- the list of cells is written -/
theorem LawI.trips (h : LawI K H p l ns tl ps St mc Sc bc cc lc me Se be ce le lim bo bd t rest) {ps' : List Addr} {S' : Sys} (ht : Trips K H ps' S') (h0 : ps' ≠ []) : LawI K (upd H tl (.lst (rV ps'))) p l ns tl ps' S' mc Sc bc cc lc me Se be ce le lim bo bd t rest := by
  have k : Kp K [tl] H (upd H tl (.lst (rV ps'))) := Kp.upd List.mem_cons_self h.htl (fun z => z)
  have n1 : bo ≠ tl := lst_ne h.hbo h.htl fun e => bV_rV h.bd0 e
  have n2 : p ≠ tl := lst_ne h.pen.pen h.htl fun e => pen_rV e
  have n3 : l ≠ tl := lst_ne h.pen.lst h.htl fun e => zV_rV h.ps0 e
  exact ⟨⟨k.kp _ _ (by simpa using n2) h.pen.pen, k.kp _ _ (by simpa using n3) h.pen.lst, h.pen.len, h.pen.rest0, h.pen.turn0⟩, upd_same, ht.mono k.sk, h.hmc.kp1 k h.htl fun es e q => trips_evs h.ps0 h.tr e q, h.hme.kp1 k h.htl fun es e q => trips_evs h.ps0 h.tr e q, k.kp _ _ (by simpa using n1) h.hbo, h.lb, h0, h.bd0, h.mm⟩
theorem PenAt.but {x : Addr} {C dx : Addr} {fs : List (PySem.Str × V)} (h : PenAt H p l ns t rest) (k : ButX K x H H') (hx : H x = some (.ins C dx fs)) : PenAt H' p l ns t rest :=
  ⟨k.kp _ _ (ne_of h.pen hx (by simp)) h.pen, k.kp _ _ (ne_of h.lst hx (by simp)) h.lst, h.len, h.rest0, h.turn0⟩
/-- the clean table is written -/
theorem LawI.cleanW (h : LawI K H p l ns tl ps St mc Sc bc cc lc me Se be ce le lim bo bd t rest) (k : ButX K mc H H') {Sc' : Sys} {bc' : Board} {cc' : Nat} {lc' : List Ev} (hm : MemoAt K H' false mc Sc' bc' cc' lc' none) : LawI K H' p l ns tl ps St mc Sc' bc' cc' lc' me Se be ce le lim bo bd t rest := by
  obtain ⟨⟨dx, sys, tb, lt, es, h1, _⟩⟩ := h.hmc
  exact ⟨h.pen.but k h1, k.kp _ _ (ne_of h.htl h1 (by simp)) h.htl, h.tr.mono k.sk, hm, h.hme.but k (Ne.symm h.mm) h1, k.kp _ _ (ne_of h.hbo h1 (by simp)) h.hbo, h.lb, h.ps0, h.bd0, h.mm⟩
theorem LawI.exactW (h : LawI K H p l ns tl ps St mc Sc bc cc lc me Se be ce le lim bo bd t rest) (k : ButX K me H H') {Se' : Sys} {be' : Board} {ce' : Nat} {le' : List Ev} {lim' : Option Nat} (hm : MemoAt K H' true me Se' be' ce' le' lim') : LawI K H' p l ns tl ps St mc Sc bc cc lc me Se' be' ce' le' lim' bo bd t rest := by
  obtain ⟨⟨dx, sys, tb, lt, es, h1, _⟩⟩ := h.hme
  exact ⟨h.pen.but k h1, k.kp _ _ (ne_of h.htl h1 (by simp)) h.htl, h.tr.mono k.sk, h.hmc.but k h.mm h1, hm, k.kp _ _ (ne_of h.hbo h1 (by simp)) h.hbo, h.lb, h.ps0, h.bd0, h.mm⟩
theorem LawI.nbt (h : LawI K H p l ns tl ps St mc Sc bc cc lc me Se be ce le lim bo bd t rest) : bo ≠ tl := lst_ne h.hbo h.htl fun e => bV_rV h.bd0 e
end
end
end KW
/-! The walk, part 37: the law. -/
namespace KW
open PySem PySem.Spec PyProof.Rows L2 KR K19 StX
section
variable {P : Program} {w : World} {K : PySem.W.Frag} {mg : PySem.Str → Option Value} {base : Heap}
theorem sh_t2 (v : Int) : SeqAt.shaped (.tuple [.int v, .int v]) = true := by
  unfold SeqAt.shaped
  simp only [PyData.canLay0, PyData.canLayAll0, PyData.depth, PyData.depthAll]
  rfl
theorem MemoAt.kpR {H H' : Hp} {ex : Bool} {m : Addr} {S : Sys} {b : Board} {cnt : Nat} {log : List Ev} {lim : Option Nat} {R : List Addr} (h : MemoAt K H ex m S b cnt log lim) (k : Kp K R H H') (hR : ∀ a ∈ R, ∃ bd : Board, bd ≠ [] ∧ H a = some (.lst (bd.map bV))) : MemoAt K H' ex m S b cnt log lim := by
  obtain ⟨⟨dx, sys, tb, lt, es, h1, h2, h3, h4, h5⟩⟩ := h
  exact ⟨⟨dx, sys, tb, lt, es, k.kp _ _ (fun m => by obtain ⟨bd, _, hb⟩ := hR _ m; rw [h1] at hb; cases hb) h1, h2.mono k.sk, k.sk _ _ trivial h3, k.kp _ _ (fun m => by
    obtain ⟨bd, h0, hb⟩ := hR _ m
    rw [h4] at hb
    exact bV_rV h0 (HO.lst.inj (Option.some.inj hb)).symm) h4, h5.mono k.sk⟩⟩
theorem LawI.aheads {H H' : Hp} {p l tl mc me bo : Addr} {ns : List Int} {ps : List Addr} {St Sc Se : Sys} {bc be bd : Board} {cc ce : Nat} {lc le : List Ev} {lim : Option Nat} {t rest : Int} {R : List Addr} (h : LawI K H p l ns tl ps St mc Sc bc cc lc me Se be ce le lim bo bd t rest) (k : Kp K R H H') (hR : ∀ a ∈ R, (∃ bd : Board, bd ≠ [] ∧ H a = some (.lst (bd.map bV))) ∧ a ≠ l ∧ a ≠ bo) : LawI K H' p l ns tl ps St mc Sc bc cc lc me Se be ce le lim bo bd t rest := by
  have n1 : p ∉ R := fun m => by
    obtain ⟨⟨b, h0, hb⟩, _⟩ := hR _ m
    rw [h.pen.pen] at hb
    exact pen_bV (HO.lst.inj (Option.some.inj hb))
  have n2 : tl ∉ R := fun m => by
    obtain ⟨⟨b, h0, hb⟩, _⟩ := hR _ m
    rw [h.htl] at hb
    exact bV_rV h0 (HO.lst.inj (Option.some.inj hb)).symm
  exact ⟨⟨k.kp _ _ n1 h.pen.pen, k.kp _ _ (fun m => (hR _ m).2.1 rfl) h.pen.lst, h.pen.len, h.pen.rest0, h.pen.turn0⟩, k.kp _ _ n2 h.htl, h.tr.mono k.sk, h.hmc.kpR k fun a m => (hR a m).1, h.hme.kpR k fun a m => (hR a m).1, k.kp _ _ (fun m => (hR _ m).2.2 rfl) h.hbo, h.lb, h.ps0, h.bd0, h.mm⟩
theorem trail_last {S : Sys} {l : List Nat} (h : l ≠ []) (b : Board) : ∃ tr0 b0, trail S b l = tr0 ++ [(b0, (asks true S b 0 [] l).2.2.2)] := by
  rcases List.eq_nil_or_concat l with e | ⟨l', c, e⟩
  · exact absurd e h
  · rw [List.concat_eq_append] at e
    rw [e, trail_app S l' b 0 [] c, asks_app]
    exact ⟨_, _, rfl⟩
def toldD (vals : List Int) (bd : Board) : PyData := .list [.list (vals.map PyData.int), .list (vals.map PyData.int), .tuple (bd.map bD), .tuple (bd.map bD)]
theorem dok_told {S : Sys} {vals : List Int} {bd : Board} (hv : ∀ v ∈ vals, Lev v) (hl : vals.length ≤ 2) (bok : BoardOk S bd) (hn : S.length ≤ 12) : DOk (toldD vals bd) 100 5 := by
  have h1 : DOk (.list (vals.map PyData.int)) 2 4 := by
    have := (doks_of (l := vals.map PyData.int) (n := 0) (k := 3) fun x hx => by
      obtain ⟨v, hv', rfl⟩ := List.mem_map.mp hx
      exact dok_lev (hv v hv') 3).list
    rw [List.length_map] at this
    exact this.mono (by omega) (Nat.le_refl _)
  have h2 : DOk (.tuple (bd.map bD)) 12 4 := (dok_b bok hn 3).tup
  exact (h1.cons (h1.cons (h2.cons (h2.cons (doks_nil 0 4))))).list.mono (by decide) (by decide)
theorem dok_evc {n : Nat} (hn : n ≤ 12) {l : List Ev} (h : ∀ e ∈ l, EvOk n e) (hl : l.length ≤ 42380) {c : Nat} (hc : c < 10 ^ 7) : DOk (.tuple [.list (l.map evD), .int (c : Nat)]) 1500000 5 :=
  ((dok_evs hn h hl).cons ((dok_nat hc 4).cons (doks_nil 0 4))).tup.mono (by decide) (by decide)
def spLaw (K : PySem.W.Frag) : Sp := fun vs H Q _ => ∃ (a : Addr) (ns : List Int), vs = [.ref a] ∧ SqL K H a (zV ns) ∧ ∀ H', Q (.bl true) H'
/-- o.edit(cell, guess = g) -/
theorem kb_edit {fd : FuncData} (F : FunD K d_Memo_edit.name d_Memo_edit.qual d_Memo_edit.params d_Memo_edit.body d_Memo_edit.scope (d_Memo_edit.dvs K) (d_Memo_edit.kws K) (d_Memo_edit.ad K) fd) :
    ∃ mv : List Value, KBn K fd ["self", "cell", "operands", "function", "guess"] 2 ["guess"] (fun us ws => us ++ (mv ++ ws)) (fun vs zs => vs ++ ([V.non, V.non] ++ zs)) :=
  FunD.kbinds0 F 2 ["guess"] [("operands", .non), ("function", .non)] (fun us mv ws => us ++ (mv ++ ws)) (by intro h; cases h) (fun q hq => by
      rcases List.mem_cons.mp hq with rfl | hq
      · exact List.mem_cons_self
      · rw [List.mem_singleton.mp hq]; exact List.mem_cons_of_mem _ List.mem_cons_self) (fun r1 r2 r3 => r1.append (r2.append r3))
    fun D doc pm an cdv ct us mv ws l1 l2 l3 => match us, mv, ws, l1, l2, l3 with
      | [_, _], [_, _], [_], _, _, _ => ⟨_, _, _, _, _, _, rfl, rfl, _, _, _, _, _, _, rfl, rfl, rfl⟩
theorem ok_law (T : Txt K mg) (TS : TxtS P K) (KB : K.In base) : FG P w K mg base CX0 60 d_law ["_law_script"] (spLaw K) := by
  have F := cmf T true
  have G := cmf T false
  obtain ⟨q_e_t, q_KeepExact_table⟩ := T.p_KeepExact_table
  obtain ⟨q_e_c, q_KeepExact_calls⟩ := T.p_KeepExact_calls
  obtain ⟨q_c_t, q_KeepClean_table⟩ := T.p_KeepClean_table
  obtain ⟨q_c_c, q_KeepClean_calls⟩ := T.p_KeepClean_calls
  obtain ⟨f1, pF1, pG_KeepExact_table⟩ := (ok_Memo_table (P := P) (w := w) (base := base) T true).ex
  obtain ⟨f1', pF1', pG_KeepClean_table⟩ := (ok_Memo_table (P := P) (w := w) (base := base) T false).ex
  have pB_KeepExact_table := FunD.bindsN pF1 b_Memo_table
  have pB_KeepClean_table := FunD.bindsN pF1' b_Memo_table
  obtain ⟨f2, pF2, pG_KeepExact_calls⟩ := (ok_Memo_calls (P := P) (w := w) (base := base) T true).ex
  obtain ⟨f2', pF2', pG_KeepClean_calls⟩ := (ok_Memo_calls (P := P) (w := w) (base := base) T false).ex
  have pB_KeepExact_calls := FunD.bindsN pF2 b_Memo_calls
  have pB_KeepClean_calls := FunD.bindsN pF2' b_Memo_calls
  obtain ⟨f4, eF, eG⟩ := ok_Memo_events (P := P) (w := w) (base := base) T true
  have eB := FunD.bindsN eF b_Memo_events
  obtain ⟨f5, aF, aG⟩ := (ok_Memo_ask (w := w) T TS KB true).ex
  obtain ⟨f6, caF, caG⟩ := (ok_Memo_ask (w := w) T TS KB false).ex
  obtain ⟨i1, iF, iG⟩ := (ok_Memo_init (P := P) (w := w) (base := base) T true).ex
  obtain ⟨j1, jF, jG⟩ := (ok_Memo_init (P := P) (w := w) (base := base) T false).ex
  obtain ⟨e1, eEF, eEG⟩ := (ok_Memo_edit (P := P) (w := w) (base := base) T true).ex
  obtain ⟨_, eEK⟩ := kb_edit eEF
  obtain ⟨e2, cEF, cEG⟩ := (ok_Memo_edit (P := P) (w := w) (base := base) T false).ex
  obtain ⟨_, cEK⟩ := kb_edit cEF
  obtain ⟨g1, qF, qG⟩ := (ok_Memo_eq (P := P) (w := w) (base := base) T).ex
  have qB := FunD.bindsN qF b_Memo_eq
  obtain ⟨mcl, q, cr, cm⟩ := T.cm_System
  obtain ⟨o1, oF, oG⟩ := (ok_System_of (P := P) (w := w) (base := base) T).ex
  have oR := oG.raw (FunD.bindsN oF b_System_of) .nil
  refine fg_of T.d_law sc_law (fun vs H Q E h => ?_) (fun cdv A outer s H vs Q E hr hG h => ?_)
  · obtain ⟨a, ns, rfl, _⟩ := h
    rfl
  · obtain ⟨a, ns, rfl, ha, hQ⟩ := h
    have hu := Room.u64 hr
    have hu66 := Room.u66 hr
    refine ⟨_, (pss_cons (ps_set (i := 1) sc_law.nd rfl (by first | exact Or.inl rfl | exact Or.inr rfl | exact Or.inr (Or.inl rfl)) (pe_def (ok__law_pen T) hr rfl T.g__law_pen rfl b__law_pen (pa_cons (pv 0) pa_nil))) (pss_cons (ps_for PassesOwn.never rfl (pi_range1 rfl T.f_range (pa_cons pe_int pa_nil)) (pg_name (i := 2) sc_law.nd rfl (by first | exact Or.inl rfl | exact Or.inr rfl | exact Or.inr (Or.inl rfl))) (Evl.pss_cut (ps_set (i := 3) sc_law.nd rfl (by first | exact Or.inl rfl | exact Or.inr rfl | exact Or.inr (Or.inl rfl)) (pe_op op_add pe_int (pe_def (ok__law_draw T) hr rfl T.g__law_draw rfl b__law_draw (pa_cons (pv 1) (pa_cons (pe_ix (ix_K K rfl) (pe_lst (pa_cons pe_int (pa_cons pe_int pa_nil))) (pv 2) (fun _ _ => rfl)) pa_nil))))) (Evl.pss_cut (ps_set (i := 4) sc_law.nd rfl (by first | exact Or.inl rfl | exact Or.inr rfl | exact Or.inr (Or.inl rfl)) (pe_ifExp (pt_cmpR op_eq (pv 2) pe_int (nomark _)) (pe_def (ok__law_cells T) hr rfl T.g__law_cells rfl b__law_cells (pa_cons (pv 1) (pa_cons (pv 3) pa_nil))) (pe_def (ok__law_small T) hr rfl T.g__law_small rfl b__law_small (pa_cons (pv 1) (pa_cons (pv 3) (pa_cons pe_int pa_nil)))))) (pss_cons (ps_set (i := 5) sc_law.nd rfl (by first | exact Or.inl rfl | exact Or.inr rfl | exact Or.inr (Or.inl rfl)) (pe_make T.k_KeepClean jG (hr.mono (by decide)) rfl T.g_KeepClean (FunD.bindsN jF b_Memo_init) .nil pass0 (pa_cons (ClX.pe_cmeth (pe_gref rfl T.g_System) cr cm oR (hr.mono (by decide)) pass0 (pa_cons (pv 4) pa_nil)) pa_nil))) (pss_cons (ps_set (i := 6) sc_law.nd rfl (by first | exact Or.inl rfl | exact Or.inr rfl | exact Or.inr (Or.inl rfl)) (pe_make T.k_KeepExact iG (hr.mono (by decide)) rfl T.g_KeepExact (FunD.bindsN iF b_Memo_init) .nil pass0 (pa_cons (ClX.pe_cmeth (pe_gref rfl T.g_System) cr cm oR (hr.mono (by decide)) pass0 (pa_cons (pv 4) pa_nil)) pa_nil))) (Evl.pss_cut (ps_set (i := 7) sc_law.nd rfl (by first | exact Or.inl rfl | exact Or.inr rfl | exact Or.inr (Or.inl rfl)) (pe_op op_rep (pe_lst (pa_cons pe_non pa_nil)) (pv 3))) (pss_one (ps_for PassesOwn.never rfl (pi_range1 rfl T.f_range (pa_cons pe_int pa_nil)) (pg_name (i := 8) sc_law.nd rfl (by first | exact Or.inl rfl | exact Or.inr rfl | exact Or.inr (Or.inl rfl))) (pss_cons (ps_set (i := 9) sc_law.nd rfl (by first | exact Or.inl rfl | exact Or.inr rfl | exact Or.inr (Or.inl rfl)) (pe_def (ok__law_draw T) hr rfl T.g__law_draw rfl b__law_draw (pa_cons (pv 1) (pa_cons (pv 3) pa_nil)))) (Evl.pss_cut (ps_if (pt_cmpR op_eq (pe_def (ok__law_draw T) hr rfl T.g__law_draw rfl b__law_draw (pa_cons (pv 1) (pa_cons pe_int pa_nil))) pe_int (nomark _)) (pss_cons (ps_set (i := 10) sc_law.nd rfl (by first | exact Or.inl rfl | exact Or.inr rfl | exact Or.inr (Or.inl rfl)) (pe_def (ok__law_draw T) hr rfl T.g__law_draw rfl b__law_draw (pa_cons (pv 1) (pa_cons pe_int pa_nil)))) (pss_cons (ps_set (i := 11) sc_law.nd rfl (by first | exact Or.inl rfl | exact Or.inr rfl | exact Or.inr (Or.inl rfl)) (pe_methN (pv 5) T.c_KeepClean T.m_KeepClean_edit cEG (hr.mono (by decide)) cEK pass0 (pa_cons (pv 9) pa_nil) (pk_cons (pv 10) pk_nil))) (pss_cons (ps_asg (pe_op op_catA (pe_slice (sl_tupK K rfl) (pe_ix (ix_K K rfl) (pv 4) (pv 9) (fun _ _ => rfl)) po_none (po_some pe_int)) (pe_tup (pa_cons (pv 10) pa_nil))) (pg_sub (pv 4) (pv 9) set_list)) (pss_cons (ps_set (i := 7) sc_law.nd rfl (by first | exact Or.inl rfl | exact Or.inr rfl | exact Or.inr (Or.inl rfl)) (pe_lc rfl sc_law.nd (pi_range1 rfl T.f_range (pa_cons (pv 3) pa_nil)) (own := [("_law_k", 18)]) (blkOk_by (by kernel_rfl)) (fun _ _ _ _ _ => (pg_name (i := 18) sc_law.nd rfl (by first | exact Or.inl rfl | exact Or.inr rfl | exact Or.inr (Or.inl rfl)))) (fun _ _ _ _ _ => pts_nil) (fun _ _ _ _ _ => (pe_ix (ix_K K rfl) (pe_lst (pa_cons (pe_ix (ix_K K rfl) (pv 7) (pv 18) (fun _ _ => rfl)) (pa_cons pe_non pa_nil))) (pe_callTy call_int1 rfl T.f_int boot_int (pa_cons (pe_cmpR (op_inK K rfl) (pv 18) (pv 11) rfl) pa_nil)) (fun _ _ => rfl))))) (pss_one (ps_if (pt_cmpR (op_neDK K rfl hu) (pe_methN (pv 6) T.c_KeepExact T.m_KeepExact_edit eEG (hr.mono (by decide)) eEK pass0 (pa_cons (pv 9) pa_nil) (pk_cons (pv 10) pk_nil)) (pv 11) (nomark _)) (pss_one (ps_ret pe_bl)) pss_nil)))))) pss_nil) (pss_cons (ps_set (i := 12) sc_law.nd rfl (by first | exact Or.inl rfl | exact Or.inr rfl | exact Or.inr (Or.inl rfl)) (pe_slice (sl_listK K rfl) (pe_lst (pa_cons (pv 9) (pa_cons (pe_op op_mod (pe_op op_add (pv 9) (pv 8)) (pv 3)) pa_nil))) po_none (po_some (pe_op op_add pe_int (pe_op op_mod (pv 8) pe_int))))) (pss_cons (ps_asg (pe_def (ok__law_asks T) hr rfl T.g__law_asks rfl b__law_asks (pa_cons (pv 4) (pa_cons (pv 7) (pa_cons (pv 12) pa_nil)))) (pg_tupK (n := 2) K rfl rfl (pgs_cons (pg_name (i := 13) sc_law.nd rfl (by first | exact Or.inl rfl | exact Or.inr rfl | exact Or.inr (Or.inl rfl))) (pgs_cons (pg_name (i := 14) sc_law.nd rfl (by first | exact Or.inl rfl | exact Or.inr rfl | exact Or.inr (Or.inl rfl))) pgs_nil)))) (Evl.pss_cut (ps_setLc (i := 15) rfl sc_law.nd rfl rfl rfl (pi_listK K rfl (pv 14)) (own := [("_law_ahead", 19), ("_law_log", 20)]) (blkOk_by (by kernel_rfl)) (fun _ _ _ _ _ => (pg_tupK (n := 2) K rfl rfl (pgs_cons (pg_name (i := 19) sc_law.nd rfl (by first | exact Or.inl rfl | exact Or.inr rfl | exact Or.inr (Or.inl rfl))) (pgs_cons (pg_name (i := 20) sc_law.nd rfl (by first | exact Or.inl rfl | exact Or.inr rfl | exact Or.inr (Or.inl rfl))) pgs_nil)))) (fun _ _ _ _ _ => pts_nil) (fun _ _ _ _ _ => (pe_callB (call_lenK K rfl) rfl T.f_len boot_len (pa_cons (pe_lc rfl sc_law.nd (pi_listK K rfl (pv 20)) (own := [("_law_event", 21)]) (blkOk_by (by kernel_rfl)) (fun _ _ _ _ _ => (pg_name (i := 21) sc_law.nd rfl (by first | exact Or.inl rfl | exact Or.inr rfl | exact Or.inr (Or.inl rfl)))) (fun _ _ _ _ _ => (pts_one (pt_cmpR op_eq (pe_ix (ix_K K rfl) (pv 21) pe_int (fun _ _ => rfl)) pe_str (nomark _)))) (fun _ _ _ _ _ => (pv 21))) pa_nil)))) (pss_cons (ps_if (PW.pt (pw_or (pt_not (pt_val (pe_defG (ok__law_limited T TS KB) hr hG rfl T.g__law_limited rfl b__law_limited (pa_cons (pv 6) (pa_cons (pv 9) (pa_cons (pe_ix (ix_K K rfl) (pv 15) pe_int (fun _ _ => rfl)) pa_nil)))))) (pw_or1 (pt_cmpR (op_neDK K rfl hu) (pe_methR (pv 6) T.c_KeepExact T.m_KeepExact_tried (ok_Memo_tried T TS KB).fn (hr.mono (by decide)) pass0 (pa_cons (pv 9) (pa_cons (pv 9) pa_nil))) (pe_tup (pa_cons (pe_ix (ix_K K rfl) (pv 13) pe_int (fun _ _ => rfl)) (pa_cons (pe_ix (ix_K K rfl) (pv 13) pe_int (fun _ _ => rfl)) pa_nil))) (nomark _))))) (pss_one (ps_ret pe_bl)) pss_nil) (pss_cons (ps_set (i := 16) sc_law.nd rfl (by first | exact Or.inl rfl | exact Or.inr rfl | exact Or.inr (Or.inl rfl)) (pe_lst (pa_cons (pe_prop (pv 5) T.c_KeepClean (q_KeepClean_calls) (pG_KeepClean_calls) (hr.mono (by decide)) pB_KeepClean_calls .nil pass0 rfl) (pa_cons (pe_op op_add (pe_prop (pv 6) T.c_KeepExact (q_KeepExact_calls) (pG_KeepExact_calls) (hr.mono (by decide)) pB_KeepExact_calls .nil pass0 rfl) (pe_callB (cr_sumA rfl) rfl T.f_sum boot_sum (pa_cons (pv 15) pa_nil))) pa_nil)))) (Evl.pss_cut (ps_expr (pe_mdX (ok_Memo_set_limit T true) hr pass0 T.c_KeepExact T.m_KeepExact_set_limit rfl b_Memo_set_limit (pv 6) (pa_cons (pe_callB (cr_max rfl) rfl T.f_max boot_max (pa_cons (pv 15) pa_nil)) pa_nil))) (Evl.pss_cut (ps_set (i := 17) sc_law.nd rfl (by first | exact Or.inl rfl | exact Or.inr rfl | exact Or.inr (Or.inl rfl)) (pe_lst (pa_cons (pe_ifExp (pt_cmpR op_eq (pe_op op_mod (pv 8) pe_int) pe_int (nomark _)) (pe_lst (pa_cons (pe_meth (pv 6) T.c_KeepExact T.m_KeepExact_ask aG (hr.mono (by decide)) (FunD.bindsN aF b_Memo_ask) .nil passE0 (pa_cons (pv 9) pa_nil)) pa_nil)) (pe_callTy call_list_of rfl T.f_list boot_list (pa_cons (pe_methR (pv 6) T.c_KeepExact T.m_KeepExact_answers (ok_Memo_answers T TS KB).fn (hr.mono (by decide)) pass0 (pa_cons (pv 9) (pa_cons (pe_ix (ix_K K rfl) (pv 12) pe_int (fun _ _ => rfl)) pa_nil))) pa_nil))) pa_nil))) (Evl.pss_cut (ps_set (i := 17) sc_law.nd rfl (by first | exact Or.inl rfl | exact Or.inr rfl | exact Or.inr (Or.inl rfl)) (pe_op op_cat (pv 17) (pe_lst (pa_cons (pe_lc rfl sc_law.nd (pi_listK K rfl (pv 12)) (own := [("_law_one", 22)]) (blkOk_by (by kernel_rfl)) (fun _ _ _ _ _ => (pg_name (i := 22) sc_law.nd rfl (by first | exact Or.inl rfl | exact Or.inr rfl | exact Or.inr (Or.inl rfl)))) (fun _ _ _ _ _ => pts_nil) (fun _ _ _ _ _ => (pe_meth (pv 5) T.c_KeepClean T.m_KeepClean_ask caG (hr.mono (by decide)) (FunD.bindsN caF b_Memo_ask) .nil passE0 (pa_cons (pv 22) pa_nil)))) (pa_cons (pe_prop (pv 6) T.c_KeepExact (q_KeepExact_table) (pG_KeepExact_table) (hr.mono (by decide)) pB_KeepExact_table .nil pass0 rfl) (pa_cons (pe_prop (pv 5) T.c_KeepClean (q_KeepClean_table) (pG_KeepClean_table) (hr.mono (by decide)) pB_KeepClean_table .nil pass0 rfl) pa_nil)))))) (pss_cons (ps_if (PW.pt (pw_or (pt_cmpR op_ne (pe_callB (call_repr hG hu66) rfl T.f_repr boot_repr (pa_cons (pv 17) pa_nil)) (pe_callB (call_repr hG hu66) rfl T.f_repr boot_repr (pa_cons (pe_lst (pa_cons (pv 13) (pa_cons (pv 13) (pa_cons (pe_callTy call_tuple_of rfl T.f_tuple boot_tuple (pa_cons (pv 7) pa_nil)) (pa_cons (pe_callTy call_tuple_of rfl T.f_tuple boot_tuple (pa_cons (pv 7) pa_nil)) pa_nil))))) pa_nil)) (nomark _)) (pw_or (pt_not (pt_cmpR (op_eqO (ok_Memo_eq T) T.m_KeepExact_eq T.nf_Keep hr rfl b_Memo_eq) (pv 6) (pv 5) (nomark _))) (pw_or1 (pt_cmpR (op_neI T.m_KeepExact_eq.at_ T.m_KeepExact_eq.fn T.nq_Keep T.nk_Keep T.mr_Keep T.mo_Keep qG (hr.mono (by decide)) qB pass0) (pv 5) (pv 6) (nomark _)))))) (pss_one (ps_ret pe_bl)) pss_nil) (pss_cons (ps_if (pt_cmpR op_ne (pe_callB (call_repr hG hu66) rfl T.f_repr boot_repr (pa_cons (pe_tup (pa_cons (pe_listG (pgen_meth0 (pv 6) T.c_KeepExact T.m_KeepExact_events eG (hr.mono (by decide)) eB .nil) passE0 noStop0 (hr.mono (by decide)) rfl T.f_list boot_list) (pa_cons (pe_prop (pv 6) T.c_KeepExact (q_KeepExact_calls) (pG_KeepExact_calls) (hr.mono (by decide)) pB_KeepExact_calls .nil pass0 rfl) pa_nil))) pa_nil)) (pe_callB (call_repr hG hu66) rfl T.f_repr boot_repr (pa_cons (pe_tup (pa_cons (pe_ix (ix_K K rfl) (pe_ix (ix_K K rfl) (pv 14) (pe_un un_neg pe_int) (fun _ _ => rfl)) pe_int (fun _ _ => rfl)) (pa_cons (pe_ix (ix_K K rfl) (pv 16) pe_int (fun _ _ => rfl)) pa_nil))) pa_nil)) (nomark _)) (pss_one (ps_ret pe_bl)) pss_nil) (Evl.pss_cut (ps_expr (pe_mdX (ok_Memo_set_limit T true) hr pass0 T.c_KeepExact T.m_KeepExact_set_limit rfl b_Memo_set_limit (pv 6) (pa_cons pe_non pa_nil))) (pss_one (ps_if (PW.pt (pw_or (pt_cmpR op_gt (pe_callB (cr_sumA rfl) rfl T.f_sum boot_sum (pa_cons (pv 15) pa_nil)) (pe_op op_sub (pe_prop (pv 5) T.c_KeepClean (q_KeepClean_calls) (pG_KeepClean_calls) (hr.mono (by decide)) pB_KeepClean_calls .nil pass0 rfl) (pe_ix (ix_K K rfl) (pv 16) pe_int (fun _ _ => rfl))) (nomark _)) (pw_or1 (pt_not (pt_val (pe_def (ok__law_all_right T) hr rfl T.g__law_all_right rfl b__law_all_right (pa_cons (pv 4) (pa_cons (pv 14) pa_nil)))))))) (pss_one (ps_ret pe_bl)) pss_nil))))))))))))))))))))))) (pss_one (ps_ret (pe_def0 (ok__law_late_right T TS KB) hr rfl T.g__law_late_right rfl b__law_late_right))))), ?_⟩
    refine ⟨_, rfl, a, ns, rfl, ha, fun p l ms H1 s1 _ _ hP => ?_⟩
    obtain ⟨ns, hns⟩ : ∃ ns, ns = ms := ⟨ms, rfl⟩
    rw [← hns] at hP
    refine ⟨2, rfl, by decide, by decide, ?_⟩
    refine for_range (lo := 0) (n := 2) (fun i σ H' => ∃ (x2 x3 x4 x5 x6 x7 x8 x9 x10 x11 x12 x13 x14 x15 x16 x17 x18 x19 x20 x21 x22 : Option V) (t rest : Int), σ = [some (.ref a), some (.ref p), x2, x3, x4, x5, x6, x7, x8, x9, x10, x11, x12, x13, x14, x15, x16, x17, x18, x19, x20, x21, x22] ∧ PenAt H' p l ns t rest ∧ t ≤ 20000 * i) ⟨_, _, _, _, _, _, _, _, _, _, _, _, _, _, _, _, _, _, _, _, _, 0, 0, rfl, hP, by decide⟩ (fun i σ H' hi q => ?_) (fun σ H' q => ?_)
    · obtain ⟨x2, x3, x4, x5, x6, x7, x8, x9, x10, x11, x12, x13, x14, x15, x16, x17, x18, x19, x20, x21, x22, t, rest, rfl, hP, b1⟩ := q
      have ez : (0 : Int) + (i : Nat) = (i : Nat) := Int.zero_add _
      show (Evl.tCut _ _) _ [some (.ref a), some (.ref p), some (.int (0 + (i : Nat))), x3, x4, x5, x6, x7, x8, x9, x10, x11, x12, x13, x14, x15, x16, x17, x18, x19, x20, x21, x22] H'
      rw [ez]
      -- size
      refine ⟨fun σ H' => ∃ (x4 x5 x6 x7 x8 x9 x10 x11 x12 x13 x14 x15 x16 x17 x18 x19 x20 x21 x22 : Option V) (n : Nat) (t rest : Int), σ = [some (.ref a), some (.ref p), some (.int (i : Nat)), some (.int (n : Nat)), x4, x5, x6, x7, x8, x9, x10, x11, x12, x13, x14, x15, x16, x17, x18, x19, x20, x21, x22] ∧ PenAt H' p l ns t rest ∧ 1 ≤ n ∧ n ≤ 12 ∧ (i = 0 → n ≤ 6) ∧ t ≤ 20000 * i + 10, ?_, fun σ H' q => ?_⟩
      · obtain ⟨z, hz1, hz2, hz3, hz⟩ : ∃ z : Int, 1 ≤ z ∧ z ≤ 12 ∧ (i = 0 → z ≤ 6) ∧ atI [V.int 6, .int 12] (i : Nat) = some (.int z) := by
          match i, hi with
          | 0, _ => exact ⟨6, by decide, by decide, fun _ => by decide, rfl⟩
          | 1, _ => exact ⟨12, by decide, by decide, fun h => by omega, rfl⟩
        refine ⟨_, rfl, (by show 2 ≤ sizeLine; decide), fun c hc => ⟨_, rfl, .inl ⟨c, _, _, _, rfl, rfl, sqL_upd, hz, ?_⟩⟩⟩
        have s2 := same_upd (o := .lst [V.int 6, .int 12]) hc
        refine ⟨p, l, ns, t, rest, z, rfl, hP.same s2, hz1, by omega, by omega, fun r t' rest' H2 r0 r1 c1 c2 k2 hP2 => ⟨_, _, rfl, rfl, ?_⟩⟩
        obtain ⟨n, hn⟩ : ∃ n : Nat, (1 : Int) + r = n := ⟨(1 + r).toNat, by omega⟩
        refine ⟨_, _, _, _, _, _, _, _, _, _, _, _, _, _, _, _, _, _, _, n, t', rest', by rw [← hn]; rfl, hP2, by omega, by omega, fun h => by have := hz3 h; omega, by omega⟩
      · obtain ⟨x4, x5, x6, x7, x8, x9, x10, x11, x12, x13, x14, x15, x16, x17, x18, x19, x20, x21, x22, n, t, rest, rfl, hP, n1, n12, n6, b1⟩ := q
        -- triples
        refine ⟨fun σ H' => ∃ (x5 x6 x7 x8 x9 x10 x11 x12 x13 x14 x15 x16 x17 x18 x19 x20 x21 x22 : Option V) (tl : Addr) (ps : List Addr) (S : Sys) (rk : Nat → Nat) (bs : Nat) (t rest : Int), σ = [some (.ref a), some (.ref p), some (.int (i : Nat)), some (.int (n : Nat)), some (.ref tl), x5, x6, x7, x8, x9, x10, x11, x12, x13, x14, x15, x16, x17, x18, x19, x20, x21, x22] ∧ H' tl = some (.lst (rV ps)) ∧ Trips K H' ps S ∧ SysOk S rk bs ∧ S.length = n ∧ PenAt H' p l ns t rest ∧ t ≤ 20000 * i + 10100, ?_, fun σ H' q => ?_⟩
        · refine ⟨_, rfl, rfl, _, rfl, ?_⟩
          by_cases h0 : i = 0
          · refine iteTb (decide_eq_true (by rw [h0]; rfl)) ?_
            refine ⟨_, rfl, _, rfl, p, l, ns, t, rest, n, rfl, hP, n1, n6 h0, by omega, fun tl ps S t' rest' H2 _ L eS c1 c2 => ?_⟩
            have ok : SysOk S (fun _ => 0) 6 := by
              have cok := fun c hc => L.cok c hc
              rw [← eS] at cok
              exact ⟨by omega, by omega, by decide, fun c hc => (cok c hc).ops8, fun c hc => (cok c hc).opsN, fun c hc => (cok c hc).opsL, fun c hc o ho => Nat.le_refl _, fun r => Nat.le_trans (List.length_filter_le _ _) (by rw [List.length_range, eS]; exact n6 h0), fun c hc => (cok c hc).fnOk, fun c hc => (cok c hc).gOk⟩
            exact ⟨_, _, _, _, _, _, _, _, _, _, _, _, _, _, _, _, _, _, tl, ps, S, _, 6, t', rest', rfl, L.lst, L.trips, ok, eS, L.pen, by omega⟩
          · refine iteFb (decide_eq_false fun e => h0 (by have := V.int.inj e; omega)) ?_
            refine ⟨_, rfl, _, rfl, p, l, ns, t, rest, n, rfl, hP, n1, n12, by omega, fun tl ps S rk t' rest' H2 _ h1 h2 ok eS hP2 _ c1 c2 => ?_⟩
            exact ⟨_, _, _, _, _, _, _, _, _, _, _, _, _, _, _, _, _, _, tl, ps, S, rk, 5, t', rest', rfl, h1, h2, ok, eS, hP2, by omega⟩
        · obtain ⟨x5, x6, x7, x8, x9, x10, x11, x12, x13, x14, x15, x16, x17, x18, x19, x20, x21, x22, tl, ps, S, rk, bs, t, rest, rfl, htl, htr, ok, eS, hP, b2⟩ := q
          have sok := sok_of ok
          refine ⟨rfl, _, rfl, tl, _, S, rfl, .inr (.inl (.inl htl)), htr, sok, fun sy G1 s1 hsy hS1 => fun mc dx hx hdx ne => ?_⟩
          have sm := made_same (C := He.ga K "KeepClean") hx hdx ne
          refine ⟨mc, dx, sy, S, rk, bs, rfl, upd_same, hS1.mono (same_sk sm), ok, fun G2 k2 hM2 => ⟨rfl, ?_⟩⟩
          have s2 := butx_same hx hdx ne k2
          have s12 := Same.trans s1 s2
          refine ⟨rfl, _, rfl, tl, _, S, rfl, .inr (.inl (.inl (s12 _ _ htl))), htr.mono (same_sk s12), sok, fun sy2 G3 s3 hsy2 hS3 => fun me dx2 hx2 hdx2 ne2 => ?_⟩
          have sm2 := made_same (C := He.ga K "KeepExact") hx2 hdx2 ne2
          refine ⟨me, dx2, sy2, S, rk, bs, rfl, upd_same, hS3.mono (same_sk sm2), ok, fun G4 k4 hM4 => ⟨rfl, ?_⟩⟩
          have s4 := butx_same hx2 hdx2 ne2 k4
          have s14 := Same.trans s12 (Same.trans s3 s4)
          have hM2' := hM2.same (Same.trans s3 s4)
          rw [eS] at hM2' hM4
          -- the board
          refine ⟨fun σ H' => ∃ (x8 x9 x10 x11 x12 x13 x14 x15 x16 x17 x18 x19 x20 x21 x22 : Option V) (mc me bo : Addr), σ = [some (.ref a), some (.ref p), some (.int (i : Nat)), some (.int (n : Nat)), some (.ref tl), some (.ref mc), some (.ref me), some (.ref bo), x8, x9, x10, x11, x12, x13, x14, x15, x16, x17, x18, x19, x20, x21, x22] ∧ LawI K H' p l ns tl ps S mc S (List.replicate n none) 0 [] me S (List.replicate n none) 0 [] none bo (List.replicate n none) t rest, ?_, fun σ H' q => ?_⟩
          · refine ⟨(by show 1 ≤ sizeLine; decide), fun z hz => ⟨_, rfl, ?_⟩⟩
            have s5 := same_upd (o := .lst [V.non]) hz
            have hz5 : upd G4 z (.lst [V.non]) z = some (.lst [V.non]) := upd_same
            refine ⟨z, _, _, rfl, rfl, hz5, by omega, by omega, by show 1 * _ ≤ _; rw [Int.toNat_natCast, Nat.one_mul]; exact Nat.le_trans n12 (by decide), fun D hD => ?_⟩
            rw [Int.toNat_natCast]
            have fl : ∀ m : Nat, (List.replicate m [V.non]).flatten = (List.replicate m (none : Option Int)).map bV := fun m => by
              induction m with
              | zero => rfl
              | succ m ih => rw [List.replicate_succ, List.flatten_cons, ih]; rfl
            rw [fl]
            have s6 := same_upd (o := .lst ((List.replicate n (none : Option Int)).map bV)) hD
            have s56 := Same.trans s5 s6
            have s16 := Same.trans s14 s56
            have mm : mc ≠ me := fun e => by
              obtain ⟨⟨dy, sy', tb, lt, es, w1, _⟩⟩ := hM2.same s3
              rw [e, hx2] at w1
              cases w1
            exact ⟨_, _, _, _, _, _, _, _, _, _, _, _, _, _, _, mc, me, D, rfl, ⟨hP.same s16, s16 _ _ htl, htr.mono (same_sk s16), hM2'.same s56, hM4.same s56, upd_same, ne_of_none ((Same.trans s14 s5) _ _ hP.lst) hD, fun e => by have := htr.1; rw [e] at this; simp at this; omega, fun e => by have := congrArg List.length e; rw [List.length_replicate] at this; simp at this; omega, mm⟩⟩
          · obtain ⟨x8, x9, x10, x11, x12, x13, x14, x15, x16, x17, x18, x19, x20, x21, x22, mc, me, bo, rfl, I⟩ := q
            have bok0 : BoardOk S (List.replicate n none) := ⟨by rw [List.length_replicate, eS], fun c v h => by
              unfold bat at h
              rw [List.getD_eq_getElem?_getD, List.getElem?_replicate] at h
              split at h <;> cases h⟩
            refine ⟨7, rfl, by decide, by decide, ?_⟩
            refine for_range (lo := 0) (n := 7) (fun j σ H' => ∃ (x8 x9 x10 x11 x12 x13 x14 x15 x16 x17 x18 x19 x20 x21 x22 : Option V) (bo : Addr) (ps : List Addr) (S : Sys) (bd : Board) (cc ce : Nat) (lc le : List Ev) (t rest : Int), σ = [some (.ref a), some (.ref p), some (.int (i : Nat)), some (.int (n : Nat)), some (.ref tl), some (.ref mc), some (.ref me), some (.ref bo), x8, x9, x10, x11, x12, x13, x14, x15, x16, x17, x18, x19, x20, x21, x22] ∧ LawI K H' p l ns tl ps S mc S bd cc lc me S bd ce le none bo bd t rest ∧ SysOk S rk bs ∧ S.length = n ∧ BoardOk S bd ∧ le.length ≤ 42380 ∧ (∀ e ∈ le, EvOk S.length e) ∧ ce ≤ 84760 * j ∧ t ≤ 20000 * i + 10100 + 10 * j)
              ⟨_, _, _, _, _, _, _, _, _, _, _, _, _, _, _, bo, ps, S, _, 0, 0, [], [], t, rest, rfl, I, ok, eS, bok0, Nat.zero_le _, fun e he => absurd he List.not_mem_nil, Nat.zero_le _, by omega⟩ (fun j σ H' hj q => ?_) (fun σ H' q => ?_)
            · clear I htl htr ok eS hP bok0 sok
              obtain ⟨x8, x9, x10, x11, x12, x13, x14, x15, x16, x17, x18, x19, x20, x21, x22, bo, ps, S, bd, cc, ce, lc, le, t, rest, rfl, I, ok, eS, bok, hle, hev, hce, b3⟩ := q
              have ej : (0 : Int) + (j : Nat) = (j : Nat) := Int.zero_add _
              show (tSeq _ _) _ [some (.ref a), some (.ref p), some (.int (i : Nat)), some (.int (n : Nat)), some (.ref tl), some (.ref mc), some (.ref me), some (.ref bo), some (.int (0 + (j : Nat))), x9, x10, x11, x12, x13, x14, x15, x16, x17, x18, x19, x20, x21, x22] H'
              rw [ej]
              -- spot
              refine ⟨_, rfl, _, rfl, p, l, ns, t, rest, n, rfl, I.pen, by omega, by omega, by omega, fun r t1 rest1 H2 r0 r1 c1 c2 k2 hP2 => ?_⟩
              obtain ⟨spot, rfl⟩ : ∃ spot : Nat, r = spot := ⟨r.toNat, by omega⟩
              have hsp : spot < S.length := by omega
              have I2 := I.pdraw k2 hP2
              -- an edit
              refine ⟨fun σ H' => ∃ (x10 x11 x12 x13 x14 x15 x16 x17 x18 x19 x20 x21 x22 : Option V) (bo : Addr) (ps : List Addr) (S : Sys) (bd : Board) (cc ce : Nat) (lc le : List Ev) (t rest : Int), σ = [some (.ref a), some (.ref p), some (.int (i : Nat)), some (.int (n : Nat)), some (.ref tl), some (.ref mc), some (.ref me), some (.ref bo), some (.int (j : Nat)), some (.int (spot : Nat)), x10, x11, x12, x13, x14, x15, x16, x17, x18, x19, x20, x21, x22] ∧ LawI K H' p l ns tl ps S mc S bd cc lc me S bd ce le none bo bd t rest ∧ SysOk S rk bs ∧ S.length = n ∧ BoardOk S bd ∧ le.length ≤ 42380 ∧ (∀ e ∈ le, EvOk S.length e) ∧ ce ≤ 84760 * j ∧ t ≤ 20000 * i + 10100 + 10 * j + 3, ?_, fun σ H' q => ?_⟩
              · refine ⟨_, rfl, p, l, ns, t1, rest1, 5, rfl, hP2, by decide, by decide, by omega, fun r2 t2 rest2 H3 _ _ c3 c4 k3 hP3 => ⟨rfl, _, rfl, ?_⟩⟩
                have I3 := I2.pdraw k3 hP3
                by_cases h0 : r2 = 0
                · refine iteTb (decide_eq_true (by rw [h0])) ?_
                  refine ⟨_, rfl, p, l, ns, t2, rest2, 8, rfl, hP3, by decide, by decide, by omega, fun g t3 rest3 H4 g0 g1 c5 c6 k4 hP4 => ?_⟩
                  have I4 := I3.pdraw k4 hP4
                  have hg : Lev g := ⟨g0, by omega⟩
                  have ok' := reguess_sys (g := g) ok hsp hg
                  have eS' : (reguess S spot g).length = n := by rw [← eS]; exact List.length_set
                  have bok' := editB_ok (S := S) (c := spot) (g := g) bok
                  have ⟨⟨dx, sy, tb, lt, es, h1, _⟩⟩ := I4.hmc
                  refine ⟨_, rfl, mc, dx, _, rfl, h1, rfl, _, rfl, _, rfl, rfl, rfl, mc, S, rk, bs, bd, cc, lc, none, spot, g, rfl, I4.hmc, ok, bok, hsp, hg, fun q H5 k5 hM5 hl5 => ?_⟩
                  have I5 := I4.cleanW k5 hM5
                  -- the triple
                  obtain ⟨tp, htp, ttr⟩ := trip_at I5.tr hsp
                  have ⟨oA, fA, htu, hops, hfn⟩ := ttr
                  refine ⟨_, rfl, _, rfl, .inl ⟨tl, _, _, _, rfl, rfl, .inl (.inl I5.htl), htp, 2, rfl, ?_⟩⟩
                  refine sl_any (.inl (.inl htu)) fun r1 H6 s6 hr1 => ?_
                  have ecut : cutV [V.ref oA, .ref fA, .int (S.at spot).g] none (some 2) = [.ref oA, .ref fA] := rfl
                  rw [ecut] at hr1
                  refine ⟨_, rfl, (by show 1 ≤ sizeLine; decide), fun u hu' => ?_⟩
                  have s7 := same_upd (o := .tup [.int g]) hu'
                  refine ⟨r1, u, _, _, rfl, rfl, same_tk s7 _ _ hr1, sqT_upd, (by show 3 ≤ sizeLine; decide), (fun e => by cases e), (fun _ e => by cases e), fun _ _ z hz => ?_⟩
                  have s8 := same_upd (o := .tup [.ref oA, .ref fA, .int g]) hz
                  have s68 := Same.trans s6 (Same.trans s7 s8)
                  have I6 := I5.same s68
                  have tr : Trip K (upd (upd H6 u (.tup [.int g])) z (.tup [.ref oA, .ref fA, .int g])) z { S.at spot with g := g } := ⟨oA, fA, upd_same, same_tk s68 _ _ hops, hfn.mono (same_tk s68)⟩
                  have hl6 := same_tk (K := K) s68 _ _ hl5
                  rw [show [V.ref oA, .ref fA] ++ [V.int g] = [.ref oA, .ref fA, .int g] from rfl]
                  generalize upd (upd H6 u (.tup [.int g])) z (.tup [.ref oA, .ref fA, .int g]) = H7 at *
                  have lps : ps.length = S.length := I6.tr.1
                  refine ⟨_, rfl, _, rfl, tl, _, ((spot : Nat) : Int), spot, rfl, rfl, I6.htl, by rw [List.length_map, lps]; exact Evl.ixN_nat hsp, ?_⟩
                  have eset : (rV ps).set spot (.ref z) = rV (ps.set spot z) := by show (ps.map V.ref).set spot (V.ref z) = (ps.set spot z).map V.ref; rw [List.map_set]
                  rw [eset]
                  have I7 := I6.trips (trips_set I6.tr hsp tr) (fun e => by have := congrArg List.length e; rw [List.length_set] at this; simp at this; exact I6.ps0 this)
                  have hl7 : SqT K (upd H7 tl (.lst (rV (ps.set spot z)))) q (lV (lostOf S bd spot)) := (SK.upd I6.htl (fun z => z)).tk _ _ hl6
                  show (tSeq _ _) _ _ (upd H7 tl (.lst (rV (ps.set spot z))))
                  generalize upd H7 tl (.lst (rV (ps.set spot z))) = H8 at *
                  -- the board
                  refine ⟨_, rfl, n, rfl, by omega, by omega, fun D hD => ?_⟩
                  rw [Int.toNat_natCast]
                  have lbd : bd.length = n := by rw [bok.len, eS]
                  have ele : ∀ k, k < n → (editB S bd spot)[k]? = some (if k ∈ lostOf S bd spot then none else bat bd k) := fun k hk => by
                    unfold editB
                    rw [List.getElem?_map, List.getElem?_range (by omega)]
                    rfl
                  have lE : (editB S bd spot).length = n := by unfold editB; rw [List.length_map, List.length_range]; exact lbd
                  refine lc_same (walk_range (lo := 0) (n := n)) (fun k acc _ => acc = ((editB S bd spot).take k).map bV) hD (Nat.lt_of_le_of_lt n12 (by decide)) (fun _ _ => trivial) (fun _ _ => rfl) (fun k x H9 H10 acc K1 K0 hk s9 _ _ ea y k1 k0 => ?_) (fun H9 acc s9 ed ea => ?_)
                  · obtain ⟨rfl, rfl⟩ := y
                    have ek : (0 : Int) + (k : Nat) = (k : Nat) := Int.zero_add _
                    have hat : atI (bd.map bV) ((0 : Int) + (k : Nat)) = some (bV (bat bd k)) := by rw [ek]; exact at_nat (by omega) (by rw [Int.toNat_natCast]; exact board_at (by omega))
                    refine ⟨rfl, yesP (iteT ⟨_, rfl, _, rfl, .inl ⟨bo, _, _, _, rfl, rfl, .inl (.inl (s9 _ _ I7.hbo)), hat, (by show 2 ≤ sizeLine; decide), fun y hy => ?_⟩⟩)⟩
                    have s10 := same_upd (o := .lst [bV (bat bd k), .non]) hy
                    have hat2 : atI [bV (bat bd k), .non] (if inV (.int ((0 : Int) + (k : Nat))) (lV (lostOf S bd spot)) = true then 1 else 0) = some (bV (if k ∈ lostOf S bd spot then none else bat bd k)) := by
                      rw [ek, inV_nat]
                      by_cases hm : k ∈ lostOf S bd spot
                      · rw [decide_eq_true hm, if_pos rfl, if_pos hm]; rfl
                      · rw [decide_eq_false hm, if_neg Bool.false_ne_true, if_neg hm]; rfl
                    refine ⟨_, rfl, _, rfl, q, lV (lostOf S bd spot), rfl, .inr (same_tk (Same.trans s9 s10) _ _ hl7), rfl, flat_nat _, .inr ⟨_, rfl, .inl ⟨y, _, _, _, rfl, rfl, sqL_upd, hat2, k1 _ _ s10 fun H11 _ => ?_⟩⟩⟩
                    rw [ea, List.take_add_one, ele k hk, List.map_append]
                    rfl
                  · have ea : acc = (editB S bd spot).map bV := by rw [ea, ← lE, List.take_length]
                    rw [ea] at ed
                    have I9 := (I7.same s9).newB ed (fun e => by have := congrArg List.length e; rw [lE] at this; simp at this; omega) (ne_of_none I7.pen.lst hD)
                    have hl9 := same_tk (K := K) s9 _ _ hl7
                    have ⟨⟨dx2, sy2, tb2, lt2, es2, h2, _⟩⟩ := I9.hme
                    refine ⟨_, rfl, me, dx2, _, rfl, h2, rfl, _, rfl, _, rfl, rfl, rfl, me, S, rk, bs, bd, ce, le, none, spot, g, rfl, I9.hme, ok, bok, hsp, hg, fun q2 H10 k10 hM10 hl10 => ?_⟩
                    refine ⟨_, rfl, dT (lostOf S bd spot), dT (lostOf S bd spot), dp_tup hl10, dp_tup (k10.sk.tk _ _ hl9), sh_dT _, sh_dT _, _, rfl, iteFb (by rw [eqv_dT, decide_eq_true rfl]; rfl) ?_⟩
                    have eL : (reguess S spot g).length = S.length := List.length_set
                    exact ⟨_, _, _, _, _, _, _, _, _, _, _, _, _, D, ps.set spot z, reguess S spot g, editB S bd spot, cc, ce, lc, le, t3, rest3, rfl, I9.exactW k10 hM10, ok', eS', bok', hle, (by rw [eL]; exact hev), hce, by omega⟩
                · refine iteFb (decide_eq_false fun e => h0 (by cases e; rfl)) ?_
                  exact ⟨_, _, _, _, _, _, _, _, _, _, _, _, _, bo, ps, S, bd, cc, ce, lc, le, t2, rest2, rfl, I3, ok, eS, bok, hle, hev, hce, by omega⟩
              · clear I2 I ok eS bok hle hev hce hsp k2 hP2
                obtain ⟨x10, x11, x12, x13, x14, x15, x16, x17, x18, x19, x20, x21, x22, bo, ps, S, bd, cc, ce, lc, le, t, rest, rfl, I, ok, eS, bok, hle, hev, hce, b3⟩ := q
                have hsp : spot < S.length := by omega
                have hn0 : (0 : Int) < (n : Nat) := by omega
                have em : ((spot : Nat) + (j : Nat) : Int) % ((n : Nat) : Int) = (((spot + j) % n : Nat) : Int) := by rw [Int.natCast_emod]; rfl
                obtain ⟨cs, hcs0, hcs1, hcut⟩ : ∃ cs : List Nat, (j % 2 = 0 → cs = [spot]) ∧ (¬ j % 2 = 0 → cs = [spot, (spot + j) % n]) ∧ cutV [V.int (spot : Nat), .int (((spot : Nat) + (j : Nat) : Int) % ((n : Nat) : Int))] none (some (1 + ((j : Nat) : Int) % 2)) = lV cs := by
                  rw [em]
                  by_cases h2 : j % 2 = 0
                  · refine ⟨[spot], fun _ => rfl, fun h => absurd h2 h, ?_⟩
                    rw [show (1 + ((j : Nat) : Int) % 2) = ((1 : Nat) : Int) by omega, cut_to (by show 1 ≤ 2; decide)]
                    rfl
                  · refine ⟨[spot, (spot + j) % n], fun h => absurd h h2, fun _ => rfl, ?_⟩
                    rw [show (1 + ((j : Nat) : Int) % 2) = ((2 : Nat) : Int) by omega, cut_to (by show 2 ≤ 2; decide)]
                    rfl
                have hc2 : (spot + j) % n < n := Nat.mod_lt _ (by omega)
                have csl : cs.length ≤ 2 := by
                  by_cases h2 : j % 2 = 0
                  · rw [hcs0 h2]; show 1 ≤ 2; decide
                  · rw [hcs1 h2]; show 2 ≤ 2; decide
                have csN : ∀ c ∈ cs, c < S.length := fun c hc => by
                  by_cases h2 : j % 2 = 0
                  · rw [hcs0 h2, List.mem_singleton] at hc; rw [hc]; exact hsp
                  · rw [hcs1 h2] at hc
                    rcases List.mem_cons.mp hc with h | h
                    · rw [h]; exact hsp
                    · rw [List.mem_singleton.mp h, eS]; exact hc2
                obtain ⟨cr', ecs⟩ : ∃ r, cs = spot :: r := by
                  by_cases h2 : j % 2 = 0
                  · exact ⟨[], hcs0 h2⟩
                  · exact ⟨_, hcs1 h2⟩
                have cs0 : cs ≠ [] := by rw [ecs]; simp
                -- spots
                refine ⟨_, rfl, _, rfl, _, rfl, _, _, rfl, rfl, _, rfl, _, _, rfl, rfl, hn0, (by show 2 ≤ sizeLine; decide), fun z hz => ?_⟩
                have s1 := same_upd (o := .lst [V.int (spot : Nat), .int (((spot : Nat) + (j : Nat) : Int) % ((n : Nat) : Int))]) hz
                have hz1 : upd H' z (.lst [V.int (spot : Nat), .int (((spot : Nat) + (j : Nat) : Int) % ((n : Nat) : Int))]) z = some (.lst [V.int (spot : Nat), .int (((spot : Nat) + (j : Nat) : Int) % ((n : Nat) : Int))]) := upd_same
                have I1 := I.same s1
                generalize upd H' z (.lst [V.int (spot : Nat), .int (((spot : Nat) + (j : Nat) : Int) % ((n : Nat) : Int))]) = H1 at *
                refine ⟨_, rfl, _, _, rfl, rfl, (by show (0 : Int) < 2; decide), _, _, rfl, rfl, _, rfl, z, _, rfl, .inl (.inl hz1), fun sp hspn => ?_⟩
                rw [hcut]
                have s2 := same_upd (o := .lst (lV cs)) hspn
                have hsp2 : upd H1 sp (.lst (lV cs)) sp = some (.lst (lV cs)) := upd_same
                have I2 := I1.same s2
                have bsp : bo ≠ sp := ne_of_none I1.hbo hspn
                show (tSeq _ _) _ _ (upd H1 sp (.lst (lV cs)))
                generalize upd H1 sp (.lst (lV cs)) = H2 at *
                -- asks
                refine ⟨_, rfl, _, rfl, _, rfl, tl, bo, sp, ps, S, rk, bs, bd, cs, rfl, I2.htl, I2.tr, ok, I2.hbo, bok, hsp2, by omega, csN, I2.nbt, bsp, fun r vl rl rs H3 k3 hb3 hr3 hvl0 hrl0 hvl hrl hrs nd fr avr => ?_⟩
                have bok' := asks_bok ok cs bd 0 [] bok csN
                obtain ⟨bd', hbd'⟩ : ∃ b, b = (asks true S bd 0 [] cs).2.1 := ⟨_, rfl⟩
                obtain ⟨vals, hvals⟩ : ∃ b, b = (asks true S bd 0 [] cs).1 := ⟨_, rfl⟩
                rw [← hbd'] at hb3 bok'
                rw [← hvals] at hvl
                have I3 := I2.board k3 hb3 (fun e => by have := bok'.len; rw [e] at this; simp at this; omega)
                have hsp3 : H3 sp = some (.lst (lV cs)) := k3.kp _ _ (by simpa using Ne.symm bsp) hsp2
                refine ⟨r, _, rfl, hr3, rfl, _, _, rfl, _, _, rfl, rfl, ?_⟩
                -- needs
                refine ⟨fun σ H4 => ∃ (x10 x11 x16 x17 x18 x19 x20 x21 x22 : Option V) (nl : Addr), σ = [some (.ref a), some (.ref p), some (.int (i : Nat)), some (.int (n : Nat)), some (.ref tl), some (.ref mc), some (.ref me), some (.ref bo), some (.int (j : Nat)), some (.int (spot : Nat)), x10, x11, some (.ref sp), some (.ref vl), some (.ref rl), some (.ref nl), x16, x17, x18, x19, x20, x21, x22] ∧ LawI K H4 p l ns tl ps S mc S bd cc lc me S bd ce le none bo bd' t rest ∧ H4 sp = some (.lst (lV cs)) ∧ H4 vl = some (.lst (zV vals)) ∧ H4 rl = some (.lst (rV (rs.map (·.1)))) ∧ RowsA K H4 rs (trail S bd cs) ∧ H4 nl = some (.lst (lV (begs S bd cs))), ?_, fun σ H4 q => ?_⟩
                · have lrs : (rV (rs.map (·.1))).length = rs.length := by rw [List.length_map, List.length_map]
                  have lr : rs.length = cs.length := by rw [hrs.length, trail_len]
                  refine ⟨_, rfl, rl, rfl, ⟨_, .inl (.inl hrl)⟩, fun D hD => ?_⟩
                  refine lc_same (walk_list (xs := rV (rs.map (·.1)))) (fun k acc _ => acc = lV (((trail S bd cs).take k).map fun x => calls x.2)) hD (by rw [lrs, lr]; exact Nat.lt_of_le_of_lt csl (by decide)) (fun H' s => .inl (.inl (s _ _ hrl))) (fun _ _ => rfl) (fun k x H5 H6 acc K1 K0 hk s5 _ _ ea y k1 k0 => ?_) (fun H5 acc s5 ed ea => ?_)
                  · obtain ⟨rfl, hx⟩ := y
                    obtain ⟨a', ha', rfl⟩ := ref_at hx
                    rw [List.getElem?_map] at ha'
                    obtain ⟨pr, hpr, rfl⟩ := Option.map_eq_some_iff.mp ha'
                    obtain ⟨w', hw, h1, h2, es, h3, h4⟩ := paired_at hrs hpr
                    have lw := (trail_ok ok cs bd bok csN w' (List.mem_of_getElem? hw)).2.2
                    refine ⟨pr.1, _, rfl, .inl (.inl (s5 _ _ h1)), rfl, _, _, rfl, _, _, rfl, rfl, rfl, yesP (iteT ?_)⟩
                    have hes5 := s5 _ _ h3
                    have hev5 := h4.mono (same_sk (K := K) s5)
                    have les : (rV es).length = w'.2.length := by rw [List.length_map]; exact h4.length
                    refine ⟨_, rfl, pr.2.2, rfl, ⟨_, .inl (.inl hes5)⟩, fun D2 hD2 => ?_⟩
                    refine lc_same (walk_list (xs := rV es)) (fun m acc _ => acc.length = calls (w'.2.take m)) hD2 (by rw [les]; exact Nat.lt_of_le_of_lt lw (by decide)) (fun H' s => .inl (.inl (s _ _ hes5))) (fun _ _ => rfl) (fun m x H7 H8 acc2 K1' K0' hm s7 _ _ ea2 y2 k1' k0' => ?_) (fun H7 acc2 s7 ed2 ea2 => ?_)
                    · obtain ⟨rfl, hx2⟩ := y2
                      obtain ⟨ev, hev', rfl⟩ := ref_at hx2
                      obtain ⟨e, he, hevt⟩ := paired_at (hev5.mono (same_sk s7)) hev'
                      obtain ⟨rr, hn⟩ := evT_name hevt
                      have etk : calls (w'.2.take (m + 1)) = calls (w'.2.take m) + (if isCall e then 1 else 0) := by
                        rw [List.take_add_one, he]
                        unfold calls
                        rw [List.countP_append]
                        show _ + [e].countP isCall = _
                        rw [List.countP_singleton]
                      refine ⟨rfl, _, rfl, .inr (.inl ⟨_, _, _, _, rfl, rfl, .inl (.inl hn), at_zero, rfl, _, rfl, ?_⟩)⟩
                      cases hcl : isCall e with
                      | true =>
                        refine iteTb (by cases e <;> first | rfl | cases hcl) ⟨_, rfl, k1' _ _ (Same.refl _) fun H9 _ => ?_⟩
                        rw [etk, hcl, List.length_append, ea2]
                        rfl
                      | false =>
                        refine iteFb ?_ (k0' _ (Same.refl _) ?_)
                        · cases e with
                          | call c => cases hcl
                          | stored c v => show decide (V.str ("stored" : PySem.Str) = .str "call") = false; decide +kernel
                          | busy c v => show decide (V.str ("busy" : PySem.Str) = .str "call") = false; decide +kernel
                          | fin c v T k => show decide (V.str ("end" : PySem.Str) = .str "call") = false; decide +kernel
                          | reused c v T => show decide (V.str ("reused" : PySem.Str) = .str "call") = false; decide +kernel
                        · rw [etk, hcl, ea2]
                          rfl
                    · rw [les, List.take_length] at ea2
                      refine ⟨D2, acc2, rfl, .inl (.inl (.inl ed2)), k1 _ _ s7 fun H9 _ => ?_⟩
                      rw [ea, ea2, List.take_add_one, hw, List.map_append, lV_app]
                      rfl
                  · have ea : acc = lV (begs S bd cs) := by
                      rw [ea, lrs, hrs.length, List.take_length, trail_begs ok cs bd bok csN]
                    rw [ea] at ed
                    exact ⟨_, _, _, _, _, _, _, _, _, D, rfl, I3.same s5, s5 _ _ hsp3, s5 _ _ hvl, s5 _ _ hrl, rowsA_keep (R := []) (same_kp s5) hrs (fun p _ => ⟨List.not_mem_nil, List.not_mem_nil⟩), ed⟩
                · obtain ⟨x10, x11, x16, x17, x18, x19, x20, x21, x22, nl, rfl, I4, hsp4, hvl4, hrl4, hrs4, hnl4⟩ := q
                  have frk : ∀ pr ∈ rs, pr.2.1 ≠ l ∧ pr.2.1 ≠ bo ∧ pr.2.1 ≠ tl ∧ pr.2.1 ≠ rl := fun pr hp => ⟨Ne.symm (ne_of_none I2.pen.lst (fr pr hp).1), Ne.symm (ne_of_none I2.hbo (fr pr hp).1), Ne.symm (ne_of_none I2.htl (fr pr hp).1), avr pr hp⟩
                  clear I3 I2 I1 I hsp3 hvl hrl hrs fr avr hb3 hr3 k3 hvl0 hrl0 hsp2 s1 s2 hz1 hz
                  obtain ⟨b0, hb0⟩ : ∃ b0, b0 = (M true S 13 ⟨bd, 0, [], []⟩ [] spot).2.begun := ⟨_, rfl⟩
                  obtain ⟨v0, hv0⟩ : ∃ v0, v0 = (M true S 13 ⟨bd, 0, [], []⟩ [] spot).1.val := ⟨_, rfl⟩
                  have hatb : atI (lV (begs S bd cs)) 0 = some (.int (b0 : Nat)) := by rw [ecs, hb0]; exact at_zero
                  have hatv : atI (zV vals) 0 = some (.int v0) := by rw [hvals, ecs, hv0]; exact at_zero
                  have hb0m : b0 ∈ begs S bd cs := by rw [ecs, hb0]; exact List.mem_cons_self
                  -- what stays where a table is written
                  have stay : ∀ {Hx Hy : Hp} {m C dx : Addr} {fs : List (PySem.Str × V)}, ButX K m Hx Hy → Hx m = some (.ins C dx fs) → (Hx sp = some (.lst (lV cs)) ∧ Hx vl = some (.lst (zV vals)) ∧ Hx rl = some (.lst (rV (rs.map (·.1)))) ∧ RowsA K Hx rs (trail S bd cs) ∧ Hx nl = some (.lst (lV (begs S bd cs)))) → (Hy sp = some (.lst (lV cs)) ∧ Hy vl = some (.lst (zV vals)) ∧ Hy rl = some (.lst (rV (rs.map (·.1)))) ∧ RowsA K Hy rs (trail S bd cs) ∧ Hy nl = some (.lst (lV (begs S bd cs)))) := fun {Hx Hy m C dx fs} k hm ⟨a1, a2, a3, a4, a5⟩ =>
                    ⟨k.kp _ _ (ne_of a1 hm (by simp)) a1, k.kp _ _ (ne_of a2 hm (by simp)) a2, k.kp _ _ (ne_of a3 hm (by simp)) a3, rowsA_keep (R := [m]) ⟨k.sk, fun x o n h => k.kp x o (by simpa using n) h⟩ a4 (fun pr hp => by
                      obtain ⟨w', _, _, h2, es, h3, _⟩ := paired_mem a4 hp
                      exact ⟨by simpa using ne_of h2 hm (by simp), by simpa using ne_of h3 hm (by simp)⟩), k.kp _ _ (ne_of a5 hm (by simp)) a5⟩
                  have stayS : ∀ {Hx Hy : Hp}, Same Hx Hy → (Hx sp = some (.lst (lV cs)) ∧ Hx vl = some (.lst (zV vals)) ∧ Hx rl = some (.lst (rV (rs.map (·.1)))) ∧ RowsA K Hx rs (trail S bd cs) ∧ Hx nl = some (.lst (lV (begs S bd cs)))) → (Hy sp = some (.lst (lV cs)) ∧ Hy vl = some (.lst (zV vals)) ∧ Hy rl = some (.lst (rV (rs.map (·.1)))) ∧ RowsA K Hy rs (trail S bd cs) ∧ Hy nl = some (.lst (lV (begs S bd cs)))) := fun {Hx Hy} s ⟨a1, a2, a3, a4, a5⟩ => ⟨s _ _ a1, s _ _ a2, s _ _ a3, rowsA_keep (R := []) (same_kp s) a4 (fun pr hp => ⟨List.not_mem_nil, List.not_mem_nil⟩), s _ _ a5⟩
                  have L4 : H4 sp = some (.lst (lV cs)) ∧ H4 vl = some (.lst (zV vals)) ∧ H4 rl = some (.lst (rV (rs.map (·.1)))) ∧ RowsA K H4 rs (trail S bd cs) ∧ H4 nl = some (.lst (lV (begs S bd cs))) := ⟨hsp4, hvl4, hrl4, hrs4, hnl4⟩
                  have ⟨⟨dx4, sy4, tb4, lt4, es4, m4, _⟩⟩ := I4.hme
                  -- the limit
                  refine ⟨_, rfl, _, rfl, _, rfl, .inl ⟨nl, _, _, _, rfl, rfl, .inl (.inl hnl4), hatb, me, S, rk, bs, bd, ce, le, none, spot, b0, rfl, I4.hme, ok, bok, hsp, hb0, hle, hev, by omega, fun H5 k5 hM5 => ⟨true, rfl, iteF ?_⟩⟩⟩
                  have I5 := I4.exactW k5 hM5
                  have L5 := stay k5 m4 L4
                  obtain ⟨lim', hlim'⟩ : ∃ lim', lim' = (if b0 = 0 then none else some b0) := ⟨_, rfl⟩
                  rw [← hlim'] at I5
                  have hfit0 : fitsL lim' (M true S 13 ⟨bd, 0, [], []⟩ [] spot).2.begun := by
                    rw [← hb0, hlim']
                    intro L e
                    by_cases hz : b0 = 0
                    · rw [hz]; exact Nat.zero_le _
                    · rw [if_neg hz] at e; cases e; exact Nat.le_refl _
                  have ⟨⟨dx5, sy5, tb5, lt5, es5, m5, _⟩⟩ := I5.hme
                  refine ⟨_, rfl, me, dx5, _, rfl, m5, rfl, _, rfl, _, rfl, me, S, rk, bs, bd, ce, le, lim', [spot, spot], rfl, I5.hme, ok, bok, Nat.le_trans hle (by decide), (by show 2 ≤ 100; decide), (fun c hc => by
                    rcases List.mem_cons.mp hc with h | h
                    · rw [h]; exact hsp
                    · rw [List.mem_singleton.mp h]; exact hsp), tried_fit ok hsp bok lim' hfit0, fun q H6 s6 hq => ?_⟩
                  rw [tried_two ok hsp bok ce le, ← hv0] at hq
                  have L6 := stayS s6 L5
                  refine ⟨_, rfl, .inl ⟨vl, _, _, _, rfl, rfl, .inl (.inl L6.2.1), hatv, _, rfl, .inl ⟨vl, _, _, _, rfl, rfl, .inl (.inl L6.2.1), hatv, (by show 2 ≤ sizeLine; decide), fun u hu' => ?_⟩⟩⟩
                  have s7 := same_upd (o := .tup [.int v0, .int v0]) hu'
                  refine ⟨.tuple [.int v0, .int v0], .tuple [.int v0, .int v0], .tup (same_tk s7 _ _ hq) (.cons (.int _) (.cons (.int _) .nil)), .tup sqT_upd (.cons (.int _) (.cons (.int _) .nil)), sh_t2 v0, sh_t2 v0, _, rfl, iteFb (by rw [SeqAt.eqv_refl _ (SeqAt.canLay_of_shaped (sh_t2 v0))]; rfl) ?_⟩
                  have I7 := (I5.same s6).same s7
                  have L7 := stayS s7 L6
                  generalize upd H6 u (.tup [.int v0, .int v0]) = H7 at *
                  -- costs
                  have ⟨⟨dx7, sy7, tb7, lt7, es7, m7, _⟩⟩ := I7.hme
                  have ⟨⟨dy7, sz7, tc7, lu7, et7, n7, _⟩⟩ := I7.hmc
                  refine ⟨_, rfl, mc, dy7, _, rfl, n7, mc, dy7, _, _, rfl, n7, rfl, _, rfl, me, dx7, _, rfl, m7, me, dx7, _, _, rfl, m7, rfl, _, rfl, nl, iN (begs S bd cs), rfl, .inl (by rw [show (iN (begs S bd cs)).map V.int = lV (begs S bd cs) from zl _]; exact .inl (.inl L7.2.2.2.2)), _, _, rfl, rfl, (by show 2 ≤ sizeLine; decide), fun co hco => ?_⟩
                  have esum : ((ce : Nat) : Int) + (iN (begs S bd cs)).sum = ((ce + (begs S bd cs).sum : Nat) : Int) := by rw [sum_iN]; omega
                  show (Evl.tCut _ _) _ _ (upd H7 co (.lst [.int (cc : Nat), .int (((ce : Nat) : Int) + (iN (begs S bd cs)).sum)]))
                  rw [esum]
                  have s8 := same_upd (o := .lst [.int (cc : Nat), .int ((ce + (begs S bd cs).sum : Nat) : Int)]) hco
                  have hco8 : upd H7 co (.lst [.int (cc : Nat), .int ((ce + (begs S bd cs).sum : Nat) : Int)]) co = some (.lst [.int (cc : Nat), .int ((ce + (begs S bd cs).sum : Nat) : Int)]) := upd_same
                  have I8 := I7.same s8
                  have L8 := stayS s8 L7
                  generalize upd H7 co (.lst [.int (cc : Nat), .int ((ce + (begs S bd cs).sum : Nat) : Int)]) = H8 at *
                  -- set_limit
                  refine ⟨fun σ H9 => ∃ (x10 x11 x17 x18 x19 x20 x21 x22 : Option V) (mx : Nat), σ = [some (.ref a), some (.ref p), some (.int (i : Nat)), some (.int (n : Nat)), some (.ref tl), some (.ref mc), some (.ref me), some (.ref bo), some (.int (j : Nat)), some (.int (spot : Nat)), x10, x11, some (.ref sp), some (.ref vl), some (.ref rl), some (.ref nl), some (.ref co), x17, x18, x19, x20, x21, x22] ∧ LawI K H9 p l ns tl ps S mc S bd cc lc me S bd ce le (some mx) bo bd' t rest ∧ (∀ x ∈ begs S bd cs, x ≤ mx) ∧ (H9 sp = some (.lst (lV cs)) ∧ H9 vl = some (.lst (zV vals)) ∧ H9 rl = some (.lst (rV (rs.map (·.1)))) ∧ RowsA K H9 rs (trail S bd cs) ∧ H9 nl = some (.lst (lV (begs S bd cs)))) ∧ H9 co = some (.lst [.int (cc : Nat), .int ((ce + (begs S bd cs).sum : Nat) : Int)]), ?_, fun σ H9 q => ?_⟩
                  · have ⟨⟨dx8, sy8, tb8, lt8, es8, m8, _⟩⟩ := I8.hme
                    refine ⟨_, rfl, me, dx8, _, rfl, m8, rfl, _, rfl, nl, iN (begs S bd cs), rfl, by rw [show (iN (begs S bd cs)).map V.int = lV (begs S bd cs) from zl _]; exact .inl (.inl L8.2.2.2.2), (by rw [List.length_map]; exact List.length_pos_of_mem hb0m), fun m h1 h2 => ?_⟩
                    obtain ⟨mx, hmx, rfl⟩ := List.mem_map.mp h1
                    refine ⟨me, S, bd, ce, le, lim', some mx, rfl, I8.hme, fun H9 k9 hM9 => ?_⟩
                    exact ⟨_, _, _, _, _, _, _, _, mx, rfl, I8.exactW k9 hM9, fun x hx => by have := h2 (x : Int) (List.mem_map.mpr ⟨x, hx, rfl⟩); omega, stay k9 m8 L8, k9.kp _ _ (ne_of hco8 m8 (by simp)) hco8⟩
                  · obtain ⟨x10, x11, x17, x18, x19, x20, x21, x22, mx, rfl, I9, hmx, L9, hco9⟩ := q
                    clear I8 I7 I5 I4 L8 L7 L6 L5 L4 hsp4 hvl4 hrl4 hrs4 hnl4 hM5 k5 s6 s7 s8 hco8 hq hu'
                    obtain ⟨le', hle'⟩ : ∃ le', le' = (asks true S bd 0 [] cs).2.2.2 := ⟨_, rfl⟩
                    have e1 : (asks true S bd ce le cs).1 = vals := by rw [hvals]; exact (asks_ind true S cs bd ce 0 le []).1
                    have e2 : (asks true S bd ce le cs).2.1 = bd' := by rw [hbd']; exact (asks_ind true S cs bd ce 0 le []).2.1
                    have e3 : (asks true S bd ce le cs).2.2.2 = le' := by rw [hle']; exact (asks_ind true S cs bd ce 0 le []).2.2 cs0
                    have e4 : (asks true S bd ce le cs).2.2.1 = ce + (begs S bd cs).sum := asks_cnt S cs bd ce le
                    have hfits := fit_max cs bd hmx
                    have ⟨⟨dx9, sy9, tb9, lt9, es9, m9, _⟩⟩ := I9.hme
                    -- told
                    refine ⟨fun σ H10 => ∃ (x10 x11 x18 x19 x20 x21 x22 : Option V) (td v1 : Addr), σ = [some (.ref a), some (.ref p), some (.int (i : Nat)), some (.int (n : Nat)), some (.ref tl), some (.ref mc), some (.ref me), some (.ref bo), some (.int (j : Nat)), some (.int (spot : Nat)), x10, x11, some (.ref sp), some (.ref vl), some (.ref rl), some (.ref nl), some (.ref co), some (.ref td), x18, x19, x20, x21, x22] ∧ LawI K H10 p l ns tl ps S mc S bd cc lc me S bd' (ce + (begs S bd cs).sum) le' (some mx) bo bd' t rest ∧ (H10 sp = some (.lst (lV cs)) ∧ H10 vl = some (.lst (zV vals)) ∧ H10 rl = some (.lst (rV (rs.map (·.1)))) ∧ RowsA K H10 rs (trail S bd cs) ∧ H10 nl = some (.lst (lV (begs S bd cs)))) ∧ H10 co = some (.lst [.int (cc : Nat), .int ((ce + (begs S bd cs).sum : Nat) : Int)]) ∧ H10 td = some (.lst [.ref v1]) ∧ H10 v1 = some (.lst (zV vals)), ?_, fun σ H10 q => ?_⟩
                    · refine ⟨_, rfl, _, _, rfl, rfl, (by show (0 : Int) < 2; decide), rfl, _, rfl, ?_⟩
                      by_cases h2 : j % 2 = 0
                      · refine iteTb (decide_eq_true (by show V.int (((j : Nat) : Int) % 2) = V.int 0; rw [show ((j : Nat) : Int) % 2 = 0 by omega])) ?_
                        refine ⟨_, rfl, me, dx9, _, rfl, m9, rfl, _, rfl, me, S, rk, bs, bd, ce, le, some mx, spot, rfl, I9.hme, ok, bok, hsp, fun _ H10 k10 hM10 => ⟨(by show 1 ≤ sizeLine; decide), fun z hz => ⟨(by show 1 ≤ sizeLine; decide), fun y hy => ?_⟩⟩, fun nf => absurd (fun L e => by cases e; rw [← hb0]; exact hmx b0 hb0m) nf⟩
                        have hM : MemoAt K H10 true me S (asks true S bd ce le cs).2.1 (asks true S bd ce le cs).2.2.1 (asks true S bd ce le cs).2.2.2 (some mx) := by rw [hcs0 h2]; exact hM10
                        rw [e2, e3, e4] at hM
                        have ev : [V.int (M true S 13 ⟨bd, 0, [], []⟩ [] spot).1.val] = zV vals := by rw [← e1, hcs0 h2]; rfl
                        have s11 := same_upd (o := .lst [V.int (M true S 13 ⟨bd, 0, [], []⟩ [] spot).1.val]) hz
                        have s12 := same_upd (o := .lst [V.ref z]) hy
                        have s112 := Same.trans s11 s12
                        exact ⟨_, _, _, _, _, _, _, y, z, rfl, (I9.exactW k10 hM).same s112, stayS s112 (stay k10 m9 L9), s112 _ _ (k10.kp _ _ (ne_of hco9 m9 (by simp)) hco9), upd_same, by rw [← ev]; exact s12 _ _ upd_same⟩
                      · refine iteFb (decide_eq_false (fun e => h2 (by have := V.int.inj e; omega))) ?_
                        have hat1 : atI (lV cs) 1 = some (.int ((spot + j) % n : Nat)) := by rw [hcs1 h2]; exact at_one
                        refine ⟨_, rfl, me, dx9, _, rfl, m9, rfl, _, rfl, _, rfl, .inl ⟨sp, _, _, _, rfl, rfl, .inl (.inl L9.1), hat1, me, S, rk, bs, bd, ce, le, some mx, cs, by rw [hcs1 h2]; rfl, I9.hme, ok, bok, Nat.le_trans hle (by decide), by omega, csN, hfits, fun q H10 k10 hM hq => ?_⟩⟩
                        rw [e2, e3, e4] at hM
                        rw [e1] at hq
                        refine ⟨q, _, rfl, .inr hq, fun z hz => ⟨(by show 1 ≤ sizeLine; decide), fun y hy => ?_⟩⟩
                        have s11 := same_upd (o := .lst (zV vals)) hz
                        have s12 := same_upd (o := .lst [V.ref z]) hy
                        have s112 := Same.trans s11 s12
                        exact ⟨_, _, _, _, _, _, _, y, z, rfl, (I9.exactW k10 hM).same s112, stayS s112 (stay k10 m9 L9), s112 _ _ (k10.kp _ _ (ne_of hco9 m9 (by simp)) hco9), upd_same, s12 _ _ upd_same⟩
                    · obtain ⟨x10, x11, x18, x19, x20, x21, x22, td, v1, rfl, I10, L10, hco10, htd, hv1⟩ := q
                      clear I9 L9 hco9 m9
                      obtain ⟨ccF, hccF⟩ : ∃ x, x = (asks false S bd cc lc cs).2.2.1 := ⟨_, rfl⟩
                      obtain ⟨lcF, hlcF⟩ : ∃ x, x = (asks false S bd cc lc cs).2.2.2 := ⟨_, rfl⟩
                      obtain ⟨w1, w2, w3⟩ := asks_two ok cs bd cc 0 lc [] bok csN
                      rw [asks_cnt, ← hccF] at w3
                      rw [← hvals] at w1
                      rw [← hbd'] at w2
                      have hlev : ∀ v ∈ vals, Lev v := by rw [hvals]; exact asks_vals ok cs bd 0 [] bok csN
                      have lvals : vals.length = cs.length := by rw [hvals]; exact asks_len true S cs bd 0 []
                      have ⟨⟨dy10, sz10, tc10, lu10, et10, n10, _⟩⟩ := I10.hmc
                      -- told
                      refine ⟨fun σ H11 => ∃ (x10 x11 x18 x19 x20 x21 x22 : Option V) (td v1 v2 te tc : Addr), σ = [some (.ref a), some (.ref p), some (.int (i : Nat)), some (.int (n : Nat)), some (.ref tl), some (.ref mc), some (.ref me), some (.ref bo), some (.int (j : Nat)), some (.int (spot : Nat)), x10, x11, some (.ref sp), some (.ref vl), some (.ref rl), some (.ref nl), some (.ref co), some (.ref td), x18, x19, x20, x21, x22] ∧ LawI K H11 p l ns tl ps S mc S bd' ccF lcF me S bd' (ce + (begs S bd cs).sum) le' (some mx) bo bd' t rest ∧ (H11 sp = some (.lst (lV cs)) ∧ H11 vl = some (.lst (zV vals)) ∧ H11 rl = some (.lst (rV (rs.map (·.1)))) ∧ RowsA K H11 rs (trail S bd cs) ∧ H11 nl = some (.lst (lV (begs S bd cs)))) ∧ H11 co = some (.lst [.int (cc : Nat), .int ((ce + (begs S bd cs).sum : Nat) : Int)]) ∧ H11 td = some (.lst [.ref v1, .ref v2, .ref te, .ref tc]) ∧ H11 v1 = some (.lst (zV vals)) ∧ H11 v2 = some (.lst (zV vals)) ∧ H11 te = some (.tup (bd'.map bV)) ∧ H11 tc = some (.tup (bd'.map bV)), ?_, fun σ H11 q => ?_⟩
                      · refine ⟨_, rfl, _, rfl, sp, rfl, ⟨_, .inl (.inl L10.1)⟩, fun D hD => ?_⟩
                        have mD : mc ≠ D := ne_of_none n10 hD
                        have spm : sp ≠ mc := ne_of L10.1 n10 (by simp)
                        have lcs : (lV cs).length = cs.length := List.length_map _
                        have lim0 : ∀ n, fitsL none n := fun n L e => by cases e
                        refine turns (walk_list (xs := lV cs)) (fun k H' => H' D = some (.lst (zV (asks false S bd cc lc (cs.take k)).1)) ∧ MemoAt K H' false mc S (asks false S bd cc lc (cs.take k)).2.1 (asks false S bd cc lc (cs.take k)).2.2.1 (asks false S bd cc lc (cs.take k)).2.2.2 none ∧ ButX K mc H10 H')
                          ⟨upd_same, I10.hmc.same (same_upd hD), (ButX.refl K mc H10).same (same_upd hD)⟩ (fun k H' _ q => .inl (.inl (q.2.2.kp _ _ spm L10.1))) (fun k x H2 H3 hk q y => ?_) (fun H2 q => ?_)
                        · obtain ⟨rfl, hx⟩ := y
                          obtain ⟨c, hc, rfl⟩ := nat_at hx
                          obtain ⟨eD, hM, kk⟩ := q
                          have hcm := List.mem_of_getElem? hc
                          have bok1 : BoardOk S (asks false S bd cc lc (cs.take k)).2.1 := by
                            rw [(asks_two ok (cs.take k) bd cc 0 lc [] bok (fun d hd => csN d (List.mem_of_mem_take hd))).2.1]
                            exact asks_bok ok (cs.take k) bd 0 [] bok fun d hd => csN d (List.mem_of_mem_take hd)
                          have est : asks false S bd cc lc (cs.take (k + 1)) = asks false S bd cc lc (cs.take k ++ [c]) := by rw [List.take_add_one, hc]; rfl
                          have ⟨⟨dx, sys, tb, lt, es, h1, _⟩⟩ := hM
                          refine ⟨rfl, yesP (iteT ⟨_, rfl, mc, dx, _, rfl, h1, rfl, _, rfl, mc, S, rk, bs, _, _, _, none, c, rfl, hM, ok, bok1, csN c hcm, fun _ H4 k4 hM4 => ?_, fun nf => absurd (lim0 _) nf⟩)⟩
                          have eD4 := k4.kp _ _ (Ne.symm mD) eD
                          have s5 : SK K H4 (upd H4 D (.lst (zV (asks false S bd cc lc (cs.take k)).1 ++ [.int (M false S 13 ⟨(asks false S bd cc lc (cs.take k)).2.1, 0, [], []⟩ [] c).1.val]))) := .upd eD4 (fun z => z)
                          refine ⟨_, eD4, by rw [List.length_map, asks_len, List.length_take]; exact Nat.lt_of_le_of_lt (show _ ≤ 2 by omega) (by decide), ?_, ?_, ⟨(kk.sk.trans k4.sk).trans s5, fun a' u na h => ?_⟩⟩
                          · rw [est, asks_app, upd_same]
                            simp [zV]
                          · rw [est, asks_app]
                            have ⟨⟨dx', sys', tb', lt', es', g1, g2, g3, g4, g5⟩⟩ := hM4
                            have ne : lt' ≠ D := fun e => by
                              rw [e, eD4] at g4
                              have e1 := HO.lst.inj (Option.some.inj g4)
                              have h0 := ask_some (ex := false) (S := S) (b := (asks false S bd cc lc (cs.take k)).2.1) (c := c)
                              cases es' with
                              | nil => have := g5.length; rw [← this] at h0; simp at h0
                              | cons a es => cases hz : (asks false S bd cc lc (cs.take k)).1 with
                                | nil => rw [hz] at e1; cases e1
                                | cons z l => rw [hz] at e1; cases e1
                            exact ⟨⟨dx', sys', tb', lt', es', by rw [upd_ne mD]; exact g1, g2.mono s5, s5 _ _ trivial g3, by rw [upd_ne ne]; exact g4, g5.mono s5⟩⟩
                          · rw [upd_ne (ne_of_none h hD)]
                            exact k4.kp a' u na (kk.kp a' u na h)
                        · obtain ⟨eD, hM, kk⟩ := q
                          rw [lcs, List.take_length] at eD hM
                          rw [w1] at eD
                          rw [w2, ← hccF, ← hlcF] at hM
                          have I11 := I10.cleanW kk hM
                          have L11 := stay kk n10 L10
                          have td11 := kk.kp _ _ (ne_of htd n10 (by simp)) htd
                          have v11 := kk.kp _ _ (ne_of hv1 n10 (by simp)) hv1
                          have co11 := kk.kp _ _ (ne_of hco10 n10 (by simp)) hco10
                          have ⟨⟨dx11, sy11, te11, lt11, es11, m11, _, mt11, _⟩⟩ := I11.hme
                          have ⟨⟨dy11, sz11, tc11, lu11, et11, n11, _, nt11, _⟩⟩ := I11.hmc
                          refine ⟨_, rfl, me, dx11, _, rfl, m11, me, dx11, _, _, rfl, m11, rfl, _, rfl, mc, dy11, _, rfl, n11, mc, dy11, _, _, rfl, n11, rfl, (by show 3 ≤ sizeLine; decide), fun z hz => ?_⟩
                          have s12 := same_upd (o := .lst [V.ref D, .ref te11, .ref tc11]) hz
                          refine ⟨td, z, _, _, rfl, rfl, s12 _ _ td11, upd_same, (by show 4 ≤ sizeLine; decide), fun y hy => ?_⟩
                          have s13 := same_upd (o := .lst ([V.ref v1] ++ [.ref D, .ref te11, .ref tc11])) hy
                          have s123 := Same.trans s12 s13
                          exact ⟨_, _, _, _, _, _, _, y, v1, D, te11, tc11, rfl, I11.same s123, stayS s123 L11, s123 _ _ co11, upd_same, s123 _ _ v11, s123 _ _ eD, s123 _ _ mt11, s123 _ _ nt11⟩
                      · obtain ⟨x10, x11, x18, x19, x20, x21, x22, td, v1, v2, te, tc, rfl, I11, L11, hco11, htd, hv1, hv2, hte, htc⟩ := q
                        clear I10 L10 hco10 n10
                        have hle2 := asks_log ok cs bd 0 [] bok csN (Nat.zero_le _) (fun e he => absurd he List.not_mem_nil)
                        rw [← hle'] at hle2
                        obtain ⟨hle2, hev2⟩ := hle2
                        have hsm := begs_small ok cs bd bok csN
                        have dok := dok_told hlev (by omega) bok' ok.len
                        have hcnt : ce + (begs S bd cs).sum < 10 ^ 7 := by omega
                        have dok2 := dok_evc ok.len hev2 hle2 hcnt
                        -- what is told
                        refine ⟨_, rfl, td, toldD vals bd', rfl, .lst (.inl (.inl htd)) (.cons (.lst (.inl (.inl hv1)) (dpAll_z vals)) (.cons (.lst (.inl (.inl hv2)) (dpAll_z vals)) (.cons (.tup (.inl (.inl hte)) (dpAll_b bd')) (.cons (.tup (.inl (.inl htc)) (dpAll_b bd')) .nil)))), dok.sh, dok.nd, Nat.le_trans dok.dp (by decide), dok_len dok (by decide), ?_⟩
                        refine ⟨_, rfl, _, rfl, _, rfl, bo, _, rfl, .inl ⟨.inl (.inl I11.hbo), fun b1 hb1 => ?_⟩⟩
                        have s1 := same_upd (o := .tup (bd'.map bV)) hb1
                        refine ⟨_, rfl, bo, _, rfl, .inl ⟨.inl (.inl (s1 _ _ I11.hbo)), fun b2 hb2 => ⟨(by show 4 ≤ sizeLine; decide), fun z hz => ?_⟩⟩⟩
                        have s2 := same_upd (o := .tup (bd'.map bV)) hb2
                        have s3 := same_upd (o := .lst [V.ref vl, .ref vl, .ref b1, .ref b2]) hz
                        have s23 := Same.trans s2 s3
                        have s13 := Same.trans s1 s23
                        refine ⟨z, toldD vals bd', rfl, .lst (.inl (.inl upd_same)) (.cons (.lst (.inl (.inl (s13 _ _ L11.2.1))) (dpAll_z vals)) (.cons (.lst (.inl (.inl (s13 _ _ L11.2.1))) (dpAll_z vals)) (.cons (.tup (same_tk s23 _ _ sqT_upd) (dpAll_b bd')) (.cons (.tup (same_tk s3 _ _ sqT_upd) (dpAll_b bd')) .nil)))), dok.sh, dok.nd, Nat.le_trans dok.dp (by decide), dok_len dok (by decide), ?_⟩
                        refine ⟨rfl, _, rfl, iteFb (by rw [decide_eq_true rfl]; rfl) ?_⟩
                        have I12 := I11.same s13
                        have L12 := stayS s13 L11
                        have co12 := s13 _ _ hco11
                        generalize upd (upd (upd H11 b1 (.tup (bd'.map bV))) b2 (.tup (bd'.map bV))) z (.lst [V.ref vl, .ref vl, .ref b1, .ref b2]) = H12 at *
                        have ⟨⟨dx, sy, tb, lt, es, m1, _, _, mlt, mev⟩⟩ := I12.hme
                        have ⟨⟨dy, sz, tcx, lu, et, n1', _⟩⟩ := I12.hmc
                        refine ⟨_, rfl, _, rfl, me, dx, _, mc, dy, _, rfl, rfl, m1, n1', me, mc, S, bd', _, _, _, _, _, _, rfl, I12.hme, I12.hmc, true, rfl, true, rfl, iteF ?_⟩
                        refine ⟨_, rfl, _, rfl, mc, dy, _, me, dx, _, rfl, rfl, n1', m1, me, mc, S, bd', _, _, _, _, _, _, rfl, I12.hme, I12.hmc, true, rfl, _, rfl, iteF ?_⟩
                        -- the events, the calls
                        have les : (rV es).length ≤ sizeLine := by rw [List.length_map, mev.length]; exact Nat.le_trans hle2 (by decide)
                        refine ⟨_, rfl, me, dx, _, rfl, m1, rfl, me, dx, lt, _, _, rfl, m1, rfl, mlt, les, fun q hq => ?_⟩
                        have s4 := same_upd (o := .lst (rV es)) hq
                        have m2 := s4 _ _ m1
                        refine ⟨_, rfl, me, dx, _, rfl, m2, me, dx, _, _, rfl, m2, rfl, (by show 2 ≤ sizeLine; decide), fun u hu' => ?_⟩
                        have s5 := same_upd (o := .tup [.ref q, .int ((ce + (begs S bd cs).sum : Nat) : Int)]) hu'
                        have s45 := Same.trans s4 s5
                        refine ⟨u, .tuple [.list (le'.map evD), .int ((ce + (begs S bd cs).sum : Nat) : Int)], rfl, .tup sqT_upd (.cons (.lst (.inl (.inl (s5 _ _ upd_same))) (dp_evs (mev.mono (same_sk s45)))) (.cons (.int _) .nil)), dok2.sh, dok2.nd, Nat.le_trans dok2.dp (by decide), dok_len dok2 (by decide), ?_⟩
                        have L14 := stayS s45 L12
                        have I14 := I12.same s45
                        have co14 := s45 _ _ co12
                        generalize upd (upd H12 q (.lst (rV es))) u (.tup [.ref q, .int ((ce + (begs S bd cs).sum : Nat) : Int)]) = H14 at *
                        obtain ⟨tr0, bl, etr⟩ := trail_last (S := S) cs0 bd
                        rw [← hle'] at etr
                        have hrl14 := L14.2.2.1
                        have hrs14 := L14.2.2.2.1
                        have lr : rs.length = cs.length := by rw [hrs14.length, trail_len]
                        obtain ⟨rs0, pr, ers⟩ : ∃ rs0 pr, rs = rs0 ++ [pr] := by
                          rcases List.eq_nil_or_concat rs with e | ⟨r0, c, e⟩
                          · rw [e, ecs] at lr; simp at lr
                          · exact ⟨r0, c, by rw [e, List.concat_eq_append]⟩
                        have lr0 : rs0.length = tr0.length := by
                          have := hrs14.length
                          rw [etr, ers, List.length_append, List.length_append] at this
                          exact Nat.succ.inj this
                        obtain ⟨y, hy, h1, h2, es2, h3, h4⟩ := paired_at hrs14 (i := rs0.length) (x := pr) (by rw [ers]; simp)
                        have ey : y.2 = le' := by
                          rw [etr, lr0] at hy
                          simp at hy
                          rw [← hy]
                        rw [ey] at h4
                        have hatl : atI (rV (rs.map (·.1))) (-1) = some (.ref pr.1) := by
                          rw [ers, List.map_append, rV_app]
                          exact at_last
                        refine ⟨_, rfl, _, rfl, .inl ⟨rl, _, _, _, rfl, rfl, .inl (.inl hrl14), hatl, .inr (.inl ⟨pr.1, _, _, _, rfl, rfl, .inl (.inl h1), at_one, ?_⟩)⟩⟩
                        refine ⟨_, rfl, .inl ⟨co, _, _, _, rfl, rfl, .inl (.inl co14), at_one, (by show 2 ≤ sizeLine; decide), fun z2 hz2 => ?_⟩⟩
                        have s6 := same_upd (o := .tup [.ref pr.2.2, .int ((ce + (begs S bd cs).sum : Nat) : Int)]) hz2
                        refine ⟨z2, .tuple [.list (le'.map evD), .int ((ce + (begs S bd cs).sum : Nat) : Int)], rfl, .tup sqT_upd (.cons (.lst (.inl (.inl (s6 _ _ h3))) (dp_evs (h4.mono (same_sk s6)))) (.cons (.int _) .nil)), dok2.sh, dok2.nd, Nat.le_trans dok2.dp (by decide), dok_len dok2 (by decide), ?_⟩
                        refine ⟨rfl, _, rfl, iteFb (by rw [decide_eq_true rfl]; rfl) ?_⟩
                        have I15 := I14.same s6
                        have L15 := stayS s6 L14
                        have co15 := s6 _ _ co14
                        generalize upd H14 z2 (.tup [.ref pr.2.2, .int ((ce + (begs S bd cs).sum : Nat) : Int)]) = H15 at *
                        -- set_limit(None)
                        refine ⟨fun σ H16 => ∃ (x10 x11 x18 x19 x20 x21 x22 : Option V), σ = [some (.ref a), some (.ref p), some (.int (i : Nat)), some (.int (n : Nat)), some (.ref tl), some (.ref mc), some (.ref me), some (.ref bo), some (.int (j : Nat)), some (.int (spot : Nat)), x10, x11, some (.ref sp), some (.ref vl), some (.ref rl), some (.ref nl), some (.ref co), some (.ref td), x18, x19, x20, x21, x22] ∧ LawI K H16 p l ns tl ps S mc S bd' ccF lcF me S bd' (ce + (begs S bd cs).sum) le' none bo bd' t rest ∧ (H16 sp = some (.lst (lV cs)) ∧ H16 vl = some (.lst (zV vals)) ∧ H16 rl = some (.lst (rV (rs.map (·.1)))) ∧ RowsA K H16 rs (trail S bd cs) ∧ H16 nl = some (.lst (lV (begs S bd cs)))) ∧ H16 co = some (.lst [.int (cc : Nat), .int ((ce + (begs S bd cs).sum : Nat) : Int)]), ?_, fun σ H16 q => ?_⟩
                        · have ⟨⟨dx15, sy15, tb15, lt15, es15, m15, _⟩⟩ := I15.hme
                          refine ⟨_, rfl, me, dx15, _, rfl, m15, rfl, me, S, bd', _, le', some mx, none, rfl, I15.hme, fun H16 k16 hM16 => ?_⟩
                          exact ⟨_, _, _, _, _, _, _, rfl, I15.exactW k16 hM16, stay k16 m15 L15, k16.kp _ _ (ne_of co15 m15 (by simp)) co15⟩
                        · obtain ⟨x10, x11, x18, x19, x20, x21, x22, rfl, I16, L16, co16⟩ := q
                          have ⟨⟨dy16, sz16, tc16, lu16, et16, n16, _⟩⟩ := I16.hmc
                          refine ⟨_, rfl, nl, iN (begs S bd cs), rfl, .inl (by rw [show (iN (begs S bd cs)).map V.int = lV (begs S bd cs) from zl _]; exact .inl (.inl L16.2.2.2.2)), ?_⟩
                          refine ⟨_, rfl, mc, dy16, _, rfl, n16, mc, dy16, _, _, rfl, n16, rfl, _, rfl, .inl ⟨co, _, _, _, rfl, rfl, .inl (.inl co16), at_zero, _, _, rfl, rfl, ?_⟩⟩
                          refine ⟨_, _, rfl, rfl, _, rfl, iteFb (decide_eq_false (by rw [sum_iN]; show ¬ (((ccF : Nat) : Int) - ((cc : Nat) : Int) < _); omega)) ?_⟩
                          refine ⟨_, rfl, _, rfl, tl, rl, ps, S, rk, bs, rs, trail S bd cs, rfl, I16.htl, I16.tr, ok, L16.2.2.1, L16.2.2.2.1, by omega, nd, trail_ok ok cs bd bok csN, (fun pr hp => ⟨(frk pr hp).2.2.1, (frk pr hp).2.2.2⟩), fun H17 k17 => ⟨true, rfl, iteF ?_⟩⟩
                          have I17 := I16.aheads k17 fun a' ha' => by
                            obtain ⟨pr', hp', rfl⟩ := List.mem_map.mp ha'
                            obtain ⟨w', hw', _, g2, _⟩ := paired_mem L16.2.2.2.1 hp'
                            have lw := (trail_ok ok cs bd bok csN w' hw').2.1
                            exact ⟨⟨w'.1, fun e => by rw [e] at lw; simp at lw; omega, g2⟩, (frk pr' hp').1, (frk pr' hp').2.1⟩
                          exact ⟨_, _, _, _, _, _, _, _, _, _, _, _, _, _, _, bo, ps, S, bd', ccF, ce + (begs S bd cs).sum, lcF, le', t, rest, rfl, I17, ok, eS, bok', hle2, hev2, by omega, by omega⟩
            · obtain ⟨x8, x9, x10, x11, x12, x13, x14, x15, x16, x17, x18, x19, x20, x21, x22, bo, ps, S, bd, cc, ce, lc, le, t, rest, rfl, I, _, _, _, _, _, _, b3⟩ := q
              exact ⟨_, _, _, _, _, _, _, _, _, _, _, _, _, _, _, _, _, _, _, _, _, t, rest, rfl, I.pen, by omega⟩
    · obtain ⟨x2, x3, x4, x5, x6, x7, x8, x9, x10, x11, x12, x13, x14, x15, x16, x17, x18, x19, x20, x21, x22, t, rest, rfl, hP, b1⟩ := q
      exact ⟨rfl, hQ⟩
end
end KW
/-! The head: the text's facts. -/
namespace KW
open PySem PySem.Spec PyProof.Rows L2 KR K19
theorem txt_of {K : PySem.W.Frag} {h : Heap} {mg : PySem.Str → Option Value} (X : K.In h) (G : h.Ns mainGlobals mg) (c : SaysM K) : Txt K mg where
  f_isinstance := He.free_ok X G (c.fact 0 rfl)
  f_int := He.free_ok X G (c.fact 1 rfl)
  f_bool := He.free_ok X G (c.fact 2 rfl)
  f_str := He.free_ok X G (c.fact 3 rfl)
  f_tuple := He.free_ok X G (c.fact 4 rfl)
  f_list := He.free_ok X G (c.fact 5 rfl)
  f_len := He.free_ok X G (c.fact 6 rfl)
  f_min := He.free_ok X G (c.fact 7 rfl)
  f_max := He.free_ok X G (c.fact 8 rfl)
  f_sum := He.free_ok X G (c.fact 9 rfl)
  f_enumerate := He.free_ok X G (c.fact 10 rfl)
  f_zip := He.free_ok X G (c.fact 11 rfl)
  f_range := He.free_ok X G (c.fact 12 rfl)
  f_sorted := He.free_ok X G (c.fact 13 rfl)
  f_set := He.free_ok X G (c.fact 14 rfl)
  f_all := He.free_ok X G (c.fact 15 rfl)
  f_abs := He.free_ok X G (c.fact 16 rfl)
  f_repr := He.free_ok X G (c.fact 17 rfl)
  f_super := He.free_ok X G (c.fact 18 rfl)
  g_MOST_LEVEL := He.int_ok X G (c.fact 19 rfl)
  g_LEVELS := He.int_ok X G (c.fact 20 rfl)
  g_MOST_VALUES := He.int_ok X G (c.fact 21 rfl)
  g_MOST_IN_COMPONENT := He.int_ok X G (c.fact 22 rfl)
  g_MOST_IN_SYSTEM := He.int_ok X G (c.fact 23 rfl)
  g_ALL := He.str_ok X G (c.fact 24 rfl)
  g_CLEAN := He.str_ok X G (c.fact 25 rfl)
  g_NOTHING := He.str_ok X G (c.fact 26 rfl)
  g_KINDS := He.glo_ok X G (c.fact 27 rfl)
  t_KINDS := fun H => He.tupB_ok (vs := [.str "always", .str "max", .str "min", .str "sum", .str "turn", .str "choose"]) (c.fact 28 rfl) H
  g_is_integer := He.glo_ok X G (c.fact 29 rfl)
  d_is_integer := c.def_ 0 rfl
  g_is_level := He.glo_ok X G (c.fact 30 rfl)
  d_is_level := c.def_ 1 rfl
  g_is_function := He.glo_ok X G (c.fact 31 rfl)
  d_is_function := c.def_ 2 rfl
  g_capped_sum := He.glo_ok X G (c.fact 32 rfl)
  d_capped_sum := c.def_ 3 rfl
  g_turned := He.glo_ok X G (c.fact 33 rfl)
  d_turned := c.def_ 4 rfl
  g_reach_among := He.glo_ok X G (c.fact 34 rfl)
  d_reach_among := c.def_ 5 rfl
  g_all_cells := He.glo_ok X G (c.fact 35 rfl)
  d_all_cells := c.def_ 6 rfl
  g_reach := He.glo_ok X G (c.fact 36 rfl)
  d_reach := c.def_ 7 rfl
  g_dependents := He.glo_ok X G (c.fact 37 rfl)
  d_dependents := c.def_ 8 rfl
  g_unordered_components := He.glo_ok X G (c.fact 38 rfl)
  d_unordered_components := c.def_ 9 rfl
  g_leads_outside := He.glo_ok X G (c.fact 39 rfl)
  d_leads_outside := c.def_ 10 rfl
  g_components_among := He.glo_ok X G (c.fact 40 rfl)
  d_components_among := c.def_ 11 rfl
  g_components := He.glo_ok X G (c.fact 41 rfl)
  d_components := c.def_ 12 rfl
  g_need_small_components := He.glo_ok X G (c.fact 42 rfl)
  d_need_small_components := c.def_ 13 rfl
  g_need_fitting := He.glo_ok X G (c.fact 43 rfl)
  d_need_fitting := c.def_ 14 rfl
  g_is_kept := He.glo_ok X G (c.fact 44 rfl)
  d_is_kept := c.def_ 15 rfl
  g_joined_taint := He.glo_ok X G (c.fact 45 rfl)
  d_joined_taint := c.def_ 16 rfl
  g_are_operands := He.glo_ok X G (c.fact 46 rfl)
  d_are_operands := c.def_ 17 rfl
  g_is_cell := He.glo_ok X G (c.fact 47 rfl)
  d_is_cell := c.def_ 18 rfl
  g__law_pen := He.glo_ok X G (c.fact 48 rfl)
  d__law_pen := c.def_ 19 rfl
  g__law_draw := He.glo_ok X G (c.fact 49 rfl)
  d__law_draw := c.def_ 20 rfl
  g__law_some := He.glo_ok X G (c.fact 50 rfl)
  d__law_some := c.def_ 21 rfl
  g__law_function := He.glo_ok X G (c.fact 51 rfl)
  d__law_function := c.def_ 22 rfl
  g__law_cells := He.glo_ok X G (c.fact 52 rfl)
  d__law_cells := c.def_ 23 rfl
  g__law_small := He.glo_ok X G (c.fact 53 rfl)
  d__law_small := c.def_ 24 rfl
  g__law_value := He.glo_ok X G (c.fact 54 rfl)
  d__law_value := c.def_ 25 rfl
  g__law_call := He.glo_ok X G (c.fact 55 rfl)
  d__law_call := c.def_ 26 rfl
  g__law_exact := He.glo_ok X G (c.fact 56 rfl)
  d__law_exact := c.def_ 27 rfl
  g__law_reused_right := He.glo_ok X G (c.fact 57 rfl)
  d__law_reused_right := c.def_ 28 rfl
  g__law_all_right := He.glo_ok X G (c.fact 58 rfl)
  d__law_all_right := c.def_ 29 rfl
  g__law_limited := He.glo_ok X G (c.fact 59 rfl)
  d__law_limited := c.def_ 30 rfl
  g__law_asks := He.glo_ok X G (c.fact 60 rfl)
  d__law_asks := c.def_ 31 rfl
  g__law_late_right := He.glo_ok X G (c.fact 61 rfl)
  d__law_late_right := c.def_ 32 rfl
  g_law := He.glo_ok X G (c.fact 62 rfl)
  d_law := c.def_ 33 rfl
  g_Run := He.glo_ok X G (c.fact 63 rfl)
  g_Memo := He.glo_ok X G (c.fact 64 rfl)
  g_KeepClean := He.glo_ok X G (c.fact 65 rfl)
  g_ExactRun := He.glo_ok X G (c.fact 66 rfl)
  g_KeepExact := He.glo_ok X G (c.fact 67 rfl)
  g_System := He.glo_ok X G (c.fact 68 rfl)
  g_value_of := He.glo_ok X G (c.fact 69 rfl)
  d_value_of := c.def_ 34 rfl
  c_Run := He.cls_ok (c.fact 70 rfl)
  c_KeepClean := He.cls_ok (c.fact 71 rfl)
  c_ExactRun := He.cls_ok (c.fact 72 rfl)
  c_KeepExact := He.cls_ok (c.fact 73 rfl)
  c_System := He.cls_ok (c.fact 74 rfl)
  n_Run_net := He.noat_ok (c.fact 75 rfl)
  n_Run_board := He.noat_ok (c.fact 76 rfl)
  n_Run_rule := He.noat_ok (c.fact 77 rfl)
  n_Run_busy := He.noat_ok (c.fact 78 rfl)
  n_Run_allowed := He.noat_ok (c.fact 79 rfl)
  n_Run_begun := He.noat_ok (c.fact 80 rfl)
  n_Run_happened := He.noat_ok (c.fact 81 rfl)
  n_ExactRun_net := He.noat_ok (c.fact 82 rfl)
  n_ExactRun_board := He.noat_ok (c.fact 83 rfl)
  n_ExactRun_rule := He.noat_ok (c.fact 84 rfl)
  n_ExactRun_busy := He.noat_ok (c.fact 85 rfl)
  n_ExactRun_allowed := He.noat_ok (c.fact 86 rfl)
  n_ExactRun_begun := He.noat_ok (c.fact 87 rfl)
  n_ExactRun_happened := He.noat_ok (c.fact 88 rfl)
  n_ExactRun_remembered := He.noat_ok (c.fact 89 rfl)
  n_ExactRun_gathered := He.noat_ok (c.fact 90 rfl)
  n_KeepClean_present := He.noat_ok (c.fact 91 rfl)
  n_KeepClean_stored := He.noat_ok (c.fact 92 rfl)
  n_KeepClean_counted := He.noat_ok (c.fact 93 rfl)
  n_KeepClean_latest := He.noat_ok (c.fact 94 rfl)
  n_KeepClean_most := He.noat_ok (c.fact 95 rfl)
  n_KeepExact_present := He.noat_ok (c.fact 96 rfl)
  n_KeepExact_stored := He.noat_ok (c.fact 97 rfl)
  n_KeepExact_counted := He.noat_ok (c.fact 98 rfl)
  n_KeepExact_latest := He.noat_ok (c.fact 99 rfl)
  n_KeepExact_most := He.noat_ok (c.fact 100 rfl)
  n_System_triples := He.noat_ok (c.fact 101 rfl)
  d_Run_init := c.def_ 35 rfl
  d_Run_call := c.def_ 36 rfl
  d_Run_evaluate := c.def_ 37 rfl
  d_Memo_init := c.def_ 38 rfl
  d_Memo_system := c.def_ 39 rfl
  d_Memo_table := c.def_ 40 rfl
  d_Memo_calls := c.def_ 41 rfl
  d_Memo_most_calls := c.def_ 42 rfl
  d_Memo_set_limit := c.def_ 43 rfl
  d_Memo_run := c.def_ 44 rfl
  d_Memo_ask := c.def_ 45 rfl
  d_Memo_twin := c.def_ 46 rfl
  d_Memo_restore := c.def_ 47 rfl
  d_Memo_tried := c.def_ 48 rfl
  d_Memo_answers := c.def_ 49 rfl
  d_Memo_events := c.def_ 50 rfl
  d_Memo_edit := c.def_ 51 rfl
  d_Memo_eq := c.def_ 52 rfl
  d_KeepClean_repr := c.def_ 53 rfl
  d_KeepExact_repr := c.def_ 54 rfl
  d_KeepExact_run := c.def_ 55 rfl
  d_KeepExact_empty := c.def_ 56 rfl
  d_ExactRun_is_exact := c.def_ 57 rfl
  d_System_init := c.def_ 58 rfl
  d_System_of := c.def_ 59 rfl
  d_System_triple := c.def_ 60 rfl
  d_System_operands := c.def_ 61 rfl
  d_System_function := c.def_ 62 rfl
  d_System_guess := c.def_ 63 rfl
  d_System_replaced := c.def_ 64 rfl
  d_System_eq := c.def_ 65 rfl
  d_System_len := c.def_ 66 rfl
  m_Run_call := methB_ok (c.fact 102 rfl)
  m_Run_evaluate := methB_ok (c.fact 103 rfl)
  m_ExactRun_call := methB_ok (c.fact 104 rfl)
  m_ExactRun_evaluate := methB_ok (c.fact 105 rfl)
  m_ExactRun_is_exact := methB_ok (c.fact 106 rfl)
  m_KeepClean_eq := methB_ok (c.fact 107 rfl)
  m_KeepClean_len := methB_ok (c.fact 108 rfl)
  m_KeepClean_repr := methB_ok (c.fact 109 rfl)
  m_KeepClean_answers := methB_ok (c.fact 110 rfl)
  m_KeepClean_ask := methB_ok (c.fact 111 rfl)
  m_KeepClean_edit := methB_ok (c.fact 112 rfl)
  m_KeepClean_empty := methB_ok (c.fact 113 rfl)
  m_KeepClean_events := methB_ok (c.fact 114 rfl)
  m_KeepClean_restore := methB_ok (c.fact 115 rfl)
  m_KeepClean_run := methB_ok (c.fact 116 rfl)
  m_KeepClean_set_limit := methB_ok (c.fact 117 rfl)
  m_KeepClean_tried := methB_ok (c.fact 118 rfl)
  m_KeepClean_twin := methB_ok (c.fact 119 rfl)
  m_KeepExact_eq := methB_ok (c.fact 120 rfl)
  m_KeepExact_len := methB_ok (c.fact 121 rfl)
  m_KeepExact_repr := methB_ok (c.fact 122 rfl)
  m_KeepExact_answers := methB_ok (c.fact 123 rfl)
  m_KeepExact_ask := methB_ok (c.fact 124 rfl)
  m_KeepExact_edit := methB_ok (c.fact 125 rfl)
  m_KeepExact_empty := methB_ok (c.fact 126 rfl)
  m_KeepExact_events := methB_ok (c.fact 127 rfl)
  m_KeepExact_restore := methB_ok (c.fact 128 rfl)
  m_KeepExact_run := methB_ok (c.fact 129 rfl)
  m_KeepExact_set_limit := methB_ok (c.fact 130 rfl)
  m_KeepExact_tried := methB_ok (c.fact 131 rfl)
  m_KeepExact_twin := methB_ok (c.fact 132 rfl)
  m_System_eq := methB_ok (c.fact 133 rfl)
  m_System_len := methB_ok (c.fact 134 rfl)
  m_System_repr := methB_ok (c.fact 135 rfl)
  m_System_function := methB_ok (c.fact 136 rfl)
  m_System_guess := methB_ok (c.fact 137 rfl)
  m_System_operands := methB_ok (c.fact 138 rfl)
  m_System_replaced := methB_ok (c.fact 139 rfl)
  m_System_triple := methB_ok (c.fact 140 rfl)
  k_KeepClean_POLICY := He.conB_ok (c.fact 141 rfl) (by decide +kernel)
  p_KeepClean_table := propB_ok (c.fact 142 rfl)
  p_KeepClean_calls := propB_ok (c.fact 143 rfl)
  p_KeepClean_most_calls := propB_ok (c.fact 144 rfl)
  p_KeepClean_system := propB_ok (c.fact 145 rfl)
  k_KeepExact_POLICY := He.conB_ok (c.fact 146 rfl) (by decide +kernel)
  p_KeepExact_table := propB_ok (c.fact 147 rfl)
  p_KeepExact_calls := propB_ok (c.fact 148 rfl)
  p_KeepExact_most_calls := propB_ok (c.fact 149 rfl)
  p_KeepExact_system := propB_ok (c.fact 150 rfl)
  k_System := mkB_ok (c.fact 151 rfl)
  k_KeepClean := mkB_ok (c.fact 152 rfl)
  k_KeepExact := mkB_ok (c.fact 153 rfl)
  k_Run := mkB_ok (c.fact 154 rfl)
  k_ExactRun := mkB_ok (c.fact 155 rfl)
  cm_System := cmB_ok (c.fact 156 rfl)
  cv_KeepExact := cvB_ok (c.fact 157 rfl)
  ty_System := fun H a dx fs h => tyB_ok (He.cls_ok (c.fact 74 rfl)) (c.fact 158 rfl) h
  ty_KeepClean := fun H a dx fs h => tyB_ok (He.cls_ok (c.fact 71 rfl)) (c.fact 159 rfl) h
  ty_KeepExact := fun H a dx fs h => tyB_ok (He.cls_ok (c.fact 73 rfl)) (c.fact 160 rfl) h
  ki_System_System := of_decide_eq_true (c.fact 161 rfl)
  ki_KeepClean_Memo := of_decide_eq_true (c.fact 162 rfl)
  ki_KeepExact_Memo := of_decide_eq_true (c.fact 163 rfl)
  ki_KeepExact_KeepClean := of_decide_eq_true (c.fact 164 rfl)
  ki_KeepClean_KeepExact := of_decide_eq_true (c.fact 165 rfl)
  ne_Run := of_decide_eq_true (c.fact 166 rfl)
  ne_ExactRun := of_decide_eq_true (c.fact 167 rfl)
  ne_KeepClean := of_decide_eq_true (c.fact 168 rfl)
  ne_KeepExact := of_decide_eq_true (c.fact 169 rfl)
  g_TooManyCalls := He.glo_ok X G (c.fact 170 rfl)
  tm := tm_ok (c.def_ 67 rfl) (c.fact 171 rfl)
  x_tm := xfB_ok (c.fact 172 rfl)
  e_tm := He.exm_ok (c.fact 173 rfl)
  nq_Keep := He.eqO_ok (c.fact 174 rfl)
  nk_Keep := of_decide_eq_true (c.fact 175 rfl)
  mr_Keep := of_decide_eq_true (c.fact 176 rfl)
  mo_Keep := of_decide_eq_true (c.fact 177 rfl)
  t_busy := fun H => busyB_ok (c.fact 178 rfl) H
  nf_System := (c.fact 179 rfl)
  nf_Keep := (c.fact 180 rfl)
theorem txtS_of {K : PySem.W.Frag} (c : SaysM K) : TxtS PB K where
  f_init := c.sup_ 0 rfl
  f_evaluate := c.sup_ 1 rfl
  top := by kernel_rfl
  s_init := supB_ok c.all.2.2.2.1
  s_evaluate := supB_ok c.all.2.2.2.2
theorem funD_uniq {K : PySem.W.Frag} {x qual : PySem.Str} {params : Arguments} {bd : List Stmt} {scope : Scope} {dvs : List V} {kws : List (PySem.Str × V)} {f : Addr} {fd fd2 : FuncData} (F : FunD K x qual params bd scope dvs kws f fd) (F2 : FunD K x qual params bd scope dvs kws f fd2) : fd = fd2 := by
  obtain ⟨_, _, _, _, _, _, _, _, _, _, _, l1, _⟩ := F.ex
  obtain ⟨_, _, _, _, _, _, _, _, _, _, _, l2, _⟩ := F2.ex
  rw [l1] at l2
  cases l2
  rfl
end KW
open PySem PySem.W PySem.Calls PyProof.Rows
theorem PySem.Challenge.cw_busyguess_k19_whole_exact_results_holds : PySem.Challenge.rw_busyguess_k19_whole_exact_results.Holds := by
  w_on; o_law
  refine HandSHeadRun.head_any (r := OpenLaw.row PySem.Challenge.rw_busyguess_k19_whole_exact_results) (q := KW.qM) (H := KW.hkM) (ob := KW.obM) (M := 100000) (loose := KW.names) (d := HandSHeadRun.topDef (OpenLaw.row PySem.Challenge.rw_busyguess_k19_whole_exact_results).prog 91) (kwd := []) KW.obM_eq
    (by kernel_rfl) (fun s => by kernel_rfl) KW.runM_eq (by kernel_rfl) (by kernel_rfl) (by kernel_rfl) (by rfl) (by first | assumption | decide +kernel) (by decide +kernel) ⟨rfl, rfl, rfl, rfl, rfl, by decide +kernel⟩ ?hw ?hc
  case hw => w_witness2
  case hc =>
    refine KR.walk_ofG (l := PySem.Challenge.rw_busyguess_k19_whole_exact_results) (n := 63) (k := 60) (x := "_law_script") (CX := L2.CX0) rfl (by decide) (by kernel_rfl) ⟨rfl, by decide, by decide⟩ ?F (fun _ _ _ _ z => z)
    intro w mg fa h Y G hmg0
    obtain ⟨K, KX, c⟩ := Y
    have hmg : mg ("law" : PySem.Str) = some (.ref fa) := by
      have e : (HandSHeadRun.topDef (OpenLaw.row PySem.Challenge.rw_busyguess_k19_whole_exact_results).prog 91).name = ("law" : PySem.Str) := by kernel_rfl
      rw [← e]
      exact hmg0
    have T := KW.txt_of KX G c
    have TS := KW.txtS_of c
    obtain ⟨fd, FF⟩ := T.d_law
    have e := hmg.symm.trans T.g_law
    cases e
    have b := L2.FunD.bindsA (ps := ["_law_script"]) FF (KW.b_law)
    refine ⟨K, fd, KW.spLaw K, KX, fun s v => b s [v] rfl, fun H a ns hl _ hS => ⟨a, ns, rfl, hS, fun _ => rfl⟩, fun base KB _ => ?_⟩
    obtain ⟨fd2, F2, G2⟩ := (KW.ok_law (P := (PySem.Challenge.rw_busyguess_k19_whole_exact_results).prog) (w := w) (base := base) T TS KB).ex
    obtain rfl := KW.funD_uniq FF F2
    exact G2
