import PyProof.Rows.All
import Wide.All
import OpenK.AllK
import Wide.FinOn
import KE.KStateDown
import Lean
import HandS.ForMost
import HandS.ForExc
import HandS.Wide
import HandS.More
import HandS.Defaults
import HandS.IsInst
import HandS.Codes
import HandS.HeadHook1
import HandS.HeadHook2
import HandS.Style
import HandS.Steps
import HandS.TupAny
import HandS.TupMul
import HandS.ExcInit
import KE.KExcInit
import HandS.ExcField
import KE.KExcIs
import HandS.MapJoin
import HandS.Lambda
import HandS.EndTab
import HandS.TryOnly
import HandS.HotCalls
import KE.KTryMore
import HandS.HeadHook4
import HandS.Head0
import HandS.Head1
import HandS.Head2
import HandS.HeadEnd
import HandS.FStr
import HandS.Evl
import HandS.LawCells
import KE.KUnpackStar
import PyProof.RulesMatchSeq
import PyProof.Rows.MatchSeqLen
import PySem.Challenge.RW_turndeal_k57_wrong_formulas
set_option Elab.async false
set_option linter.all false
set_option maxRecDepth 100000
set_option maxHeartbeats 8000000
section
namespace TD
open PySem PySem.Spec L2 PySem.Calls
open PyProof.Rows hiding St
/-! ### operators by values, named -/
abbrev aLt : R2 := rI0 fun i j => .bl (decide (i < j))
abbrev aLe : R2 := rI0 fun i j => .bl (decide (i ≤ j))
abbrev aGt : R2 := rI0 fun i j => .bl (decide (j < i))
abbrev aGe : R2 := rI0 fun i j => .bl (decide (j ≤ i))
abbrev aAdd : R2 := rI0 fun i j => .int (i + j)
abbrev aSub : R2 := rI0 fun i j => .int (i - j)
abbrev aMul : R2 := rI CMul fun i j => .int (i * j)
abbrev aMulW : R2 := rI CMulW fun i j => .int (i * j)
abbrev aMod : R2 := rI (fun _ j => 0 < j) fun i j => .int (i % j)
abbrev aPow : R2 := rI CPow fun i j => .int (i ^ j.toNat)
abbrev aDiv : R2 := rI CDivW fun i j => .int (i / j)
abbrev aAddS : R2 := fun x y H Q => ∃ i j, x = .str i ∧ y = .str j ∧ i.length + j.length ≤ sizeLine ∧ Q (.str (i ++ j)) H
abbrev rLenQ (K : PySem.W.Frag) : List V → Hp → VK → Prop := fun xs H Q => ∃ p ys, xs = [.ref p] ∧ (SqL K H p ys ∨ SqT K H p ys) ∧ Q (.int ys.length) H
abbrev rListQ (K : PySem.W.Frag) : List V → Hp → VK → Prop := fun xs H Q => ∃ p ys, xs = [.ref p] ∧ (SqL K H p ys ∨ SqT K H p ys) ∧ ∀ l, H l = none → Q (.ref l) (upd H l (.lst ys))
/-! ### one step of a reading -/
section
variable {K : PySem.W.Frag} {D : Ends} {σ : St} {H : Hp} {Q : VK} {QT : Bool → Hp → Prop} {QA : List V → Hp → Prop} {QG : St → Hp → Prop} {ta tb te tx : TE} {tt ut : TT} {t u : TS} {tr : TA} {g : TG} {gs : TGs} {x y v z : V} {r : R2} {i j : Int} {k : Nat}
theorem c_seq (h : t { D with nx := u D } σ H) : tSeq t u D σ H := h
theorem c_next (h : D.nx σ H) : tNext D σ H := h
theorem c_cont (h : D.ct σ H) : tCont D σ H := h
theorem c_break (h : D.bk σ H) : tBreak D σ H := h
theorem c_asg (h : te σ H fun x H1 => g x σ H1 D.nx) : tAsg te g D σ H := h
theorem c_drop (h : te σ H fun _ H1 => D.nx σ H1) : tDrop te D σ H := h
theorem c_ret (h : te σ H D.rt) : tRet te D σ H := h
theorem c_retN (h : D.rt .non H) : tRetN D σ H := h
theorem c_ifs (h : tt σ H fun b H1 => if b = true then t D σ H1 else u D σ H1) : tIfS tt t u D σ H := h
theorem c_var (h : σ[k]? = some (some v)) (q : Q v H) : tVar k σ H Q := ⟨v, h, q⟩
theorem c_c (q : Q v H) : tC v σ H Q := q
theorem c_op (h : ta σ H fun x H1 => tb σ H1 fun y H2 => r x y H2 Q) : tOp r ta tb σ H Q := h
theorem c_un {ru : V → Hp → VK → Prop} (h : ta σ H fun x H1 => ru x H1 Q) : tUn ru ta σ H Q := h
theorem c_I0 {f : Int → Int → V} (q : Q (f i j) H) : rI0 f (.int i) (.int j) H Q := ⟨i, j, rfl, rfl, q⟩
theorem c_IC {C : Int → Int → Prop} {f : Int → Int → V} (c : C i j) (q : Q (f i j) H) : rI C f (.int i) (.int j) H Q := ⟨i, j, rfl, rfl, c, q⟩
theorem c_U {f : Int → V} (q : Q (f i) H) : rU f (.int i) H Q := ⟨i, rfl, q⟩
theorem c_eq (h : scal x y = true) (q : Q (.bl (decide (x = y))) H) : rEq x y H Q := ⟨h, q⟩
theorem c_ne (h : scal x y = true) (q : Q (.bl (!decide (x = y))) H) : rNe x y H Q := ⟨h, q⟩
theorem c_tst (h : te σ H fun x H' => ∃ k, x = .bl k ∧ QT k H') : tTest te σ H QT := h
theorem c_tb (h : te σ H fun x H' => ∃ k, x = .bl k ∧ QT k H') : tB te σ H QT := h
theorem c_and (h : tt σ H fun c H1 => if c = true then ut σ H1 QT else QT false H1) : tAnd tt ut σ H QT := h
theorem c_or (h : tt σ H fun c H1 => if c = true then QT true H1 else ut σ H1 QT) : tOr tt ut σ H QT := h
theorem c_not (h : tt σ H fun c H1 => QT (!c) H1) : tNot tt σ H QT := h
theorem c_andV (h : ta σ H fun x H1 => ∃ c, x = .bl c ∧ if c = true then tb σ H1 Q else Q (.bl false) H1) : tAndV ta tb σ H Q := h
theorem c_orV (h : ta σ H fun x H1 => ∃ c, x = .bl c ∧ if c = true then Q (.bl true) H1 else tb σ H1 Q) : tOrV ta tb σ H Q := h
theorem c_notV (h : ta σ H fun x H1 => ∃ c, x = .bl c ∧ Q (.bl (!c)) H1) : tNotV ta σ H Q := h
theorem c_ifx (h : tt σ H fun c H1 => if c = true then ta σ H1 Q else tb σ H1 Q) : tIf tt ta tb σ H Q := h
theorem c_bl {b : Bool} {P : Bool → Prop} (q : P b) : ∃ k, V.bl b = .bl k ∧ P k := ⟨b, rfl, q⟩
theorem c_nil (q : QA [] H) : tNil σ H QA := q
theorem c_cons (h : ta σ H fun x H1 => tr σ H1 fun xs H2 => QA (x :: xs) H2) : tCons ta tr σ H QA := h
theorem c_cb {rc : List V → Hp → VK → Prop} (h : tr σ H fun vs H1 => rc vs H1 Q) : tCB rc tr σ H Q := h
theorem c_gn (h : QG (σ.set k (some v)) H) : gName k v σ H QG := h
theorem c_gsub {to ti : TE} {ts : TSet} (h : to σ H fun o H1 => ti σ H1 fun i H2 => ts o i v H2 fun H3 => QG σ H3) : gSub to ti ts v σ H QG := h
theorem c_ixL {p : Addr} {xs : List V} (hs : SqL K H p xs) (ha : atI xs i = some v) (q : Q v H) : rIxL K (.ref p) (.int i) H Q := ⟨p, xs, i, v, rfl, rfl, hs, ha, q⟩
theorem c_ixT {p : Addr} {xs : List V} (hs : SqT K H p xs) (ha : atI xs i = some v) (q : Q v H) : rIxT K (.ref p) (.int i) H Q := ⟨p, xs, i, v, rfl, rfl, hs, ha, q⟩
theorem c_setL {p : Addr} {xs : List V} {n : Nat} {QH : Hp → Prop} (hs : H p = some (.lst xs)) (ha : ixN xs.length i = some n) (q : QH (upd H p (.lst (xs.set n v)))) : rSetL (.ref p) (.int i) v H QH := ⟨p, xs, i, n, rfl, rfl, hs, ha, q⟩
theorem c_lenL {p : Addr} {ys : List V} (hs : SqL K H p ys) (q : Q (.int ys.length) H) : rLenQ K [.ref p] H Q := ⟨p, ys, rfl, .inl hs, q⟩
theorem c_lenT {p : Addr} {ys : List V} (hs : SqT K H p ys) (q : Q (.int ys.length) H) : rLenQ K [.ref p] H Q := ⟨p, ys, rfl, .inr hs, q⟩
theorem c_call {sp : Sp} {dvs : List V} {E : XK} (h : tr σ H fun vs H1 => sp (vs ++ dvs) H1 Q E) : tCall sp dvs E tr σ H Q := h
end
theorem ite_t {A B : Prop} (h : A) : if true = true then A else B := by rw [if_pos rfl]; exact h
theorem ite_f {A B : Prop} (h : B) : if false = true then A else B := by rw [if_neg Bool.false_ne_true]; exact h
theorem ite_d {c A B : Prop} [Decidable c] (h1 : c → A) (h2 : ¬ c → B) : if decide c = true then A else B := by
  by_cases h : c
  · rw [decide_eq_true h]; exact ite_t (h1 h)
  · rw [decide_eq_false h]; exact ite_f (h2 h)
theorem ite_nd {c A B : Prop} [Decidable c] (h1 : ¬ c → A) (h2 : c → B) : if (!decide c) = true then A else B := by
  by_cases h : c
  · rw [decide_eq_true h]; exact ite_f (h2 h)
  · rw [decide_eq_false h]; exact ite_t (h1 h)
theorem ite_b {b : Bool} {A B : Prop} (h1 : b = true → A) (h2 : b = false → B) : if b = true then A else B := by
  cases b
  · exact ite_f (h2 rfl)
  · exact ite_t (h1 rfl)
theorem ite_tc {b : Bool} {A B : Prop} (e : b = true) (h : A) : if b = true then A else B := by rw [if_pos e]; exact h
theorem ite_fc {b : Bool} {A B : Prop} (e : b = false) (h : B) : if b = true then A else B := by subst e; exact ite_f h
theorem c_cut {t u : TS} {D : Ends} {σ : L2.St} {H : Hp} (Mid : L2.St → Hp → Prop) (h : t { D with nx := Mid } σ H) (hu : ∀ σ' H', Mid σ' H' → u D σ' H') : C8.tCut t u D σ H := ⟨Mid, h, hu⟩
/-! ### heaps: a new object, all but one object -/
structure New (H H' : Hp) (p : Addr) (o : HO) : Prop where
  free : H p = none
  same : Same H H'
  at_ : H' p = some o
theorem new_upd {H : Hp} {p : Addr} {o : HO} (h : H p = none) : New H (upd H p o) p o := ⟨h, fun b u e => by rw [upd_ne (ne_of_none e h)]; exact e, upd_same⟩
theorem New.ne {H H' : Hp} {p a : Addr} {o u : HO} (n : New H H' p o) (h : H a = some u) : a ≠ p := ne_of_none h n.free
theorem free_back {H H' : Hp} {p : Addr} (s : Same H H') (h : H' p = none) : H p = none := by
  cases e : H p with
  | none => rfl
  | some o => have := s _ _ e; rw [h] at this; cases this
theorem New.after {H H1 H2 : Hp} {p : Addr} {o : HO} (s : Same H H1) (n : New H1 H2 p o) : New H H2 p o := ⟨free_back s n.free, s.trans n.same, n.at_⟩
theorem sameT {K : PySem.W.Frag} {H H' : Hp} {a : Addr} {xs : List V} (e : Same H H') (h : SqT K H a xs) : SqT K H' a xs := by
  rcases h with (h | ⟨o, h⟩) | h
  · exact .inl (.inl (e _ _ h))
  · exact .inl (.inr ⟨o, e _ _ h⟩)
  · exact .inr h
mutual
theorem dp_same {K : PySem.W.Frag} {H H' : Hp} (e : Same H H') : ∀ {v : V} {d : PyData}, Dp K H v d → Dp K H' v d
  | _, _, .non => .non
  | _, _, .bl b => .bl b
  | _, _, .int i => .int i
  | _, _, .str x => .str x
  | _, _, .lst h a => .lst (e.seq h) (dpAll_same e a)
  | _, _, .tup h a => .tup (sameT e h) (dpAll_same e a)
theorem dpAll_same {K : PySem.W.Frag} {H H' : Hp} (e : Same H H') : ∀ {vs : List V} {ds : List PyData}, DpAll K H vs ds → DpAll K H' vs ds
  | _, _, .nil => .nil
  | _, _, .cons h t => .cons (dp_same e h) (dpAll_same e t)
end
/-- the heap without what stands at b -/
def mask (b : Addr) (H : Hp) : Hp := fun a => if a = b then none else H a
theorem mask_ne {b a : Addr} {H : Hp} (h : a ≠ b) : mask b H a = H a := if_neg h
theorem mask_at {b : Addr} {H : Hp} : mask b H b = none := if_pos rfl
theorem mask_same {b : Addr} {H : Hp} : Same (mask b H) H := fun a o e => by
  by_cases h : a = b
  · rw [h, mask_at] at e; cases e
  · rwa [mask_ne h] at e
theorem mask_mono {b : Addr} {H H' : Hp} (s : Same H H') : Same (mask b H) (mask b H') := fun a o e => by
  by_cases h : a = b
  · rw [h, mask_at] at e; cases e
  · rw [mask_ne h] at e ⊢; exact s a o e
theorem mask_upd {b : Addr} {H : Hp} {o : HO} : mask b (upd H b o) = mask b H := by
  funext a
  by_cases h : a = b
  · rw [h, mask_at, mask_at]
  · rw [mask_ne h, mask_ne h, upd_ne h]
theorem New.masked {b p : Addr} {H H' : Hp} {o u : HO} (n : New H H' p o) (hb : H b = some u) : New (mask b H) (mask b H') p o := by
  have h := Ne.symm (n.ne hb)
  exact ⟨by rw [mask_ne h]; exact n.free, mask_mono n.same, by rw [mask_ne h]; exact n.at_⟩
/-! ### slices, loops, comprehensions -/
section
variable {K : PySem.W.Frag} {D : Ends} {σ : L2.St} {H : Hp} {Q : VK} {te : TE} {tt : TT} {tr : TA} {tl th : TO} {g : TG} {tb : TS} {x y v : V} {i j : Int} {a : Addr} {xs : List V} {vs : List Nat} {R : It → Hp → Prop}
theorem c_sl {r : V → Option Int → Option Int → Hp → VK → Prop} (h : te σ H fun x H1 => tl σ H1 fun l H2 => th σ H2 fun u H3 => r x l u H3 Q) : tSl r te tl th σ H Q := h
theorem c_noP {QO : Option Int → Hp → Prop} (h : QO none H) : tNoPart σ H QO := h
theorem c_part {QO : Option Int → Hp → Prop} (h : te σ H fun x H1 => ∃ i, x = .int i ∧ QO (some i) H1) : tPart te σ H QO := h
theorem c_intE {P : Int → Prop} (h : P i) : ∃ k, V.int i = .int k ∧ P k := ⟨i, rfl, h⟩
theorem c_slL {lo hi : Option Int} (hs : SqL K H a xs) (q : ∀ p H1, New H H1 p (.lst (cutV xs lo hi)) → Q (.ref p) H1) : rSlL K (.ref a) lo hi H Q := ⟨a, xs, rfl, hs, fun p n => q p _ (new_upd n)⟩
theorem c_listL (hs : SqL K H a xs) (q : ∀ p H1, New H H1 p (.lst xs) → Q (.ref p) H1) : rListQ K [.ref a] H Q := ⟨a, xs, rfl, .inl hs, fun p n => q p _ (new_upd n)⟩
theorem c_listT (hs : SqT K H a xs) (q : ∀ p H1, New H H1 p (.lst xs) → Q (.ref p) H1) : rListQ K [.ref a] H Q := ⟨a, xs, rfl, .inr hs, fun p n => q p _ (new_upd n)⟩
/-- what a loop over J wants -/
def ForW (J : It) (g : TG) (tb : TS) (D : Ends) (σ : L2.St) (H : Hp) : Prop := ∃ W : Nat → Nat → L2.St → Hp → Prop, (∃ m, W 0 m σ H) ∧ ∀ i m σ H, W i m σ H →
  (J.stop i H ∧ D.nx σ H) ∨ (J.go i H ∧ ∃ N : L2.St → Hp → Prop, (∀ σ' H', N σ' H' → ∃ m', m' < m ∧ W (i + 1) m' σ' H') ∧ ∀ x H', J.yld i H x H' → g x σ H' fun σ2 H2 => tb { D with nx := N, ct := N, bk := D.nx } σ2 H2)
theorem c_for {wi : TI} (h : wi σ H fun J H1 => ForW J g tb D σ H1) : tFor wi g tb D σ H := h
theorem c_iList (h : te σ H fun x H1 => ∃ a, x = .ref a ∧ (∃ xs, SqL K H1 a xs) ∧ R (Itl K a) H1) : iList K te σ H R := h
theorem c_iTup (h : te σ H fun x H1 => ∃ a, x = .ref a ∧ (∃ xs, SqT K H1 a xs) ∧ R (Itt K a) H1) : iTup K te σ H R := h
theorem c_iR1 (h : tr σ H fun vs H1 => ∃ j : Int, vs = [.int j] ∧ -(2 ^ 62) ≤ j ∧ j < 2 ^ 62 ∧ R (Itr 0 j.toNat) H1) : iRng1 tr σ H R := h
theorem c_iR2 (h : tr σ H fun vs H1 => ∃ i j : Int, vs = [.int i, .int j] ∧ (-(2 ^ 62) ≤ i ∧ i < 2 ^ 62 ∧ -(2 ^ 62) ≤ j ∧ j < 2 ^ 62) ∧ R (Itr i (j - i).toNat) H1) : iRng2 tr σ H R := h
theorem forL (hS : SqL K H a xs) (Pv : Nat → L2.St → Hp → Prop) (h0 : Pv 0 σ H) (hl : ∀ i σ H, i ≤ xs.length → Pv i σ H → SqL K H a xs)
    (hs : ∀ i x σ H, xs[i]? = some x → Pv i σ H → g x σ H fun σ2 H2 => tb { D with nx := Pv (i + 1), ct := Pv (i + 1), bk := D.nx } σ2 H2) (hd : ∀ σ H, Pv xs.length σ H → D.nx σ H) :
    ∃ b, V.ref a = .ref b ∧ (∃ xs, SqL K H b xs) ∧ ForW (Itl K b) g tb D σ H := ⟨a, rfl, ⟨xs, hS⟩, for_list Pv h0 hl hs hd⟩
theorem forT (hS : SqT K H a xs) (Pv : Nat → L2.St → Hp → Prop) (h0 : Pv 0 σ H) (hl : ∀ i σ H, i ≤ xs.length → Pv i σ H → SqT K H a xs)
    (hs : ∀ i x σ H, xs[i]? = some x → Pv i σ H → g x σ H fun σ2 H2 => tb { D with nx := Pv (i + 1), ct := Pv (i + 1), bk := D.nx } σ2 H2) (hd : ∀ σ H, Pv xs.length σ H → D.nx σ H) :
    ∃ b, V.ref a = .ref b ∧ (∃ xs, SqT K H b xs) ∧ ForW (Itt K b) g tb D σ H := ⟨a, rfl, ⟨xs, hS⟩, for_tup Pv h0 hl hs hd⟩
theorem forR (n : Nat) (hj : j = (n : Int)) (hb : n < 2 ^ 62) (Pv : Nat → L2.St → Hp → Prop) (h0 : Pv 0 σ H)
    (hs : ∀ i σ H, i < n → Pv i σ H → g (.int (i : Nat)) σ H fun σ2 H2 => tb { D with nx := Pv (i + 1), ct := Pv (i + 1), bk := D.nx } σ2 H2) (hd : ∀ σ H, Pv n σ H → D.nx σ H) :
    ∃ k : Int, [V.int j] = [.int k] ∧ -(2 ^ 62) ≤ k ∧ k < 2 ^ 62 ∧ ForW (Itr 0 k.toNat) g tb D σ H := by
  subst hj
  refine ⟨n, rfl, by omega, by omega, ?_⟩
  rw [Int.toNat_natCast]
  refine for_range Pv h0 (fun i σ H hi p => ?_) hd
  rw [Int.zero_add]
  exact hs i σ H hi p
/-- what a comprehension over J wants; D its list -/
def LcW (J : It) (g : TG) (tt : TT) (te : TE) (vs : List Nat) (Q : VK) (σ : L2.St) (H1 : Hp) : Prop := ∀ D, H1 D = none → ∃ W : Nat → Nat → Hp → Prop, (∃ m, W 0 m (upd H1 D (.lst []))) ∧ ∀ i m H, W i m H →
  (J.stop i H ∧ Q (.ref D) H) ∨ (J.go i H ∧ ∃ Nx : Hp → Prop, (∀ H', Nx H' → ∃ m', m' < m ∧ W (i + 1) m' H') ∧ ∀ x H', J.yld i H x H' → g x (wipe σ vs) H' fun σ2 H2 => wipe σ2 vs = wipe σ vs ∧ tt σ2 H2 fun b H3 =>
    if b = true then te σ2 H3 fun y H4 => ∃ acc, H4 D = some (.lst acc) ∧ acc.length < sizeLine ∧ Nx (upd H4 D (.lst (acc ++ [y]))) else Nx H3)
theorem c_lc {wi : TI} (h : wi σ H fun J H1 => LcW J g tt te vs Q σ H1) : tLc wi g tt te vs σ H Q := h
end
/-- a new list, a new tuple -/
def NewW (f : List V → HO) (xs : List V) (H : Hp) (Q : VK) : Prop := xs.length ≤ sizeLine ∧ ∀ p, H p = none → Q (.ref p) (upd H p (f xs))
theorem newW {f : List V → HO} {xs : List V} {H : Hp} {Q : VK} (q : ∀ p H1, New H H1 p (f xs) → Q (.ref p) H1) (hl : xs.length ≤ 100000 := by exact Nat.le_of_ble_eq_true rfl) : NewW f xs H Q := ⟨Nat.le_trans hl (by decide), fun p n => q p _ (new_upd n)⟩
/-! ### plain steps by the head -/
class Stp (P : Prop) (R : outParam Prop) : Prop where
  go : R → P
class IxS (σ : L2.St) (k : Nat) (v : outParam V) : Prop where
  at_ : σ[k]? = some (some v)
instance {v : V} {σ : L2.St} : IxS (some v :: σ) 0 v := ⟨rfl⟩
instance {v : V} {o : Option V} {σ : L2.St} {k : Nat} [i : IxS σ k v] : IxS (o :: σ) (k + 1) v := ⟨i.at_⟩
class Scl (x y : V) : Prop where
  ok : scal x y = true
instance {i j : Int} : Scl (.int i) (.int j) := ⟨rfl⟩
instance {i j : Str} : Scl (.str i) (.str j) := ⟨rfl⟩
instance {i j : Bool} : Scl (.bl i) (.bl j) := ⟨rfl⟩
instance : Scl .non .non := ⟨rfl⟩
instance {i : Int} : Scl (.int i) .non := ⟨rfl⟩
instance {i : Int} : Scl .non (.int i) := ⟨rfl⟩
instance {i : Str} : Scl (.str i) .non := ⟨rfl⟩
instance {i : Str} : Scl .non (.str i) := ⟨rfl⟩
section
variable {K : PySem.W.Frag} {D : Ends} {σ : L2.St} {H : Hp} {Q : VK} {QT : Bool → Hp → Prop} {QA : List V → Hp → Prop} {QG : L2.St → Hp → Prop} {ta tb te tx : TE} {tt ut : TT} {t u : TS} {tr : TA} {g : TG} {gs : TGs} {x y v z : V} {r : R2} {i j : Int} {k : Nat} {tl th : TO} {R : It → Hp → Prop} {vs : List Nat}
instance : Stp (tSeq t u D σ H) (t { D with nx := u D } σ H) := ⟨id⟩
instance : Stp (tNext D σ H) (D.nx σ H) := ⟨id⟩
instance : Stp (tCont D σ H) (D.ct σ H) := ⟨id⟩
instance : Stp (tBreak D σ H) (D.bk σ H) := ⟨id⟩
instance : Stp (tAsg te g D σ H) (te σ H fun x H1 => g x σ H1 D.nx) := ⟨id⟩
instance : Stp (tDrop te D σ H) (te σ H fun _ H1 => D.nx σ H1) := ⟨id⟩
instance : Stp (tRet te D σ H) (te σ H D.rt) := ⟨id⟩
instance : Stp (tRetN D σ H) (D.rt .non H) := ⟨id⟩
instance : Stp (tIfS tt t u D σ H) (tt σ H fun b H1 => if b = true then t D σ H1 else u D σ H1) := ⟨id⟩
instance [h : IxS σ k v] : Stp (tVar k σ H Q) (Q v H) := ⟨fun q => ⟨v, h.at_, q⟩⟩
instance : Stp (tC v σ H Q) (Q v H) := ⟨id⟩
instance : Stp (tOp r ta tb σ H Q) (ta σ H fun x H1 => tb σ H1 fun y H2 => r x y H2 Q) := ⟨id⟩
instance {ru : V → Hp → VK → Prop} : Stp (tUn ru ta σ H Q) (ta σ H fun x H1 => ru x H1 Q) := ⟨id⟩
instance {f : Int → Int → V} : Stp (rI0 f (.int i) (.int j) H Q) (Q (f i j) H) := ⟨fun q => ⟨i, j, rfl, rfl, q⟩⟩
instance {f : Int → V} : Stp (rU f (.int i) H Q) (Q (f i) H) := ⟨fun q => ⟨i, rfl, q⟩⟩
instance [h : Scl x y] : Stp (rEq x y H Q) (Q (.bl (decide (x = y))) H) := ⟨fun q => ⟨h.ok, q⟩⟩
instance [h : Scl x y] : Stp (rNe x y H Q) (Q (.bl (!decide (x = y))) H) := ⟨fun q => ⟨h.ok, q⟩⟩
instance : Stp (tTest te σ H QT) (te σ H fun x H' => ∃ k, x = .bl k ∧ QT k H') := ⟨id⟩
instance : Stp (tB te σ H QT) (te σ H fun x H' => ∃ k, x = .bl k ∧ QT k H') := ⟨id⟩
instance {b : Bool} {P : Bool → Prop} : Stp (∃ k, V.bl b = .bl k ∧ P k) (P b) := ⟨fun q => ⟨b, rfl, q⟩⟩
instance {P : Int → Prop} : Stp (∃ k, V.int i = .int k ∧ P k) (P i) := ⟨fun q => ⟨i, rfl, q⟩⟩
instance : Stp (tAnd tt ut σ H QT) (tt σ H fun c H1 => if c = true then ut σ H1 QT else QT false H1) := ⟨id⟩
instance : Stp (tOr tt ut σ H QT) (tt σ H fun c H1 => if c = true then QT true H1 else ut σ H1 QT) := ⟨id⟩
instance : Stp (tNot tt σ H QT) (tt σ H fun c H1 => QT (!c) H1) := ⟨id⟩
instance : Stp (tAndV ta tb σ H Q) (ta σ H fun x H1 => ∃ c, x = .bl c ∧ if c = true then tb σ H1 Q else Q (.bl false) H1) := ⟨id⟩
instance : Stp (tOrV ta tb σ H Q) (ta σ H fun x H1 => ∃ c, x = .bl c ∧ if c = true then Q (.bl true) H1 else tb σ H1 Q) := ⟨id⟩
instance : Stp (tNotV ta σ H Q) (ta σ H fun x H1 => ∃ c, x = .bl c ∧ Q (.bl (!c)) H1) := ⟨id⟩
instance : Stp (tIf tt ta tb σ H Q) (tt σ H fun c H1 => if c = true then ta σ H1 Q else tb σ H1 Q) := ⟨id⟩
instance : Stp (tNil σ H QA) (QA [] H) := ⟨id⟩
instance : Stp (tCons ta tr σ H QA) (ta σ H fun x H1 => tr σ H1 fun xs H2 => QA (x :: xs) H2) := ⟨id⟩
instance {rc : List V → Hp → VK → Prop} : Stp (tCB rc tr σ H Q) (tr σ H fun vs H1 => rc vs H1 Q) := ⟨id⟩
instance : Stp (tTup tr σ H Q) (tr σ H fun xs H1 => NewW .tup xs H1 Q) := ⟨id⟩
instance : Stp (tLst tr σ H Q) (tr σ H fun xs H1 => NewW .lst xs H1 Q) := ⟨id⟩
instance : Stp (gName k v σ H QG) (QG (σ.set k (some v)) H) := ⟨id⟩
instance {to ti : TE} {ts : TSet} : Stp (gSub to ti ts v σ H QG) (to σ H fun o H1 => ti σ H1 fun i H2 => ts o i v H2 fun H3 => QG σ H3) := ⟨id⟩
instance {sp : Sp} {dvs : List V} {E : XK} : Stp (tCall sp dvs E tr σ H Q) (tr σ H fun vs H1 => sp (vs ++ dvs) H1 Q E) := ⟨id⟩
instance {r : V → Option Int → Option Int → Hp → VK → Prop} : Stp (tSl r te tl th σ H Q) (te σ H fun x H1 => tl σ H1 fun l H2 => th σ H2 fun u H3 => r x l u H3 Q) := ⟨id⟩
instance {QO : Option Int → Hp → Prop} : Stp (tNoPart σ H QO) (QO none H) := ⟨id⟩
instance {QO : Option Int → Hp → Prop} : Stp (tPart te σ H QO) (te σ H fun x H1 => ∃ i, x = .int i ∧ QO (some i) H1) := ⟨id⟩
instance {wi : TI} : Stp (tFor wi g t D σ H) (wi σ H fun J H1 => ForW J g t D σ H1) := ⟨id⟩
instance {wi : TI} : Stp (tLc wi g tt te vs σ H Q) (wi σ H fun J H1 => LcW J g tt te vs Q σ H1) := ⟨id⟩
instance : Stp (iList K te σ H R) (te σ H fun x H1 => ∃ a, x = .ref a ∧ (∃ xs, SqL K H1 a xs) ∧ R (Itl K a) H1) := ⟨id⟩
instance : Stp (iTup K te σ H R) (te σ H fun x H1 => ∃ a, x = .ref a ∧ (∃ xs, SqT K H1 a xs) ∧ R (Itt K a) H1) := ⟨id⟩
instance : Stp (iRng1 tr σ H R) (tr σ H fun vs H1 => ∃ j : Int, vs = [.int j] ∧ -(2 ^ 62) ≤ j ∧ j < 2 ^ 62 ∧ R (Itr 0 j.toNat) H1) := ⟨id⟩
instance : Stp (iRng2 tr σ H R) (tr σ H fun vs H1 => ∃ i j : Int, vs = [.int i, .int j] ∧ (-(2 ^ 62) ≤ i ∧ i < 2 ^ 62 ∧ -(2 ^ 62) ≤ j ∧ j < 2 ^ 62) ∧ R (Itr i (j - i).toNat) H1) := ⟨id⟩
end
/-! ### names of the module -/
section
variable {X : Cx} {x : Str} {pos : Pos}
theorem pe_gi {i : Int} (hg : Gl X x) (hm : ∃ t, X.mg x = some (.int i t)) (hd : (x == ("__debug__" : Str)) = false := by decide) : PE X (.Name x pos) (tC (.int i)) := by
  obtain ⟨t, h⟩ := hm
  exact pe_glob hg h ⟨t, rfl⟩ hd
theorem pe_gs {z : Str} (hg : Gl X x) (hm : ∃ t, X.mg x = some (.str z t)) (hd : (x == ("__debug__" : Str)) = false := by decide) : PE X (.Name x pos) (tC (.str z)) := by
  obtain ⟨t, h⟩ := hm
  exact pe_glob hg h ⟨t, rfl⟩ hd
end
theorem hu64 {A : Around} {k : Nat} (hr : Room k A) : A.units + 64 < cLine := by
  have h := hr.un
  omega
/-! ### a def of the module, by its name -/
structure OkF (P : Program) (w : World) (K : PySem.W.Frag) (mg : Str → Option Value) (base : Heap) (k : Nat) (x : Str) (ps : List Str) (sp : Sp) : Prop where
  ok : ∃ fd, FnOk P w K mg base (L2.CX P w) k (He.ga K x) fd ps sp ∧ Binds K fd ps []
  kp : PySem.W.keepIn K (.ref (He.ga K x)) = true
  at_ : mg x = some (.ref (He.ga K x))
theorem OkF.mono {P : Program} {w : World} {K : PySem.W.Frag} {mg : Str → Option Value} {base : Heap} {j k : Nat} {x : Str} {ps : List Str} {sp : Sp} (F : OkF P w K mg base j x ps sp) (h : j ≤ k) : OkF P w K mg base k x ps sp := by
  obtain ⟨⟨fd, a, b⟩, c, d⟩ := F
  exact ⟨⟨fd, a.mono h, b⟩, c, d⟩
theorem OkF.imp {P : Program} {w : World} {K : PySem.W.Frag} {mg : Str → Option Value} {base : Heap} {k : Nat} {x : Str} {ps : List Str} {sp sp' : Sp} (F : OkF P w K mg base k x ps sp) (h : ∀ vs H Q E, sp' vs H Q E → sp vs H Q E) : OkF P w K mg base k x ps sp' := by
  obtain ⟨⟨fd, a, b⟩, c, d⟩ := F
  exact ⟨⟨fd, a.imp h, b⟩, c, d⟩
/-- a def of a class C -/
structure OkM (P : Program) (w : World) (K : PySem.W.Frag) (mg : Str → Option Value) (base : Heap) (k : Nat) (C m : Str) (ps : List Str) (sp : Sp) : Prop where
  ok : ∃ fd, FnOk P w K mg base (L2.CX P w) k (He.ma K (He.ga K C) m) fd ps sp ∧ Binds K fd ps []
  at_ : Meth K (He.ga K C) m (He.ma K (He.ga K C) m)
section
variable {X : Cx} {k j : Nat} {x : Str} {ps : List Str} {sp : Sp} {E : XK} {p pos : Pos} {e : Expr} {es : List Expr} {t : TA}
theorem pe_okF (F : OkF X.prog X.w X.K X.mg X.base k x ps sp) (hr : Room j X.A) (hj : k ≤ j) (hg : Gl X x) (hx : Passes (L2.CX X.prog X.w) X E) (ha : PA X (e :: es) t)
    (hdb : (x == ("__debug__" : Str)) = false := by decide) (he : starEach (e :: es) X.env = (false, eval e X.env) :: starEach es X.env := by rfl) (hpl : (backTo pos (starEach es X.env)).any (·.1) = false := by rfl) :
    PE X (.Call (.Name x p) (e :: es) [] pos) (tCall sp [] E t) := by
  obtain ⟨⟨fd, F1, b⟩, c, d⟩ := F
  exact pe_call F1 (hr.mono hj) hg d c b .nil hx ha hdb he hpl
end
/-- the rule: a def of the module holds its promise -/
theorem okF_of {P : Program} {w : World} {K : PySem.W.Frag} {mg : Str → Option Value} {base : Heap} {k : Nat} {x : Str} {ar : Arguments} {bd : List Stmt} {sc : Scope} {N ps : List Str} {sp : Sp}
    (F : ∃ fd, FunD K x x ar bd sc [] [] (He.ga K x) fd) (S : FnScope N ps sc) (hg : mg x = some (.ref (He.ga K x)))
    (hb : ∀ (kV doc pm : Value) (an : Option Addr) (cdv ct : Value) (us : List Value), us.length = ps.length → bindArgs (PySem.W.fnOf x x ar bd sc .none kV doc pm an cdv ct) ⟨us, []⟩ = pure (ps.zip us))
    (len : ∀ vs H Q E, sp vs H Q E → vs.length = ps.length)
    (body : ∀ (cdv : Value) (A : Around) (outer : List Env) (s : Shared) (H : Hp) (vs : List V) (Q : VK) (E : XK), Room k (A.deeper (envOfC x sc s.heap.objs.size (He.ga K x) cdv)) → sp vs H Q E →
      ∃ t, PSs (cxOf (L2.CX P w) P w K mg base N x sc (He.ga K x) cdv A outer s H E) bd t ∧ t { nx := fun _ H' => Q .non H', rt := Q } (start N vs) H) : OkF P w K mg base (k + 1) x ps sp := by
  obtain ⟨fd, F⟩ := F
  exact ⟨⟨fd, F.ok S len body, F.bindsN hb⟩, F.kp, hg⟩
end TD

end
section
open TD L2
/-- what stands at an address -/
local macro_rules | `(tactic| lcg_sub) => `(tactic| first | assumption | exact upd_same | exact New.at_ (by assumption) | (refine New.same (by assumption) _ _ ?_; lcg_sub) | (refine (show Same _ _ from by assumption) _ _ ?_; lcg_sub) | (refine Eq.trans (upd_ne (by first | assumption | exact Ne.symm (by assumption))) ?_; lcg_sub))
/-- a list, a tuple to be read -/
local macro_rules | `(tactic| lcg_src) => `(tactic| first | assumption | exact SqL.of (by lcg_sub) | exact SqT.of (by lcg_sub) | (refine Same.seq (New.same (by assumption)) ?_; lcg_src) | (refine Same.seq (by assumption) ?_; lcg_src) | (refine sameT (New.same (by assumption)) ?_; lcg_src) | (refine sameT (by assumption) ?_; lcg_src))
/-- data at a value -/
local macro_rules | `(tactic| kp_flats) => `(tactic| first | assumption | exact Dp.str _ | exact Dp.int _ | exact Dp.non | exact Dp.bl _ | (refine dp_same (New.same (by assumption)) ?_; kp_flats) | (refine dp_same (by assumption) ?_; kp_flats))
/-- one step of a reading -/
local macro_rules | `(tactic| lcg_off) => `(tactic| first
  | with_reducible refine Stp.go ?_
  | ((with_reducible show tVar _ _ _ _); refine c_var (by rfl) ?_)
  | ((with_reducible show rIxL _ _ _ _ _); refine c_ixL (by lcg_src) (by rfl) ?_)
  | ((with_reducible show rIxT _ _ _ _ _); refine c_ixT (by lcg_src) (by rfl) ?_)
  | ((with_reducible show rSetL _ _ _ _ _); refine c_setL (by lcg_sub) (by rfl) ?_)
  | ((with_reducible show rLenQ _ _ _ _); first | (refine c_lenL (by lcg_src) ?_) | (refine c_lenT (by lcg_src) ?_))
  | ((with_reducible show rSlL _ _ _ _ _ _); refine c_slL (by lcg_src) ?_)
  | ((with_reducible show rListQ _ _ _ _); first | (refine c_listL (by lcg_src) ?_) | (refine c_listT (by lcg_src) ?_))
  | ((with_reducible show rI _ _ _ _ _ _); refine c_IC (by first | assumption | decide | omega) ?_)
  | ((with_reducible show rIsi _ _ _ _); refine c_isi (by kp_flats) (by first | assumption | decide +kernel) ?_)
  | ((with_reducible show rIx _ _ _ _ _); refine c_ix (by first | exact .inl ⟨by lcg_src, by first | assumption | rfl⟩ | exact .inr ⟨by lcg_src, by first | assumption | rfl⟩) ?_)
  | ((with_reducible show NewW _ _ _ _); refine newW ?_)
  | ((with_reducible show rCat _ _ _ _); refine c_cat (by lcg_sub) (by lcg_sub) (le_line (by first | decide | (simp only [List.length_append, List.length_cons, List.length_nil]; omega))) ?_)
  | ((with_reducible show aAddS _ _ _ _); refine c_adds (le_line (by first | decide +kernel | assumption)) ?_)
  | ((with_reducible show rIn _ false _ _ _ _); refine c_inL (by lcg_src) (by rfl) (by rfl) ?_)
  | ((with_reducible show rIn _ true _ _ _ _); refine c_niL (by lcg_src) (by rfl) (by rfl) ?_))
/-- one step, with the new object's names -/
local macro_rules | `(tactic| k_offL) => `(tactic| first | lcg_off | ((with_reducible show ∀ _ _, New _ _ _ _ → _); intro _ _ _))
/-- an error that is held -/
local macro_rules | `(tactic| one_item) => `(tactic| first | assumption | (refine ErrV.same ?_ (New.same (by assumption)); one_item) | (refine ErrV.same ?_ (by assumption); one_item))
/-- nothing was changed -/
local macro_rules | `(tactic| one_place) => `(tactic| first | assumption | exact fun _ _ h => h | exact New.same (by assumption) | (refine Same.trans ?_ (New.same (by assumption)); one_place) | (refine Same.trans ?_ (by assumption); one_place))
/-- what an expression makes, as data -/
local macro_rules | `(tactic| one_sign) => `(tactic| first | exact EvD.str | exact EvD.int | exact EvA.nil | exact EvD.neg | (apply EvA.cons; (focus one_sign); one_sign) | (apply EvD.tup; (focus one_sign); (first | decide | (simp only [List.length_append, List.length_cons, List.length_nil]; omega))) | (apply EvD.var; (focus rfl); kp_flats) | (apply EvL.var; (focus rfl); (focus lcg_sub); assumption) | (apply EvL.lst; (focus one_sign); (first | decide | (simp only [List.length_append, List.length_cons, List.length_nil]; omega))) | (apply EvL.cat; (focus one_sign); (focus one_sign); (first | decide | (simp only [List.length_append, List.length_cons, List.length_nil]; omega))) | (apply EvD.tupOf; one_sign) | (apply EvD.rep; (focus one_sign); (focus simp); (focus decide); (focus decide); decide) | (apply EvL.rep; (focus one_sign); (focus decide); decide) | (apply EvD.adds; (focus one_sign); (focus one_sign); decide +kernel) | exact EvD.non | exact EvD.bl | (apply EvD.ofL; one_sign))
/-- one step, but not into a new list, a new tuple -/
local macro_rules | `(tactic| k_asm) => `(tactic| (fail_if_success (with_reducible show tLst _ _ _ _)); (fail_if_success (with_reducible show tTup _ _ _ _)); (fail_if_success (with_reducible show tOp rCat _ _ _ _ _)); lcg_off)
namespace PySem
namespace TDX
open PySem.W PySem.Calls PyProof.Rows
open Builtin Builtin.ObjectAttr
/-- an own class of errors whose chain ends at ValueError or LookupError; its __init__ is walked as a def -/
structure GxC (K : Frag) (C : Addr) : Prop where
  kind : ∃ (B newId initId : String) (bmB : List Value), ExcBaseFacts B newId initId bmB ∧ StoreFacts B bmB "object.__setattr__" "object" ∧ excInitIn K C bmB newId = true ∧ excOver K C bmB = true
  sa : findIn K (.ref C) "__setattr__" = some (some (.builtin "object.__setattr__"))
  ga : findIn K (.ref C) "__getattribute__" = some (some (.builtin "BaseException.__getattribute__"))
  gg : findIn K (.ref C) "__getattr__" = some none
  exC : subIn K (.ref C) (.type "BaseException") = some true
  tyC : typeIn K (.ref C) = some (.type "type")
  kC : keepIn K (.ref C) = true
  hdC : hasDictIn K C = true
abbrev veM : List Value := [.type "ValueError", .type "Exception", .type "BaseException", .type "object"]
abbrev leM : List Value := [.type "LookupError", .type "Exception", .type "BaseException", .type "object"]
/-- the same, as a test -/
def gxB (K : Frag) (C : Addr) : Bool := ((excInitIn K C veM "ValueError.__new__" && excOver K C veM) || (excInitIn K C leM "LookupError.__new__" && excOver K C leM)) &&
  (decide (findIn K (.ref C) "__setattr__" = some (some (.builtin "object.__setattr__"))) && (decide (findIn K (.ref C) "__getattribute__" = some (some (.builtin "BaseException.__getattribute__"))) && (decide (findIn K (.ref C) "__getattr__" = some none) &&
  (decide (subIn K (.ref C) (.type "BaseException") = some true) && (decide (typeIn K (.ref C) = some (.type "type")) && (keepIn K (.ref C) && hasDictIn K C))))))
theorem gxB_ok {K : Frag} {C : Addr} (h : gxB K C = true) : GxC K C := by
  unfold gxB at h
  simp only [Bool.and_eq_true, Bool.or_eq_true, decide_eq_true_eq] at h
  obtain ⟨h0, h1, h2, h3, h4, h5, h6, h7⟩ := h
  refine ⟨?_, h1, h2, h3, h4, h5, h6, h7⟩
  rcases h0 with ⟨a, b⟩ | ⟨a, b⟩
  · exact ⟨_, _, _, _, F.excBase_ValueError, F.store_ValueError, a, b⟩
  · exact ⟨_, _, _, _, F.excBase_LookupError, F.store_LookupError, a, b⟩
section
variable {prog : Program} {w : World} {A : Around} {R : Result → Shared → Prop} {hp : Heap} {g : Array GenState} {d : Drawn} {t : Nat} {os : OsState} {K : Frag} {name : Str} {tk : Tok} {v : Value} {x C dx : Addr} {fv : Array Value}
/-- the first store makes the dict -/
theorem gx_new (T : GxC K C) (X : K.In hp) (hx : hp.get? x = some { cls := .ref C, data := .fields fv }) (ha : findIn K (.ref C) name = some none)
    (hq : ∀ h' tk' dx, (∀ b o, b ≠ x → hp.get? b = some o → h'.get? b = some o) → hp.objs.size ≤ dx → dx ≠ x → h'.get? x = some { cls := .ref C, dict := some dx, data := .fields fv } →
      h'.Ns1 dx (fun y => if y = name then some v else none) → R (.ok (.ret .none)) ⟨h', g, d, tk', os⟩) :
    codeAny (model prog w) A (.call (.builtin "object.__setattr__") ⟨[.ref x, .str name tk, v], []⟩) R ⟨hp, g, d, t, os⟩ := by
  obtain ⟨B, newId, initId, bmB, FB, SF, q1, q2⟩ := T.kind
  have hxs : x ≠ hp.objs.size := Nat.ne_of_lt (Heap.lt_size hx)
  obtain ⟨cd, hcd, hh⟩ := any_some T.hdC
  refine osa_openX (s := ⟨hp, g, d, t, os⟩) (od := none) (r := none) SF X ⟨hx, rfl, rfl, trivial⟩ q2 (by unfold takerIn; rw [ha]; rfl) (fun b => ?_)
  have hcls : W.Looks (model prog w) hp (classData C) cd := W.looks_clsIn X hcd
  obtain ⟨nm, bs, mro, ns, qn, hd, sn, sb, ab, col, del⟩ := cd
  dsimp only at hh
  subst hh
  show wpAny _ _ (storeInOwnDict (.ref x) (.ref C) (.str name tk) name v b) _ _ _
  unfold storeInOwnDict ownDictForStores
  repeat (first | with_reducible refine HandSPX.store_in_new ?_ ?_ | with_reducible refine wpAny_loadPart_at hx ?_ | with_reducible refine hcls.at ?_ | wp_step)
  · exact ⟨_, #[], _, (Heap.get?_update_ne _ _ _ _ hxs.symm).trans (Heap.get?_push_at rfl rfl), rfl, fun e he => absurd he (by simp), fun _ => rfl⟩
  · intro h' tk' hn' hs
    have hx1 : (hp.push { cls := .type "dict", data := .dict #[] }).get? x = some { cls := .ref C, data := .fields fv } := Heap.get?_push_of_some _ hx
    refine hq h' tk' hp.objs.size (fun b o hb ho => ?_) (Nat.le_refl _) hxs.symm ?_ hn'
    · exact (hs.2 b (Nat.ne_of_lt (Heap.lt_size ho))).trans ((Heap.get?_update_ne _ _ _ _ hb).trans (Heap.get?_push_of_some _ ho))
    · exact (hs.2 x hxs).trans (Heap.get?_update_self _ hx1 rfl)
/-- a further store -/
theorem gx_old {m0 : Str → Option Value} {nl : List Str} (T : GxC K C) (X : K.In hp) (hx : hp.get? x = some { cls := .ref C, dict := some dx, data := .fields fv }) (hns : hp.Ns1 dx m0) (hw : Within m0 nl) (hz : nl.length ≤ 1000) (ha : findIn K (.ref C) name = some none)
    (hq : ∀ h' tk', (∀ b o, b ≠ dx → hp.get? b = some o → h'.get? b = some o) → h'.Ns1 dx (fun y => if y = name then some v else m0 y) → R (.ok (.ret .none)) ⟨h', g, d, tk', os⟩) :
    codeAny (model prog w) A (.call (.builtin "object.__setattr__") ⟨[.ref x, .str name tk, v], []⟩) R ⟨hp, g, d, t, os⟩ := by
  obtain ⟨B, newId, initId, bmB, FB, SF, q1, q2⟩ := T.kind
  obtain ⟨oD, esD, epD, hoD, hdD, _⟩ := hns.count hw
  obtain ⟨cd, hcd, hh⟩ := any_some T.hdC
  refine osa_openX (s := ⟨hp, g, d, t, os⟩) (od := some oD) (r := none) SF X ⟨hx, rfl, rfl, hoD⟩ q2 (by unfold takerIn; rw [ha]; rfl) (fun b => ?_)
  have hcls : W.Looks (model prog w) hp (classData C) cd := W.looks_clsIn X hcd
  obtain ⟨nm, bs, mro, ns, qn, hd, sn, sb, ab, col, del⟩ := cd
  dsimp only at hh
  subst hh
  show wpAny _ _ (storeInOwnDict (.ref x) (.ref C) (.str name tk) name v b) _ _ _
  unfold storeInOwnDict ownDictForStores
  repeat (first | with_reducible refine OEX.store_in_old hns hw hz ?_ | with_reducible refine wpAny_loadPart_at hx ?_ | with_reducible refine hcls.at ?_ | wp_step)
  intro h' tk' hn' hs
  exact hq h' tk' (fun b o hb ho => (hs.2 b hb).trans ho) hn'
end
end TDX
end PySem

end
section
open TD L2
/-- what stands at an address -/
local macro_rules | `(tactic| lcg_sub) => `(tactic| first | assumption | exact upd_same | exact New.at_ (by assumption) | (refine New.same (by assumption) _ _ ?_; lcg_sub) | (refine (show Same _ _ from by assumption) _ _ ?_; lcg_sub) | (refine Eq.trans (upd_ne (by first | assumption | exact Ne.symm (by assumption))) ?_; lcg_sub))
/-- a list, a tuple to be read -/
local macro_rules | `(tactic| lcg_src) => `(tactic| first | assumption | exact SqL.of (by lcg_sub) | exact SqT.of (by lcg_sub) | (refine Same.seq (New.same (by assumption)) ?_; lcg_src) | (refine Same.seq (by assumption) ?_; lcg_src) | (refine sameT (New.same (by assumption)) ?_; lcg_src) | (refine sameT (by assumption) ?_; lcg_src))
/-- data at a value -/
local macro_rules | `(tactic| kp_flats) => `(tactic| first | assumption | exact Dp.str _ | exact Dp.int _ | exact Dp.non | exact Dp.bl _ | (refine dp_same (New.same (by assumption)) ?_; kp_flats) | (refine dp_same (by assumption) ?_; kp_flats))
/-- one step of a reading -/
local macro_rules | `(tactic| lcg_off) => `(tactic| first
  | with_reducible refine Stp.go ?_
  | ((with_reducible show tVar _ _ _ _); refine c_var (by rfl) ?_)
  | ((with_reducible show rIxL _ _ _ _ _); refine c_ixL (by lcg_src) (by rfl) ?_)
  | ((with_reducible show rIxT _ _ _ _ _); refine c_ixT (by lcg_src) (by rfl) ?_)
  | ((with_reducible show rSetL _ _ _ _ _); refine c_setL (by lcg_sub) (by rfl) ?_)
  | ((with_reducible show rLenQ _ _ _ _); first | (refine c_lenL (by lcg_src) ?_) | (refine c_lenT (by lcg_src) ?_))
  | ((with_reducible show rSlL _ _ _ _ _ _); refine c_slL (by lcg_src) ?_)
  | ((with_reducible show rListQ _ _ _ _); first | (refine c_listL (by lcg_src) ?_) | (refine c_listT (by lcg_src) ?_))
  | ((with_reducible show rI _ _ _ _ _ _); refine c_IC (by first | assumption | decide | omega) ?_)
  | ((with_reducible show rIsi _ _ _ _); refine c_isi (by kp_flats) (by first | assumption | decide +kernel) ?_)
  | ((with_reducible show rIx _ _ _ _ _); refine c_ix (by first | exact .inl ⟨by lcg_src, by first | assumption | rfl⟩ | exact .inr ⟨by lcg_src, by first | assumption | rfl⟩) ?_)
  | ((with_reducible show NewW _ _ _ _); refine newW ?_)
  | ((with_reducible show rCat _ _ _ _); refine c_cat (by lcg_sub) (by lcg_sub) (le_line (by first | decide | (simp only [List.length_append, List.length_cons, List.length_nil]; omega))) ?_)
  | ((with_reducible show aAddS _ _ _ _); refine c_adds (le_line (by first | decide +kernel | assumption)) ?_)
  | ((with_reducible show rIn _ false _ _ _ _); refine c_inL (by lcg_src) (by rfl) (by rfl) ?_)
  | ((with_reducible show rIn _ true _ _ _ _); refine c_niL (by lcg_src) (by rfl) (by rfl) ?_))
/-- one step, with the new object's names -/
local macro_rules | `(tactic| k_offL) => `(tactic| first | lcg_off | ((with_reducible show ∀ _ _, New _ _ _ _ → _); intro _ _ _))
/-- an error that is held -/
local macro_rules | `(tactic| one_item) => `(tactic| first | assumption | (refine ErrV.same ?_ (New.same (by assumption)); one_item) | (refine ErrV.same ?_ (by assumption); one_item))
/-- nothing was changed -/
local macro_rules | `(tactic| one_place) => `(tactic| first | assumption | exact fun _ _ h => h | exact New.same (by assumption) | (refine Same.trans ?_ (New.same (by assumption)); one_place) | (refine Same.trans ?_ (by assumption); one_place))
/-- what an expression makes, as data -/
local macro_rules | `(tactic| one_sign) => `(tactic| first | exact EvD.str | exact EvD.int | exact EvA.nil | exact EvD.neg | (apply EvA.cons; (focus one_sign); one_sign) | (apply EvD.tup; (focus one_sign); (first | decide | (simp only [List.length_append, List.length_cons, List.length_nil]; omega))) | (apply EvD.var; (focus rfl); kp_flats) | (apply EvL.var; (focus rfl); (focus lcg_sub); assumption) | (apply EvL.lst; (focus one_sign); (first | decide | (simp only [List.length_append, List.length_cons, List.length_nil]; omega))) | (apply EvL.cat; (focus one_sign); (focus one_sign); (first | decide | (simp only [List.length_append, List.length_cons, List.length_nil]; omega))) | (apply EvD.tupOf; one_sign) | (apply EvD.rep; (focus one_sign); (focus simp); (focus decide); (focus decide); decide) | (apply EvL.rep; (focus one_sign); (focus decide); decide) | (apply EvD.adds; (focus one_sign); (focus one_sign); decide +kernel) | exact EvD.non | exact EvD.bl | (apply EvD.ofL; one_sign))
/-- one step, but not into a new list, a new tuple -/
local macro_rules | `(tactic| k_asm) => `(tactic| (fail_if_success (with_reducible show tLst _ _ _ _)); (fail_if_success (with_reducible show tTup _ _ _ _)); (fail_if_success (with_reducible show tOp rCat _ _ _ _ _)); lcg_off)
namespace TD
open PySem PySem.Spec L2 PySem.Calls PySem.TDX
open PyProof.Rows hiding St
section
variable {X : Cx} {pins : List (Addr × Obj)} {σ : L2.St} {H : Hp} {s : Shared} {a C dx : Addr} {f : Str} {y : V} {u : Value} {fs : List (Str × V)} {Q : Unit → Shared → Prop} {E : Value → Shared → Prop} {A : Around}
/-- e.f = y on an exception that is being made: its dict is made -/
theorem gst_new (T : GxC X.K C) (I : Inv X pins σ H s) (e : H a = some (exo a C none)) (hno : PySem.W.findIn X.K (.ref C) f = some none) (ry : RelV y u)
    (h : ∀ dx s', H dx = none → dx ≠ a → Inv X pins σ (upd (upd H dx (exd dx [(f, y)])) a (exo a C (some dx))) s' → Q () s') : wpAny (model X.prog X.w) A (setAttr (.ref a) f u) Q E s := by
  obtain ⟨t1, ho⟩ := exo_at I.hok e
  obtain ⟨hp, g, d, t, os⟩ := s
  refine PySem.W.set_plain I.kIn (ox := { cls := .ref C, dict := none, data := .fields #[.ref t1, .none, .none, .none, .bool false, .none] }) (od := none) ⟨ho, rfl, rfl, trivial⟩ T.sa ?_
  refine gx_new T I.kIn ho hno (fun h' tk' dx k dn dne hx hn => ?_)
  have hnd : H dx = none := I.hok.fresh dn
  have nd : ∀ {b : Addr} {o : Obj}, hp.get? b = some o → b ≠ dx := fun {b o} q => Nat.ne_of_lt (Nat.lt_of_lt_of_le (Heap.lt_size q) dn)
  have na : ∀ {b : Addr}, H b = none → b ≠ a := fun {b} n => Ne.symm (ne_of_none e n)
  have no : ∀ {b : Addr} {o : HO}, H b = some o → o ≠ exo a C none → b ≠ a := fun {b o} q ne z => by rw [z, e] at q; exact ne (Option.some.inj q).symm
  have U : Un X.fs [] H (upd (upd H dx (exd dx [(f, y)])) a (exo a C (some dx))) hp h' :=
    { keep := fun b o q n _ _ => k b o (na n) q
      slot := fun b o q n _ _ => ⟨o.slots, k b o (na n) q⟩
      free := fun b o q n _ => by rw [upd_ne (na n), upd_ne (nd q)]; exact n
      there := fun b o q _ => by
        by_cases hb : b = a
        · exact ⟨_, by rw [hb]; exact hx⟩
        · exact ⟨o, k b o hb q⟩
      tups := fun b xs q => by rw [upd_ne (no q (Ne.symm exo_tup)), upd_ne (ne_of_none q hnd)]; exact q
      frzs := fun b o v q => by rw [upd_ne (no q (Ne.symm exo_frz)), upd_ne (ne_of_none q hnd)]; exact q
      tbls := fun b ps q => ⟨#[], by rw [upd_ne (no q (Ne.symm exo_tbl)), upd_ne (ne_of_none q hnd), q]; simp⟩ }
  refine h dx _ hnd dne (I.un (t' := tk') U fun b o q => ?_)
  by_cases hb : b = a
  · subst hb
    rw [upd_same] at q
    obtain rfl := Option.some.inj q
    exact exo_ok hx
  · rw [upd_ne hb] at q
    by_cases hd : b = dx
    · subst hd
      rw [upd_same] at q
      obtain rfl := Option.some.inj q
      exact exd_ok hn (relO_put (fs := []) ry fun g => True.intro)
    · rw [upd_ne hd] at q
      refine (I.hok b o q).stay (fun c v hc z => k c v ?_ z) (fun c hc => ?_) fun c xs hc => ?_
      · rcases hc with hc | hc
        · rw [hc]; exact hb
        · exact no hc (Ne.symm exo_own)
      · rw [upd_ne (no hc (Ne.symm exo_own)), upd_ne (ne_of_none hc hnd)]; exact hc
      · rw [upd_ne (no hc (Ne.symm exo_tup)), upd_ne (ne_of_none hc hnd)]; exact hc
/-- a further field -/
theorem gst_old (T : GxC X.K C) (I : Inv X pins σ H s) (e : H a = some (exo a C (some dx))) (ed : H dx = some (exd dx fs)) (hl : fs.length ≤ 900) (hno : PySem.W.findIn X.K (.ref C) f = some none) (ry : RelV y u)
    (h : ∀ s', Inv X pins σ (upd H dx (exd dx ((f, y) :: fs))) s' → Q () s') : wpAny (model X.prog X.w) A (setAttr (.ref a) f u) Q E s := by
  obtain ⟨t1, ho⟩ := exo_at I.hok e
  obtain ⟨mA, hns, rel⟩ := exd_at I.hok ed
  have hw := within_of rel
  obtain ⟨hp, g, d, t, os⟩ := s
  obtain ⟨oD, _, _, hoD, _, _⟩ := hns.count hw
  refine PySem.W.set_plain I.kIn (ox := { cls := .ref C, dict := some dx, data := .fields #[.ref t1, .none, .none, .none, .bool false, .none] }) (od := some oD) ⟨ho, rfl, rfl, hoD⟩ T.sa ?_
  refine gx_old T I.kIn ho hns hw (by rw [List.length_map]; omega) hno (fun h' tk' k hn => ?_)
  have hd : ∃ o, h'.get? dx = some o := by
    obtain ⟨o, _, _, e', _⟩ := hn
    exact ⟨o, e'⟩
  exact h _ (I.write (t' := tk') (x := dx) (e := dx) (o := exd dx ((f, y) :: fs)) (by rw [ed]; exact True.intro) (.inl rfl) k hd (exd_ok hn (relO_put ry rel)))
/-- e.f of an exception that is held as a value -/
theorem gget (T : GxC X.K C) (I : Inv X pins σ H s) (e : H a = some (exo a C (some dx))) (ed : H dx = some (exd dx fs)) (hno : PySem.W.findIn X.K (.ref C) f = some none) (l : fs.lookup f = some y) {ex : Bool} {QV : Value → Shared → Prop}
    (h : ∀ u s', RelV y u → Inv X pins σ H s' → QV u s') : wpAny (model X.prog X.w) A (getAttr (.ref a) f ex) QV E s := by
  obtain ⟨t1, ho⟩ := exo_at I.hok e
  obtain ⟨mA, hns, rel⟩ := exd_at I.hok ed
  obtain ⟨od, hod, hl⟩ := lookIn_ns hns
  obtain ⟨u, hu, ru⟩ := RelO.some_of (v := y) (o := mA f) (by rw [← l]; exact rel f)
  have J : PySem.W.InstAt s.heap a _ C (some od) := ⟨ho, rfl, rfl, hod⟩
  exact HandSPX.exc_get I.kIn J T.ga T.gg T.exC (PySem.W.findObj_own T.hdC hno rfl (by rw [hl, hu])) (handed_of ru) (h u _ ru (I.tok _))
end
/-! ### readings -/
/-- self.f = e in an exception's __init__ -/
def tGst (K : PySem.W.Frag) (f : Str) (to te : TE) : TS := fun D σ H => te σ H fun y H1 => to σ H1 fun x H2 => ∃ a C : Addr, x = .ref a ∧ GxC K C ∧ PySem.W.findIn K (.ref C) f = some none ∧
  ((H2 a = some (exo a C none) ∧ ∀ dx, H2 dx = none → dx ≠ a → D.nx σ (upd (upd H2 dx (exd dx [(f, y)])) a (exo a C (some dx)))) ∨
    ∃ (dx : Addr) (fs : List (Str × V)), H2 a = some (exo a C (some dx)) ∧ H2 dx = some (exd dx fs) ∧ fs.length ≤ 900 ∧ D.nx σ (upd H2 dx (exd dx ((f, y) :: fs))))
/-- e.f, e an exception held as a value -/
def tXat (K : PySem.W.Frag) (te : TE) (f : Str) : TE := fun σ H Q => te σ H fun x H1 => ∃ (a C dx : Addr) (fs : List (Str × V)) (v : V), x = .ref a ∧ GxC K C ∧ PySem.W.findIn K (.ref C) f = some none ∧ H1 a = some (exo a C (some dx)) ∧ H1 dx = some (exd dx fs) ∧ fs.lookup f = some v ∧ Q v H1
/-- C(..): the exception as it is made; what becomes of it -/
def GxMade (C : Addr) (sp : Sp) (vs : List V) (H : Hp) (R : Addr → Addr → List (Str × V) → Hp → Prop) : Prop := ∀ a, H a = none → sp (.ref a :: vs) (upd H a (exo a C none))
  (fun v H2 => v = .non ∧ ∃ (d : Addr) (fs : List (Str × V)), H2 a = some (exo a C (some d)) ∧ H2 d = some (exd d fs) ∧ H d = none ∧ R a d fs H2) (fun _ _ _ => False)
/-- raise C(..): the exception is let go, its dict stands as an exception's dict -/
def tGmk (C : Addr) (sp : Sp) (ta : TA) : L2.St → Hp → XK → Prop := fun σ H Q => ta σ H fun vs H1 => vs.length ≤ 1000 ∧ GxMade C sp vs H1 fun a d fs H2 => Q (.ref C) (some d) (upd (del H2 a) d (.xd fs))
/-- C(..) as a value -/
def tGval (C : Addr) (sp : Sp) (ta : TA) : TE := fun σ H Q => ta σ H fun vs H1 => vs.length ≤ 1000 ∧ GxMade C sp vs H1 fun a _ _ H2 => Q (.ref a) H2
section
variable {X : Cx} {o e : Expr} {es : List Expr} {to te : TE} {ta : TA} {f : Str} {p p' p1 p2 pos : Pos}
theorem ps_gst (ho : PE X o to) (he : PE X e te) (hs : swapsWith e (some (.Attribute o f p')) pos.line X.env = pure false := by rfl) : PS X (.Assign [.Attribute o f p'] e pos) (tGst X.K f to te) := by
  refine ⟨fun pins s σ H D I h => ?_⟩
  refine plainObj_wpAny_Assign_Attribute (thn (he.run pins s σ H _ I h) fun v s1 ⟨y, H1, I1, r1, q1⟩ => thn (ho.run pins s1 σ H1 _ I1 q1) fun u s2 ⟨x, H2, I2, r2, a, C, ex, T, hno, q⟩ => ?_) hs
  subst ex
  obtain rfl : u = Value.ref a := r2
  rcases q with ⟨ea, q⟩ | ⟨dx, fs, ea, ed, hl, q⟩
  · exact gst_new T I2 ea hno r1 fun dx s' n ne J => ⟨σ, _, J, q dx n ne⟩
  · exact gst_old T I2 ea ed hl hno r1 fun s' J => ⟨σ, _, J, q⟩
theorem pe_xat (he : PE X e te) (hb : attributeBase e f X.env (eval e X.env) = eval e X.env := by rfl) : PE X (.Attribute e f pos) (tXat X.K te f) := by
  refine ⟨fun pins s σ H Q I h => ?_⟩
  refine attr_of hb (thn (he.run pins s σ H _ I h) fun u s1 ⟨x, H1, I1, r1, a, C, dx, fs, v, ex, T, hno, ea, ed, l, q⟩ => ?_)
  subst ex
  obtain rfl : u = Value.ref a := r1
  exact gget T I1 ea ed hno l fun u s' ru J => ⟨v, H1, J, ru, q⟩
/-- the class is called -/
theorem gx_call {C fI : Addr} {k : Nat} {fd : FuncData} {ps : List Str} {sp : Sp} (T : GxC X.K C) (iC : PySem.W.findIn X.K (.ref C) "__init__" = some (some (.ref fI))) (tI : PySem.W.typeIn X.K (.ref fI) = some (.type "function"))
    (F1 : FnOk X.prog X.w X.K X.mg X.base (L2.CX X.prog X.w) k fI fd ps sp) (hr : Room (k + 1) X.A) (hb : Binds X.K fd ps []) {pins : List (Addr × Obj)} {σ : L2.St} {H1 : Hp} {s1 : Shared} {us : List Value} {vs : List V} {R : Addr → Addr → List (Str × V) → Hp → Prop} {Q : Value → Shared → Prop}
    (I1 : Inv X pins σ H1 s1) (r1 : Vals vs us) (hz : vs.length ≤ 1000) (q1 : GxMade C sp vs H1 R)
    (hq : ∀ (a d : Addr) (fs : List (Str × V)) (H2 : Hp) (s2 sm : Shared), s1.heap.objs.size ≤ a → (∀ b o, s1.heap.get? b = some o → sm.heap.get? b = some o) → Un (frs X.stack) [] (upd H1 a (exo a C none)) H2 sm.heap s2.heap → HOk X.prog X.w H2 s2.heap → s2.os = s1.os → AllBare s2.gens →
      sm.os = s1.os → Inv X pins σ (upd H1 a (exo a C none)) sm →
      H2 a = some (exo a C (some d)) → H2 d = some (exd d fs) → H1 d = none → R a d fs H2 → Q (.ref a) s2) :
    wpAny (model X.prog X.w) X.A (call (.ref C) us) Q X.xe s1 := by
  obtain ⟨B, newId, initId, bmB, FB, SF, e1, e2⟩ := T.kind
  obtain ⟨nm, N, qn, bs, bm, hdct, sn, sub, ab, col, dd, k0, k1, k2, k3, k5, hC, hT⟩ := PySem.W.excInit_of I1.kIn e1
  obtain ⟨hp, g, dr, tk, os⟩ := s1
  have hsz : hp.objs.size ≤ hp.objs.size + 1 := Nat.le_succ _
  have hn : H1 (hp.objs.size + 1) = none := I1.hok.fresh hsz
  have hsp := q1 (hp.objs.size + 1) hn
  have kk : ∀ b o, hp.get? b = some o → ((hp.push (PySem.W.kdv_tup us)).push (PySem.HandSPX.excO C hp.objs.size)).get? b = some o := fun b o e => Heap.get?_push_of_some _ (Heap.get?_push_of_some _ e)
  have hget : ((hp.push (PySem.W.kdv_tup us)).push (PySem.HandSPX.excO C hp.objs.size)).get? (hp.objs.size + 1) = some (PySem.HandSPX.excO C hp.objs.size) := by heap_get
  have I2 : Inv X pins σ (upd H1 (hp.objs.size + 1) (exo (hp.objs.size + 1) C none)) ⟨(hp.push (PySem.W.kdv_tup us)).push (PySem.HandSPX.excO C hp.objs.size), g, dr, tk, os⟩ :=
    I1.laid (t' := tk) (a := hp.objs.size + 1) (o := exo (hp.objs.size + 1) C none) (h' := (hp.push (PySem.W.kdv_tup us)).push (PySem.HandSPX.excO C hp.objs.size)) kk hsz (exo_ok hget)
  have r2 : Vals (V.ref (hp.objs.size + 1) :: vs) (Value.ref (hp.objs.size + 1) :: us) := .cons rfl r1
  have hl : (Value.ref (hp.objs.size + 1) :: us).length = ps.length := by
    have e := r2.length
    rw [F1.len _ _ _ _ hsp] at e
    exact e.symm
  have hus : us.length ≤ sizeLine := by
    rw [← Paired.length r1, sizeLine_eq]
    omega
  have hbd := hb ⟨(hp.push (PySem.W.kdv_tup us)).push (PySem.HandSPX.excO C hp.objs.size), g, dr, tk, os⟩ (Value.ref (hp.objs.size + 1) :: us) I2.kIn (by rw [List.append_nil]; exact hl)
  rw [List.append_nil] at hbd
  refine wpAny_call (PySem.HandSPX.call_own FB hT hC (PySem.W.looks_findIn I1.kIn iC) (fun self => PySem.W.bind_fn I1.kIn self tI) hus
    (codeAny_mono (F1.run _ X.stack _ _ ⟨Value.ref (hp.objs.size + 1) :: us, []⟩ (Value.ref (hp.objs.size + 1) :: us) _ _ (fun _ _ _ => False) (hr.make C us []) (I2.env0.make C us []) hbd r2 hsp) fun r s' hq' => ?_))
  cases r with
  | error er =>
    obtain ⟨_, _, _, _, _, _, _, _, _, _, _, _, z⟩ := hq'
    exact z.elim
  | ok fl =>
    cases fl with
    | ret u =>
      obtain ⟨v, H2, os2, bare2, un2, hok2, rv, ev, d, fs, ea, ed, hd1, q2⟩ := hq'
      subst ev
      exact ⟨rv, hq _ d fs H2 s' ⟨(hp.push (PySem.W.kdv_tup us)).push (PySem.HandSPX.excO C hp.objs.size), g, dr, tk, os⟩ hsz kk un2 hok2 os2 bare2 rfl I2 ea ed hd1 q2⟩
    | next => exact False.elim hq'
    | brk => exact False.elim hq'
    | cont => exact False.elim hq'
/-- how a class of errors stands: C, its __init__ at fI with the promise sp -/
structure OkX (P : Program) (w : World) (K : PySem.W.Frag) (mg : Str → Option Value) (base : Heap) (k : Nat) (x : Str) (ps : List Str) (sp : Sp) : Prop where
  gx : GxC K (He.ga K x)
  iC : PySem.W.findIn K (.ref (He.ga K x)) "__init__" = some (some (.ref (He.ma K (He.ga K x) "__init__")))
  tI : PySem.W.typeIn K (.ref (He.ma K (He.ga K x) "__init__")) = some (.type "function")
  ok : ∃ fd, FnOk P w K mg base (L2.CX P w) k (He.ma K (He.ga K x) "__init__") fd ps sp ∧ Binds K fd ps []
  at_ : mg x = some (.ref (He.ga K x))
variable {x : Str} {k j : Nat} {ps : List Str} {sp : Sp}
/-- raise C(e, ..) -/
theorem pmk_x (F : OkX X.prog X.w X.K X.mg X.base k x ps sp) (hr : Room j X.A) (hj : k + 1 ≤ j) (hg : Gl X x) (ha : PA X (e :: es) ta)
    (hdb : (x == ("__debug__" : Str)) = false := by decide) (he : starEach (e :: es) X.env = (false, eval e X.env) :: starEach es X.env := by rfl) (hpl : (backTo pos (starEach es X.env)).any (·.1) = false := by rfl) :
    PMk X (.Call (.Name x p) (e :: es) [] pos) (tGmk (He.ga X.K x) sp ta) := by
  intro pins s σ H Q I h
  obtain ⟨T, iC, tI, ⟨fd, F1, hb⟩, hm⟩ := F
  refine wpAny_Call_Name_kw (ld_glob I hg hm ?_ hdb)
  refine PySem.W.callWith_K (h₀ := X.base) I.ok.mod.kin T.kC (thn (ha.run pos pins s σ H _ I h) fun us s1 ⟨vs, H1, I1, r1, hz, q1⟩ => ⟨I1.kIn, ?_⟩) he hpl
  refine gx_call T iC tI F1 (hr.mono hj) hb I1 r1 hz q1 fun a d fs H2 s2 sm ha k un hok os bare osm Im ea ed hd1 q => ?_
  obtain ⟨hp, g, dr, tk, os1⟩ := s1
  obtain ⟨h2, g2, d2, t2, os2⟩ := s2
  exact mk_end (raises_own T.exC T.tyC) I1 ha k un hok os bare ea ed hd1 q
theorem pmk_x0 (F : OkX X.prog X.w X.K X.mg X.base k x ps sp) (hr : Room j X.A) (hj : k + 1 ≤ j) (hg : Gl X x) (hdb : (x == ("__debug__" : Str)) = false := by decide) :
    PMk X (.Call (.Name x p) [] [] pos) (tGmk (He.ga X.K x) sp tNil) := by
  intro pins s σ H Q I h
  obtain ⟨T, iC, tI, ⟨fd, F1, hb⟩, hm⟩ := F
  refine wpAny_Call_Name_kw (ld_glob I hg hm ?_ hdb)
  obtain ⟨hz, q1⟩ := h
  refine PySem.W.callWith_K0 I.kIn T.kC ?_
  refine gx_call T iC tI F1 (hr.mono hj) hb I .nil hz q1 fun a d fs H2 s2 sm ha k un hok os bare osm Im ea ed hd1 q => ?_
  obtain ⟨hp, g, dr, tk, os1⟩ := s
  obtain ⟨h2, g2, d2, t2, os2⟩ := s2
  exact mk_end (raises_own T.exC T.tyC) I ha k un hok os bare ea ed hd1 q
/-- C(e, ..) as a value -/
theorem pe_xval (F : OkX X.prog X.w X.K X.mg X.base k x ps sp) (hr : Room j X.A) (hj : k + 1 ≤ j) (hg : Gl X x) (ha : PA X (e :: es) ta)
    (hdb : (x == ("__debug__" : Str)) = false := by decide) (he : starEach (e :: es) X.env = (false, eval e X.env) :: starEach es X.env := by rfl) (hpl : (backTo pos (starEach es X.env)).any (·.1) = false := by rfl) :
    PE X (.Call (.Name x p) (e :: es) [] pos) (tGval (He.ga X.K x) sp ta) := by
  refine ⟨fun pins s σ H Q I h => ?_⟩
  obtain ⟨T, iC, tI, ⟨fd, F1, hb⟩, hm⟩ := F
  refine wpAny_Call_Name_kw (ld_glob I hg hm ?_ hdb)
  refine PySem.W.callWith_K (h₀ := X.base) I.ok.mod.kin T.kC (thn (ha.run pos pins s σ H _ I h) fun us s1 ⟨vs, H1, I1, r1, hz, q1⟩ => ⟨I1.kIn, ?_⟩) he hpl
  refine gx_call T iC tI F1 (hr.mono hj) hb I1 r1 hz q1 fun a d fs H2 s2 sm ha k un hok os bare osm Im ea ed hd1 q => ?_
  exact ⟨.ref a, H2, Im.call' (os.trans osm.symm) un hok bare (fun b z => absurd z (by simp)), rfl, q⟩
theorem pe_xval0 (F : OkX X.prog X.w X.K X.mg X.base k x ps sp) (hr : Room j X.A) (hj : k + 1 ≤ j) (hg : Gl X x) (hdb : (x == ("__debug__" : Str)) = false := by decide) :
    PE X (.Call (.Name x p) [] [] pos) (tGval (He.ga X.K x) sp tNil) := by
  refine ⟨fun pins s σ H Q I h => ?_⟩
  obtain ⟨T, iC, tI, ⟨fd, F1, hb⟩, hm⟩ := F
  refine wpAny_Call_Name_kw (ld_glob I hg hm ?_ hdb)
  obtain ⟨hz, q1⟩ := h
  refine PySem.W.callWith_K0 I.kIn T.kC ?_
  refine gx_call T iC tI F1 (hr.mono hj) hb I .nil hz q1 fun a d fs H2 s2 sm ha k un hok os bare osm Im ea ed hd1 q => ?_
  exact ⟨.ref a, H2, Im.call' (os.trans osm.symm) un hok bare (fun b z => absurd z (by simp)), rfl, q⟩
end
/-! ### isinstance of such a value -/
section
variable {X : Cx} {pins : List (Addr × Obj)} {σ : L2.St} {H : Hp} {s : Shared}
/-- what isinstance asks of a class of errors -/
structure GxI (K : PySem.W.Frag) (C : Addr) : Prop where
  cl : (PySem.W.clsIn K C).isSome = true
  ga : PySem.W.findIn K (.ref C) "__getattribute__" = some (some (.builtin "BaseException.__getattribute__"))
  gg : PySem.W.findIn K (.ref C) "__getattr__" = some none
  ex : PySem.W.subIn K (.ref C) (.type "BaseException") = some true
  ha : PySem.W.findIn K (.ref C) "__class__" = some (some (.builtin "object.__class__"))
  hn : PySem.W.specialIn K (.builtin "object.__class__") "__get__" = some (some (.builtin "getset_descriptor.__get__"))
  tk : PySem.W.takesIn K (.builtin "object.__class__") = some true
  hm : PySem.W.mroIn K C (.type "object") = some true
def gxiB (K : PySem.W.Frag) (C : Addr) : Bool := (PySem.W.clsIn K C).isSome && (decide (PySem.W.findIn K (.ref C) "__getattribute__" = some (some (.builtin "BaseException.__getattribute__"))) && (decide (PySem.W.findIn K (.ref C) "__getattr__" = some none) &&
  (decide (PySem.W.subIn K (.ref C) (.type "BaseException") = some true) && (decide (PySem.W.findIn K (.ref C) "__class__" = some (some (.builtin "object.__class__"))) && (decide (PySem.W.specialIn K (.builtin "object.__class__") "__get__" = some (some (.builtin "getset_descriptor.__get__"))) &&
  (decide (PySem.W.takesIn K (.builtin "object.__class__") = some true) && decide (PySem.W.mroIn K C (.type "object") = some true)))))))
theorem gxiB_ok {K : PySem.W.Frag} {C : Addr} (h : gxiB K C = true) : GxI K C := by
  unfold gxiB at h
  simp only [Bool.and_eq_true, decide_eq_true_eq] at h
  obtain ⟨h1, h2, h3, h4, h5, h6, h7, h8⟩ := h
  exact ⟨h1, h2, h3, h4, h5, h6, h7, h8⟩
def rIsG (K : PySem.W.Frag) : List V → Hp → VK → Prop := fun xs H Q => ∃ (a C : Addr) (d : Addr) (fs : List (Str × V)) (c : V) (u : Value) (b : Bool), xs = [.ref a, c] ∧ H a = some (exo a C (some d)) ∧ H d = some (exd d fs) ∧ GxI K C ∧ ClsV c u ∧ PySem.W.kitOne K (.ref C) u = some b ∧ Q (.bl b) H
theorem call_isG : CallR X (.builtin "isinstance") (rIsG X.K) := by
  intro pins s σ H xs us Q I r h
  obtain ⟨a, C, d, fs, c, u, b, rfl, ea, ed, T, k, e, q⟩ := h
  obtain ⟨u1, u2, rfl, r1, r2⟩ := vals2 r
  have e2 := k.eq r2
  subst e2
  obtain rfl : u1 = Value.ref a := r1
  obtain ⟨t1, ho⟩ := exo_at I.hok ea
  obtain ⟨mA, hns, rel⟩ := exd_at I.hok ed
  obtain ⟨od, hod, hl⟩ := lookIn_ns hns
  have J : PySem.W.InstAt s.heap a _ C (some od) := ⟨ho, rfl, rfl, hod⟩
  exact PySem.W.kia_one (PySem.W.kitx_exc T.cl T.ga T.gg T.ex T.ha T.hn T.tk T.hm) I.kIn J e (fun z => nomatch z) fun tk => ⟨.bl b, H, I.tok tk, rfl, q⟩
end
end TD

end
section
open TD L2
/-- what stands at an address -/
local macro_rules | `(tactic| lcg_sub) => `(tactic| first | assumption | exact upd_same | exact New.at_ (by assumption) | (refine New.same (by assumption) _ _ ?_; lcg_sub) | (refine (show Same _ _ from by assumption) _ _ ?_; lcg_sub) | (refine Eq.trans (upd_ne (by first | assumption | exact Ne.symm (by assumption))) ?_; lcg_sub))
/-- a list, a tuple to be read -/
local macro_rules | `(tactic| lcg_src) => `(tactic| first | assumption | exact SqL.of (by lcg_sub) | exact SqT.of (by lcg_sub) | (refine Same.seq (New.same (by assumption)) ?_; lcg_src) | (refine Same.seq (by assumption) ?_; lcg_src) | (refine sameT (New.same (by assumption)) ?_; lcg_src) | (refine sameT (by assumption) ?_; lcg_src))
/-- data at a value -/
local macro_rules | `(tactic| kp_flats) => `(tactic| first | assumption | exact Dp.str _ | exact Dp.int _ | exact Dp.non | exact Dp.bl _ | (refine dp_same (New.same (by assumption)) ?_; kp_flats) | (refine dp_same (by assumption) ?_; kp_flats))
/-- one step of a reading -/
local macro_rules | `(tactic| lcg_off) => `(tactic| first
  | with_reducible refine Stp.go ?_
  | ((with_reducible show tVar _ _ _ _); refine c_var (by rfl) ?_)
  | ((with_reducible show rIxL _ _ _ _ _); refine c_ixL (by lcg_src) (by rfl) ?_)
  | ((with_reducible show rIxT _ _ _ _ _); refine c_ixT (by lcg_src) (by rfl) ?_)
  | ((with_reducible show rSetL _ _ _ _ _); refine c_setL (by lcg_sub) (by rfl) ?_)
  | ((with_reducible show rLenQ _ _ _ _); first | (refine c_lenL (by lcg_src) ?_) | (refine c_lenT (by lcg_src) ?_))
  | ((with_reducible show rSlL _ _ _ _ _ _); refine c_slL (by lcg_src) ?_)
  | ((with_reducible show rListQ _ _ _ _); first | (refine c_listL (by lcg_src) ?_) | (refine c_listT (by lcg_src) ?_))
  | ((with_reducible show rI _ _ _ _ _ _); refine c_IC (by first | assumption | decide | omega) ?_)
  | ((with_reducible show rIsi _ _ _ _); refine c_isi (by kp_flats) (by first | assumption | decide +kernel) ?_)
  | ((with_reducible show rIx _ _ _ _ _); refine c_ix (by first | exact .inl ⟨by lcg_src, by first | assumption | rfl⟩ | exact .inr ⟨by lcg_src, by first | assumption | rfl⟩) ?_)
  | ((with_reducible show NewW _ _ _ _); refine newW ?_)
  | ((with_reducible show rCat _ _ _ _); refine c_cat (by lcg_sub) (by lcg_sub) (le_line (by first | decide | (simp only [List.length_append, List.length_cons, List.length_nil]; omega))) ?_)
  | ((with_reducible show aAddS _ _ _ _); refine c_adds (le_line (by first | decide +kernel | assumption)) ?_)
  | ((with_reducible show rIn _ false _ _ _ _); refine c_inL (by lcg_src) (by rfl) (by rfl) ?_)
  | ((with_reducible show rIn _ true _ _ _ _); refine c_niL (by lcg_src) (by rfl) (by rfl) ?_))
/-- one step, with the new object's names -/
local macro_rules | `(tactic| k_offL) => `(tactic| first | lcg_off | ((with_reducible show ∀ _ _, New _ _ _ _ → _); intro _ _ _))
/-- an error that is held -/
local macro_rules | `(tactic| one_item) => `(tactic| first | assumption | (refine ErrV.same ?_ (New.same (by assumption)); one_item) | (refine ErrV.same ?_ (by assumption); one_item))
/-- nothing was changed -/
local macro_rules | `(tactic| one_place) => `(tactic| first | assumption | exact fun _ _ h => h | exact New.same (by assumption) | (refine Same.trans ?_ (New.same (by assumption)); one_place) | (refine Same.trans ?_ (by assumption); one_place))
/-- what an expression makes, as data -/
local macro_rules | `(tactic| one_sign) => `(tactic| first | exact EvD.str | exact EvD.int | exact EvA.nil | exact EvD.neg | (apply EvA.cons; (focus one_sign); one_sign) | (apply EvD.tup; (focus one_sign); (first | decide | (simp only [List.length_append, List.length_cons, List.length_nil]; omega))) | (apply EvD.var; (focus rfl); kp_flats) | (apply EvL.var; (focus rfl); (focus lcg_sub); assumption) | (apply EvL.lst; (focus one_sign); (first | decide | (simp only [List.length_append, List.length_cons, List.length_nil]; omega))) | (apply EvL.cat; (focus one_sign); (focus one_sign); (first | decide | (simp only [List.length_append, List.length_cons, List.length_nil]; omega))) | (apply EvD.tupOf; one_sign) | (apply EvD.rep; (focus one_sign); (focus simp); (focus decide); (focus decide); decide) | (apply EvL.rep; (focus one_sign); (focus decide); decide) | (apply EvD.adds; (focus one_sign); (focus one_sign); decide +kernel) | exact EvD.non | exact EvD.bl | (apply EvD.ofL; one_sign))
/-- one step, but not into a new list, a new tuple -/
local macro_rules | `(tactic| k_asm) => `(tactic| (fail_if_success (with_reducible show tLst _ _ _ _)); (fail_if_success (with_reducible show tTup _ _ _ _)); (fail_if_success (with_reducible show tOp rCat _ _ _ _ _)); lcg_off)
namespace TD
open PySem PySem.Spec L2 PySem.Calls
open PyProof.Rows hiding St
theorem le_line {n : Nat} (h : n ≤ 100000) : n ≤ sizeLine := Nat.le_trans h (by decide)
/-! ### texts: split and join; rows put together; items looked for -/
abbrev rTupQ (K : PySem.W.Frag) : List V → Hp → VK → Prop := fun xs H Q => ∃ p ys, xs = [.ref p] ∧ ((SqL K H p ys ∧ ∀ l, H l = none → Q (.ref l) (upd H l (.tup ys))) ∨ (SqT K H p ys ∧ Q (.ref p) H))
abbrev rSplit : V → List V → Hp → VK → Prop := fun x xs H Q => ∃ a b, x = .str a ∧ xs = [.str b] ∧ (b.length == 0) = false ∧ a.length + 2 ≤ sizeLine ∧ rNewStrs (Txt.split a b) H Q
abbrev rJoin (K : PySem.W.Frag) : V → List V → Hp → VK → Prop := fun x xs H Q => ∃ a p, ∃ ys : List Str, x = .str a ∧ xs = [.ref p] ∧ (SqL K H p (ys.map V.str) ∨ SqT K H p (ys.map V.str)) ∧
    (ys.map (·.length)).sum + ys.length * a.length ≤ 16777216 ∧ Q (.str (Txt.join a ys)) H
section
variable {X : Cx} {o e : Expr} {to te : TE}
theorem pe_split {apos pos : Pos} (ho : PE X o to) (he : PE X e te) (hs : starEach [e] X.env = [(false, eval e X.env)] := by rfl)
    (hbase : attributeBase o "split" X.env (eval o X.env) = eval o X.env := by rfl) (hline : (apos.endLine == pos.line) = true := by rfl) : PE X (.Call (.Attribute o "split" apos) [e] [] pos) (tM1 rSplit to te) :=
  pe_m1 F.slot_str_split F.type_str_split mt_split ho he hs hbase hline
theorem pe_join {apos pos : Pos} (ho : PE X o to) (he : PE X e te) (hs : starEach [e] X.env = [(false, eval e X.env)] := by rfl)
    (hbase : attributeBase o "join" X.env (eval o X.env) = eval o X.env := by rfl) (hline : (apos.endLine == pos.line) = true := by rfl) : PE X (.Call (.Attribute o "join" apos) [e] [] pos) (tM1 (rJoin X.K) to te) :=
  pe_m1 F.slot_str_join F.type_str_join mt_join ho he hs hbase hline
end
section
variable {K : PySem.W.Frag} {D : Ends} {σ : L2.St} {H : Hp} {Q : VK} {to te : TE} {ta : TA} {i j : Nat} {v w : V}
instance {r : V → List V → Hp → VK → Prop} : Stp (tM1 r to te σ H Q) (to σ H fun x H1 => (∃ a, x = .str a) ∧ te σ H1 fun y H2 => r x [y] H2 Q) := ⟨id⟩
instance {z : Str} {P : Prop} : Stp ((∃ a, V.str z = .str a) ∧ P) P := ⟨fun h => ⟨⟨z, rfl⟩, h⟩⟩
instance : Stp (tPar i j ta D σ H) (ta σ H fun vs H1 => ∃ v w, vs = [v, w] ∧ D.nx ((σ.set i (some v)).set j (some w)) H1) := ⟨id⟩
instance {P : V → V → Prop} : Stp (∃ a b, [v, w] = [a, b] ∧ P a b) (P v w) := ⟨fun h => ⟨v, w, rfl, h⟩⟩
theorem c_split {a b : Str} (ys : List Str) (e : Txt.split a b = ys) (hb : (b.length == 0) = false) (hz : a.length + 2 ≤ sizeLine) (q : ∀ p H1, New H H1 p (.lst (ys.map V.str)) → Q (.ref p) H1) : rSplit (.str a) [.str b] H Q :=
  ⟨a, b, rfl, rfl, hb, hz, fun p n => e ▸ q p _ (new_upd n)⟩
theorem c_join {a : Str} {p : Addr} (ys : List Str) (hs : SqL K H p (ys.map V.str) ∨ SqT K H p (ys.map V.str)) (hz : (ys.map (·.length)).sum + ys.length * a.length ≤ 16777216) (q : Q (.str (Txt.join a ys)) H) : rJoin K (.str a) [.ref p] H Q :=
  ⟨a, p, ys, rfl, rfl, hs, hz, q⟩
theorem c_tupL {p : Addr} {ys : List V} (hs : SqL K H p ys) (q : ∀ l H1, New H H1 l (.tup ys) → Q (.ref l) H1) : rTupQ K [.ref p] H Q := ⟨p, ys, rfl, .inl ⟨hs, fun l n => q l _ (new_upd n)⟩⟩
instance {T : String} {r : V → List V → Hp → VK → Prop} : Stp (tBM K T r to ta σ H Q) (to σ H fun x H1 => tyV K T x H1 ∧ ta σ H1 fun xs H2 => r x xs H2 Q) := ⟨id⟩
theorem c_tyL {l : Addr} {xs : List V} {P : Prop} (s : SqL K H l xs) (p : P) : tyV K "list" (.ref l) H ∧ P := ⟨.inl ⟨rfl, xs, s⟩, p⟩
theorem c_app {l : Addr} {xs : List V} {y : V} (e : H l = some (.lst xs)) (h : xs.length < 100000) (q : Q .non (upd H l (.lst (xs ++ [y])))) : rAppend (.ref l) [y] H Q := ⟨l, xs, y, rfl, rfl, e, Nat.lt_of_lt_of_le h (by decide), q⟩
instance {x : V} : Stp (rIsN x .non H Q) (Q (.bl (decide (x = .non))) H) := ⟨fun q => ⟨rfl, q⟩⟩
instance {x : V} : Stp (rNotN x .non H Q) (Q (.bl (!decide (x = .non))) H) := ⟨fun q => ⟨rfl, q⟩⟩
theorem c_adds {a b : Str} (hz : a.length + b.length ≤ sizeLine) (q : Q (.str (a ++ b)) H) : aAddS (.str a) (.str b) H Q := ⟨a, b, rfl, rfl, hz, q⟩
theorem c_cat {l b : Addr} {xs zs : List V} (h1 : H l = some (.lst xs)) (h2 : H b = some (.lst zs)) (hz : xs.length + zs.length ≤ sizeLine) (q : ∀ p H1, New H H1 p (.lst (xs ++ zs)) → Q (.ref p) H1) : rCat (.ref l) (.ref b) H Q :=
  ⟨l, b, xs, zs, rfl, rfl, h1, h2, hz, fun p n => q p _ (new_upd n)⟩
theorem c_inL {x : V} {p : Addr} {xs : List V} (hs : SqL K H p xs) (f1 : flatV x = true) (f2 : xs.all flatV = true) (q : Q (.bl (inV x xs)) H) : rIn K false x (.ref p) H Q := ⟨p, xs, rfl, .inl hs, f1, f2, q⟩
theorem c_niL {x : V} {p : Addr} {xs : List V} (hs : SqL K H p xs) (f1 : flatV x = true) (f2 : xs.all flatV = true) (q : Q (.bl (!inV x xs)) H) : rIn K true x (.ref p) H Q := ⟨p, xs, rfl, .inl hs, f1, f2, q⟩
end
end TD

end
section
open TD L2
/-- what stands at an address -/
local macro_rules | `(tactic| lcg_sub) => `(tactic| first | assumption | exact upd_same | exact New.at_ (by assumption) | (refine New.same (by assumption) _ _ ?_; lcg_sub) | (refine (show Same _ _ from by assumption) _ _ ?_; lcg_sub) | (refine Eq.trans (upd_ne (by first | assumption | exact Ne.symm (by assumption))) ?_; lcg_sub))
/-- a list, a tuple to be read -/
local macro_rules | `(tactic| lcg_src) => `(tactic| first | assumption | exact SqL.of (by lcg_sub) | exact SqT.of (by lcg_sub) | (refine Same.seq (New.same (by assumption)) ?_; lcg_src) | (refine Same.seq (by assumption) ?_; lcg_src) | (refine sameT (New.same (by assumption)) ?_; lcg_src) | (refine sameT (by assumption) ?_; lcg_src))
/-- data at a value -/
local macro_rules | `(tactic| kp_flats) => `(tactic| first | assumption | exact Dp.str _ | exact Dp.int _ | exact Dp.non | exact Dp.bl _ | (refine dp_same (New.same (by assumption)) ?_; kp_flats) | (refine dp_same (by assumption) ?_; kp_flats))
/-- one step of a reading -/
local macro_rules | `(tactic| lcg_off) => `(tactic| first
  | with_reducible refine Stp.go ?_
  | ((with_reducible show tVar _ _ _ _); refine c_var (by rfl) ?_)
  | ((with_reducible show rIxL _ _ _ _ _); refine c_ixL (by lcg_src) (by rfl) ?_)
  | ((with_reducible show rIxT _ _ _ _ _); refine c_ixT (by lcg_src) (by rfl) ?_)
  | ((with_reducible show rSetL _ _ _ _ _); refine c_setL (by lcg_sub) (by rfl) ?_)
  | ((with_reducible show rLenQ _ _ _ _); first | (refine c_lenL (by lcg_src) ?_) | (refine c_lenT (by lcg_src) ?_))
  | ((with_reducible show rSlL _ _ _ _ _ _); refine c_slL (by lcg_src) ?_)
  | ((with_reducible show rListQ _ _ _ _); first | (refine c_listL (by lcg_src) ?_) | (refine c_listT (by lcg_src) ?_))
  | ((with_reducible show rI _ _ _ _ _ _); refine c_IC (by first | assumption | decide | omega) ?_)
  | ((with_reducible show rIsi _ _ _ _); refine c_isi (by kp_flats) (by first | assumption | decide +kernel) ?_)
  | ((with_reducible show rIx _ _ _ _ _); refine c_ix (by first | exact .inl ⟨by lcg_src, by first | assumption | rfl⟩ | exact .inr ⟨by lcg_src, by first | assumption | rfl⟩) ?_)
  | ((with_reducible show NewW _ _ _ _); refine newW ?_)
  | ((with_reducible show rCat _ _ _ _); refine c_cat (by lcg_sub) (by lcg_sub) (le_line (by first | decide | (simp only [List.length_append, List.length_cons, List.length_nil]; omega))) ?_)
  | ((with_reducible show aAddS _ _ _ _); refine c_adds (le_line (by first | decide +kernel | assumption)) ?_)
  | ((with_reducible show rIn _ false _ _ _ _); refine c_inL (by lcg_src) (by rfl) (by rfl) ?_)
  | ((with_reducible show rIn _ true _ _ _ _); refine c_niL (by lcg_src) (by rfl) (by rfl) ?_))
/-- one step, with the new object's names -/
local macro_rules | `(tactic| k_offL) => `(tactic| first | lcg_off | ((with_reducible show ∀ _ _, New _ _ _ _ → _); intro _ _ _))
/-- an error that is held -/
local macro_rules | `(tactic| one_item) => `(tactic| first | assumption | (refine ErrV.same ?_ (New.same (by assumption)); one_item) | (refine ErrV.same ?_ (by assumption); one_item))
/-- nothing was changed -/
local macro_rules | `(tactic| one_place) => `(tactic| first | assumption | exact fun _ _ h => h | exact New.same (by assumption) | (refine Same.trans ?_ (New.same (by assumption)); one_place) | (refine Same.trans ?_ (by assumption); one_place))
/-- what an expression makes, as data -/
local macro_rules | `(tactic| one_sign) => `(tactic| first | exact EvD.str | exact EvD.int | exact EvA.nil | exact EvD.neg | (apply EvA.cons; (focus one_sign); one_sign) | (apply EvD.tup; (focus one_sign); (first | decide | (simp only [List.length_append, List.length_cons, List.length_nil]; omega))) | (apply EvD.var; (focus rfl); kp_flats) | (apply EvL.var; (focus rfl); (focus lcg_sub); assumption) | (apply EvL.lst; (focus one_sign); (first | decide | (simp only [List.length_append, List.length_cons, List.length_nil]; omega))) | (apply EvL.cat; (focus one_sign); (focus one_sign); (first | decide | (simp only [List.length_append, List.length_cons, List.length_nil]; omega))) | (apply EvD.tupOf; one_sign) | (apply EvD.rep; (focus one_sign); (focus simp); (focus decide); (focus decide); decide) | (apply EvL.rep; (focus one_sign); (focus decide); decide) | (apply EvD.adds; (focus one_sign); (focus one_sign); decide +kernel) | exact EvD.non | exact EvD.bl | (apply EvD.ofL; one_sign))
/-- one step, but not into a new list, a new tuple -/
local macro_rules | `(tactic| k_asm) => `(tactic| (fail_if_success (with_reducible show tLst _ _ _ _)); (fail_if_success (with_reducible show tTup _ _ _ _)); (fail_if_success (with_reducible show tOp rCat _ _ _ _ _)); lcg_off)
namespace TD
open PySem PySem.Spec L2 PySem.Calls PySem.TDX
open PyProof.Rows hiding St
/-! ### the error classes of the program: self.word = .. and one field at most -/
/-- an error that is held: its class, its fields -/
def ErrV (H : Hp) (a C : Addr) (fs : List (Str × V)) : Prop := ∃ d, H a = some (exo a C (some d)) ∧ H d = some (exd d fs)
theorem ErrV.same {H H' : Hp} {a C : Addr} {fs : List (Str × V)} (h : ErrV H a C fs) (s : Same H H') : ErrV H' a C fs := by
  obtain ⟨d, h1, h2⟩ := h
  exact ⟨d, s _ _ h1, s _ _ h2⟩
/-- a class of errors whose instances take plain fields of these names -/
structure ErrC (K : PySem.W.Frag) (C : Addr) (ns : List Str) : Prop where
  gx : GxC K C
  no : ∀ f ∈ ns, PySem.W.findIn K (.ref C) f = some none
def spE0 (K : PySem.W.Frag) (C : Addr) (x : Str) : Sp := fun vs H Q _ => ∃ a : Addr, vs = [.ref a] ∧ ErrC K C ["word"] ∧ H a = some (exo a C none) ∧
  ∀ dx, H dx = none → dx ≠ a → Q .non (upd (upd H dx (exd dx [("word", .str x)])) a (exo a C (some dx)))
def spE1 (K : PySem.W.Frag) (C : Addr) (x f : Str) : Sp := fun vs H Q _ => ∃ (a : Addr) (y : V), vs = [.ref a, y] ∧ ErrC K C ["word", f] ∧ H a = some (exo a C none) ∧
  ∀ dx, H dx = none → dx ≠ a → Q .non (upd (upd (upd H dx (exd dx [("word", .str x)])) a (exo a C (some dx))) dx (exd dx [(f, y), ("word", .str x)]))
def t_i0 (K : PySem.W.Frag) (x : Str) : TS := tGst K "word" (tVar 0) (tC (.str x))
def t_i1 (K : PySem.W.Frag) (x f : Str) : TS := tSeq (tGst K "word" (tVar 0) (tC (.str x))) (tGst K f (tVar 0) (tVar 1))
section
variable {K : PySem.W.Frag} {C : Addr} {x f : Str} {vs : List V} {H : Hp} {Q : VK} {E : XK}
theorem pure_i0 (h : spE0 K C x vs H Q E) : t_i0 K x { nx := fun _ H' => Q .non H', rt := Q } (start ["self"] vs) H := by
  obtain ⟨a, rfl, T, e, q⟩ := h
  exact ⟨_, rfl, a, C, rfl, T.gx, T.no _ (by simp), .inl ⟨e, fun dx n ne => q dx n ne⟩⟩
theorem pure_i1 (h : spE1 K C x f vs H Q E) : t_i1 K x f { nx := fun _ H' => Q .non H', rt := Q } (start ["self", f] vs) H := by
  obtain ⟨a, y, rfl, T, e, q⟩ := h
  refine ⟨_, rfl, a, C, rfl, T.gx, T.no _ (by simp), .inl ⟨e, fun dx n ne => ?_⟩⟩
  refine ⟨_, rfl, _, rfl, a, C, rfl, T.gx, T.no _ (by simp), .inr ⟨dx, [("word", .str x)], upd_same, ?_, by simp, q dx n ne⟩⟩
  rw [upd_ne ne]; exact upd_same
variable {ta : TA} {σ : L2.St}
theorem made_same {H H2 : Hp} {a dx : Addr} {o : HO} (n : H a = none) (nd : upd H a o dx = none) (s : ∀ b, b ≠ a → b ≠ dx → H2 b = H b) : Same H H2 := fun b z e => by
  have h1 : b ≠ a := ne_of_none e n
  have h2 : b ≠ dx := fun z => by rw [z] at e h1; rw [upd_ne h1] at nd; rw [nd] at e; cases e
  rw [s b h1 h2]; exact e
/-- C() as a value -/
theorem c_xv0 (T : ErrC K C ["word"]) (q : ∀ a H1, Same H H1 → H a = none → ErrV H1 a C [("word", .str x)] → Q (.ref a) H1) : tGval C (spE0 K C x) tNil σ H Q := by
  refine ⟨by simp, fun a n => ⟨a, rfl, T, upd_same, fun dx nd ne => ⟨rfl, dx, [("word", .str x)], upd_same, ?_, ?_, ?_⟩⟩⟩
  · rw [upd_ne ne]; exact upd_same
  · rw [upd_ne ne] at nd; exact nd
  · refine q a _ (made_same n nd fun b h1 h2 => by rw [upd_ne h1, upd_ne h2, upd_ne h1]) n ⟨dx, upd_same, ?_⟩
    rw [upd_ne ne]; exact upd_same
/-- C(e) as a value -/
theorem c_xv1 (T : ErrC K C ["word", f]) (h : ta σ H fun vs H1 => ∃ y, vs = [y] ∧ ∀ a H2, Same H1 H2 → H1 a = none → ErrV H2 a C [(f, y), ("word", .str x)] → Q (.ref a) H2) (hm : ∀ P P' : List V → Hp → Prop, (∀ vs H, P vs H → P' vs H) → ta σ H P → ta σ H P') : tGval C (spE1 K C x f) ta σ H Q := by
  refine hm _ _ (fun vs H1 ⟨y, e, q⟩ => ?_) h
  subst e
  refine ⟨by simp, fun a n => ⟨a, y, rfl, T, upd_same, fun dx nd ne => ⟨rfl, dx, [(f, y), ("word", .str x)], ?_, upd_same, ?_, ?_⟩⟩⟩
  · rw [upd_ne (Ne.symm ne)]; exact upd_same
  · rw [upd_ne ne] at nd; exact nd
  · refine q a _ (made_same n nd fun b h1 h2 => by rw [upd_ne h2, upd_ne h1, upd_ne h2, upd_ne h1]) n ⟨dx, ?_, upd_same⟩
    rw [upd_ne (Ne.symm ne)]; exact upd_same
/-- C(..) behind its arguments -/
def GvalP (C : Addr) (sp : Sp) (vs : List V) (H : Hp) (Q : VK) : Prop := vs.length ≤ 1000 ∧ GxMade C sp vs H fun a _ _ H2 => Q (.ref a) H2
theorem c_xv1' {y : V} {H1 : Hp} (T : ErrC K C ["word", f]) (q : ∀ a H2, Same H1 H2 → H1 a = none → ErrV H2 a C [(f, y), ("word", .str x)] → Q (.ref a) H2) : GvalP C (spE1 K C x f) [y] H1 Q := by
  refine ⟨by simp, fun a n => ⟨a, y, rfl, T, upd_same, fun dx nd ne => ⟨rfl, dx, [(f, y), ("word", .str x)], ?_, upd_same, ?_, ?_⟩⟩⟩
  · rw [upd_ne (Ne.symm ne)]; exact upd_same
  · rw [upd_ne ne] at nd; exact nd
  · refine q a _ (made_same n nd fun b h1 h2 => by rw [upd_ne h2, upd_ne h1, upd_ne h2, upd_ne h1]) n ⟨dx, ?_, upd_same⟩
    rw [upd_ne (Ne.symm ne)]; exact upd_same
instance {sp : Sp} : Stp (tGval C sp ta σ H Q) (ta σ H fun vs H1 => GvalP C sp vs H1 Q) := ⟨id⟩
theorem c_xv0' (T : ErrC K C ["word"]) (q : ∀ a H1, Same H H1 → H a = none → ErrV H1 a C [("word", .str x)] → Q (.ref a) H1) : GvalP C (spE0 K C x) [] H Q := c_xv0 (σ := []) T q
/-- an error that is raised, behind its arguments -/
def GrseP (C : Addr) (sp : Sp) (vs : List V) (H : Hp) (QX : XK) : Prop := vs.length ≤ 1000 ∧ GxMade C sp vs H fun a d fs H2 => QX (.ref C) (some d) (upd (del H2 a) d (.xd fs))
/-- raise C(..) in a def whose errors go to E -/
def tRse (t : L2.St → Hp → XK → Prop) (E : XK) : TS := fun _ σ H => t σ H E
instance {sp : Sp} {D : Ends} : Stp (tRse (tGmk C sp ta) E D σ H) (ta σ H fun vs H1 => GrseP C sp vs H1 E) := ⟨id⟩
/-- raise C(y), raise C(): the error lies in the heap as an error's own dict -/
theorem gone_new {H2 : Hp} {a dx : Addr} {o : HO} {fs : List (Str × V)} (n : H a = none) (nd : upd H a o dx = none) (ne : dx ≠ a) (s : ∀ b, b ≠ a → b ≠ dx → H2 b = H b) : New H (upd (del H2 a) dx (.xd fs)) dx (.xd fs) := by
  refine ⟨by rw [upd_ne ne] at nd; exact nd, fun b z e => ?_, upd_same⟩
  have h1 : b ≠ a := ne_of_none e n
  have h2 : b ≠ dx := fun z => by rw [z] at e; rw [upd_ne ne] at nd; rw [nd] at e; cases e
  rw [upd_ne h2, del_ne h1, s b h1 h2]; exact e
theorem c_xm0 {QX : XK} (T : ErrC K C ["word"]) (q : ∀ d H1, New H H1 d (.xd [("word", .str x)]) → QX (.ref C) (some d) H1) : GrseP C (spE0 K C x) [] H QX := by
  refine ⟨by simp, fun a n => ⟨a, rfl, T, upd_same, fun dx nd ne => ⟨rfl, dx, [("word", .str x)], upd_same, ?_, ?_, ?_⟩⟩⟩
  · rw [upd_ne ne]; exact upd_same
  · rw [upd_ne ne] at nd; exact nd
  · exact q dx _ (gone_new n nd ne fun b h1 h2 => by rw [upd_ne h1, upd_ne h2, upd_ne h1])
theorem c_xm1 {QX : XK} {y : V} (T : ErrC K C ["word", f]) (q : ∀ d H1, New H H1 d (.xd [(f, y), ("word", .str x)]) → QX (.ref C) (some d) H1) : GrseP C (spE1 K C x f) [y] H QX := by
  refine ⟨by simp, fun a n => ⟨a, y, rfl, T, upd_same, fun dx nd ne => ⟨rfl, dx, [(f, y), ("word", .str x)], ?_, upd_same, ?_, ?_⟩⟩⟩
  · rw [upd_ne (Ne.symm ne)]; exact upd_same
  · rw [upd_ne ne] at nd; exact nd
  · exact q dx _ (gone_new n nd ne fun b h1 h2 => by rw [upd_ne h2, upd_ne h1, upd_ne h2, upd_ne h1])
end
/-- the field of an error that is held -/
def XatP (K : PySem.W.Frag) (x : V) (f : Str) (H : Hp) (Q : VK) : Prop := ∃ (a C dx : Addr) (fs : List (Str × V)) (v : V), x = .ref a ∧ GxC K C ∧ PySem.W.findIn K (.ref C) f = some none ∧ H a = some (exo a C (some dx)) ∧ H dx = some (exd dx fs) ∧ fs.lookup f = some v ∧ Q v H
instance {K : PySem.W.Frag} {te : TE} {f : Str} {σ : L2.St} {H : Hp} {Q : VK} : Stp (tXat K te f σ H Q) (te σ H fun x H1 => XatP K x f H1 Q) := ⟨id⟩
theorem c_xat {K : PySem.W.Frag} {a C : Addr} {fs : List (Str × V)} {ns : List Str} {f : Str} {v : V} {H : Hp} {Q : VK} (e : ErrV H a C fs) (T : ErrC K C ns) (hf : f ∈ ns) (l : fs.lookup f = some v) (q : Q v H) : XatP K (.ref a) f H Q := by
  obtain ⟨d, h1, h2⟩ := e
  exact ⟨a, C, d, fs, v, rfl, T.gx, T.no f hf, h1, h2, l, q⟩
theorem c_isg {K : PySem.W.Frag} {a C : Addr} {fs : List (Str × V)} {c : V} {u : Value} {b : Bool} {H : Hp} {Q : VK} (e : ErrV H a C fs) (T : GxI K C) (k : ClsV c u) (t : PySem.W.kitOne K (.ref C) u = some b) (q : Q (.bl b) H) : rIsG K [.ref a, c] H Q := by
  obtain ⟨d, h1, h2⟩ := e
  exact ⟨a, C, d, fs, c, u, b, rfl, h1, h2, T, k, t, q⟩
/-! ### how the classes stand -/
/-- as a test: the class x with the field f -/
def errB (K : PySem.W.Frag) (x : Str) (ns : List Str) : Bool := gxB K (He.ga K x) && (ns.all fun f => decide (PySem.W.findIn K (.ref (He.ga K x)) f = some none)) &&
  (decide (PySem.W.findIn K (.ref (He.ga K x)) "__init__" = some (some (.ref (He.ma K (He.ga K x) "__init__")))) && decide (PySem.W.typeIn K (.ref (He.ma K (He.ga K x) "__init__")) = some (.type "function")))
theorem errB_c {K : PySem.W.Frag} {x : Str} {ns : List Str} (h : errB K x ns = true) : ErrC K (He.ga K x) ns := by
  unfold errB at h
  simp only [Bool.and_eq_true, List.all_eq_true, decide_eq_true_eq] at h
  exact ⟨gxB_ok h.1.1, h.1.2⟩
theorem okX_of {P : Program} {w : World} {K : PySem.W.Frag} {mg : Str → Option Value} {base : Heap} {k : Nat} {x q : Str} {ar : Arguments} {bd : List Stmt} {sc : Scope} {N ps ns : List Str} {sp : Sp} (hB : errB K x ns = true)
    (F : ∃ fd, FunD K "__init__" q ar bd sc [] [] (He.ma K (He.ga K x) "__init__") fd) (S : FnScope N ps sc) (hg : mg x = some (.ref (He.ga K x)))
    (hb : ∀ (kV doc pm : Value) (an : Option Addr) (cdv ct : Value) (us : List Value), us.length = ps.length → bindArgs (PySem.W.fnOf "__init__" q ar bd sc .none kV doc pm an cdv ct) ⟨us, []⟩ = pure (ps.zip us))
    (len : ∀ vs H Q E, sp vs H Q E → vs.length = ps.length)
    (body : ∀ (cdv : Value) (A : Around) (outer : List Env) (s : Shared) (H : Hp) (vs : List V) (Q : VK) (E : XK), Room k (A.deeper (envOfC q sc s.heap.objs.size (He.ma K (He.ga K x) "__init__") cdv)) → sp vs H Q E →
      ∃ t, PSs (cxOf (L2.CX P w) P w K mg base N q sc (He.ma K (He.ga K x) "__init__") cdv A outer s H E) bd t ∧ t { nx := fun _ H' => Q .non H', rt := Q } (start N vs) H) : OkX P w K mg base (k + 1) x ps sp := by
  have h := hB
  unfold errB at h
  simp only [Bool.and_eq_true, decide_eq_true_eq] at h
  obtain ⟨fd, F⟩ := F
  exact ⟨(errB_c hB).gx, h.2.1, h.2.2, ⟨fd, F.ok S len body, F.bindsN hb⟩, hg⟩
end TD

end
section
open TD L2
/-- what stands at an address -/
local macro_rules | `(tactic| lcg_sub) => `(tactic| first | assumption | exact upd_same | exact New.at_ (by assumption) | (refine New.same (by assumption) _ _ ?_; lcg_sub) | (refine (show Same _ _ from by assumption) _ _ ?_; lcg_sub) | (refine Eq.trans (upd_ne (by first | assumption | exact Ne.symm (by assumption))) ?_; lcg_sub))
/-- a list, a tuple to be read -/
local macro_rules | `(tactic| lcg_src) => `(tactic| first | assumption | exact SqL.of (by lcg_sub) | exact SqT.of (by lcg_sub) | (refine Same.seq (New.same (by assumption)) ?_; lcg_src) | (refine Same.seq (by assumption) ?_; lcg_src) | (refine sameT (New.same (by assumption)) ?_; lcg_src) | (refine sameT (by assumption) ?_; lcg_src))
/-- data at a value -/
local macro_rules | `(tactic| kp_flats) => `(tactic| first | assumption | exact Dp.str _ | exact Dp.int _ | exact Dp.non | exact Dp.bl _ | (refine dp_same (New.same (by assumption)) ?_; kp_flats) | (refine dp_same (by assumption) ?_; kp_flats))
/-- one step of a reading -/
local macro_rules | `(tactic| lcg_off) => `(tactic| first
  | with_reducible refine Stp.go ?_
  | ((with_reducible show tVar _ _ _ _); refine c_var (by rfl) ?_)
  | ((with_reducible show rIxL _ _ _ _ _); refine c_ixL (by lcg_src) (by rfl) ?_)
  | ((with_reducible show rIxT _ _ _ _ _); refine c_ixT (by lcg_src) (by rfl) ?_)
  | ((with_reducible show rSetL _ _ _ _ _); refine c_setL (by lcg_sub) (by rfl) ?_)
  | ((with_reducible show rLenQ _ _ _ _); first | (refine c_lenL (by lcg_src) ?_) | (refine c_lenT (by lcg_src) ?_))
  | ((with_reducible show rSlL _ _ _ _ _ _); refine c_slL (by lcg_src) ?_)
  | ((with_reducible show rListQ _ _ _ _); first | (refine c_listL (by lcg_src) ?_) | (refine c_listT (by lcg_src) ?_))
  | ((with_reducible show rI _ _ _ _ _ _); refine c_IC (by first | assumption | decide | omega) ?_)
  | ((with_reducible show rIsi _ _ _ _); refine c_isi (by kp_flats) (by first | assumption | decide +kernel) ?_)
  | ((with_reducible show rIx _ _ _ _ _); refine c_ix (by first | exact .inl ⟨by lcg_src, by first | assumption | rfl⟩ | exact .inr ⟨by lcg_src, by first | assumption | rfl⟩) ?_)
  | ((with_reducible show NewW _ _ _ _); refine newW ?_)
  | ((with_reducible show rCat _ _ _ _); refine c_cat (by lcg_sub) (by lcg_sub) (le_line (by first | decide | (simp only [List.length_append, List.length_cons, List.length_nil]; omega))) ?_)
  | ((with_reducible show aAddS _ _ _ _); refine c_adds (le_line (by first | decide +kernel | assumption)) ?_)
  | ((with_reducible show rIn _ false _ _ _ _); refine c_inL (by lcg_src) (by rfl) (by rfl) ?_)
  | ((with_reducible show rIn _ true _ _ _ _); refine c_niL (by lcg_src) (by rfl) (by rfl) ?_))
/-- one step, with the new object's names -/
local macro_rules | `(tactic| k_offL) => `(tactic| first | lcg_off | ((with_reducible show ∀ _ _, New _ _ _ _ → _); intro _ _ _))
/-- an error that is held -/
local macro_rules | `(tactic| one_item) => `(tactic| first | assumption | (refine ErrV.same ?_ (New.same (by assumption)); one_item) | (refine ErrV.same ?_ (by assumption); one_item))
/-- nothing was changed -/
local macro_rules | `(tactic| one_place) => `(tactic| first | assumption | exact fun _ _ h => h | exact New.same (by assumption) | (refine Same.trans ?_ (New.same (by assumption)); one_place) | (refine Same.trans ?_ (by assumption); one_place))
/-- what an expression makes, as data -/
local macro_rules | `(tactic| one_sign) => `(tactic| first | exact EvD.str | exact EvD.int | exact EvA.nil | exact EvD.neg | (apply EvA.cons; (focus one_sign); one_sign) | (apply EvD.tup; (focus one_sign); (first | decide | (simp only [List.length_append, List.length_cons, List.length_nil]; omega))) | (apply EvD.var; (focus rfl); kp_flats) | (apply EvL.var; (focus rfl); (focus lcg_sub); assumption) | (apply EvL.lst; (focus one_sign); (first | decide | (simp only [List.length_append, List.length_cons, List.length_nil]; omega))) | (apply EvL.cat; (focus one_sign); (focus one_sign); (first | decide | (simp only [List.length_append, List.length_cons, List.length_nil]; omega))) | (apply EvD.tupOf; one_sign) | (apply EvD.rep; (focus one_sign); (focus simp); (focus decide); (focus decide); decide) | (apply EvL.rep; (focus one_sign); (focus decide); decide) | (apply EvD.adds; (focus one_sign); (focus one_sign); decide +kernel) | exact EvD.non | exact EvD.bl | (apply EvD.ofL; one_sign))
/-- one step, but not into a new list, a new tuple -/
local macro_rules | `(tactic| k_asm) => `(tactic| (fail_if_success (with_reducible show tLst _ _ _ _)); (fail_if_success (with_reducible show tTup _ _ _ _)); (fail_if_success (with_reducible show tOp rCat _ _ _ _ _)); lcg_off)
namespace TD
open PySem PySem.Spec L2 PySem.Calls PySem.TDX
open PyProof.Rows hiding St
section
variable {X : Cx} {pins : List (Addr × Obj)} {σ : L2.St} {H : Hp} {s : Shared}
/-- a flight bears new objects -/
theorem flying_keeps {B h h' : Heap} {l : List Env} {e : Addr} {Z : Obj → Prop} (f : HandSPX.FlyingZ B l e Z h) (k : ∀ b o, h.get? b = some o → h'.get? b = some o) : HandSPX.FlyingZ B l e Z h' := by
  obtain ⟨f1, f2, f3, oe, vs, T, oT, ts, g1, g2, g3, g4, g5, g6, g7, g8, g9⟩ := f
  exact ⟨fun b o q => k b o (f1 b o q), f2, Heap.FunFrames.of_keeps (fun b o q _ => ⟨o, k b o q, rfl⟩) f3, oe, vs, T, oT, ts, k _ _ g1, g2, g3, g4, g5, g6, k _ _ g7, g8, g9⟩
/-- the name of one class, looked up in a suite -/
theorem names_ld {x : Str} {c : Value} {p : Pos} {Q E : Value → Shared → Prop} (I : Inv X pins σ H s) (hc : Names X x c) (q : Q c s) : wpAny (model X.prog X.w) X.A (eval (.Name x p) X.env) Q E s := by
  obtain ⟨hg, hd, hm | ⟨hm, hv, hn⟩⟩ := hc
  · exact ld_glob I hg hm q hd
  · exact ld_blt I hg hm hv q hn hd
/-- what except (x1, x2) as n wishes: one of the two fits -/
def wTup (K : PySem.W.Frag) (c1 c2 : Value) (i : Nat) (ts : Addr → Value → Option Addr → TS) (D : Ends) : WX := fun cls d σ H =>
  PySem.W.exmAny K cls [c1, c2] = some true ∧ ∀ a, H a = none → ts a cls d { nx := fun σ' H' => D.nx (σ'.set i none) H', rt := D.rt, bk := fun σ' H' => D.bk (σ'.set i none) H', ct := fun σ' H' => D.ct (σ'.set i none) H' } (σ.set i (some (.ref a))) H
theorem ps_try_tup {x1 x2 n : Str} {c1 c2 : Value} {i kk : Nat} {body suite : List Stmt} {b₀ : Stmt} {p1 p2 tp pos pos' : Pos} {tb : WX → TS} {ts : Addr → Value → Option Addr → TS} (hs : X.stack = X.env :: X.outer) (hf : X.env.frame = some X.env.locals) (hN : X.N.Nodup) (hi : X.N[i]? = some n)
    (hln : X.env.kindOf n = some .local) (hc1 : Names X x1 c1) (hc2 : Names X x2 c2)
    (hb : ∀ (W : WX) (pn : List (Addr × Obj)) (xe : Value → Shared → Prop), Takes (X.tr pn xe) W → PSs (X.tr pn xe) body (tb W))
    (hsu : ∀ (a : Addr) (oe : Obj) (cls : Value) (d : Option Addr) (pn : List (Addr × Obj)), Zc cls d oe → (∃ vs, oe.data = .fields vs) → PSs (X.suite a ((a, oe) :: pn)) (b₀ :: suite) (ts a cls d)) :
    PS X (.Try body [.ExceptHandler (some (.Tuple [.Name x1 p1, .Name x2 p2] kk tp)) (some n) (b₀ :: suite) pos'] [] [] pos) (fun D σ H => tb (wTup X.K c1 c2 i ts D) D σ H) := by
  refine ⟨fun pins s σ H D I h => ?_⟩
  have ok := I.ok
  have hfr : X.A.frames = some (X.env :: X.outer) := by rw [ok.frames, hs]
  refine wpAny_Try_except (wpAny_mono ((hb (wTup X.K c1 c2 i ts D) (X.pn ++ pins) _ (fun u s' xx => ?_)).run [] s σ H D (I.toTry _) h) (fun f s1 hsp => ?_) (fun e s1 he => he))
  · obtain ⟨a, B, sI, pins', σ', H', cls, d, rfl, J', nb, up, sky, na, os, ag, hb1, hyes⟩ := xx
    have J : Inv X pins σ' H' sI := J'.ofTry ok
    have sky' : Sky B (X.env :: X.outer) a (Zc cls d) X.env.locals s'.heap := by rw [← hs]; exact sky
    refine Sky.land Zc.steady hfr hf sky' fun h3 fl3 up3 => ?_
    have there : ∀ {h : Heap}, HandSPX.FlyingZ B (X.env :: X.outer) a (Zc cls d) h → s'.heap.UpToSlots h → ∃ oe, h.get? a = some oe ∧ Zc cls d oe ∧ (∃ vs, oe.data = .fields vs) ∧ Inv (X.suite a ((a, oe) :: (X.pn ++ pins))) [] σ' H' { s' with heap := h } := fun {h} fl u => by
      obtain ⟨oe, vs, he, hz, hd⟩ := fl.there
      have nfr : a ∉ frs (X.env :: X.outer) := fun hm => by
        obtain ⟨_, o', e', hnf⟩ := fl.2.2.1.mem hm
        rw [he] at e'; cases e'
        exact hnf _ hd
      have nL : a ≠ X.env.locals := fun z => nfr (List.mem_filterMap.mpr ⟨X.env, List.mem_cons_self, by rw [hf, z]⟩)
      have nF : a ∉ X.fs := fun hm => by
        obtain ⟨e, h1, q⟩ := List.mem_filterMap.mp hm
        exact nfr (List.mem_filterMap.mpr ⟨e, List.mem_cons_of_mem _ h1, q⟩)
      have J1 : Inv X pins σ' H' { s' with heap := h } := J.landed nb fl.1 (up.trans u) os ag
      exact ⟨oe, he, hz, ⟨vs, hd⟩, J1.suite he hd na nL nF⟩
    obtain ⟨oe3, he3, hz3, _, S3⟩ := there fl3 up3
    refine wpAny_handleBy_cons (codeAny_handlers_test ?_) (by intro q; cases q)
    have kp : ∀ b o, h3.get? b = some o → (h3.push { cls := .type "tuple", data := .seq [c1, c2].toArray }).get? b = some o := fun _ _ z => Heap.get?_push_of_some _ z
    have LT : PySem.W.Looks (model X.prog X.w) h3 (typeOf (.ref a)) cls := fun A Q E s k q => wpAny_typeOf_ref (k _ _ he3) (by rw [hz3.1]; exact q)
    have LM := PySem.W.exm_tup2 (M := model X.prog X.w) (S3.kIn.keeps kp) (LT.keeps kp) (Heap.get?_push_size h3 rfl) hb1
    refine wpAny_Tuple (wpAny_items_cons (names_ld S3 hc1 (wpAny_items_cons (names_ld S3 hc2 (wpAny_items_nil ⟨by size_fits, ?_⟩)))))
    refine LM.here ?_
    refine codeAny_handlers_suite_as (HandSPX.lands_againZ (flying_keeps fl3 kp) fun h4 fl4 up4 => ?_)
    obtain ⟨oe4, he4, hz4, hd4, S4⟩ := there fl4 ((up3.trans (.of_keeps kp)).trans up4)
    refine store_ok (X := X.suite a ((a, oe4) :: (X.pn ++ pins))) (v := .ref a) S4 hN hi (.inl hln) rfl (fun s5 S5 => ?_) (.inr hln)
    refine wpAny_mono ((hsu a oe4 cls d (X.pn ++ pins) hz4 hd4).run [] s5 _ H' _ S5 (hyes a na)) (fun f s6 hsp => ?_) (fun _ _ z => False.elim z)
    have last : ∀ {σ6 : L2.St} {H6 : Hp} {Q : Shared → Prop}, Inv (X.suite a ((a, oe4) :: (X.pn ++ pins))) [] σ6 H6 s6 → (∀ s7, Inv X pins (σ6.set i none) H6 s7 → Q s7) →
        wpAny (model X.prog X.w) X.A (do bindName X.env n .none; unbindBehindTheSuite X.env n pos') (fun _ s7 => Q s7) X.xe s6 := fun {σ6 H6 Q} S6 hq => gone_ok (S6.unsuite ok) hN hi hln hq
    cases f with
    | next => obtain ⟨σ6, H6, S6, q6⟩ := hsp; exact last S6 fun s7 J7 => ⟨_, _, J7, q6⟩
    | brk => obtain ⟨σ6, H6, S6, q6⟩ := hsp; exact last S6 fun s7 J7 => ⟨_, _, J7, q6⟩
    | cont => obtain ⟨σ6, H6, S6, q6⟩ := hsp; exact last S6 fun s7 J7 => ⟨_, _, J7, q6⟩
    | ret u => obtain ⟨v6, σ6, H6, S6, r6, q6⟩ := hsp; exact last S6 fun s7 J7 => ⟨_, _, _, J7, r6, q6⟩
  · cases f with
    | next => obtain ⟨σ', H', J', q⟩ := hsp; exact wpAny_execs_nil ⟨σ', H', J'.ofTry ok, q⟩
    | brk => obtain ⟨σ', H', J', q⟩ := hsp; exact ⟨σ', H', J'.ofTry ok, q⟩
    | cont => obtain ⟨σ', H', J', q⟩ := hsp; exact ⟨σ', H', J'.ofTry ok, q⟩
    | ret u => obtain ⟨v, σ', H', J', r, q⟩ := hsp; exact ⟨v, σ', H', J'.ofTry ok, r, q⟩
end
/-! ### a def that is called in an except suite and asks the error's fields -/
/-- sp a C d: the error at a, of the class C, its dict at d -/
structure FnX (P : Program) (w : World) (K : PySem.W.Frag) (mg : Str → Option Value) (base : Heap) (CX : CXT) (k : Nat) (f : Addr) (fd : FuncData) (ps : List Str) (sp : Addr → Value → Option Addr → List V → Hp → VK → Prop) : Prop where
  len : ∀ a C d vs H Q, sp a C d vs H Q → vs.length = ps.length
  run : ∀ (A : Around) (outer : List Env) (s : Shared) (H : Hp) (args : Args) (us : List Value) (vs : List V) (Q : VK) (p : Addr × Obj) (C : Value) (d : Option Addr), L2H.RoomH k A → L2H.PinOk outer H s p → Zc C d p.2 → (∃ xs, p.2.data = .fields xs) → Env0 P w K mg base A outer s H →
    BindsTo s fd args (ps.zip us) → Vals vs us → sp p.1 C d vs H Q → codeAny (model P w) A (.call (.ref f) args) (CR CX outer P w H s Q fun _ _ _ => False) s
theorem fnX_of {CX : CXT} {P : Program} {w : World} {K : PySem.W.Frag} {mg : Str → Option Value} {base : Heap} {k : Nat} {f : Addr} {name qual : Str} {params : Arguments} {body : List Stmt} {scope : Scope} {dV kV doc pm cdv ct oc : Value} {an od : Option Addr}
    {osl : Array (Option Value)} {N ps : List Str} {sp : Addr → Value → Option Addr → List V → Hp → VK → Prop} (lk : K.lookup f = some ⟨oc, od, .func (PySem.W.fnOf name qual params body scope dV kV doc pm an cdv ct), osl⟩) (hcd : PySem.W.codeIn K cdv qual = true) (S : FnScope N ps scope)
    (len : ∀ a C d vs H Q, sp a C d vs H Q → vs.length = ps.length)
    (hbody : ∀ (A : Around) (outer : List Env) (s : Shared) (H : Hp) (vs : List V) (Q : VK) (p : Addr × Obj) (C : Value) (d : Option Addr), Zc C d p.2 → (∃ xs, p.2.data = .fields xs) → L2H.RoomH k (A.deeper (envOfC qual scope s.heap.objs.size f cdv)) → sp p.1 C d vs H Q →
      ∃ t, PSs (L2H.cxH CX P w K mg base N qual scope f cdv A outer s H (fun _ _ _ => False) p) body t ∧ t { nx := fun _ H' => Q .non H', rt := Q } (L2.start N vs) H) :
    FnX P w K mg base CX (k + 1) f (PySem.W.fnOf name qual params body scope dV kV doc pm an cdv ct) ps sp := by
  refine ⟨len, fun A outer s H args us vs Q p C d hr hpin hz hd e0 hb r hsp => ?_⟩
  have KX : K.In s.heap := e0.mod.kin.keeps fun b o e => (e0.bs b o e).1
  have lim : s.heap.NoLimit := e0.mod.nolimit.keeps fun b o e => (e0.bs b o e).1
  refine codeAny_call_function hr.depth (KX _ _ lk) rfl S.co S.gen rfl (PySem.W.codeRec_of KX hcd) (hb _ _ _ _ ?_)
  refine wpAny_newFunctionEnv_cells S.kind (fun ⟨n, v⟩ hy => ?_) fun env he s1 x => ?_
  · rcases S.par n (List.of_mem_zip hy).1 with q | q
    · exact .inl q
    · exact .inr ⟨q, PySem.W.cellsFrom_some _ _ _ (.inl q)⟩
  subst he
  refine ⟨lim.keeps x.toInCall.keep, codeAny_func ?_⟩
  obtain ⟨t, ht, hq⟩ := hbody A outer s H vs Q p C d hz hd (hr.deeper _) hsp
  refine wpAny_mono (ht.run [] s1 (L2.start N vs) H _ (L2H.inv_startH S hpin e0 (len _ _ _ _ _ _ hsp) r x) hq) (fun fl s' hs => ?_) fun e s' hs => hs
  cases fl with
  | ret u => obtain ⟨v, σ', H', J, rv, q⟩ := hs; exact ⟨v, H', J.os, J.bare, J.base, J.hok, rv, q⟩
  | next => obtain ⟨σ', H', J, q⟩ := hs; exact ⟨.non, H', J.os, J.bare, J.base, J.hok, rfl, q⟩
  | brk => obtain ⟨_, _, _, q⟩ := hs; exact False.elim q
  | cont => obtain ⟨_, _, _, q⟩ := hs; exact False.elim q
section
variable {X : Cx} {k : Nat} {f a : Addr} {oe : Obj} {C : Value} {d : Option Addr} {pn : List (Addr × Obj)} {fd : FuncData} {ps : List Str} {sp : Addr → Value → Option Addr → List V → Hp → VK → Prop} {x : Str} {q pos : Pos} {e : Expr} {es : List Expr} {t : TA}
/-- x(e, ..) in the suite of the error at a -/
def tCallX (sp : List V → Hp → VK → Prop) (t : TA) : TE := fun σ H Q => t σ H fun vs H1 => sp vs H1 Q
theorem pe_callX (F : FnX X.prog X.w X.K X.mg X.base (L2.CX X.prog X.w) k f fd ps sp) (hr : L2H.RoomH k X.A) (hz : Zc C d oe) (hf : ∃ vs, oe.data = .fields vs) (hg : Gl X x) (hm : X.mg x = some (.ref f)) (hk : PySem.W.keepIn X.K (.ref f) = true) (hb : Binds X.K fd ps [])
    (ha : PA (X.suite a ((a, oe) :: pn)) (e :: es) t) (hdb : (x == ("__debug__" : Str)) = false := by decide) (he : starEach (e :: es) X.env = (false, eval e X.env) :: starEach es X.env := by rfl) (hpl : (backTo pos (starEach es X.env)).any (·.1) = false := by rfl) :
    PE (X.suite a ((a, oe) :: pn)) (.Call (.Name x q) (e :: es) [] pos) (tCallX (sp a C d) t) := by
  refine ⟨fun pins s σ H Q I h => ?_⟩
  refine wpAny_Call_Name_kw (ld_glob I hg hm ?_ hdb)
  refine PySem.W.callWith_K (h₀ := X.base) I.ok.mod.kin hk (thn (ha.run pos pins s σ H _ I h) fun us s1 ⟨vs, H1, I1, r, h1⟩ => ⟨I1.kIn, ?_⟩) he hpl
  have hl : us.length = ps.length := by rw [← r.length]; exact F.len _ _ _ _ _ _ h1
  have b := hb s1 us I1.kIn (by rw [List.append_nil]; exact hl)
  rw [List.append_nil] at b
  have P1 := I1.pin (a, oe) (List.mem_append_left _ List.mem_cons_self)
  have hpin : L2H.PinOk X.stack H1 s1 (a, oe) := ⟨P1.1, P1.2.1, fun hm => (List.mem_cons.mp (I1.stkSub a hm)).elim P1.2.2.1 P1.2.2.2.1, P1.2.2.2.2⟩
  refine wpAny_call (codeAny_mono (F.run (X.A.mark (some (.ref a))) X.stack s1 H1 ⟨us, []⟩ us vs Q (a, oe) C d ⟨hr.dp, hr.un⟩ hpin hz hf I1.env0 b r h1) fun r s' hq => ?_)
  cases r with
  | error e =>
    obtain ⟨_, _, _, _, _, _, _, _, _, _, _, _, z⟩ := hq
    exact z.elim
  | ok fl =>
    cases fl with
    | ret u => exact I1.after hq
    | next => exact False.elim hq
    | brk => exact False.elim hq
    | cont => exact False.elim hq
end
section
variable {CX : CXT} {P : Program} {w : World} {K : PySem.W.Frag} {mg : Str → Option Value} {base : Heap} {N : List Str} {qual : Str} {scope : Scope} {f : Addr} {cd : Value} {A : Around} {outer : List Env} {s : Shared} {H : Hp} {E : XK} {p : Addr × Obj} {C : Value} {d : Option Addr}
/-- e.n within, e the error -/
def tXh (K : PySem.W.Frag) (a : Addr) (C : Value) (d : Option Addr) (n : Str) (te : TE) : TE := fun σ H Q => te σ H fun x H1 => x = .ref a ∧ ∃ (c dd : Addr) (fs : List (Str × V)) (v : V), C = .ref c ∧ XfC K c ∧ PySem.W.findIn K (.ref c) n = some none ∧ d = some dd ∧ H1 dd = some (.xd fs) ∧ fs.lookup n = some v ∧ Q v H1
theorem pe_xh {X : Cx} {e : Expr} {te : TE} {n : Str} {pos : Pos} (hX : p ∈ X.pn) (hz : Zc C d p.2) (hf : ∃ xs, p.2.data = .fields xs) (he : PE X e te) (hb : attributeBase e n X.env (eval e X.env) = eval e X.env := by rfl) : PE X (.Attribute e n pos) (tXh X.K p.1 C d n te) := by
  refine ⟨fun pins s σ H Q I h => attr_of hb (thn (he.run pins s σ H _ I h) fun u s1 hh => ?_)⟩
  obtain ⟨y, H1, I1, rx, ex, c, dd, fs, v, ec, T, hno, ed, ea, l, q⟩ := hh
  subst ex
  obtain rfl : u = Value.ref p.1 := rx
  obtain ⟨ha, _⟩ := I1.pin p (List.mem_append_left _ hX)
  obtain ⟨xs, hd⟩ := hf
  obtain ⟨mA, hns, hr⟩ := (show ObjOk X.prog X.w H1 s1.heap dd (.xd fs) from I1.hok dd _ ea)
  obtain ⟨od, ho, hl⟩ := lookIn_ns hns
  obtain ⟨u, hu, ru⟩ := RelO.some_of (v := v) (o := mA n) (by rw [← l]; exact hr n)
  have J : PySem.W.InstAt s1.heap p.1 p.2 c (some od) := ⟨ha, by rw [hz.1, ec], by unfold PySem.W.notCls; rw [hd] <;> rfl, by rw [hz.2, ed]; exact ho⟩
  exact HandSPX.exc_get I1.kIn J T.ga T.gg T.exC (PySem.W.findObj_own T.hdC hno rfl (by rw [hl, hu])) (handed_of ru) ⟨v, H1, I1.tok _, ru, q⟩
end
/-! ### _law_try -/
/-- the field that _law_field gives of an error's word -/
def fieldOf (x : Str) : Option Str :=
  if inV (.str x) [.str "BadStep", .str "BadCommand", .str "BadText"] then some "at" else if inV (.str x) [.str "TooLarge", .str "TooLong", .str "Full"] then some "most" else
  if inV (.str x) [.str "BadOwner", .str "NoItem"] then some "owner" else if inV (.str x) [.str "Taken", .str "Clash", .str "NoStamp"] then some "stamp" else if inV (.str x) [.str "BadName", .str "Unknown"] then some "name" else
  if inV (.str x) [.str "OutOfRange", .str "BadPage"] then (if decide (V.str x = V.str "OutOfRange") then some "number" else some "row") else
  if decide (V.str x = V.str "NotEqual") then some "item" else if decide (V.str x = V.str "NoRoom") then some "step" else none
/-- what is known of an error that was let out: its word, its field -/
structure ErrX (K : PySem.W.Frag) (C : Value) (d : Option Addr) (H : Hp) (x : Str) (y : V) : Prop where
  ex : ∃ (c dd : Addr) (fs : List (Str × V)), C = .ref c ∧ d = some dd ∧ H dd = some (.xd fs) ∧ XfC K c ∧ PySem.W.findIn K (.ref c) "word" = some none ∧ fs.lookup ("word" : Str) = some (.str x) ∧
    (match fieldOf x with | none => y = .non | some n => fs.lookup n = some y ∧ PySem.W.findIn K (.ref c) n = some none)
theorem ErrX.same {K : PySem.W.Frag} {C : Value} {d : Option Addr} {H H' : Hp} {x : Str} {y : V} (h : ErrX K C d H x y) (s : Same H H') : ErrX K C d H' x y := by
  obtain ⟨c, dd, fs, h1, h2, h3, r⟩ := h
  exact ⟨c, dd, fs, h1, h2, s _ _ h3, r⟩
/-- _law_field of the error at a -/
def spFieldX (K : PySem.W.Frag) (a : Addr) (C : Value) (d : Option Addr) : List V → Hp → VK → Prop := fun vs H Q => vs = [.ref a] ∧ ∃ x y, ErrX K C d H x y ∧ ∀ H', Same H H' → Q y H'
/-- _law_try(ask): tl what ask does -/
def TTry (K : PySem.W.Frag) : (XK → Hp → VK → Prop) → Hp → VK → Prop := fun tl H Q =>
  tl (fun C d H1 => PySem.W.exmAny K C [.ref (He.ga K "TurnError"), .ref (He.ga K "TurnMissing")] = some true ∧ ∃ x y, ErrX K C d H1 x y ∧ ∀ p H2, New H1 H2 p (.tup [.str x, y]) → Q (.ref p) H2) H
    fun v H1 => NewW .tup [.str "value", v] H1 Q
theorem takes_len {X : Cx} {W : WX} {n : Nat} (tk : Takes X W) (h : X.N.length = n) : Takes X (fun cls d σ H => σ.length = n → W cls d σ H) := fun u s' ⟨a, B, sI, pins, σ, H, cls, d, e, I, nb, up, sky, na, os, ag, w⟩ =>
  tk u s' ⟨a, B, sI, pins, σ, H, cls, d, e, I, nb, up, sky, na, os, ag, w (I.len.trans h)⟩
theorem gives_try {X : Cx} {sg : Scope} {g fF : Addr} {fdF : FuncData} {cdg : Value} {q : Str} {k : Nat} {p0 p1 p2 p3 p4 p5 p6 p7 p8 p9 p10 p11 p12 p13 p14 p15 p16 : Pos} (S : FnScope ["_law_ask", "_law_e"] ["_law_ask"] sg) (hk : sg.names.lookup ("_law_e" : Str) = some .local)
    (g1 : sg.names.lookup ("TurnError" : Str) = some .globalImplicit) (g2 : sg.names.lookup ("TurnMissing" : Str) = some .globalImplicit) (g3 : sg.names.lookup ("_law_field" : Str) = some .globalImplicit) (m1 : X.mg "TurnError" = some (.ref (He.ga X.K "TurnError"))) (m2 : X.mg "TurnMissing" = some (.ref (He.ga X.K "TurnMissing")))
    (m3 : X.mg "_law_field" = some (.ref fF)) (F : FnX X.prog X.w X.K X.mg X.base (L2.CX X.prog X.w) k fF fdF ["_law_e"] (spFieldX X.K)) (hF : PySem.W.keepIn X.K (.ref fF) = true) (hb : Binds X.K fdF ["_law_e"] []) (hr : Room (k + 1) X.A) :
    LamX.GivesTo X ["_law_ask", "_law_e"] "_law_try" sg g cdg [.Try [.Return (some (.Tuple [.Constant (.str "value") 0 p0, .Call (.Name "_law_ask" p1) [] [] p2] 0 p3)) p4] [.ExceptHandler (some (.Tuple [.Name "TurnError" p5, .Name "TurnMissing" p6] 0 p7)) (some "_law_e")
      [.Return (some (.Tuple [.Attribute (.Name "_law_e" p8) "word" p9, .Call (.Name "_law_field" p10) [.Name "_law_e" p11] [] p12] 0 p13)) p14] p15] [] [] p16] "_law_ask" q (TTry X.K) := by
  intro f c' s H Q tl act hc h
  have hv : ∀ Y : Cx, Y.env.scope = sg → Vis Y.env.scope "_law_e" := fun Y e => by rw [e]; exact .inl hk
  refine ⟨_, pss_one (ps_try_tup (X := (cxOf C8.CX0 X.prog X.w X.K X.mg X.base ["_law_ask", "_law_e"] "_law_try" sg g cdg X.A X.stack s H C8.E0).nox) (c1 := .ref (He.ga X.K "TurnError")) (c2 := .ref (He.ga X.K "TurnMissing")) (i := 1)
    (tb := fun W D σ H1 => ∃ Ech : XK, (∀ cls d σ' H', Ech cls d H' → σ'.length = 2 → W cls d σ' H') ∧ σ[0]? = some (some (.ref f)) ∧ H1 c' = some (LamX.CodeO c' q) ∧ tl Ech H1 fun v H2 => NewW .tup [.str "value", v] H2 D.rt)
    (ts := fun a cls d => tRet (tTup (tCons (tXh X.K a cls d "word" (tVar 1)) (tCons (tCallX (spFieldX X.K a cls d) (tCons (tVar 1) tNil)) tNil))))
    rfl rfl S.nd rfl hk ⟨g1, rfl, .inl m1⟩ ⟨g2, rfl, .inl m2⟩ (fun W pn xe tk => ?_) (fun a oe cls d pn hz hf => ?_)), ?_⟩
  · refine pss_one ⟨fun pins s' σ H1 D I hh => ?_⟩
    obtain ⟨Ech, hW, h1, h2, h3⟩ := hh
    have hp := act _ pn xe Ech p1 p2 (takes_len tk rfl) (fun cls d σ' H' e hl => hW cls d σ' H' e hl)
    refine (ps_ret (pos := p4) (pe_tup (pa_cons pe_str (pa_cons hp pa_nil)))).run pins s' σ H1 D I ?_
    exact ⟨h1, h2, h3⟩
  · exact pss_one (ps_ret (pe_tup (pa_cons (pe_xh (p := (a, oe)) List.mem_cons_self hz hf (pe_var (i := 1) rfl (.inl hk) rfl rfl)) (pa_cons (pe_callX F (L2H.roomH_of (hr.deeper _)) hz hf g3 m3 hF hb (pa_cons (pe_var (i := 1) rfl (.inl hk) rfl rfl) pa_nil)) pa_nil))))
  · refine ⟨fun C d H1 => PySem.W.exmAny X.K C [.ref (He.ga X.K "TurnError"), .ref (He.ga X.K "TurnMissing")] = some true ∧ ∃ x y, ErrX X.K C d H1 x y ∧ ∀ p H2, New H1 H2 p (.tup [.str x, y]) → Q (.ref p) H2, fun cls d σ' H' ⟨e1, x, y, e2, e3⟩ hl => ⟨e1, fun a na => ?_⟩, rfl, hc, ?_⟩
    · have hs : (σ'.set 1 (some (.ref a)))[1]? = some (some (.ref a)) := by
        rw [List.getElem?_set_self (by omega)]
      obtain ⟨c, dd, fs, h1, h2, h3, h4, h5, h6, h7⟩ := e2.ex
      refine ⟨.ref a, hs, rfl, c, dd, fs, .str x, h1, h4, h5, h2, h3, h6, ?_⟩
      refine ⟨.ref a, hs, rfl, x, y, e2, fun H2 s2 => ?_⟩
      exact newW fun p H3 n3 => e3 p H3 (n3.after s2)
    · exact h
end TD

end
section
open TD L2
/-- what stands at an address -/
local macro_rules | `(tactic| lcg_sub) => `(tactic| first | assumption | exact upd_same | exact New.at_ (by assumption) | (refine New.same (by assumption) _ _ ?_; lcg_sub) | (refine (show Same _ _ from by assumption) _ _ ?_; lcg_sub) | (refine Eq.trans (upd_ne (by first | assumption | exact Ne.symm (by assumption))) ?_; lcg_sub))
/-- a list, a tuple to be read -/
local macro_rules | `(tactic| lcg_src) => `(tactic| first | assumption | exact SqL.of (by lcg_sub) | exact SqT.of (by lcg_sub) | (refine Same.seq (New.same (by assumption)) ?_; lcg_src) | (refine Same.seq (by assumption) ?_; lcg_src) | (refine sameT (New.same (by assumption)) ?_; lcg_src) | (refine sameT (by assumption) ?_; lcg_src))
/-- data at a value -/
local macro_rules | `(tactic| kp_flats) => `(tactic| first | assumption | exact Dp.str _ | exact Dp.int _ | exact Dp.non | exact Dp.bl _ | (refine dp_same (New.same (by assumption)) ?_; kp_flats) | (refine dp_same (by assumption) ?_; kp_flats))
/-- one step of a reading -/
local macro_rules | `(tactic| lcg_off) => `(tactic| first
  | with_reducible refine Stp.go ?_
  | ((with_reducible show tVar _ _ _ _); refine c_var (by rfl) ?_)
  | ((with_reducible show rIxL _ _ _ _ _); refine c_ixL (by lcg_src) (by rfl) ?_)
  | ((with_reducible show rIxT _ _ _ _ _); refine c_ixT (by lcg_src) (by rfl) ?_)
  | ((with_reducible show rSetL _ _ _ _ _); refine c_setL (by lcg_sub) (by rfl) ?_)
  | ((with_reducible show rLenQ _ _ _ _); first | (refine c_lenL (by lcg_src) ?_) | (refine c_lenT (by lcg_src) ?_))
  | ((with_reducible show rSlL _ _ _ _ _ _); refine c_slL (by lcg_src) ?_)
  | ((with_reducible show rListQ _ _ _ _); first | (refine c_listL (by lcg_src) ?_) | (refine c_listT (by lcg_src) ?_))
  | ((with_reducible show rI _ _ _ _ _ _); refine c_IC (by first | assumption | decide | omega) ?_)
  | ((with_reducible show rIsi _ _ _ _); refine c_isi (by kp_flats) (by first | assumption | decide +kernel) ?_)
  | ((with_reducible show rIx _ _ _ _ _); refine c_ix (by first | exact .inl ⟨by lcg_src, by first | assumption | rfl⟩ | exact .inr ⟨by lcg_src, by first | assumption | rfl⟩) ?_)
  | ((with_reducible show NewW _ _ _ _); refine newW ?_)
  | ((with_reducible show rCat _ _ _ _); refine c_cat (by lcg_sub) (by lcg_sub) (le_line (by first | decide | (simp only [List.length_append, List.length_cons, List.length_nil]; omega))) ?_)
  | ((with_reducible show aAddS _ _ _ _); refine c_adds (le_line (by first | decide +kernel | assumption)) ?_)
  | ((with_reducible show rIn _ false _ _ _ _); refine c_inL (by lcg_src) (by rfl) (by rfl) ?_)
  | ((with_reducible show rIn _ true _ _ _ _); refine c_niL (by lcg_src) (by rfl) (by rfl) ?_))
/-- one step, with the new object's names -/
local macro_rules | `(tactic| k_offL) => `(tactic| first | lcg_off | ((with_reducible show ∀ _ _, New _ _ _ _ → _); intro _ _ _))
/-- an error that is held -/
local macro_rules | `(tactic| one_item) => `(tactic| first | assumption | (refine ErrV.same ?_ (New.same (by assumption)); one_item) | (refine ErrV.same ?_ (by assumption); one_item))
/-- nothing was changed -/
local macro_rules | `(tactic| one_place) => `(tactic| first | assumption | exact fun _ _ h => h | exact New.same (by assumption) | (refine Same.trans ?_ (New.same (by assumption)); one_place) | (refine Same.trans ?_ (by assumption); one_place))
/-- what an expression makes, as data -/
local macro_rules | `(tactic| one_sign) => `(tactic| first | exact EvD.str | exact EvD.int | exact EvA.nil | exact EvD.neg | (apply EvA.cons; (focus one_sign); one_sign) | (apply EvD.tup; (focus one_sign); (first | decide | (simp only [List.length_append, List.length_cons, List.length_nil]; omega))) | (apply EvD.var; (focus rfl); kp_flats) | (apply EvL.var; (focus rfl); (focus lcg_sub); assumption) | (apply EvL.lst; (focus one_sign); (first | decide | (simp only [List.length_append, List.length_cons, List.length_nil]; omega))) | (apply EvL.cat; (focus one_sign); (focus one_sign); (first | decide | (simp only [List.length_append, List.length_cons, List.length_nil]; omega))) | (apply EvD.tupOf; one_sign) | (apply EvD.rep; (focus one_sign); (focus simp); (focus decide); (focus decide); decide) | (apply EvL.rep; (focus one_sign); (focus decide); decide) | (apply EvD.adds; (focus one_sign); (focus one_sign); decide +kernel) | exact EvD.non | exact EvD.bl | (apply EvD.ofL; one_sign))
/-- one step, but not into a new list, a new tuple -/
local macro_rules | `(tactic| k_asm) => `(tactic| (fail_if_success (with_reducible show tLst _ _ _ _)); (fail_if_success (with_reducible show tTup _ _ _ _)); (fail_if_success (with_reducible show tOp rCat _ _ _ _ _)); lcg_off)
namespace TD
open PySem PySem.Spec L2 PySem.Calls PySem.TDX
open PyProof.Rows hiding St
abbrev ns_l_fieldX : List Str := ["_law_e"]
abbrev ps_l_fieldX : List Str := ["_law_e"]
def t_l_fieldX (K : PySem.W.Frag) (ea : Addr) (eC : Value) (ed : Option Addr) : TS :=
  (tSeq (tIfS (tTest (tOp (rIn K false) (tXh K ea eC ed "word" (tVar 0)) (tLst (tCons (tC (.str "BadStep")) (tCons (tC (.str "BadCommand")) (tCons (tC (.str "BadText")) tNil)))))) (tRet (tXh K ea eC ed "at" (tVar 0))) tNext)
    (tSeq (tIfS (tTest (tOp (rIn K false) (tXh K ea eC ed "word" (tVar 0)) (tLst (tCons (tC (.str "TooLarge")) (tCons (tC (.str "TooLong")) (tCons (tC (.str "Full")) tNil)))))) (tRet (tXh K ea eC ed "most" (tVar 0))) tNext)
    (tSeq (tIfS (tTest (tOp (rIn K false) (tXh K ea eC ed "word" (tVar 0)) (tLst (tCons (tC (.str "BadOwner")) (tCons (tC (.str "NoItem")) tNil))))) (tRet (tXh K ea eC ed "owner" (tVar 0))) tNext)
    (tSeq (tIfS (tTest (tOp (rIn K false) (tXh K ea eC ed "word" (tVar 0)) (tLst (tCons (tC (.str "Taken")) (tCons (tC (.str "Clash")) (tCons (tC (.str "NoStamp")) tNil)))))) (tRet (tXh K ea eC ed "stamp" (tVar 0))) tNext)
    (tSeq (tIfS (tTest (tOp (rIn K false) (tXh K ea eC ed "word" (tVar 0)) (tLst (tCons (tC (.str "BadName")) (tCons (tC (.str "Unknown")) tNil))))) (tRet (tXh K ea eC ed "name" (tVar 0))) tNext)
    (tSeq (tIfS (tTest (tOp (rIn K false) (tXh K ea eC ed "word" (tVar 0)) (tLst (tCons (tC (.str "OutOfRange")) (tCons (tC (.str "BadPage")) tNil))))) (tRet (tIf (tTest (tOp rEq (tXh K ea eC ed "word" (tVar 0)) (tC (.str "OutOfRange")))) (tXh K ea eC ed "number" (tVar 0)) (tXh K ea eC ed "row" (tVar 0)))) tNext)
    (tRet (tIf (tTest (tOp rEq (tXh K ea eC ed "word" (tVar 0)) (tC (.str "NotEqual")))) (tXh K ea eC ed "item" (tVar 0)) (tIf (tTest (tOp rEq (tXh K ea eC ed "word" (tVar 0)) (tC (.str "NoRoom")))) (tXh K ea eC ed "step" (tVar 0)) (tC .non))))))))))
end TD

end
section
open TD L2
/-- what stands at an address -/
local macro_rules | `(tactic| lcg_sub) => `(tactic| first | assumption | exact upd_same | exact New.at_ (by assumption) | (refine New.same (by assumption) _ _ ?_; lcg_sub) | (refine (show Same _ _ from by assumption) _ _ ?_; lcg_sub) | (refine Eq.trans (upd_ne (by first | assumption | exact Ne.symm (by assumption))) ?_; lcg_sub))
/-- a list, a tuple to be read -/
local macro_rules | `(tactic| lcg_src) => `(tactic| first | assumption | exact SqL.of (by lcg_sub) | exact SqT.of (by lcg_sub) | (refine Same.seq (New.same (by assumption)) ?_; lcg_src) | (refine Same.seq (by assumption) ?_; lcg_src) | (refine sameT (New.same (by assumption)) ?_; lcg_src) | (refine sameT (by assumption) ?_; lcg_src))
/-- data at a value -/
local macro_rules | `(tactic| kp_flats) => `(tactic| first | assumption | exact Dp.str _ | exact Dp.int _ | exact Dp.non | exact Dp.bl _ | (refine dp_same (New.same (by assumption)) ?_; kp_flats) | (refine dp_same (by assumption) ?_; kp_flats))
/-- one step of a reading -/
local macro_rules | `(tactic| lcg_off) => `(tactic| first
  | with_reducible refine Stp.go ?_
  | ((with_reducible show tVar _ _ _ _); refine c_var (by rfl) ?_)
  | ((with_reducible show rIxL _ _ _ _ _); refine c_ixL (by lcg_src) (by rfl) ?_)
  | ((with_reducible show rIxT _ _ _ _ _); refine c_ixT (by lcg_src) (by rfl) ?_)
  | ((with_reducible show rSetL _ _ _ _ _); refine c_setL (by lcg_sub) (by rfl) ?_)
  | ((with_reducible show rLenQ _ _ _ _); first | (refine c_lenL (by lcg_src) ?_) | (refine c_lenT (by lcg_src) ?_))
  | ((with_reducible show rSlL _ _ _ _ _ _); refine c_slL (by lcg_src) ?_)
  | ((with_reducible show rListQ _ _ _ _); first | (refine c_listL (by lcg_src) ?_) | (refine c_listT (by lcg_src) ?_))
  | ((with_reducible show rI _ _ _ _ _ _); refine c_IC (by first | assumption | decide | omega) ?_)
  | ((with_reducible show rIsi _ _ _ _); refine c_isi (by kp_flats) (by first | assumption | decide +kernel) ?_)
  | ((with_reducible show rIx _ _ _ _ _); refine c_ix (by first | exact .inl ⟨by lcg_src, by first | assumption | rfl⟩ | exact .inr ⟨by lcg_src, by first | assumption | rfl⟩) ?_)
  | ((with_reducible show NewW _ _ _ _); refine newW ?_)
  | ((with_reducible show rCat _ _ _ _); refine c_cat (by lcg_sub) (by lcg_sub) (le_line (by first | decide | (simp only [List.length_append, List.length_cons, List.length_nil]; omega))) ?_)
  | ((with_reducible show aAddS _ _ _ _); refine c_adds (le_line (by first | decide +kernel | assumption)) ?_)
  | ((with_reducible show rIn _ false _ _ _ _); refine c_inL (by lcg_src) (by rfl) (by rfl) ?_)
  | ((with_reducible show rIn _ true _ _ _ _); refine c_niL (by lcg_src) (by rfl) (by rfl) ?_))
/-- one step, with the new object's names -/
local macro_rules | `(tactic| k_offL) => `(tactic| first | lcg_off | ((with_reducible show ∀ _ _, New _ _ _ _ → _); intro _ _ _))
/-- an error that is held -/
local macro_rules | `(tactic| one_item) => `(tactic| first | assumption | (refine ErrV.same ?_ (New.same (by assumption)); one_item) | (refine ErrV.same ?_ (by assumption); one_item))
/-- nothing was changed -/
local macro_rules | `(tactic| one_place) => `(tactic| first | assumption | exact fun _ _ h => h | exact New.same (by assumption) | (refine Same.trans ?_ (New.same (by assumption)); one_place) | (refine Same.trans ?_ (by assumption); one_place))
/-- what an expression makes, as data -/
local macro_rules | `(tactic| one_sign) => `(tactic| first | exact EvD.str | exact EvD.int | exact EvA.nil | exact EvD.neg | (apply EvA.cons; (focus one_sign); one_sign) | (apply EvD.tup; (focus one_sign); (first | decide | (simp only [List.length_append, List.length_cons, List.length_nil]; omega))) | (apply EvD.var; (focus rfl); kp_flats) | (apply EvL.var; (focus rfl); (focus lcg_sub); assumption) | (apply EvL.lst; (focus one_sign); (first | decide | (simp only [List.length_append, List.length_cons, List.length_nil]; omega))) | (apply EvL.cat; (focus one_sign); (focus one_sign); (first | decide | (simp only [List.length_append, List.length_cons, List.length_nil]; omega))) | (apply EvD.tupOf; one_sign) | (apply EvD.rep; (focus one_sign); (focus simp); (focus decide); (focus decide); decide) | (apply EvL.rep; (focus one_sign); (focus decide); decide) | (apply EvD.adds; (focus one_sign); (focus one_sign); decide +kernel) | exact EvD.non | exact EvD.bl | (apply EvD.ofL; one_sign))
/-- one step, but not into a new list, a new tuple -/
local macro_rules | `(tactic| k_asm) => `(tactic| (fail_if_success (with_reducible show tLst _ _ _ _)); (fail_if_success (with_reducible show tTup _ _ _ _)); (fail_if_success (with_reducible show tOp rCat _ _ _ _ _)); lcg_off)
namespace TD
open PySem PySem.Spec L2 PySem.Calls PySem.TDX
open PyProof.Rows hiding St
/-- e.f, the reading's step -/
def XhP (K : PySem.W.Frag) (x : V) (a : Addr) (C : Value) (d : Option Addr) (n : Str) (H : Hp) (Q : VK) : Prop := x = .ref a ∧ ∃ (c dd : Addr) (fs : List (Str × V)) (v : V), C = .ref c ∧ XfC K c ∧ PySem.W.findIn K (.ref c) n = some none ∧ d = some dd ∧ H dd = some (.xd fs) ∧ fs.lookup n = some v ∧ Q v H
instance {K : PySem.W.Frag} {a : Addr} {C : Value} {d : Option Addr} {n : Str} {te : TE} {σ : L2.St} {H : Hp} {Q : VK} : Stp (tXh K a C d n te σ H Q) (te σ H fun x H1 => XhP K x a C d n H1 Q) := ⟨id⟩
theorem pure_l_fieldX {K : PySem.W.Frag} {a : Addr} {C : Value} {d : Option Addr} {vs : List V} {H : Hp} {Q : VK} (h : spFieldX K a C d vs H Q) : t_l_fieldX K a C d { nx := fun _ H' => Q .non H', rt := Q } (start ns_l_fieldX vs) H := by
  obtain ⟨rfl, x, y, ⟨c, dd, fs, rfl, rfl, h3, T, h5, h6, h7⟩, q⟩ := h
  have st : ∀ (H' : Hp) (Q' : VK), Same H H' → Q' (.str x) H' → XhP K (.ref a) a (.ref c) (some dd) "word" H' Q' := fun H' Q' s q' => ⟨rfl, c, dd, fs, _, rfl, T, h5, rfl, s _ _ h3, h6, q'⟩
  have fin : ∀ (H' : Hp) (n : Str), Same H H' → fieldOf x = some n → XhP K (.ref a) a (.ref c) (some dd) n H' Q := fun H' n s e => by
    rw [e] at h7
    exact ⟨rfl, c, dd, fs, y, rfl, T, h7.2, rfl, s _ _ h3, h7.1, q H' s⟩
  unfold t_l_fieldX
  repeat (first | k_offL | refine st _ _ (by one_place) ?_)
  refine ite_b (fun c1 => ?_) (fun c1 => ?_)
  · repeat k_offL
    exact fin _ _ (by one_place) (by simp only [fieldOf, c1]; rfl)
  repeat (first | k_offL | refine st _ _ (by one_place) ?_)
  refine ite_b (fun c2 => ?_) (fun c2 => ?_)
  · repeat k_offL
    exact fin _ _ (by one_place) (by simp only [fieldOf, c1, c2]; rfl)
  repeat (first | k_offL | refine st _ _ (by one_place) ?_)
  refine ite_b (fun c3 => ?_) (fun c3 => ?_)
  · repeat k_offL
    exact fin _ _ (by one_place) (by simp only [fieldOf, c1, c2, c3]; rfl)
  repeat (first | k_offL | refine st _ _ (by one_place) ?_)
  refine ite_b (fun c4 => ?_) (fun c4 => ?_)
  · repeat k_offL
    exact fin _ _ (by one_place) (by simp only [fieldOf, c1, c2, c3, c4]; rfl)
  repeat (first | k_offL | refine st _ _ (by one_place) ?_)
  refine ite_b (fun c5 => ?_) (fun c5 => ?_)
  · repeat k_offL
    exact fin _ _ (by one_place) (by simp only [fieldOf, c1, c2, c3, c4, c5]; rfl)
  repeat (first | k_offL | refine st _ _ (by one_place) ?_)
  refine ite_b (fun c6 => ?_) (fun c6 => ?_)
  · repeat (first | k_offL | refine st _ _ (by one_place) ?_)
    refine ite_b (fun c7 => ?_) (fun c7 => ?_)
    · repeat k_offL
      exact fin _ _ (by one_place) (by simp only [fieldOf, c1, c2, c3, c4, c5, c6, c7]; rfl)
    · repeat k_offL
      exact fin _ _ (by one_place) (by simp only [fieldOf, c1, c2, c3, c4, c5, c6, c7]; rfl)
  repeat (first | k_offL | refine st _ _ (by one_place) ?_)
  refine ite_b (fun c7 => ?_) (fun c7 => ?_)
  · repeat k_offL
    exact fin _ _ (by one_place) (by simp only [fieldOf, c1, c2, c3, c4, c5, c6, c7]; rfl)
  repeat (first | k_offL | refine st _ _ (by one_place) ?_)
  refine ite_b (fun c8 => ?_) (fun c8 => ?_)
  · repeat k_offL
    exact fin _ _ (by one_place) (by simp only [fieldOf, c1, c2, c3, c4, c5, c6, c7, c8]; rfl)
  · repeat k_offL
    have e : fieldOf x = none := by simp only [fieldOf, c1, c2, c3, c4, c5, c6, c7, c8]; rfl
    rw [e] at h7
    have h7 : y = .non := h7
    subst h7
    exact q _ (by one_place)
end TD

end
section
open TD L2
/-- what stands at an address -/
local macro_rules | `(tactic| lcg_sub) => `(tactic| first | assumption | exact upd_same | exact New.at_ (by assumption) | (refine New.same (by assumption) _ _ ?_; lcg_sub) | (refine (show Same _ _ from by assumption) _ _ ?_; lcg_sub) | (refine Eq.trans (upd_ne (by first | assumption | exact Ne.symm (by assumption))) ?_; lcg_sub))
/-- a list, a tuple to be read -/
local macro_rules | `(tactic| lcg_src) => `(tactic| first | assumption | exact SqL.of (by lcg_sub) | exact SqT.of (by lcg_sub) | (refine Same.seq (New.same (by assumption)) ?_; lcg_src) | (refine Same.seq (by assumption) ?_; lcg_src) | (refine sameT (New.same (by assumption)) ?_; lcg_src) | (refine sameT (by assumption) ?_; lcg_src))
/-- data at a value -/
local macro_rules | `(tactic| kp_flats) => `(tactic| first | assumption | exact Dp.str _ | exact Dp.int _ | exact Dp.non | exact Dp.bl _ | (refine dp_same (New.same (by assumption)) ?_; kp_flats) | (refine dp_same (by assumption) ?_; kp_flats))
/-- one step of a reading -/
local macro_rules | `(tactic| lcg_off) => `(tactic| first
  | with_reducible refine Stp.go ?_
  | ((with_reducible show tVar _ _ _ _); refine c_var (by rfl) ?_)
  | ((with_reducible show rIxL _ _ _ _ _); refine c_ixL (by lcg_src) (by rfl) ?_)
  | ((with_reducible show rIxT _ _ _ _ _); refine c_ixT (by lcg_src) (by rfl) ?_)
  | ((with_reducible show rSetL _ _ _ _ _); refine c_setL (by lcg_sub) (by rfl) ?_)
  | ((with_reducible show rLenQ _ _ _ _); first | (refine c_lenL (by lcg_src) ?_) | (refine c_lenT (by lcg_src) ?_))
  | ((with_reducible show rSlL _ _ _ _ _ _); refine c_slL (by lcg_src) ?_)
  | ((with_reducible show rListQ _ _ _ _); first | (refine c_listL (by lcg_src) ?_) | (refine c_listT (by lcg_src) ?_))
  | ((with_reducible show rI _ _ _ _ _ _); refine c_IC (by first | assumption | decide | omega) ?_)
  | ((with_reducible show rIsi _ _ _ _); refine c_isi (by kp_flats) (by first | assumption | decide +kernel) ?_)
  | ((with_reducible show rIx _ _ _ _ _); refine c_ix (by first | exact .inl ⟨by lcg_src, by first | assumption | rfl⟩ | exact .inr ⟨by lcg_src, by first | assumption | rfl⟩) ?_)
  | ((with_reducible show NewW _ _ _ _); refine newW ?_)
  | ((with_reducible show rCat _ _ _ _); refine c_cat (by lcg_sub) (by lcg_sub) (le_line (by first | decide | (simp only [List.length_append, List.length_cons, List.length_nil]; omega))) ?_)
  | ((with_reducible show aAddS _ _ _ _); refine c_adds (le_line (by first | decide +kernel | assumption)) ?_)
  | ((with_reducible show rIn _ false _ _ _ _); refine c_inL (by lcg_src) (by rfl) (by rfl) ?_)
  | ((with_reducible show rIn _ true _ _ _ _); refine c_niL (by lcg_src) (by rfl) (by rfl) ?_))
/-- one step, with the new object's names -/
local macro_rules | `(tactic| k_offL) => `(tactic| first | lcg_off | ((with_reducible show ∀ _ _, New _ _ _ _ → _); intro _ _ _))
/-- an error that is held -/
local macro_rules | `(tactic| one_item) => `(tactic| first | assumption | (refine ErrV.same ?_ (New.same (by assumption)); one_item) | (refine ErrV.same ?_ (by assumption); one_item))
/-- nothing was changed -/
local macro_rules | `(tactic| one_place) => `(tactic| first | assumption | exact fun _ _ h => h | exact New.same (by assumption) | (refine Same.trans ?_ (New.same (by assumption)); one_place) | (refine Same.trans ?_ (by assumption); one_place))
/-- what an expression makes, as data -/
local macro_rules | `(tactic| one_sign) => `(tactic| first | exact EvD.str | exact EvD.int | exact EvA.nil | exact EvD.neg | (apply EvA.cons; (focus one_sign); one_sign) | (apply EvD.tup; (focus one_sign); (first | decide | (simp only [List.length_append, List.length_cons, List.length_nil]; omega))) | (apply EvD.var; (focus rfl); kp_flats) | (apply EvL.var; (focus rfl); (focus lcg_sub); assumption) | (apply EvL.lst; (focus one_sign); (first | decide | (simp only [List.length_append, List.length_cons, List.length_nil]; omega))) | (apply EvL.cat; (focus one_sign); (focus one_sign); (first | decide | (simp only [List.length_append, List.length_cons, List.length_nil]; omega))) | (apply EvD.tupOf; one_sign) | (apply EvD.rep; (focus one_sign); (focus simp); (focus decide); (focus decide); decide) | (apply EvL.rep; (focus one_sign); (focus decide); decide) | (apply EvD.adds; (focus one_sign); (focus one_sign); decide +kernel) | exact EvD.non | exact EvD.bl | (apply EvD.ofL; one_sign))
/-- one step, but not into a new list, a new tuple -/
local macro_rules | `(tactic| k_asm) => `(tactic| (fail_if_success (with_reducible show tLst _ _ _ _)); (fail_if_success (with_reducible show tTup _ _ _ _)); (fail_if_success (with_reducible show tOp rCat _ _ _ _ _)); lcg_off)
namespace TD
open PySem PySem.Spec L2 PySem.Calls
open PyProof.Rows hiding St
/-! ### the head: what the top leaves, as one test of one's own and the defs by name -/
abbrev AlT : Type := Bool × List He.FnW
def obsK (chk : PySem.W.Frag → Bool) (fn : List He.DefD) (K : PySem.W.Frag) : AlT := (chk K && fn.all fun d => d.ok K, fn.map fun d => He.fnW K d.at_)
def valK (fn : List He.DefD) : AlT := (true, fn.map He.DefD.val)
def obsKG (n : Nat) (chk : PySem.W.Frag → Bool) (fn : List He.DefD) (g : Addr → Option Obj) : AlT := obsK chk fn (He.frG g (He.asD g n))
def hookK (n : Nat) (chk : PySem.W.Frag → Bool) (fn : List He.DefD) : PySem.W.Hook where
  α := AlT
  obs := fun s => obsKG n chk fn s.heap.get?
  val := fun _ => valK fn
  says := fun _ h => ∃ K : PySem.W.Frag, K.In h ∧ obsK chk fn K = valK fn
  of := fun _ _ e => ⟨_, He.frG_in, e⟩
  keeps := fun _ _ _ ⟨K, hK, c⟩ k => ⟨K, PySem.W.Frag.In.keeps hK k, c⟩
theorem obsKG_eq {n : Nat} {chk : PySem.W.Frag → Bool} {fn : List He.DefD} {s : PySem.W.SharedT} : obsKG n chk fn (HandSHeadRun.getT s) = (hookK n chk fn).obs s.abs := by
  have e : HandSHeadRun.getT s = s.abs.heap.get? := funext (HandSHeadRun.getT_eq s)
  rw [e] <;> rfl
section
variable {chk : PySem.W.Frag → Bool} {fn : List He.DefD} {K : PySem.W.Frag}
theorem saysK_chk (c : obsK chk fn K = valK fn) : chk K = true := (Bool.and_eq_true_iff.mp (show (chk K && fn.all fun d => d.ok K) = true from congrArg (fun z : AlT => z.1) c)).1
theorem saysK_def (c : obsK chk fn K = valK fn) (i : Nat) {d : He.DefD} (h : fn[i]? = some d := by rfl) : ∃ fd, FunD K d.name d.qual d.params d.body d.scope (d.dvs K) (d.kws K) (He.fAd K d.at_) fd := by
  have c2 := (Bool.and_eq_true_iff.mp (show (chk K && fn.all fun d => d.ok K) = true from congrArg (fun z : AlT => z.1) c)).2
  have e : fn.map (fun d => He.fnW K d.at_) = fn.map He.DefD.val := congrArg (fun z : AlT => z.2) c
  have e2 : (fn.map fun d => He.fnW K d.at_)[i]? = (fn.map He.DefD.val)[i]? := by rw [e]
  rw [List.getElem?_map, List.getElem?_map, h] at e2
  exact He.DefD.funD (Option.some.inj e2) (List.all_eq_true.mp c2 d (List.mem_of_getElem? h))
end
/-- a def of the module, without defaults -/
def dfn (x : Str) (st : Stmt) : He.DefD := ⟨(x, none), x, x, defArgs st, defBody st, defScope st, [], []⟩
/-- a method of a class -/
def dmt (C m q : Str) (st : Stmt) : He.DefD := ⟨(C, some m), m, q, defArgs st, defBody st, defScope st, [], []⟩
end TD

end
section
open TD L2
/-- what stands at an address -/
local macro_rules | `(tactic| lcg_sub) => `(tactic| first | assumption | exact upd_same | exact New.at_ (by assumption) | (refine New.same (by assumption) _ _ ?_; lcg_sub) | (refine (show Same _ _ from by assumption) _ _ ?_; lcg_sub) | (refine Eq.trans (upd_ne (by first | assumption | exact Ne.symm (by assumption))) ?_; lcg_sub))
/-- a list, a tuple to be read -/
local macro_rules | `(tactic| lcg_src) => `(tactic| first | assumption | exact SqL.of (by lcg_sub) | exact SqT.of (by lcg_sub) | (refine Same.seq (New.same (by assumption)) ?_; lcg_src) | (refine Same.seq (by assumption) ?_; lcg_src) | (refine sameT (New.same (by assumption)) ?_; lcg_src) | (refine sameT (by assumption) ?_; lcg_src))
/-- data at a value -/
local macro_rules | `(tactic| kp_flats) => `(tactic| first | assumption | exact Dp.str _ | exact Dp.int _ | exact Dp.non | exact Dp.bl _ | (refine dp_same (New.same (by assumption)) ?_; kp_flats) | (refine dp_same (by assumption) ?_; kp_flats))
/-- one step of a reading -/
local macro_rules | `(tactic| lcg_off) => `(tactic| first
  | with_reducible refine Stp.go ?_
  | ((with_reducible show tVar _ _ _ _); refine c_var (by rfl) ?_)
  | ((with_reducible show rIxL _ _ _ _ _); refine c_ixL (by lcg_src) (by rfl) ?_)
  | ((with_reducible show rIxT _ _ _ _ _); refine c_ixT (by lcg_src) (by rfl) ?_)
  | ((with_reducible show rSetL _ _ _ _ _); refine c_setL (by lcg_sub) (by rfl) ?_)
  | ((with_reducible show rLenQ _ _ _ _); first | (refine c_lenL (by lcg_src) ?_) | (refine c_lenT (by lcg_src) ?_))
  | ((with_reducible show rSlL _ _ _ _ _ _); refine c_slL (by lcg_src) ?_)
  | ((with_reducible show rListQ _ _ _ _); first | (refine c_listL (by lcg_src) ?_) | (refine c_listT (by lcg_src) ?_))
  | ((with_reducible show rI _ _ _ _ _ _); refine c_IC (by first | assumption | decide | omega) ?_)
  | ((with_reducible show rIsi _ _ _ _); refine c_isi (by kp_flats) (by first | assumption | decide +kernel) ?_)
  | ((with_reducible show rIx _ _ _ _ _); refine c_ix (by first | exact .inl ⟨by lcg_src, by first | assumption | rfl⟩ | exact .inr ⟨by lcg_src, by first | assumption | rfl⟩) ?_)
  | ((with_reducible show NewW _ _ _ _); refine newW ?_)
  | ((with_reducible show rCat _ _ _ _); refine c_cat (by lcg_sub) (by lcg_sub) (le_line (by first | decide | (simp only [List.length_append, List.length_cons, List.length_nil]; omega))) ?_)
  | ((with_reducible show aAddS _ _ _ _); refine c_adds (le_line (by first | decide +kernel | assumption)) ?_)
  | ((with_reducible show rIn _ false _ _ _ _); refine c_inL (by lcg_src) (by rfl) (by rfl) ?_)
  | ((with_reducible show rIn _ true _ _ _ _); refine c_niL (by lcg_src) (by rfl) (by rfl) ?_))
/-- one step, with the new object's names -/
local macro_rules | `(tactic| k_offL) => `(tactic| first | lcg_off | ((with_reducible show ∀ _ _, New _ _ _ _ → _); intro _ _ _))
/-- an error that is held -/
local macro_rules | `(tactic| one_item) => `(tactic| first | assumption | (refine ErrV.same ?_ (New.same (by assumption)); one_item) | (refine ErrV.same ?_ (by assumption); one_item))
/-- nothing was changed -/
local macro_rules | `(tactic| one_place) => `(tactic| first | assumption | exact fun _ _ h => h | exact New.same (by assumption) | (refine Same.trans ?_ (New.same (by assumption)); one_place) | (refine Same.trans ?_ (by assumption); one_place))
/-- what an expression makes, as data -/
local macro_rules | `(tactic| one_sign) => `(tactic| first | exact EvD.str | exact EvD.int | exact EvA.nil | exact EvD.neg | (apply EvA.cons; (focus one_sign); one_sign) | (apply EvD.tup; (focus one_sign); (first | decide | (simp only [List.length_append, List.length_cons, List.length_nil]; omega))) | (apply EvD.var; (focus rfl); kp_flats) | (apply EvL.var; (focus rfl); (focus lcg_sub); assumption) | (apply EvL.lst; (focus one_sign); (first | decide | (simp only [List.length_append, List.length_cons, List.length_nil]; omega))) | (apply EvL.cat; (focus one_sign); (focus one_sign); (first | decide | (simp only [List.length_append, List.length_cons, List.length_nil]; omega))) | (apply EvD.tupOf; one_sign) | (apply EvD.rep; (focus one_sign); (focus simp); (focus decide); (focus decide); decide) | (apply EvL.rep; (focus one_sign); (focus decide); decide) | (apply EvD.adds; (focus one_sign); (focus one_sign); decide +kernel) | exact EvD.non | exact EvD.bl | (apply EvD.ofL; one_sign))
/-- one step, but not into a new list, a new tuple -/
local macro_rules | `(tactic| k_asm) => `(tactic| (fail_if_success (with_reducible show tLst _ _ _ _)); (fail_if_success (with_reducible show tTup _ _ _ _)); (fail_if_success (with_reducible show tOp rCat _ _ _ _ _)); lcg_off)
namespace TD
open PySem PySem.Spec L2 PySem.Calls
open PyProof.Rows hiding St
/-- the end: the law's def keeps a promise under which it returns True, nothing gets out -/
theorem law_end {l : PySem.W.OpenLaw} {n k : Nat} {q : Program} {loose : List Str} {XP : (Str → Option Value) → Heap → Prop} {YP : World → Heap → Prop} {d : DefRec} {x : Str} (hn : l.most = some n) (hn2 : n ≤ sizeLine) (hdf : d.params.defaults = []) (hr : Room k callerA)
    (F : ∀ (w : World) (mg : Str → Option Value) (fa : Addr) (h : Heap), YP w h → h.Ns mainGlobals mg → mg d.name = some (.ref fa) → ∃ (K : PySem.W.Frag) (fd : FuncData) (sp : Sp), K.In h ∧ (∀ (s : Shared) (u : Value), BindsTo s fd ⟨[u], []⟩ [(x, u)]) ∧
      (∀ (H : Hp) (a : Addr) (ns : List Int), ns.length ≤ n → SqL K H a (ns.map V.int) → sp [.ref a] H (fun v _ => v = .bl true) fun _ _ _ => False) ∧ ∀ base : Heap, K.In base → base.Ns mainGlobals mg → FnOk l.prog w K mg base (L2.CX l.prog w) k fa fd [x] sp) :
    PySem.W.WalkO q loose XP YP l.row.toRowW d [] (fun f vs => PySem.call f vs) := by
  refine Att.attach_call hn hdf fun w s₀ s₁ mg mb fa o pm cd doc a vs ns G Y ho hd hcd hmg hobj hints hlen hg => ?_
  obtain ⟨K, fd, sp, KX, hb, hsp, hF⟩ := F w mg fa _ Y G.T.g hmg
  refine law_call KX G.T.g G.T.b G.T.builtins G.T.nolimit hg hobj hints (Nat.le_trans hlen hn2) hr hF hb (fun H _ hS => hsp H a ns hlen hS) fun H e s' h => ?_
  obtain ⟨_, _, _, _, _, _, _, _, _, _, _, _, z⟩ := h
  exact z
/-- what is known of the written part -/
structure EnvK (chk : PySem.W.Frag → Bool) (fn : List He.DefD) (K : PySem.W.Frag) (mg : Str → Option Value) : Prop where
  at_ : ∃ h : Heap, K.In h ∧ h.Ns mainGlobals mg
  c : obsK chk fn K = valK fn
/-- a test of the module's names and one of one's own -/
def chkF (fa : List He.Fa) (chk : PySem.W.Frag → Bool) (K : PySem.W.Frag) : Bool := fa.all (fun f => f.ok K) && chk K
section
variable {fa : List He.Fa} {chk : PySem.W.Frag → Bool} {fn : List He.DefD} {K : PySem.W.Frag} {mg : Str → Option Value} (M : EnvK (chkF fa chk) fn K mg)
include M
theorem EnvK.fact (i : Nat) {f : He.Fa} (h : fa[i]? = some f := by rfl) : f.ok K = true := by
  have c := saysK_chk M.c
  unfold chkF at c
  simp only [Bool.and_eq_true, List.all_eq_true] at c
  exact c.1 _ (List.mem_of_getElem? h)
theorem EnvK.test : chk K = true := by
  have c := saysK_chk M.c
  unfold chkF at c
  exact (Bool.and_eq_true_iff.mp c).2
theorem EnvK.free (i : Nat) {x : Str} (h : fa[i]? = some (.free x) := by rfl) : mg x = none := by
  obtain ⟨hp, X, G⟩ := M.at_
  exact He.free_ok X G (M.fact i h)
theorem EnvK.glo (i : Nat) {x : Str} (h : fa[i]? = some (.glo x) := by rfl) : mg x = some (.ref (He.ga K x)) := by
  obtain ⟨hp, X, G⟩ := M.at_
  exact He.glo_ok X G (M.fact i h)
theorem EnvK.int (i : Nat) {x : Str} {n : Int} (h : fa[i]? = some (.int x n) := by rfl) : ∃ t, mg x = some (.int n t) := by
  obtain ⟨hp, X, G⟩ := M.at_
  exact He.int_ok X G (M.fact i h)
theorem EnvK.meth (i : Nat) {C m : Str} (h : fa[i]? = some (.meth C m) := by rfl) : Meth K (He.ga K C) m (He.ma K (He.ga K C) m) := He.meth_ok (M.fact i h)
theorem EnvK.cls (i : Nat) {C : Str} (h : fa[i]? = some (.cls C) := by rfl) : Cls K (He.ga K C) := He.cls_ok (M.fact i h)
theorem EnvK.noat (i : Nat) {C f : Str} (h : fa[i]? = some (.noat C f) := by rfl) : NoAttr K (He.ga K C) f := He.noat_ok (M.fact i h)
theorem EnvK.mkr (i : Nat) {C : Str} (h : fa[i]? = some (.mkr C) := by rfl) : Mk K (He.ga K C) (He.ma K (He.ga K C) "__init__") := He.mkr_ok (M.fact i h)
theorem EnvK.str (i : Nat) {x z : Str} (h : fa[i]? = some (.str x z) := by rfl) : ∃ t, mg x = some (.str z t) := by
  obtain ⟨hp, X, G⟩ := M.at_
  exact He.str_ok X G (M.fact i h)
end
theorem law_of {P : Program} {w : World} {K : PySem.W.Frag} {mg : Str → Option Value} {k : Nat} {x : Str} {f : Addr} {ar : Arguments} {bd : List Stmt} {sc : Scope} {N : List Str} {sp : Sp} (F : ∃ fd, FunD K "law" "law" ar bd sc [] [] f fd) (S : FnScope N [x] sc)
    (hb : ∀ (kV doc pm : Value) (an : Option Addr) (cdv ct : Value) (us : List Value), us.length = [x].length → bindArgs (PySem.W.fnOf "law" "law" ar bd sc .none kV doc pm an cdv ct) ⟨us, []⟩ = pure ([x].zip us)) (len : ∀ vs H Q E, sp vs H Q E → vs.length = [x].length)
    (body : ∀ (base : Heap) (cdv : Value) (A : Around) (outer : List Env) (s : Shared) (H : Hp) (vs : List V) (Q : VK) (E : XK), Room k (A.deeper (envOfC "law" sc s.heap.objs.size f cdv)) → sp vs H Q E →
      ∃ t, PSs (cxOf (L2.CX P w) P w K mg base N "law" sc f cdv A outer s H E) bd t ∧ t { nx := fun _ H' => Q .non H', rt := Q } (start N vs) H) :
    ∃ fd : FuncData, (∀ (s : Shared) (u : Value), BindsTo s fd ⟨[u], []⟩ [(x, u)]) ∧ ∀ base : Heap, FnOk P w K mg base (L2.CX P w) (k + 1) f fd [x] sp := by
  obtain ⟨fd, F⟩ := F
  exact ⟨fd, fun s u => F.bindsA hb s [u] rfl, fun base => F.ok S len (body base)⟩
end TD

end
section
open TD L2
/-- what stands at an address -/
local macro_rules | `(tactic| lcg_sub) => `(tactic| first | assumption | exact upd_same | exact New.at_ (by assumption) | (refine New.same (by assumption) _ _ ?_; lcg_sub) | (refine (show Same _ _ from by assumption) _ _ ?_; lcg_sub) | (refine Eq.trans (upd_ne (by first | assumption | exact Ne.symm (by assumption))) ?_; lcg_sub))
/-- a list, a tuple to be read -/
local macro_rules | `(tactic| lcg_src) => `(tactic| first | assumption | exact SqL.of (by lcg_sub) | exact SqT.of (by lcg_sub) | (refine Same.seq (New.same (by assumption)) ?_; lcg_src) | (refine Same.seq (by assumption) ?_; lcg_src) | (refine sameT (New.same (by assumption)) ?_; lcg_src) | (refine sameT (by assumption) ?_; lcg_src))
/-- data at a value -/
local macro_rules | `(tactic| kp_flats) => `(tactic| first | assumption | exact Dp.str _ | exact Dp.int _ | exact Dp.non | exact Dp.bl _ | (refine dp_same (New.same (by assumption)) ?_; kp_flats) | (refine dp_same (by assumption) ?_; kp_flats))
/-- one step of a reading -/
local macro_rules | `(tactic| lcg_off) => `(tactic| first
  | with_reducible refine Stp.go ?_
  | ((with_reducible show tVar _ _ _ _); refine c_var (by rfl) ?_)
  | ((with_reducible show rIxL _ _ _ _ _); refine c_ixL (by lcg_src) (by rfl) ?_)
  | ((with_reducible show rIxT _ _ _ _ _); refine c_ixT (by lcg_src) (by rfl) ?_)
  | ((with_reducible show rSetL _ _ _ _ _); refine c_setL (by lcg_sub) (by rfl) ?_)
  | ((with_reducible show rLenQ _ _ _ _); first | (refine c_lenL (by lcg_src) ?_) | (refine c_lenT (by lcg_src) ?_))
  | ((with_reducible show rSlL _ _ _ _ _ _); refine c_slL (by lcg_src) ?_)
  | ((with_reducible show rListQ _ _ _ _); first | (refine c_listL (by lcg_src) ?_) | (refine c_listT (by lcg_src) ?_))
  | ((with_reducible show rI _ _ _ _ _ _); refine c_IC (by first | assumption | decide | omega) ?_)
  | ((with_reducible show rIsi _ _ _ _); refine c_isi (by kp_flats) (by first | assumption | decide +kernel) ?_)
  | ((with_reducible show rIx _ _ _ _ _); refine c_ix (by first | exact .inl ⟨by lcg_src, by first | assumption | rfl⟩ | exact .inr ⟨by lcg_src, by first | assumption | rfl⟩) ?_)
  | ((with_reducible show NewW _ _ _ _); refine newW ?_)
  | ((with_reducible show rCat _ _ _ _); refine c_cat (by lcg_sub) (by lcg_sub) (le_line (by first | decide | (simp only [List.length_append, List.length_cons, List.length_nil]; omega))) ?_)
  | ((with_reducible show aAddS _ _ _ _); refine c_adds (le_line (by first | decide +kernel | assumption)) ?_)
  | ((with_reducible show rIn _ false _ _ _ _); refine c_inL (by lcg_src) (by rfl) (by rfl) ?_)
  | ((with_reducible show rIn _ true _ _ _ _); refine c_niL (by lcg_src) (by rfl) (by rfl) ?_))
/-- one step, with the new object's names -/
local macro_rules | `(tactic| k_offL) => `(tactic| first | lcg_off | ((with_reducible show ∀ _ _, New _ _ _ _ → _); intro _ _ _))
/-- an error that is held -/
local macro_rules | `(tactic| one_item) => `(tactic| first | assumption | (refine ErrV.same ?_ (New.same (by assumption)); one_item) | (refine ErrV.same ?_ (by assumption); one_item))
/-- nothing was changed -/
local macro_rules | `(tactic| one_place) => `(tactic| first | assumption | exact fun _ _ h => h | exact New.same (by assumption) | (refine Same.trans ?_ (New.same (by assumption)); one_place) | (refine Same.trans ?_ (by assumption); one_place))
/-- what an expression makes, as data -/
local macro_rules | `(tactic| one_sign) => `(tactic| first | exact EvD.str | exact EvD.int | exact EvA.nil | exact EvD.neg | (apply EvA.cons; (focus one_sign); one_sign) | (apply EvD.tup; (focus one_sign); (first | decide | (simp only [List.length_append, List.length_cons, List.length_nil]; omega))) | (apply EvD.var; (focus rfl); kp_flats) | (apply EvL.var; (focus rfl); (focus lcg_sub); assumption) | (apply EvL.lst; (focus one_sign); (first | decide | (simp only [List.length_append, List.length_cons, List.length_nil]; omega))) | (apply EvL.cat; (focus one_sign); (focus one_sign); (first | decide | (simp only [List.length_append, List.length_cons, List.length_nil]; omega))) | (apply EvD.tupOf; one_sign) | (apply EvD.rep; (focus one_sign); (focus simp); (focus decide); (focus decide); decide) | (apply EvL.rep; (focus one_sign); (focus decide); decide) | (apply EvD.adds; (focus one_sign); (focus one_sign); decide +kernel) | exact EvD.non | exact EvD.bl | (apply EvD.ofL; one_sign))
/-- one step, but not into a new list, a new tuple -/
local macro_rules | `(tactic| k_asm) => `(tactic| (fail_if_success (with_reducible show tLst _ _ _ _)); (fail_if_success (with_reducible show tTup _ _ _ _)); (fail_if_success (with_reducible show tOp rCat _ _ _ _ _)); lcg_off)
namespace TD
open PySem PySem.Spec L2 PySem.Calls PySem.TDX
open PyProof.Rows hiding St
/-- _law_field as an except suite calls it -/
structure OkFX (P : Program) (w : World) (K : PySem.W.Frag) (mg : Str → Option Value) (base : Heap) : Prop where
  ok : ∃ fd, FnX P w K mg base (L2.CX P w) 1 (He.ga K "_law_field") fd ["_law_e"] (spFieldX K) ∧ Binds K fd ["_law_e"] []
  kp : PySem.W.keepIn K (.ref (He.ga K "_law_field")) = true
  at_ : mg "_law_field" = some (.ref (He.ga K "_law_field"))
theorem okFX_of {P : Program} {w : World} {K : PySem.W.Frag} {mg : Str → Option Value} {base : Heap} {ar : Arguments} {bd : List Stmt} {sc : Scope} (F : ∃ fd, FunD K "_law_field" "_law_field" ar bd sc [] [] (He.ga K "_law_field") fd) (S : FnScope ns_l_fieldX ["_law_e"] sc) (hg : mg "_law_field" = some (.ref (He.ga K "_law_field")))
    (hb : ∀ (kV doc pm : Value) (an : Option Addr) (cdv ct : Value) (us : List Value), us.length = ["_law_e"].length → bindArgs (PySem.W.fnOf "_law_field" "_law_field" ar bd sc .none kV doc pm an cdv ct) ⟨us, []⟩ = pure ([("_law_e" : Str)].zip us))
    (body : ∀ (cdv : Value) (A : Around) (outer : List Env) (s : Shared) (H : Hp) (p : Addr × Obj) (C : Value) (d : Option Addr), Zc C d p.2 → (∃ xs, p.2.data = .fields xs) → PSs (L2H.cxH (L2.CX P w) P w K mg base ns_l_fieldX "_law_field" sc (He.ga K "_law_field") cdv A outer s H (fun _ _ _ => False) p) bd (t_l_fieldX K p.1 C d)) : OkFX P w K mg base := by
  obtain ⟨fd, F⟩ := F
  obtain ⟨oc, od, dV, kV, doc, pm, an, cdv, ct, osl, e, lk, hcd, hD, hK⟩ := F.ex
  refine ⟨⟨fd, ?_, F.bindsN hb⟩, F.kp, hg⟩
  subst e
  refine fnX_of lk hcd S (fun a C d vs H Q h => by obtain ⟨rfl, _⟩ := h; rfl) fun A outer s H vs Q p C d hz hd _ h => ⟨_, body cdv A outer s H p C d hz hd, pure_l_fieldX h⟩
/-- _law_try(lambda: body) -/
theorem pe_try {X : Cx} {c P : Addr} {k : Nat} {pg params : Arguments} {body : Expr} {sg scope : Scope} {t : XK → TE} {p lpos pos p0 p1 p2 p3 p4 p5 p6 p7 p8 p9 p10 p11 p12 p13 p14 p15 p16 : Pos}
    (FT : ∃ fd, FunD X.K "_law_try" "_law_try" pg [.Try [.Return (some (.Tuple [.Constant (.str "value") 0 p0, .Call (.Name "_law_ask" p1) [] [] p2] 0 p3)) p4] [.ExceptHandler (some (.Tuple [.Name "TurnError" p5, .Name "TurnMissing" p6] 0 p7)) (some "_law_e")
      [.Return (some (.Tuple [.Attribute (.Name "_law_e" p8) "word" p9, .Call (.Name "_law_field" p10) [.Name "_law_e" p11] [] p12] 0 p13)) p14] p15] [] [] p16] sg [] [] (He.ga X.K "_law_try") fd)
    (FF : OkFX X.prog X.w X.K X.mg X.base) (hg : Gl X "_law_try") (hm : X.mg "_law_try" = some (.ref (He.ga X.K "_law_try"))) (m1 : X.mg "TurnError" = some (.ref (He.ga X.K "TurnError"))) (m2 : X.mg "TurnMissing" = some (.ref (He.ga X.K "TurnMissing")))
    (Sg : FnScope ["_law_ask", "_law_e"] ["_law_ask"] sg) (hk : sg.names.lookup ("_law_e" : Str) = some .local) (hv : Vis sg "_law_ask") (g1 : sg.names.lookup ("TurnError" : Str) = some .globalImplicit) (g2 : sg.names.lookup ("TurnMissing" : Str) = some .globalImplicit) (g3 : sg.names.lookup ("_law_field" : Str) = some .globalImplicit)
    (hpg : ∀ (kV doc pm : Value) (an : Option Addr) (cdv ct : Value) (bg : List Stmt) (us : List Value), us.length = ["_law_ask"].length → bindArgs (PySem.W.fnOf "_law_try" "_law_try" pg bg sg .none kV doc pm an cdv ct) ⟨us, []⟩ = pure ([("_law_ask" : Str)].zip us))
    (TB : LamX.TabB X.base X.mg c P) (hcode : X.env.code = .ref c) (hr : Room (k + 2) X.A) (L : LamX.LamS X.env.scope scope) (hdef : defaultsOf params X.env = ([], []))
    (hbind : ∀ (q : Str) (cl : List (Str × Addr)) (pm cv ctv : Value), bindArgs (PySem.W.kla_fn "<lambda>" q params body scope cl pm cv ctv) ⟨[], []⟩ = pure [])
    (hbody : ∀ (A : Around) (outer : List Env) (s : Shared) (H : Hp) (E : XK) (f c' : Addr), Room k (A.deeper (LamX.lamEnv X scope s.heap.objs.size f c')) → PE (LamX.lamCx X A outer s H E scope f c') body (t E)) :
    PE X (.Call (.Name "_law_try" p) [.Lambda params body scope lpos] [] pos) (LamX.tLam [(P, X.env.qual ++ "<lambda>")] (TTry X.K) t) := by
  obtain ⟨fd, F⟩ := FT
  have hb := F.bindsN (ps := ["_law_ask"]) fun kV doc pm an cdv ct us hl => hpg kV doc pm an cdv ct _ us hl
  obtain ⟨oc, od, dV, kV, doc, pm, an, cdv, ct, osl, e, lk, hcd, hD, hK⟩ := F.ex
  subst e
  obtain ⟨⟨fF, F1, bF⟩, kF, mF⟩ := FF
  exact LamX.pe_lamcall hg hm F.kp lk hcd hb Sg rfl hv (gives_try Sg hk g1 g2 g3 m1 m2 mF F1 kF bF (hr.mono (by omega))) TB hcode (by simp) (by simp) hr L hdef hbind hbody
/-- the name of the law's lambdas -/
abbrev lamQ : Str := ("law" : Str) ++ ".<locals>." ++ "<lambda>"
/-! ### the head of a law with lambdas -/
/-- a def's code object and its table, as the head leaves them -/
structure TabT (K : PySem.W.Frag) (h : Heap) (p : He.Defn) : Prop where
  hd : PySem.W.codeHdIn K (He.cT K p).1 (He.cT K p).2 = true
  out : K.lookup (He.cT K p).2 = none
  empty : h.get? (He.cT K p).2 = some { cls := .none, data := .fields #[] }
def obsTG (n : Nat) (chk : PySem.W.Frag → Bool) (fn : List He.DefD) (tf : List He.Defn) (g : Addr → Option Obj) : AlT × Bool := (obsK chk fn (He.frT g (He.asD g n)), He.tabsB g tf (He.frT g (He.asD g n)))
theorem tabT_of {n : Nat} {tf : List He.Defn} {h : Heap} (e : He.tabsB h.get? tf (He.frT h.get? (He.asD h.get? n)) = true) : ∀ p ∈ tf, TabT (He.frT h.get? (He.asD h.get? n)) h p := fun p hp => by
  obtain ⟨h3, h4⟩ := Bool.and_eq_true_iff.mp (List.all_eq_true.mp e p hp)
  cases q : h.get? (He.cT (He.frT h.get? (He.asD h.get? n)) p).2 with
  | none => rw [q] at h4; cases h4
  | some o =>
    rw [q] at h4
    exact ⟨h3, He.frT_none q h4, by rw [q, He.emptyTab_eq h4]⟩
def hookT (n : Nat) (chk : PySem.W.Frag → Bool) (fn : List He.DefD) (tf : List He.Defn) : PySem.W.Hook where
  α := AlT × Bool
  obs := fun s => obsTG n chk fn tf s.heap.get?
  val := fun _ => (valK fn, true)
  says := fun _ h => ∃ K : PySem.W.Frag, K.In h ∧ obsK chk fn K = valK fn ∧ ∀ p ∈ tf, TabT K h p
  of := fun _ _ e => ⟨_, He.frT_in, congrArg (fun z : AlT × Bool => z.1) e, tabT_of (congrArg (fun z : AlT × Bool => z.2) e)⟩
  keeps := fun _ _ _ ⟨K, hK, c, t⟩ k => ⟨K, PySem.W.Frag.In.keeps hK k, c, fun p hp => ⟨(t p hp).hd, (t p hp).out, k _ _ (t p hp).empty⟩⟩
theorem obsTG_eq {n : Nat} {chk : PySem.W.Frag → Bool} {fn : List He.DefD} {tf : List He.Defn} {s : PySem.W.SharedT} : obsTG n chk fn tf (HandSHeadRun.getT s) = (hookT n chk fn tf).obs s.abs := by
  have e : HandSHeadRun.getT s = s.abs.heap.get? := funext (HandSHeadRun.getT_eq s)
  rw [e] <;> rfl
/-- the law's own code object, its table -/
abbrev lawC (K : PySem.W.Frag) : Addr := (He.cT K ("law", none)).1
abbrev lawP (K : PySem.W.Frag) : Addr := (He.cT K ("law", none)).2
theorem law_endT {l : PySem.W.OpenLaw} {n k : Nat} {q : Program} {loose : List Str} {XP : (Str → Option Value) → Heap → Prop} {YP : World → Heap → Prop} {d : DefRec} {x : Str} (hn : l.most = some n) (hn2 : n ≤ sizeLine) (hdf : d.params.defaults = []) (hr : Room k callerA)
    (F : ∀ (w : World) (mg : Str → Option Value) (fa : Addr) (h : Heap), YP w h → h.Ns mainGlobals mg → mg d.name = some (.ref fa) → ∃ (K : PySem.W.Frag) (fd : FuncData) (sp : Sp), K.In h ∧ TabT K h ("law", none) ∧ (∀ (s : Shared) (u : Value), BindsTo s fd ⟨[u], []⟩ [(x, u)]) ∧
      (∀ (H : Hp) (a : Addr) (ns : List Int), ns.length ≤ n → H (lawP K) = some (.tbl #[]) → SqL K H a (ns.map V.int) → sp [.ref a] H (fun v _ => v = .bl true) fun _ _ _ => False) ∧
      ∀ base : Heap, K.In base → base.Ns mainGlobals mg → LamX.TabB base mg (lawC K) (lawP K) → FnOk l.prog w K mg base (L2.CX l.prog w) k fa fd [x] sp) :
    PySem.W.WalkO q loose XP YP l.row.toRowW d [] (fun f vs => PySem.call f vs) := by
  refine Att.attach_callB hn hdf fun w s₀ s₁ mg mb fa o pm cd doc a vs ns G Y ho hd hcd hmg hobj hints hlen hbits hg => ?_
  obtain ⟨K, fd, sp, KX, T, hb, hsp, hF⟩ := F w mg fa _ Y G.T.g hmg
  refine LamX.law_callTs (cs := [(lawC K, lawP K)]) KX G.T.g G.T.b G.T.builtins G.T.nolimit hg (fun p hp => ?_) (fun p hp => ?_) (fun p hp => ?_) G.T.bmain hobj hints (Nat.le_trans hlen hn2) hr (fun base h1 h2 h3 => hF base h1 h2 (h3 _ List.mem_cons_self)) hb
    (fun H hH hS => hsp H a ns hlen (hH _ List.mem_cons_self) hS) fun H e s' h => ?_
  · rw [List.mem_singleton.mp hp]; exact T.empty
  · rw [List.mem_singleton.mp hp]; exact T.out
  · rw [List.mem_singleton.mp hp]; exact PySem.W.codeHd_of_K KX T.hd
  · obtain ⟨_, _, _, _, _, _, _, _, _, _, _, _, z⟩ := h
    exact z
theorem law_ofT {P : Program} {w : World} {K : PySem.W.Frag} {mg : Str → Option Value} {k : Nat} {x : Str} {ar : Arguments} {bd : List Stmt} {sc : Scope} {N : List Str} {sp : Sp} (F : ∃ fd, FunD K "law" "law" ar bd sc [] [] (He.fAd K ("law", none)) fd) (S : FnScope N [x] sc)
    (hb : ∀ (kV doc pm : Value) (an : Option Addr) (cdv ct : Value) (us : List Value), us.length = [x].length → bindArgs (PySem.W.fnOf "law" "law" ar bd sc .none kV doc pm an cdv ct) ⟨us, []⟩ = pure ([x].zip us)) (len : ∀ vs H Q E, sp vs H Q E → vs.length = [x].length)
    (body : ∀ (base : Heap) (A : Around) (outer : List Env) (s : Shared) (H : Hp) (vs : List V) (Q : VK) (E : XK), LamX.TabB base mg (lawC K) (lawP K) → Room k (A.deeper (envOfC "law" sc s.heap.objs.size (He.ga K "law") (.ref (lawC K)))) → sp vs H Q E →
      ∃ t, PSs (cxOf (L2.CX P w) P w K mg base N "law" sc (He.ga K "law") (.ref (lawC K)) A outer s H E) bd t ∧ t { nx := fun _ H' => Q .non H', rt := Q } (start N vs) H) :
    ∃ fd : FuncData, (∀ (s : Shared) (u : Value), BindsTo s fd ⟨[u], []⟩ [(x, u)]) ∧ ∀ base : Heap, LamX.TabB base mg (lawC K) (lawP K) → FnOk P w K mg base (L2.CX P w) (k + 1) (He.ga K "law") fd [x] sp := by
  obtain ⟨fd, F⟩ := F
  refine ⟨fd, fun s u => F.bindsA hb s [u] rfl, fun base TB => ?_⟩
  obtain ⟨oc, od, dV, kV, doc, pm, an, cdv, ct, osl, e, lk, hcd, hD, hK⟩ := F.ex
  subst e
  obtain ⟨c, rfl⟩ := He.codeIn_ref hcd
  have ec : c = lawC K := (He.codeOf_eq (p := ("law", none)) lk rfl).symm
  subst ec
  exact fn_of lk hcd S len fun A outer s H vs Q E hr h => body base A outer s H vs Q E TB hr h
end TD

end
section
open TD L2
/-- what stands at an address -/
local macro_rules | `(tactic| lcg_sub) => `(tactic| first | assumption | exact upd_same | exact New.at_ (by assumption) | (refine New.same (by assumption) _ _ ?_; lcg_sub) | (refine (show Same _ _ from by assumption) _ _ ?_; lcg_sub) | (refine Eq.trans (upd_ne (by first | assumption | exact Ne.symm (by assumption))) ?_; lcg_sub))
/-- a list, a tuple to be read -/
local macro_rules | `(tactic| lcg_src) => `(tactic| first | assumption | exact SqL.of (by lcg_sub) | exact SqT.of (by lcg_sub) | (refine Same.seq (New.same (by assumption)) ?_; lcg_src) | (refine Same.seq (by assumption) ?_; lcg_src) | (refine sameT (New.same (by assumption)) ?_; lcg_src) | (refine sameT (by assumption) ?_; lcg_src))
/-- data at a value -/
local macro_rules | `(tactic| kp_flats) => `(tactic| first | assumption | exact Dp.str _ | exact Dp.int _ | exact Dp.non | exact Dp.bl _ | (refine dp_same (New.same (by assumption)) ?_; kp_flats) | (refine dp_same (by assumption) ?_; kp_flats))
/-- one step of a reading -/
local macro_rules | `(tactic| lcg_off) => `(tactic| first
  | with_reducible refine Stp.go ?_
  | ((with_reducible show tVar _ _ _ _); refine c_var (by rfl) ?_)
  | ((with_reducible show rIxL _ _ _ _ _); refine c_ixL (by lcg_src) (by rfl) ?_)
  | ((with_reducible show rIxT _ _ _ _ _); refine c_ixT (by lcg_src) (by rfl) ?_)
  | ((with_reducible show rSetL _ _ _ _ _); refine c_setL (by lcg_sub) (by rfl) ?_)
  | ((with_reducible show rLenQ _ _ _ _); first | (refine c_lenL (by lcg_src) ?_) | (refine c_lenT (by lcg_src) ?_))
  | ((with_reducible show rSlL _ _ _ _ _ _); refine c_slL (by lcg_src) ?_)
  | ((with_reducible show rListQ _ _ _ _); first | (refine c_listL (by lcg_src) ?_) | (refine c_listT (by lcg_src) ?_))
  | ((with_reducible show rI _ _ _ _ _ _); refine c_IC (by first | assumption | decide | omega) ?_)
  | ((with_reducible show rIsi _ _ _ _); refine c_isi (by kp_flats) (by first | assumption | decide +kernel) ?_)
  | ((with_reducible show rIx _ _ _ _ _); refine c_ix (by first | exact .inl ⟨by lcg_src, by first | assumption | rfl⟩ | exact .inr ⟨by lcg_src, by first | assumption | rfl⟩) ?_)
  | ((with_reducible show NewW _ _ _ _); refine newW ?_)
  | ((with_reducible show rCat _ _ _ _); refine c_cat (by lcg_sub) (by lcg_sub) (le_line (by first | decide | (simp only [List.length_append, List.length_cons, List.length_nil]; omega))) ?_)
  | ((with_reducible show aAddS _ _ _ _); refine c_adds (le_line (by first | decide +kernel | assumption)) ?_)
  | ((with_reducible show rIn _ false _ _ _ _); refine c_inL (by lcg_src) (by rfl) (by rfl) ?_)
  | ((with_reducible show rIn _ true _ _ _ _); refine c_niL (by lcg_src) (by rfl) (by rfl) ?_))
/-- one step, with the new object's names -/
local macro_rules | `(tactic| k_offL) => `(tactic| first | lcg_off | ((with_reducible show ∀ _ _, New _ _ _ _ → _); intro _ _ _))
/-- an error that is held -/
local macro_rules | `(tactic| one_item) => `(tactic| first | assumption | (refine ErrV.same ?_ (New.same (by assumption)); one_item) | (refine ErrV.same ?_ (by assumption); one_item))
/-- nothing was changed -/
local macro_rules | `(tactic| one_place) => `(tactic| first | assumption | exact fun _ _ h => h | exact New.same (by assumption) | (refine Same.trans ?_ (New.same (by assumption)); one_place) | (refine Same.trans ?_ (by assumption); one_place))
/-- what an expression makes, as data -/
local macro_rules | `(tactic| one_sign) => `(tactic| first | exact EvD.str | exact EvD.int | exact EvA.nil | exact EvD.neg | (apply EvA.cons; (focus one_sign); one_sign) | (apply EvD.tup; (focus one_sign); (first | decide | (simp only [List.length_append, List.length_cons, List.length_nil]; omega))) | (apply EvD.var; (focus rfl); kp_flats) | (apply EvL.var; (focus rfl); (focus lcg_sub); assumption) | (apply EvL.lst; (focus one_sign); (first | decide | (simp only [List.length_append, List.length_cons, List.length_nil]; omega))) | (apply EvL.cat; (focus one_sign); (focus one_sign); (first | decide | (simp only [List.length_append, List.length_cons, List.length_nil]; omega))) | (apply EvD.tupOf; one_sign) | (apply EvD.rep; (focus one_sign); (focus simp); (focus decide); (focus decide); decide) | (apply EvL.rep; (focus one_sign); (focus decide); decide) | (apply EvD.adds; (focus one_sign); (focus one_sign); decide +kernel) | exact EvD.non | exact EvD.bl | (apply EvD.ofL; one_sign))
/-- one step, but not into a new list, a new tuple -/
local macro_rules | `(tactic| k_asm) => `(tactic| (fail_if_success (with_reducible show tLst _ _ _ _)); (fail_if_success (with_reducible show tTup _ _ _ _)); (fail_if_success (with_reducible show tOp rCat _ _ _ _ _)); lcg_off)
namespace TD
open PySem PySem.Spec L2 PySem.Calls PySem.TDX
open PyProof.Rows hiding St
/-! ### a lambda with one default: lambda n=0: body, handed to _law_try -/
abbrev fnD (q : Str) (params : Arguments) (body : Expr) (scope : Scope) (cl : List (Str × Addr)) (pm cdv ct : Value) (T : Addr) : FuncData := { PySem.W.kla_fn "<lambda>" q params body scope cl pm cdv ct with defaults := .ref T }
abbrev obD (q : Str) (params : Arguments) (body : Expr) (scope : Scope) (cl : List (Str × Addr)) (pm cdv ct : Value) (T : Addr) : Obj := { cls := .type "function", data := .func (fnD q params body scope cl pm cdv ct T) }
abbrev tpl (v : Value) : Obj := { cls := .type "tuple", data := .seq #[v] }
section
variable {M : Model} {A : Around} {E : Value → Shared → Prop} {s : Shared} {q : Str} {params : Arguments} {body : Expr} {scope : Scope} {env : Env} {c P T : Addr} {ps : Array Value} {pos : Pos} {firstLine : Nat} {mg : Str → Option Value} {clos : List (Str × Addr)} {Q : Value → Shared → Prop}
/-- the function object is made, its code object new or found -/
theorem tail_def (cl : closureFor scope env = pure clos) (eg : env.globals = mainGlobals) (ng : s.heap.Ns mainGlobals mg) (ec : env.code = .ref c) (C : PySem.W.CodeHd s.heap c P) (eP : s.heap.get? P = some (PySem.W.tabObj ps)) (ht : TriplesOk ps.toList)
    (nP : mainGlobals ≠ P) (bb : s.heap.BuiltinsAt mg P)
    (new : codeAmong pos ps.toList = none → ∀ c' ctv h' tk, Heap.ExtBut P s.heap h' → s.heap.objs.size ≤ c' → c' < h'.objs.size → h'.CodeRec (.ref c') q → h'.get? P = some (PySem.W.tabObj (ps ++ #[rawInt pos.line, rawInt pos.col, .ref c'])) →
      Q (.ref h'.objs.size) { s with heap := h'.push (obD q params body scope clos ((mg "__name__").getD .none) (.ref c') ctv T), toks := tk })
    (old : ∀ cv, codeAmong pos ps.toList = some cv → ∀ (ctv : Value) (h' : Heap) (tk : Tok), (∀ b o, s.heap.get? b = some o → h'.get? b = some o) → s.heap.objs.size ≤ h'.objs.size →
      Q (.ref h'.objs.size) { s with heap := h'.push (obD q params body scope clos ((mg "__name__").getD .none) cv ctv T), toks := tk }) :
    wpAny M A (makeTail "<lambda>" q params (.expr body) scope env (.ref T) .none none pos firstLine) Q E s := by
  obtain ⟨bm, ob, b1, b2, _, b3, b4, b5, b6, b7⟩ := bb
  unfold makeTail
  rw [cl, eg]
  refine wpAny_bind (wpAny_pure ?_)
  have go : ∀ (s0 : Shared) (ctv : Value), (∀ b o, s.heap.get? b = some o → s0.heap.get? b = some o) → s.heap.objs.size ≤ s0.heap.objs.size → (∀ h' tk, ({ s0 with heap := h', toks := tk } : Shared) = { s with heap := h', toks := tk }) →
      wpAny M A (functionCode env pos firstLine "<lambda>" q params scope (.expr body)) (fun cv s1 => wpAny M A (builtinsFor mainGlobals env.builtins) (fun bu s2 => wpAny M A (nsGet mainGlobals "__name__") (fun nm s3 =>
        wpAny M A (newObj (.type "function") (.func { name := "<lambda>", qualname := q, params, body := .expr body, scope, globals := mainGlobals, closure := clos, closureTuple := ctv, code := cv, builtins := bu, defaults := .ref T, kwdefaults := .none, annotations := none, pyModule := nm.getD .none, doc := .none })) Q E s3) E s2) E s1) E s0 := fun s0 ctv kp sz es => by
    cases hc : codeAmong pos ps.toList with
    | none =>
      refine wpAny_functionCodeX ec ((C.keeps kp).code (kp _ _ eP) ht) ((C.keeps kp).tab (kp _ _ eP)) hc fun c' h' tk hx hge hlt _ hrec htb _ => ?_
      have hx' : Heap.ExtBut P s.heap h' := fun b o hb e => hx b o hb (kp b o e)
      have ng' := ng.extBut hx' nP
      refine wpAny_builtinsFor ng' b1 b2 (hx' _ _ b3 b4) b5 b6 b7 (wpAny_nsGet ng' (wpAny_newObj_type ?_ (by size_fits)))
      have := new hc c' ctv h' tk hx' (Nat.le_trans sz hge) hlt hrec htb.2
      rw [es]; exact this
    | some cv =>
      refine wpAny_functionCode_hit ec ((C.keeps kp).code (kp _ _ eP) ht) hc ?_
      have ng' := ng.keeps kp
      refine wpAny_builtinsFor ng' b1 b2 (kp _ _ b4) b5 b6 b7 (wpAny_nsGet ng' (wpAny_newObj_type ?_ (by size_fits)))
      have := old cv hc ctv s0.heap s0.toks kp sz
      rw [← es] at this
      exact this
  cases clos with
  | nil =>
    simp only [List.isEmpty_nil, if_true]
    refine wpAny_bind (wpAny_pure (wpAny_bind ?_))
    refine wpAny_mono (go s .none (fun _ _ e => e) (Nat.le_refl _) (fun _ _ => rfl)) (fun cv s1 h1 => ?_) (fun _ _ h => h)
    exact wpAny_bind (wpAny_mono h1 (fun bu s2 h2 => wpAny_bind (wpAny_mono h2 (fun nm s3 h3 => wpAny_bind (wpAny_pure h3)) (fun _ _ h => h))) (fun _ _ h => h))
  | cons p r =>
    simp only [List.isEmpty_cons, Bool.false_eq_true, if_false]
    refine wpAny_bind (wpAny_newTextTuple (wpAny_bind ?_))
    generalize ({ cls := .type "tuple", data := .seq (List.toArray _) } : Obj) = oT
    refine wpAny_mono (go { s with heap := s.heap.push oT } (.ref s.heap.objs.size) (fun b o e => Heap.get?_push_of_some _ e) (by rw [Heap.size_push]; omega) (fun _ _ => rfl)) (fun cv s1 h1 => ?_) (fun _ _ h => h)
    exact wpAny_bind (wpAny_mono h1 (fun bu s2 h2 => wpAny_bind (wpAny_mono h2 (fun nm s3 h3 => wpAny_bind (wpAny_pure h3)) (fun _ _ h => h))) (fun _ _ h => h))
end
section
variable {X : Cx} {pins : List (Addr × Obj)} {σ : L2.St} {H : Hp} {s : Shared}
theorem nofr_new (I : Inv X pins σ H s) {f : Addr} (hf : s.heap.objs.size ≤ f) : f ∉ frs X.stack := fun z => by
  rcases List.mem_cons.mp (I.stkSub _ z) with e | e
  · have := I.lt
    rw [← e] at this
    exact Nat.lt_irrefl _ (Nat.lt_of_lt_of_le this hf)
  · exact I.nofs hf e
/-- such a lambda is made -/
theorem lamd_make {T : List (Addr × Str)} {c P : Addr} {params : Arguments} {body : Expr} {scope : Scope} {pos p0 : Pos} {i : Int} {j : _} {E : Value → Shared → Prop} {Q : Value → Shared → Prop} (I : Inv X pins σ H s) (TB : LamX.TabB X.base X.mg c P) (ec : X.env.code = .ref c)
    (hm : (P, X.env.qual ++ "<lambda>") ∈ T) (hu : ∀ p ∈ T, p.1 = P → p.2 = X.env.qual ++ "<lambda>") (hT : LamX.Tabs T H) (hd : defaultsOf params X.env = ([eval (.Constant (.int i) j p0) X.env], [])) (hfree : ∀ y ∈ scope.names, y.2 = .free → ∃ c, X.env.cells.lookup y.1 = some c)
    (h : ∀ (f c' Td : Addr) (v pm ctv : Value) (H1 : Hp) (s' : Shared), Inv X pins σ H1 s' → LamX.ExtN H H1 → LamX.Tabs T H1 → s'.heap.get? f = some (obD (X.env.qual ++ "<lambda>") params body scope (cloFrom X.env.cells scope.names []) pm (.ref c') ctv Td) → s'.heap.get? Td = some (tpl v) →
      H1 f = none → H1 Td = none → f ∉ frs X.stack → Td ∉ frs X.stack → H1 c' = some (LamX.CodeO c' (X.env.qual ++ "<lambda>")) → Q (.ref f) s') :
    wpAny (model X.prog X.w) X.A (eval (.Lambda params body scope pos) X.env) Q E s := by
  rw [arm_eval_Lambda, hd]
  show wpAny _ _ (do let dv ← evalAll [eval (.Constant (.int i) j p0) X.env]; let kdv ← holding dv (evalAllOpt []); makeFunction "<lambda>" (X.env.qual ++ "<lambda>") params (.expr body) scope X.env dv kdv [] pos pos.line) Q E s
  refine wpAny_bind (wpAny_bind (wpAny_Constant_int (wpAny_bind (wpAny_holding (wpAny_pure (wpAny_pure ?_))))))
  refine wpAny_bind (wpAny_holding (wpAny_pure ?_))
  rw [makeFunction_eq]
  simp only [List.zip_nil_right, List.filterMap_nil, List.isEmpty_nil, List.isEmpty_cons, Bool.false_eq_true, if_true, if_false, pure_bind]
  refine wpAny_bind (wpAny_newTextTuple ?_)
  have I0 : Inv X pins σ H { s with heap := s.heap.push (tpl (.int i s.toks)), toks := s.toks + 1 } := I.kept fun b o e => Heap.get?_push_of_some _ e
  have nT : H s.heap.objs.size = none := I.hok.fresh (Nat.le_refl _)
  have eT : (s.heap.push (tpl (.int i s.toks))).get? s.heap.objs.size = some (tpl (.int i s.toks)) := Heap.get?_push_size _ rfl
  have fT := nofr_new I (Nat.le_refl s.heap.objs.size)
  have sT : (s.heap.push (tpl (.int i s.toks))).objs.size = s.heap.objs.size + 1 := Heap.size_push ..
  generalize hs0 : ({ s with heap := s.heap.push (tpl (.int i s.toks)), toks := s.toks + 1 } : Shared) = s0 at I0
  have eh : s.heap.push (tpl (.int i s.toks)) = s0.heap := by rw [← hs0]
  rw [eh] at eT sT
  have lT : s.heap.objs.size < s0.heap.objs.size := by omega
  obtain ⟨ps, hP, ht, ha⟩ := hT _ hm
  have bP : s0.heap.BuiltinsAt X.mg P := TB.bm.keeps I0.bk
  have hP' : s0.heap.get? P = some { cls := .none, data := .fields ps } := I0.hok P _ hP
  refine tail_def (T := s.heap.objs.size) (mg := X.mg) (c := c) (P := P) (ps := ps) (closure_ok hfree) I0.ok.glob (I0.mod.glob.keeps I0.bk) ec (TB.code.keeps I0.bk) hP' ht TB.gP bP (fun hc c' ctv h' tk hx hge hlt hrec htb => ?_) (fun cv hc ctv h' tk hx hsz => ?_)
  · obtain ⟨c2, oc, vs, t, e2, hoc, hdd, hv⟩ := hrec
    cases e2
    have hsz : s0.heap.objs.size ≤ h'.objs.size := Nat.le_trans hge (Nat.le_of_lt hlt)
    have nC : H c' = none := I0.hok.fresh hge
    have I1 := LamX.inv_table (t' := tk) (more := #[rawInt pos.line, rawInt pos.col, .ref c']) (h' := h'.push (obD (X.env.qual ++ "<lambda>") params body scope (cloFrom X.env.cells scope.names []) ((X.mg "__name__").getD .none) (.ref c') ctv s.heap.objs.size)) I0 hP
      (fun b o hb e => Heap.get?_push_of_some _ (hx b o hb e)) (Heap.get?_push_of_some _ htb) hge ⟨oc, vs, t, Heap.get?_push_of_some _ hoc, hdd, hv⟩
    have hE : LamX.ExtN H (upd (upd H P (.tbl (ps ++ #[rawInt pos.line, rawInt pos.col, .ref c']))) c' (LamX.CodeO c' (X.env.qual ++ "<lambda>"))) := fun b o e n => by
      rw [upd_ne (ne_of_none e nC), upd_ne (fun z => n ps (Option.some.inj (e.symm.trans (by rw [z]; exact hP))))]
      exact e
    have eL : (ps ++ #[rawInt pos.line, rawInt pos.col, .ref c']).toList = ps.toList ++ [rawInt pos.line, rawInt pos.col, .ref c'] := by simp
    have off : ∀ b, b ≠ c' → b ≠ P → H b = none → upd (upd H P (.tbl (ps ++ #[rawInt pos.line, rawInt pos.col, .ref c']))) c' (LamX.CodeO c' (X.env.qual ++ "<lambda>")) b = none := fun b n1 n2 e => by rw [upd_ne n1, upd_ne n2]; exact e
    have TP : s.heap.objs.size ≠ P := fun z => by rw [← z, nT] at hP; cases hP
    refine h h'.objs.size c' s.heap.objs.size (.int i s.toks) ((X.mg "__name__").getD .none) ctv _ _ I1 hE (fun p hp => ?_) (Heap.get?_push_size _ rfl) (Heap.get?_push_of_some _ (hx _ _ TP eT)) (off _ (Nat.ne_of_gt hlt) (Nat.ne_of_gt (Nat.lt_of_lt_of_le (Heap.lt_size hP') hsz)) (I0.hok.fresh hsz))
      (off _ (Nat.ne_of_lt (Nat.lt_of_lt_of_le lT hge)) TP nT) (nofr_new I0 hsz) fT upd_same
    by_cases hb : p.1 = P
    · rw [hu p hp hb, hb]
      refine ⟨_, by rw [upd_ne (ne_of_none hP nC), upd_same], by rw [eL]; exact PySem.TriplesOk_snoc _ _ _ _ ht, fun p' cv hcv => ?_⟩
      rw [eL] at hcv
      rcases LamX.among_app _ ht hcv with z | z
      · obtain ⟨c0, e1, e2⟩ := ha p' cv z
        exact ⟨c0, e1, hE _ _ e2 LamX.codeO_ne⟩
      · exact ⟨c', z, upd_same⟩
    · obtain ⟨ps', a1, a2, a3⟩ := hT p hp
      refine ⟨ps', by rw [upd_ne (ne_of_none a1 nC), upd_ne hb]; exact a1, a2, fun p' cv hcv => ?_⟩
      obtain ⟨c0, e1, e2⟩ := a3 p' cv hcv
      exact ⟨c0, e1, hE _ _ e2 LamX.codeO_ne⟩
  · obtain ⟨c', e, hco⟩ := ha pos cv hc
    subst e
    have I1 : Inv X pins σ H { s0 with heap := h'.push (obD (X.env.qual ++ "<lambda>") params body scope (cloFrom X.env.cells scope.names []) ((X.mg "__name__").getD .none) (.ref c') ctv s.heap.objs.size), toks := tk } := I0.kept fun b o e => Heap.get?_push_of_some _ (hx b o e)
    exact h h'.objs.size c' s.heap.objs.size (.int i s.toks) ((X.mg "__name__").getD .none) ctv H _ I1 (LamX.ExtN.refl H) hT (Heap.get?_push_size _ rfl) (Heap.get?_push_of_some _ (hx _ _ eT)) (I0.hok.fresh hsz) nT (nofr_new I0 hsz) fT hco
end
/-- one parameter, of the name p; captured names and globals else -/
structure LamSD (sc scope : Scope) (p : Str) : Prop where
  kind : scope.kind = .function
  co : scope.isCoroutine = false
  gen : scope.isGenerator = false
  par : scope.names.lookup p = some .local
  own : ∀ y ∈ scope.names, (y.2 = .local → y.1 = p) ∧ y.2 ≠ .cell
  free : ∀ y ∈ scope.names, y.2 = .free → sc.names.lookup y.1 = some .cell ∨ sc.names.lookup y.1 = some .free
def lamSDB (sc scope : Scope) (p : Str) : Bool :=
  decide (scope.kind = .function) && !scope.isCoroutine && !scope.isGenerator && decide (scope.names.lookup p = some .local) && scope.names.all fun y => (!decide (y.2 = .local) || decide (y.1 = p)) && !decide (y.2 = .cell) && (!decide (y.2 = .free) || decide (sc.names.lookup y.1 = some .cell) || decide (sc.names.lookup y.1 = some .free))
theorem lamSD_by {sc scope : Scope} {p : Str} (h : lamSDB sc scope p = true) : LamSD sc scope p := by
  unfold lamSDB at h
  simp only [Bool.and_eq_true, Bool.or_eq_true, Bool.not_eq_true', decide_eq_true_eq, decide_eq_false_iff_not, List.all_eq_true] at h
  obtain ⟨⟨⟨⟨h1, h2⟩, h3⟩, h5⟩, h4⟩ := h
  refine ⟨h1, h2, h3, h5, fun y hy => ⟨fun e => ((h4 y hy).1.1).elim (fun n => absurd e n) id, (h4 y hy).1.2⟩, fun y hy e => ?_⟩
  rcases (h4 y hy).2 with (z | z) | z
  · exact absurd e z
  · exact .inl z
  · exact .inr z
theorem LamSD.has {X : Cx} {scope : Scope} {p : Str} (L : LamSD X.env.scope scope p) (ok : X.Ok) : ∀ y ∈ scope.names, y.2 = .free → ∃ c, X.env.cells.lookup y.1 = some c := fun y hy e => by
  rcases L.free y hy e with k | k
  · exact ok.has _ (.inl k)
  · exact ok.has _ (.inr k)
section
variable {X : Cx} {pins : List (Addr × Obj)} {σ : L2.St} {H HZ : Hp} {s s1 : Shared}
theorem lamd_start {A : Around} {outer : List Env} {E : XK} {scope : Scope} {f c' : Addr} {h1 : Heap} {tk : Nat} {p : Str} {v : Value} (I : Inv X pins σ H s) (L : LamSD X.env.scope scope p) (hp : p ∉ X.N) (e0 : Env0 X.prog X.w X.K X.mg X.base A outer s1 HZ) (hd : A.handled = none)
    (un : Un (frs X.stack) [] H HZ s.heap s1.heap) (hns : h1.Ns s1.heap.objs.size fun y => ([(p, v)] : List (Str × Value)).reverse.lookup y) (kp : ∀ b o, s1.heap.get? b = some o → h1.get? b = some o) :
    Inv (LamX.lamCx X A outer s1 HZ E scope f c') [] σ HZ { s1 with heap := h1, toks := tk } := by
  have hfree := L.has I.ok
  have cm : ∀ {y c}, (cloFrom X.env.cells scope.names []).lookup y = some c → X.env.cells.lookup y = some c := fun {y c} e => by
    rcases cloFrom_mem (PySem.mem_of_lookup e) with hm | ⟨h1, h2⟩
    · cases hm
    · obtain ⟨c1, hc⟩ := hfree _ h1 rfl
      have hc : X.env.cells.lookup y = some c1 := hc
      have e2 : c = c1 := by rw [h2, hc]; rfl
      rw [e2]; exact hc
  have look : ∀ {y}, scope.names.lookup y = some .free → ∃ c, (cloFrom X.env.cells scope.names []).lookup y = some c := fun {y} hl => mem_lookup (cloFrom_has (cells := X.env.cells) (acc := []) (show (y, NameKind.free) ∈ scope.names from PySem.mem_of_lookup hl))
  have cellK : ∀ {c : Addr} {v : Option Value}, H c = none → s.heap.IsCell c v → h1.IsCell c v := fun {c v} n ⟨o, ho, hd⟩ => by
    obtain ⟨sl, q⟩ := un.any ho n (by simp)
    exact ⟨_, kp _ _ q, hd⟩
  have noA : ∀ b : Addr, b ∉ (LamX.lamCx X A outer s1 HZ E scope f c').ex := fun b z => absurd (show b ∈ ([] : List Addr) from z) (by simp)
  refine ⟨⟨e0.mod, L.kind, rfl, rfl, Nat.le_refl _, fun y z c e1 e2 => I.ok.inj y z c (cm e1) (cm e2), fun y hy => ?_, fun y c z _ => ?_, fun _ => hd, Around.frames_deeper e0.frames, .inr ⟨rfl, rfl⟩, fun b z => absurd z (noA b), e0.bs, e0.bsz, fun b _ _ => noA b,
      fun b z => absurd z (noA b), e0.funs, e0.frf⟩, rfl, e0.bare, Un.kept kp, ⟨_, hns, fun i y v e1 e2 e3 => ?_⟩, fun y c e => ?_, e0.hok.fresh (Nat.le_refl _), fun y c e => ?_, fun q hq => absurd (show q ∈ ([] : List (Addr × Obj)) ++ [] from hq) (by simp), e0.hok.kept kp, I.len⟩
  · rcases (show scope.names.lookup y = some .cell ∨ scope.names.lookup y = some .free from hy) with hy | hy
    · exact absurd rfl (L.own _ (PySem.mem_of_lookup hy)).2
    · exact look hy
  · exact Bool.noConfusion (show false = true from z)
  · rcases (show Vis scope y from e3) with k | k | k
    · have := (L.own _ (PySem.mem_of_lookup k)).1 rfl
      exact absurd (List.mem_of_getElem? e1) (by rw [show y = p from this]; exact hp)
    · exact absurd rfl (L.own _ (PySem.mem_of_lookup k)).2
    · obtain ⟨m, hn, hl⟩ := I.loc
      have kk := L.free _ (PySem.mem_of_lookup k) rfl
      obtain ⟨w', r, q⟩ := hl i y v e1 e2 (kk.elim (fun k => .inr (.inl k)) (fun k => .inr (.inr k)))
      obtain ⟨c2, h2⟩ := look k
      refine ⟨w', r, .inr ⟨.inr k, c2, h2, ?_⟩⟩
      have c1 := cm h2
      rcases q with ⟨k', _⟩ | ⟨_, c3, e', z⟩
      · have k' : X.env.scope.names.lookup y = some .local := k'
        rcases kk with k2 | k2 <;> (rw [show X.env.scope.names.lookup y = _ from k2] at k'; cases k')
      · rw [c1] at e'
        cases e'
        exact cellK (I.freeC y _ c1) z
  · obtain ⟨w', z⟩ := I.cell y c (cm e)
    exact ⟨w', cellK (I.freeC y c (cm e)) z⟩
  · obtain ⟨v, o, ho, hd⟩ := I.cell y c (cm e)
    exact un.free c o ho (I.freeC y c (cm e)) (by simp)
/-- such a lambda's call in the def that got it -/
theorem pe_actD {CXg : CXT} {Eg : XK} {Ng : List Str} {qg : Str} {sg : Scope} {g f c' Td : Addr} {cdg pm ctv v : Value} {params : Arguments} {body : Expr} {scope : Scope} {k i : Nat} {a pr : Str} {pn : List (Addr × Obj)} {xe : Value → Shared → Prop} {W : WX} {E : XK} {tb : TE} {p1 p2 : Pos}
    (I : Inv X pins σ H s) (L : LamSD X.env.scope scope pr) (hp : pr ∉ X.N) (hf : s.heap.get? f = some (obD (X.env.qual ++ "<lambda>") params body scope (cloFrom X.env.cells scope.names []) pm (.ref c') ctv Td)) (hT : s.heap.get? Td = some (tpl v)) (nf : H f = none) (nT : H Td = none) (ff : f ∉ frs X.stack) (fT : Td ∉ frs X.stack)
    (hbind : ∃ kk, bindArgs (fnD (X.env.qual ++ "<lambda>") params body scope (cloFrom X.env.cells scope.names []) pm (.ref c') ctv Td) ⟨[], []⟩ = seqItems? (.ref Td) >>= kk ∧ kk (some #[v]) = pure [(pr, v)])
    (tk : Takes ((cxOf CXg X.prog X.w X.K X.mg X.base Ng qg sg g cdg X.A X.stack s H Eg).tr pn xe) W) (hW : ∀ cls d σ' H', E cls d H' → W cls d σ' H') (hr : Room (k + 1) (X.A.deeper (envOfC qg sg s.heap.objs.size g cdg)))
    (hbody : ∀ (A : Around) (outer : List Env) (s : Shared) (H : Hp), Room k (A.deeper (LamX.lamEnv X scope s.heap.objs.size f c')) → PE (LamX.lamCx X A outer s H E scope f c') body tb)
    (hN : Ng[i]? = some a) (hv : Vis sg a) (hd : (a == ("__debug__" : Str)) = false := by decide) (hcd : (a == ("__classdict__" : Str)) = false := by decide) :
    PE ((cxOf CXg X.prog X.w X.K X.mg X.base Ng qg sg g cdg X.A X.stack s H Eg).tr pn xe) (.Call (.Name a p1) [] [] p2) (fun σZ HZ Q => σZ[i]? = some (some (.ref f)) ∧ HZ c' = some (LamX.CodeO c' (X.env.qual ++ "<lambda>")) ∧ tb σ HZ Q) := by
  refine ⟨fun pinsZ sZ σZ HZ Q IZ ⟨hs, hc, ht⟩ => ?_⟩
  refine wpAny_Call_Name_kw (thn ((pe_var (pos := p1) (i := i) hN hv hd hcd).run pinsZ sZ σZ HZ (fun v H1 => v = .ref f ∧ H1 = HZ) IZ ⟨.ref f, hs, rfl, rfl⟩) fun u s1 ⟨w, H1, I1, r1, ev, eH⟩ => ?_)
  subst ev eH
  obtain rfl : u = Value.ref f := r1
  have nx : ∀ b : Addr, b ∉ ([] : List Addr) := fun b z => nomatch z
  have of1 := I1.base.keep f _ hf nf ff (nx _)
  have oT1 := I1.base.keep Td _ hT nT fT (nx _)
  refine PySem.W.callWith_F0 ⟨_, _, _, _, of1⟩ ?_
  have un : Un (frs X.stack) [] H H1 s.heap s1.heap := I1.base
  obtain ⟨⟨oc, vs, t, hoc, hdc, hvc⟩, _, _⟩ := I1.hok c' _ hc
  have rc : codeAny (model X.prog X.w) (X.A.deeper (envOfC qg sg s.heap.objs.size g cdg)) (.call (.ref f) ⟨[], []⟩) (CR (L2.CX X.prog X.w) (envOfC qg sg s.heap.objs.size g cdg :: X.stack) X.prog X.w H1 s1 Q E) s1 := by
    refine PySem.W.kla_callFunE hr.depth of1 rfl L.co L.gen rfl ⟨c', oc, vs, t, rfl, hoc, hdc, hvc⟩ ?_
    obtain ⟨kk, e1, e2⟩ := hbind
    rw [e1]
    refine wpAny_bind (wpAny_seqItems oT1 rfl ?_)
    rw [e2]
    refine wpAny_pure (wpAny_newFunctionEnv (fun y hy => (L.own y hy).2) (fun y hy => by rw [List.mem_singleton.mp hy]; exact L.par) (fun h2 hns hsb => ⟨I1.nolimit.fresh _ hsb, ?_⟩) L.kind)
    show codeAny _ _ (.expr body (LamX.lamEnv X scope s1.heap.objs.size f c')) _ _
    have kp : ∀ b o, s1.heap.get? b = some o → h2.get? b = some o := fun b o e => hsb.extBut b o (Nat.ne_of_lt (Heap.lt_size e)) (Heap.get?_push_of_some _ e)
    have J : Inv (LamX.lamCx X (X.A.deeper (envOfC qg sg s.heap.objs.size g cdg)) (envOfC qg sg s.heap.objs.size g cdg :: X.stack) s1 H1 E scope f c') [] σ H1 { s1 with heap := h2, toks := s1.toks + [(pr, v)].length } :=
      lamd_start I L hp I1.env0 hr.hd un hns kp
    refine PySem.W.kla_codeExpr (wpAny_mono ((hbody _ _ s1 H1 (hr.deeper _)).run [] _ _ H1 Q J ht) (fun v s' ⟨w', H', J', rv, q⟩ => ⟨w', H', J'.os, J'.bare, J'.base, J'.hok, rv, q⟩) fun e s' hq => hq)
  have hx : Passes (L2.CX X.prog X.w) ((cxOf CXg X.prog X.w X.K X.mg X.base Ng qg sg g cdg X.A X.stack s H Eg).tr pn xe) E := passes_call tk hW
  refine wpAny_call (codeAny_mono rc fun r s' hq => ?_)
  cases r with
  | error e => exact hx pinsZ σZ H1 s1 e s' I1 hq
  | ok fl =>
    cases fl with
    | ret u => exact I1.after hq
    | next => exact False.elim hq
    | brk => exact False.elim hq
    | cont => exact False.elim hq
end
/-- _law_try(lambda n=0: body) -/
theorem pe_tryD {X : Cx} {c P : Addr} {k : Nat} {pg params : Arguments} {body : Expr} {sg scope : Scope} {t : XK → TE} {pr : Str} {i0 : Int} {j0 : _} {q0 : Pos} {p lpos pos p0 p1 p2 p3 p4 p5 p6 p7 p8 p9 p10 p11 p12 p13 p14 p15 p16 : Pos}
    (FT : ∃ fd, FunD X.K "_law_try" "_law_try" pg [.Try [.Return (some (.Tuple [.Constant (.str "value") 0 p0, .Call (.Name "_law_ask" p1) [] [] p2] 0 p3)) p4] [.ExceptHandler (some (.Tuple [.Name "TurnError" p5, .Name "TurnMissing" p6] 0 p7)) (some "_law_e")
      [.Return (some (.Tuple [.Attribute (.Name "_law_e" p8) "word" p9, .Call (.Name "_law_field" p10) [.Name "_law_e" p11] [] p12] 0 p13)) p14] p15] [] [] p16] sg [] [] (He.ga X.K "_law_try") fd)
    (FF : OkFX X.prog X.w X.K X.mg X.base) (hg : Gl X "_law_try") (hm : X.mg "_law_try" = some (.ref (He.ga X.K "_law_try"))) (m1 : X.mg "TurnError" = some (.ref (He.ga X.K "TurnError"))) (m2 : X.mg "TurnMissing" = some (.ref (He.ga X.K "TurnMissing")))
    (Sg : FnScope ["_law_ask", "_law_e"] ["_law_ask"] sg) (hk : sg.names.lookup ("_law_e" : Str) = some .local) (hv : Vis sg "_law_ask") (g1 : sg.names.lookup ("TurnError" : Str) = some .globalImplicit) (g2 : sg.names.lookup ("TurnMissing" : Str) = some .globalImplicit) (g3 : sg.names.lookup ("_law_field" : Str) = some .globalImplicit)
    (hpg : ∀ (kV doc pm : Value) (an : Option Addr) (cdv ct : Value) (bg : List Stmt) (us : List Value), us.length = ["_law_ask"].length → bindArgs (PySem.W.fnOf "_law_try" "_law_try" pg bg sg .none kV doc pm an cdv ct) ⟨us, []⟩ = pure ([("_law_ask" : Str)].zip us))
    (TB : LamX.TabB X.base X.mg c P) (hcode : X.env.code = .ref c) (hr : Room (k + 2) X.A) (L : LamSD X.env.scope scope pr) (hp : pr ∉ X.N) (hdef : defaultsOf params X.env = ([eval (.Constant (.int i0) j0 q0) X.env], []))
    (hbind : ∀ (q : Str) (cl : List (Str × Addr)) (pm cv ctv v : Value) (T : Addr), ∃ kk, bindArgs (fnD q params body scope cl pm cv ctv T) ⟨[], []⟩ = seqItems? (.ref T) >>= kk ∧ kk (some #[v]) = pure [(pr, v)])
    (hbody : ∀ (A : Around) (outer : List Env) (s : Shared) (H : Hp) (E : XK) (f c' : Addr), Room k (A.deeper (LamX.lamEnv X scope s.heap.objs.size f c')) → PE (LamX.lamCx X A outer s H E scope f c') body (t E)) :
    PE X (.Call (.Name "_law_try" p) [.Lambda params body scope lpos] [] pos) (LamX.tLam [(P, X.env.qual ++ "<lambda>")] (TTry X.K) t) := by
  obtain ⟨fd, F⟩ := FT
  have hb := F.bindsN (ps := ["_law_ask"]) fun kV doc pm an cdv ct us hl => hpg kV doc pm an cdv ct _ us hl
  obtain ⟨oc, od, dV, kV, doc, pm, an, cdv, ct, osl, e, lk, hcd, hD, hK⟩ := F.ex
  subst e
  obtain ⟨⟨fF, F1, bF⟩, kF, mF⟩ := FF
  have hG := gives_try (X := X) (g := He.ga X.K "_law_try") (cdg := cdv) (q := X.env.qual ++ "<lambda>") (p0 := p0) (p1 := p1) (p2 := p2) (p3 := p3) (p4 := p4) (p5 := p5) (p6 := p6) (p7 := p7) (p8 := p8) (p9 := p9) (p10 := p10) (p11 := p11) (p12 := p12) (p13 := p13) (p14 := p14) (p15 := p15) (p16 := p16) Sg hk g1 g2 g3 m1 m2 mF F1 kF bF (hr.mono (by omega))
  refine ⟨fun pins s σ H Q I ⟨hT, h⟩ => ?_⟩
  refine wpAny_Call_Name_kw (ld_glob I hg hm ?_ (by decide))
  refine PySem.W.callWith_K (h₀ := X.base) I.ok.mod.kin F.kp ?_ (by rfl) (by rfl)
  show wpAny _ _ (spliced ((false, eval (.Lambda params body scope lpos) X.env) :: backTo pos (starEach [] X.env))) _ _ s
  refine Calls.spliced_cons (lamd_make I TB hcode (by simp) (by simp) hT hdef (L.has I.ok) fun f c' Td v pm' ctv H1 s' I1 eN T1 hf hTd nf nT ff fT hco => Calls.spliced_nil ⟨I1.kIn, ?_⟩)
  have rc : codeAny (model X.prog X.w) X.A (.call (.ref (He.ga X.K "_law_try")) ⟨[.ref f], []⟩) (CR C8.CX0 X.stack X.prog X.w H1 s' Q C8.E0) s' := by
    refine LamX.run_ofS (N := ["_law_ask", "_law_e"]) (ps := ["_law_ask"]) (us := [.ref f]) (vs := [.ref f]) lk hcd Sg hr I1.env0 (hb s' [.ref f] I1.kIn rfl) (.cons rfl .nil) rfl fun hr' => ?_
    obtain ⟨t', ht', hq'⟩ := hG f c' s' H1 Q (fun E H' Q' => t E σ H' Q') (fun W pn xe E p1 p2 tk hW => pe_actD (i := 0) I1 L hp hf hTd nf nT ff fT (hbind _ _ _ _ _ _ _) tk hW hr' (fun A outer s H hr2 => hbody A outer s H E f c' hr2) rfl hv) hco (h H1 eN T1)
    exact ⟨t', ht'.nox, hq'⟩
  refine wpAny_call (codeAny_mono rc fun r s2 hq => ?_)
  cases r with
  | error e => exact (show False from hq).elim
  | ok fl =>
    cases fl with
    | ret u => exact I1.after hq
    | next => exact False.elim hq
    | brk => exact False.elim hq
    | cont => exact False.elim hq
end TD

end
section
open TD L2
/-- what stands at an address -/
local macro_rules | `(tactic| lcg_sub) => `(tactic| first | assumption | exact upd_same | exact New.at_ (by assumption) | (refine New.same (by assumption) _ _ ?_; lcg_sub) | (refine (show Same _ _ from by assumption) _ _ ?_; lcg_sub) | (refine Eq.trans (upd_ne (by first | assumption | exact Ne.symm (by assumption))) ?_; lcg_sub))
/-- a list, a tuple to be read -/
local macro_rules | `(tactic| lcg_src) => `(tactic| first | assumption | exact SqL.of (by lcg_sub) | exact SqT.of (by lcg_sub) | (refine Same.seq (New.same (by assumption)) ?_; lcg_src) | (refine Same.seq (by assumption) ?_; lcg_src) | (refine sameT (New.same (by assumption)) ?_; lcg_src) | (refine sameT (by assumption) ?_; lcg_src))
/-- data at a value -/
local macro_rules | `(tactic| kp_flats) => `(tactic| first | assumption | exact Dp.str _ | exact Dp.int _ | exact Dp.non | exact Dp.bl _ | (refine dp_same (New.same (by assumption)) ?_; kp_flats) | (refine dp_same (by assumption) ?_; kp_flats))
/-- one step of a reading -/
local macro_rules | `(tactic| lcg_off) => `(tactic| first
  | with_reducible refine Stp.go ?_
  | ((with_reducible show tVar _ _ _ _); refine c_var (by rfl) ?_)
  | ((with_reducible show rIxL _ _ _ _ _); refine c_ixL (by lcg_src) (by rfl) ?_)
  | ((with_reducible show rIxT _ _ _ _ _); refine c_ixT (by lcg_src) (by rfl) ?_)
  | ((with_reducible show rSetL _ _ _ _ _); refine c_setL (by lcg_sub) (by rfl) ?_)
  | ((with_reducible show rLenQ _ _ _ _); first | (refine c_lenL (by lcg_src) ?_) | (refine c_lenT (by lcg_src) ?_))
  | ((with_reducible show rSlL _ _ _ _ _ _); refine c_slL (by lcg_src) ?_)
  | ((with_reducible show rListQ _ _ _ _); first | (refine c_listL (by lcg_src) ?_) | (refine c_listT (by lcg_src) ?_))
  | ((with_reducible show rI _ _ _ _ _ _); refine c_IC (by first | assumption | decide | omega) ?_)
  | ((with_reducible show rIsi _ _ _ _); refine c_isi (by kp_flats) (by first | assumption | decide +kernel) ?_)
  | ((with_reducible show rIx _ _ _ _ _); refine c_ix (by first | exact .inl ⟨by lcg_src, by first | assumption | rfl⟩ | exact .inr ⟨by lcg_src, by first | assumption | rfl⟩) ?_)
  | ((with_reducible show NewW _ _ _ _); refine newW ?_)
  | ((with_reducible show rCat _ _ _ _); refine c_cat (by lcg_sub) (by lcg_sub) (le_line (by first | decide | (simp only [List.length_append, List.length_cons, List.length_nil]; omega))) ?_)
  | ((with_reducible show aAddS _ _ _ _); refine c_adds (le_line (by first | decide +kernel | assumption)) ?_)
  | ((with_reducible show rIn _ false _ _ _ _); refine c_inL (by lcg_src) (by rfl) (by rfl) ?_)
  | ((with_reducible show rIn _ true _ _ _ _); refine c_niL (by lcg_src) (by rfl) (by rfl) ?_))
/-- one step, with the new object's names -/
local macro_rules | `(tactic| k_offL) => `(tactic| first | lcg_off | ((with_reducible show ∀ _ _, New _ _ _ _ → _); intro _ _ _))
/-- an error that is held -/
local macro_rules | `(tactic| one_item) => `(tactic| first | assumption | (refine ErrV.same ?_ (New.same (by assumption)); one_item) | (refine ErrV.same ?_ (by assumption); one_item))
/-- nothing was changed -/
local macro_rules | `(tactic| one_place) => `(tactic| first | assumption | exact fun _ _ h => h | exact New.same (by assumption) | (refine Same.trans ?_ (New.same (by assumption)); one_place) | (refine Same.trans ?_ (by assumption); one_place))
/-- what an expression makes, as data -/
local macro_rules | `(tactic| one_sign) => `(tactic| first | exact EvD.str | exact EvD.int | exact EvA.nil | exact EvD.neg | (apply EvA.cons; (focus one_sign); one_sign) | (apply EvD.tup; (focus one_sign); (first | decide | (simp only [List.length_append, List.length_cons, List.length_nil]; omega))) | (apply EvD.var; (focus rfl); kp_flats) | (apply EvL.var; (focus rfl); (focus lcg_sub); assumption) | (apply EvL.lst; (focus one_sign); (first | decide | (simp only [List.length_append, List.length_cons, List.length_nil]; omega))) | (apply EvL.cat; (focus one_sign); (focus one_sign); (first | decide | (simp only [List.length_append, List.length_cons, List.length_nil]; omega))) | (apply EvD.tupOf; one_sign) | (apply EvD.rep; (focus one_sign); (focus simp); (focus decide); (focus decide); decide) | (apply EvL.rep; (focus one_sign); (focus decide); decide) | (apply EvD.adds; (focus one_sign); (focus one_sign); decide +kernel) | exact EvD.non | exact EvD.bl | (apply EvD.ofL; one_sign))
/-- one step, but not into a new list, a new tuple -/
local macro_rules | `(tactic| k_asm) => `(tactic| (fail_if_success (with_reducible show tLst _ _ _ _)); (fail_if_success (with_reducible show tTup _ _ _ _)); (fail_if_success (with_reducible show tOp rCat _ _ _ _ _)); lcg_off)
namespace TD
open PySem PySem.Spec L2 PySem.Calls
open PyProof.Rows hiding St
/-! ### comprehensions whose block only makes new objects; Z by the turn, the items so far and the heap without the new list -/
section
variable {K : PySem.W.Frag} {g : TG} {tt : TT} {te : TE} {vs : List Nat} {σ : L2.St} {H1 : Hp} {Q : VK}
structure LcI (Z : Nat → List V → Hp → Prop) (H1 : Hp) (D : Addr) (i : Nat) (acc : List V) (H : Hp) : Prop where
  same : Same H1 H
  at_ : H D = some (.lst acc)
  len : acc.length ≤ i
  z : Z i acc (mask D H)
def LcB (Z : Nat → List V → Hp → Prop) (g : TG) (tt : TT) (te : TE) (vs : List Nat) (σ : L2.St) (H1 : Hp) (i : Nat) (x : V) : Prop := ∀ D acc H (Q' : VK) (N : Hp → Prop), H1 D = none → LcI Z H1 D i acc H →
  (∀ y H4, Same H H4 → Z (i + 1) (acc ++ [y]) (mask D H4) → Q' y H4) → (∀ H3, Same H H3 → Z (i + 1) acc (mask D H3) → N H3) →
  g x (wipe σ vs) H fun σ2 H2 => wipe σ2 vs = wipe σ vs ∧ tt σ2 H2 fun b H3 => if b = true then te σ2 H3 Q' else N H3
theorem LcI.init {Z : Nat → List V → Hp → Prop} {D : Addr} (hD : H1 D = none) (h0 : Z 0 [] H1) : LcI Z H1 D 0 [] (upd H1 D (.lst [])) := by
  refine ⟨(new_upd hD).same, upd_same, Nat.le_refl _, ?_⟩
  rw [mask_upd]
  have e : mask D H1 = H1 := funext fun a => by
    by_cases h : a = D
    · rw [h, mask_at, hD]
    · rw [mask_ne h]
  rw [e]; exact h0
theorem LcI.new {Z : Nat → List V → Hp → Prop} {D : Addr} {i : Nat} {acc : List V} {H : Hp} (h : LcI Z H1 D i acc H) (hD : H1 D = none) : New H1 H D (.lst acc) := ⟨hD, h.same, h.at_⟩
theorem LcB.step {Z : Nat → List V → Hp → Prop} {i : Nat} {x : V} (hs : LcB Z g tt te vs σ H1 i x) (hi : i < sizeLine) {D : Addr} (hD : H1 D = none) {H : Hp} (p : ∃ acc, LcI Z H1 D i acc H) : g x (wipe σ vs) H fun σ2 H2 => wipe σ2 vs = wipe σ vs ∧ tt σ2 H2 fun b H3 =>
      if b = true then te σ2 H3 fun y H4 => ∃ acc, H4 D = some (.lst acc) ∧ acc.length < sizeLine ∧ (∃ acc', LcI Z H1 D (i + 1) acc' (upd H4 D (.lst (acc ++ [y])))) else ∃ acc', LcI Z H1 D (i + 1) acc' H3 := by
  obtain ⟨acc, p⟩ := p
  refine hs D acc H _ _ hD p (fun y H4 s z => ?_) (fun H3 s z => ⟨acc, p.same.trans s, s _ _ p.at_, Nat.le_succ_of_le p.len, z⟩)
  refine ⟨acc, s _ _ p.at_, Nat.lt_of_le_of_lt p.len hi, acc ++ [y], fun a o e => ?_, upd_same, ?_, ?_⟩
  · rw [upd_ne (ne_of_none e hD)]; exact s _ _ (p.same _ _ e)
  · rw [List.length_append]; exact Nat.succ_le_succ p.len
  · rw [mask_upd]; exact z
theorem lcRg {lo : Int} {n : Nat} (Z : Nat → List V → Hp → Prop) (hn : n ≤ sizeLine) (h0 : Z 0 [] H1) (hs : ∀ i, i < n → LcB Z g tt te vs σ H1 i (.int (lo + i)))
    (hd : ∀ D acc H', New H1 H' D (.lst acc) → Z n acc (mask D H') → Q (.ref D) H') : LcW (Itr lo n) g tt te vs Q σ H1 := by
  intro D hD
  exact lc_range (fun i H => ∃ acc, LcI Z H1 D i acc H) ⟨[], LcI.init hD h0⟩ (fun i H hi p => (hs i hi).step (Nat.lt_of_lt_of_le hi hn) hD p) fun H ⟨acc, p⟩ => hd D acc H (p.new hD) p.z
theorem lcLg {a : Addr} {xs : List V} (hS : SqL K H1 a xs) (Z : Nat → List V → Hp → Prop) (hn : xs.length ≤ sizeLine) (h0 : Z 0 [] H1) (hs : ∀ i x, xs[i]? = some x → LcB Z g tt te vs σ H1 i x)
    (hd : ∀ D acc H', New H1 H' D (.lst acc) → Z xs.length acc (mask D H') → Q (.ref D) H') : LcW (Itl K a) g tt te vs Q σ H1 := by
  intro D hD
  exact lc_list (fun i H => ∃ acc, LcI Z H1 D i acc H) ⟨[], LcI.init hD h0⟩ (fun i H _ ⟨acc, p⟩ => p.same.seq hS)
    (fun i x H hx p => (hs i x hx).step (Nat.lt_of_lt_of_le (List.getElem?_eq_some_iff.mp hx).1 hn) hD p) fun H ⟨acc, p⟩ => hd D acc H (p.new hD) p.z
theorem lcTg {a : Addr} {xs : List V} (hS : SqT K H1 a xs) (Z : Nat → List V → Hp → Prop) (hn : xs.length ≤ sizeLine) (h0 : Z 0 [] H1) (hs : ∀ i x, xs[i]? = some x → LcB Z g tt te vs σ H1 i x)
    (hd : ∀ D acc H', New H1 H' D (.lst acc) → Z xs.length acc (mask D H') → Q (.ref D) H') : LcW (Itt K a) g tt te vs Q σ H1 := by
  intro D hD
  exact lc_tup (fun i H => ∃ acc, LcI Z H1 D i acc H) ⟨[], LcI.init hD h0⟩ (fun i H _ ⟨acc, p⟩ => sameT p.same hS)
    (fun i x H hx p => (hs i x hx).step (Nat.lt_of_lt_of_le (List.getElem?_eq_some_iff.mp hx).1 hn) hD p) fun H ⟨acc, p⟩ => hd D acc H (p.new hD) p.z
/-- one item a turn, a plain value -/
theorem lcR1 {k n : Nat} (f : Nat → V) (hn : n ≤ sizeLine) (hw : ∀ x, wipe ((wipe σ vs).set k (some x)) vs = wipe σ vs)
    (hs : ∀ i H (Q' : VK), i < n → Same H1 H → (∀ H4, Same H H4 → Q' (f i) H4) → te ((wipe σ vs).set k (some (.int i))) H Q')
    (hd : ∀ D H', New H1 H' D (.lst ((List.range n).map f)) → Q (.ref D) H') : LcW (Itr 0 n) (gName k) tYes te vs Q σ H1 := by
  refine lcRg (fun i acc _ => acc = (List.range i).map f) hn rfl (fun i hi D acc H Q' N hD p q1 q2 => ?_) (fun D acc H' n e => hd D H' (e ▸ n))
  rw [Int.zero_add]
  refine ⟨hw _, ?_⟩
  refine hs i H Q' hi p.same fun H4 s => q1 _ _ s ?_
  show acc ++ [f i] = (List.range (i + 1)).map f
  rw [show acc = (List.range i).map f from p.z, List.range_succ, List.map_append]; rfl
theorem lcL1 {k : Nat} {a : Addr} {xs : List V} (hS : SqL K H1 a xs) (f : V → V) (hn : xs.length ≤ sizeLine) (hw : ∀ x, wipe ((wipe σ vs).set k (some x)) vs = wipe σ vs)
    (hs : ∀ (i : Nat) (x : V) (H : Hp) (Q' : VK), xs[i]? = some x → Same H1 H → (∀ H4, Same H H4 → Q' (f x) H4) → te ((wipe σ vs).set k (some x)) H Q')
    (hd : ∀ D H', New H1 H' D (.lst (xs.map f)) → Q (.ref D) H') : LcW (Itl K a) (gName k) tYes te vs Q σ H1 := by
  refine lcLg hS (fun i acc _ => acc = (xs.take i).map f) hn rfl (fun i x hx D acc H Q' N hD p q1 q2 => ?_) (fun D acc H' n e => hd D H' (by rw [List.take_length] at e; exact e ▸ n))
  refine ⟨hw _, ?_⟩
  refine hs i x H Q' hx p.same fun H4 s => q1 _ _ s ?_
  show acc ++ [f x] = (xs.take (i + 1)).map f
  rw [show acc = (xs.take i).map f from p.z, List.take_add_one, List.map_append, hx]; rfl
end
end TD

end
section
open TD L2
/-- what stands at an address -/
local macro_rules | `(tactic| lcg_sub) => `(tactic| first | assumption | exact upd_same | exact New.at_ (by assumption) | (refine New.same (by assumption) _ _ ?_; lcg_sub) | (refine (show Same _ _ from by assumption) _ _ ?_; lcg_sub) | (refine Eq.trans (upd_ne (by first | assumption | exact Ne.symm (by assumption))) ?_; lcg_sub))
/-- a list, a tuple to be read -/
local macro_rules | `(tactic| lcg_src) => `(tactic| first | assumption | exact SqL.of (by lcg_sub) | exact SqT.of (by lcg_sub) | (refine Same.seq (New.same (by assumption)) ?_; lcg_src) | (refine Same.seq (by assumption) ?_; lcg_src) | (refine sameT (New.same (by assumption)) ?_; lcg_src) | (refine sameT (by assumption) ?_; lcg_src))
/-- data at a value -/
local macro_rules | `(tactic| kp_flats) => `(tactic| first | assumption | exact Dp.str _ | exact Dp.int _ | exact Dp.non | exact Dp.bl _ | (refine dp_same (New.same (by assumption)) ?_; kp_flats) | (refine dp_same (by assumption) ?_; kp_flats))
/-- one step of a reading -/
local macro_rules | `(tactic| lcg_off) => `(tactic| first
  | with_reducible refine Stp.go ?_
  | ((with_reducible show tVar _ _ _ _); refine c_var (by rfl) ?_)
  | ((with_reducible show rIxL _ _ _ _ _); refine c_ixL (by lcg_src) (by rfl) ?_)
  | ((with_reducible show rIxT _ _ _ _ _); refine c_ixT (by lcg_src) (by rfl) ?_)
  | ((with_reducible show rSetL _ _ _ _ _); refine c_setL (by lcg_sub) (by rfl) ?_)
  | ((with_reducible show rLenQ _ _ _ _); first | (refine c_lenL (by lcg_src) ?_) | (refine c_lenT (by lcg_src) ?_))
  | ((with_reducible show rSlL _ _ _ _ _ _); refine c_slL (by lcg_src) ?_)
  | ((with_reducible show rListQ _ _ _ _); first | (refine c_listL (by lcg_src) ?_) | (refine c_listT (by lcg_src) ?_))
  | ((with_reducible show rI _ _ _ _ _ _); refine c_IC (by first | assumption | decide | omega) ?_)
  | ((with_reducible show rIsi _ _ _ _); refine c_isi (by kp_flats) (by first | assumption | decide +kernel) ?_)
  | ((with_reducible show rIx _ _ _ _ _); refine c_ix (by first | exact .inl ⟨by lcg_src, by first | assumption | rfl⟩ | exact .inr ⟨by lcg_src, by first | assumption | rfl⟩) ?_)
  | ((with_reducible show NewW _ _ _ _); refine newW ?_)
  | ((with_reducible show rCat _ _ _ _); refine c_cat (by lcg_sub) (by lcg_sub) (le_line (by first | decide | (simp only [List.length_append, List.length_cons, List.length_nil]; omega))) ?_)
  | ((with_reducible show aAddS _ _ _ _); refine c_adds (le_line (by first | decide +kernel | assumption)) ?_)
  | ((with_reducible show rIn _ false _ _ _ _); refine c_inL (by lcg_src) (by rfl) (by rfl) ?_)
  | ((with_reducible show rIn _ true _ _ _ _); refine c_niL (by lcg_src) (by rfl) (by rfl) ?_))
/-- one step, with the new object's names -/
local macro_rules | `(tactic| k_offL) => `(tactic| first | lcg_off | ((with_reducible show ∀ _ _, New _ _ _ _ → _); intro _ _ _))
/-- an error that is held -/
local macro_rules | `(tactic| one_item) => `(tactic| first | assumption | (refine ErrV.same ?_ (New.same (by assumption)); one_item) | (refine ErrV.same ?_ (by assumption); one_item))
/-- nothing was changed -/
local macro_rules | `(tactic| one_place) => `(tactic| first | assumption | exact fun _ _ h => h | exact New.same (by assumption) | (refine Same.trans ?_ (New.same (by assumption)); one_place) | (refine Same.trans ?_ (by assumption); one_place))
/-- what an expression makes, as data -/
local macro_rules | `(tactic| one_sign) => `(tactic| first | exact EvD.str | exact EvD.int | exact EvA.nil | exact EvD.neg | (apply EvA.cons; (focus one_sign); one_sign) | (apply EvD.tup; (focus one_sign); (first | decide | (simp only [List.length_append, List.length_cons, List.length_nil]; omega))) | (apply EvD.var; (focus rfl); kp_flats) | (apply EvL.var; (focus rfl); (focus lcg_sub); assumption) | (apply EvL.lst; (focus one_sign); (first | decide | (simp only [List.length_append, List.length_cons, List.length_nil]; omega))) | (apply EvL.cat; (focus one_sign); (focus one_sign); (first | decide | (simp only [List.length_append, List.length_cons, List.length_nil]; omega))) | (apply EvD.tupOf; one_sign) | (apply EvD.rep; (focus one_sign); (focus simp); (focus decide); (focus decide); decide) | (apply EvL.rep; (focus one_sign); (focus decide); decide) | (apply EvD.adds; (focus one_sign); (focus one_sign); decide +kernel) | exact EvD.non | exact EvD.bl | (apply EvD.ofL; one_sign))
/-- one step, but not into a new list, a new tuple -/
local macro_rules | `(tactic| k_asm) => `(tactic| (fail_if_success (with_reducible show tLst _ _ _ _)); (fail_if_success (with_reducible show tTup _ _ _ _)); (fail_if_success (with_reducible show tOp rCat _ _ _ _ _)); lcg_off)
namespace TD
open PySem PySem.Spec L2 PySem.Calls
open PyProof.Rows hiding St
/-! ### the type of data -/
def tyN : PyData → String
  | .none => "NoneType" | .bool _ => "bool" | .int _ => "int" | .str _ => "str" | .list _ => "list" | .tuple _ => "tuple" | .dict _ => "dict"
theorem tyx_dp {K : PySem.W.Frag} {H : Hp} {v : V} {d : PyData} (h : Dp K H v d) : TyX K H v (.type (tyN d)) := by
  cases h with
  | non => exact .base .non
  | bl b => exact .base (.bl b)
  | int i => exact .base (.int i)
  | str x => exact .base (.str x)
  | lst h _ =>
    rcases h with (h | ⟨o, h⟩) | ⟨o, its, n, h, c, _⟩
    · exact .base (.lst h)
    · exact .base (.frz h)
    · exact .kList h c
  | tup h _ =>
    rcases h with (h | ⟨o, h⟩) | ⟨o, its, n, h, c, _⟩
    · exact .base (.tup h)
    · exact .fTuple h
    · exact .kTuple h c
/-- isinstance of data by a built-in class -/
def isK (d : PyData) (b : String) : Bool := match d with
  | .bool _ => b == "bool" || b == "int"
  | d => tyN d == b
theorem c_isi {K : PySem.W.Frag} {H : Hp} {v : V} {d : PyData} {b : String} {r : Bool} {Q : VK} (h : Dp K H v d) (e : kitB (tyN d) b = some r) (q : Q (.bl r) H) : rIsi K [v, .ty b] H Q :=
  ⟨v, .ty b, _, _, r, rfl, .ty b, tyx_dp h, kit_ty e, q⟩
theorem c_ix {K : PySem.W.Frag} {H : Hp} {p : Addr} {xs : List V} {i : Int} {v : V} {Q : VK} (h : (SqL K H p xs ∧ atI xs i = some v) ∨ (SqT K H p xs ∧ atI xs i = some v)) (q : Q v H) : rIx K (.ref p) (.int i) H Q := by
  rcases h with ⟨h, a⟩ | ⟨h, a⟩
  · exact .inl ⟨p, xs, i, v, rfl, rfl, h, a, q⟩
  · exact .inr (.inl ⟨p, xs, i, v, rfl, rfl, h, a, q⟩)
def isTup : PyData → Bool | .tuple _ => true | _ => false
def isLst : PyData → Bool | .list _ => true | _ => false
def isStr : PyData → Bool | .str _ => true | _ => false
def isDct : PyData → Bool | .dict _ => true | _ => false
def isBoo : PyData → Bool | .bool _ => true | _ => false
theorem kit_tup (d : PyData) : kitB (tyN d) "tuple" = some (isTup d) := by cases d <;> (simp only [tyN, isTup, isLst, isBoo, isStr, isDct]; decide +kernel)
theorem kit_lst (d : PyData) : kitB (tyN d) "list" = some (isLst d) := by cases d <;> (simp only [tyN, isTup, isLst, isBoo, isStr, isDct]; decide +kernel)
theorem c_isiT2 {K : PySem.W.Frag} {H : Hp} {v : V} {d : PyData} {tp : Addr} {b1 b2 : String} {r1 r2 : Bool} {Q : VK} (h : Dp K H v d) (hT : H tp = some (.tup [.ty b1, .ty b2])) (e1 : kitB (tyN d) b1 = some r1) (e2 : kitB (tyN d) b2 = some r2) (q : Q (.bl (r1 || r2)) H) : rIsiT K [v, .ref tp] H Q :=
  ⟨v, tp, _, _, _, _, rfl, hT, .cons (.ty b1) (.cons (.ty b2) .nil), tyx_dp h, kitAny_cons (kit_ty e1) (fun e => by subst e; exact kitAny_cons (r := r2) (kit_ty e2) (fun e => by subst e; rfl) id) (fun e => by subst e; rfl), q⟩
theorem kit_boo (d : PyData) : kitB (tyN d) "bool" = some (isBoo d) := by cases d <;> (simp only [tyN, isTup, isLst, isBoo, isStr, isDct]; decide +kernel)
theorem kit_str (d : PyData) : kitB (tyN d) "str" = some (isStr d) := by cases d <;> (simp only [tyN, isTup, isLst, isBoo, isStr, isDct]; decide +kernel)
theorem kit_dct (d : PyData) : kitB (tyN d) "dict" = some (isDct d) := by cases d <;> (simp only [tyN, isTup, isLst, isBoo, isStr, isDct]; decide +kernel)
/-- the items of a list, a tuple -/
def itemsD : PyData → List PyData | .list l => l | .tuple l => l | _ => []
mutual
/-- _law_like -/
def likeD : PyData → PyData → Bool
  | .tuple fs, .tuple ds => likeAll fs ds
  | .list fs, .list ds => likeAll fs ds
  | .tuple _, _ => false
  | .list _, _ => false
  | _, .tuple _ => false
  | _, .list _ => false
  | f, d => isBoo f == isBoo d && PyData.eqv f d
def likeAll : List PyData → List PyData → Bool
  | [], [] => true
  | f :: fs, d :: ds => likeD f d && likeAll fs ds
  | _, _ => false
end
theorem likeAll_len : ∀ {fs ds : List PyData}, likeAll fs ds = true → fs.length = ds.length
  | [], [], _ => rfl
  | [], _ :: _, h => by simp [likeAll] at h
  | _ :: _, [], h => by simp [likeAll] at h
  | f :: fs, d :: ds, h => by
    simp only [likeAll, Bool.and_eq_true] at h
    simp only [List.length_cons, likeAll_len h.2]
theorem likeAll_zip : ∀ {fs ds : List PyData}, fs.length = ds.length → likeAll fs ds = ((fs.zip ds).map fun p => likeD p.1 p.2).all id
  | [], [], _ => by simp [likeAll]
  | [], _ :: _, h => by simp at h
  | _ :: _, [], h => by simp at h
  | f :: fs, d :: ds, h => by
    have h' : fs.length = ds.length := by simpa using h
    simp only [likeAll, likeAll_zip h', List.zip_cons_cons, List.map_cons, List.all_cons, id]
theorem like_other {f d : PyData} (h1 : isTup d = false) (h2 : isLst d = false) (h3 : isTup f = false) (h4 : isLst f = false) : likeD f d = (isBoo f == isBoo d && PyData.eqv f d) := by
  cases f <;> cases d <;> first | (simp only [likeD]; done) | exact Bool.noConfusion (show true = false from h3) | exact Bool.noConfusion (show true = false from h4) | exact Bool.noConfusion (show true = false from h1) | exact Bool.noConfusion (show true = false from h2)
theorem like_kind {f d : PyData} (h : isTup d ≠ isTup f ∨ isLst d ≠ isLst f) : likeD f d = false := by
  cases f <;> cases d <;> first | (simp [isTup, isLst] at h; done) | simp only [likeD]
theorem dpAll_len {K : PySem.W.Frag} {H : Hp} : ∀ {vs : List V} {ds : List PyData}, DpAll K H vs ds → vs.length = ds.length
  | _, _, .nil => rfl
  | _, _, .cons _ t => by simp only [List.length_cons, dpAll_len t]
theorem dpAll_get {K : PySem.W.Frag} {H : Hp} : ∀ {vs : List V} {ds : List PyData} {i : Nat} {d : PyData}, DpAll K H vs ds → ds[i]? = some d → ∃ v, vs[i]? = some v ∧ Dp K H v d
  | _, _, _, _, .nil, h => by simp at h
  | _, _, 0, _, .cons h t, e => by simp at e; subst e; exact ⟨_, rfl, h⟩
  | _, _, i + 1, _, .cons h t, e => dpAll_get (i := i) t (by simpa using e)
theorem dp_seq {K : PySem.W.Frag} {H : Hp} {v : V} {d : PyData} (h : Dp K H v d) (s : isTup d = true ∨ isLst d = true) : ∃ p vs, v = .ref p ∧ (SqL K H p vs ∨ SqT K H p vs) ∧ DpAll K H vs (itemsD d) := by
  cases h with
  | lst h a => exact ⟨_, _, rfl, .inl h, a⟩
  | tup h a => exact ⟨_, _, rfl, .inr h, a⟩
  | _ => rcases s with s | s <;> cases s
theorem like_items {f d : PyData} (h1 : isTup d = isTup f) (h2 : isLst d = isLst f) (h : isTup d = true ∨ isLst d = true) : likeD f d = likeAll (itemsD f) (itemsD d) := by
  cases f <;> cases d <;> first | (simp [isTup, isLst] at h h1 h2; done) | simp only [likeD, itemsD]
end TD

end
section
open TD L2
/-- what stands at an address -/
local macro_rules | `(tactic| lcg_sub) => `(tactic| first | assumption | exact upd_same | exact New.at_ (by assumption) | (refine New.same (by assumption) _ _ ?_; lcg_sub) | (refine (show Same _ _ from by assumption) _ _ ?_; lcg_sub) | (refine Eq.trans (upd_ne (by first | assumption | exact Ne.symm (by assumption))) ?_; lcg_sub))
/-- a list, a tuple to be read -/
local macro_rules | `(tactic| lcg_src) => `(tactic| first | assumption | exact SqL.of (by lcg_sub) | exact SqT.of (by lcg_sub) | (refine Same.seq (New.same (by assumption)) ?_; lcg_src) | (refine Same.seq (by assumption) ?_; lcg_src) | (refine sameT (New.same (by assumption)) ?_; lcg_src) | (refine sameT (by assumption) ?_; lcg_src))
/-- data at a value -/
local macro_rules | `(tactic| kp_flats) => `(tactic| first | assumption | exact Dp.str _ | exact Dp.int _ | exact Dp.non | exact Dp.bl _ | (refine dp_same (New.same (by assumption)) ?_; kp_flats) | (refine dp_same (by assumption) ?_; kp_flats))
/-- one step of a reading -/
local macro_rules | `(tactic| lcg_off) => `(tactic| first
  | with_reducible refine Stp.go ?_
  | ((with_reducible show tVar _ _ _ _); refine c_var (by rfl) ?_)
  | ((with_reducible show rIxL _ _ _ _ _); refine c_ixL (by lcg_src) (by rfl) ?_)
  | ((with_reducible show rIxT _ _ _ _ _); refine c_ixT (by lcg_src) (by rfl) ?_)
  | ((with_reducible show rSetL _ _ _ _ _); refine c_setL (by lcg_sub) (by rfl) ?_)
  | ((with_reducible show rLenQ _ _ _ _); first | (refine c_lenL (by lcg_src) ?_) | (refine c_lenT (by lcg_src) ?_))
  | ((with_reducible show rSlL _ _ _ _ _ _); refine c_slL (by lcg_src) ?_)
  | ((with_reducible show rListQ _ _ _ _); first | (refine c_listL (by lcg_src) ?_) | (refine c_listT (by lcg_src) ?_))
  | ((with_reducible show rI _ _ _ _ _ _); refine c_IC (by first | assumption | decide | omega) ?_)
  | ((with_reducible show rIsi _ _ _ _); refine c_isi (by kp_flats) (by first | assumption | decide +kernel) ?_)
  | ((with_reducible show rIx _ _ _ _ _); refine c_ix (by first | exact .inl ⟨by lcg_src, by first | assumption | rfl⟩ | exact .inr ⟨by lcg_src, by first | assumption | rfl⟩) ?_)
  | ((with_reducible show NewW _ _ _ _); refine newW ?_)
  | ((with_reducible show rCat _ _ _ _); refine c_cat (by lcg_sub) (by lcg_sub) (le_line (by first | decide | (simp only [List.length_append, List.length_cons, List.length_nil]; omega))) ?_)
  | ((with_reducible show aAddS _ _ _ _); refine c_adds (le_line (by first | decide +kernel | assumption)) ?_)
  | ((with_reducible show rIn _ false _ _ _ _); refine c_inL (by lcg_src) (by rfl) (by rfl) ?_)
  | ((with_reducible show rIn _ true _ _ _ _); refine c_niL (by lcg_src) (by rfl) (by rfl) ?_))
/-- one step, with the new object's names -/
local macro_rules | `(tactic| k_offL) => `(tactic| first | lcg_off | ((with_reducible show ∀ _ _, New _ _ _ _ → _); intro _ _ _))
/-- an error that is held -/
local macro_rules | `(tactic| one_item) => `(tactic| first | assumption | (refine ErrV.same ?_ (New.same (by assumption)); one_item) | (refine ErrV.same ?_ (by assumption); one_item))
/-- nothing was changed -/
local macro_rules | `(tactic| one_place) => `(tactic| first | assumption | exact fun _ _ h => h | exact New.same (by assumption) | (refine Same.trans ?_ (New.same (by assumption)); one_place) | (refine Same.trans ?_ (by assumption); one_place))
/-- what an expression makes, as data -/
local macro_rules | `(tactic| one_sign) => `(tactic| first | exact EvD.str | exact EvD.int | exact EvA.nil | exact EvD.neg | (apply EvA.cons; (focus one_sign); one_sign) | (apply EvD.tup; (focus one_sign); (first | decide | (simp only [List.length_append, List.length_cons, List.length_nil]; omega))) | (apply EvD.var; (focus rfl); kp_flats) | (apply EvL.var; (focus rfl); (focus lcg_sub); assumption) | (apply EvL.lst; (focus one_sign); (first | decide | (simp only [List.length_append, List.length_cons, List.length_nil]; omega))) | (apply EvL.cat; (focus one_sign); (focus one_sign); (first | decide | (simp only [List.length_append, List.length_cons, List.length_nil]; omega))) | (apply EvD.tupOf; one_sign) | (apply EvD.rep; (focus one_sign); (focus simp); (focus decide); (focus decide); decide) | (apply EvL.rep; (focus one_sign); (focus decide); decide) | (apply EvD.adds; (focus one_sign); (focus one_sign); decide +kernel) | exact EvD.non | exact EvD.bl | (apply EvD.ofL; one_sign))
/-- one step, but not into a new list, a new tuple -/
local macro_rules | `(tactic| k_asm) => `(tactic| (fail_if_success (with_reducible show tLst _ _ _ _)); (fail_if_success (with_reducible show tTup _ _ _ _)); (fail_if_success (with_reducible show tOp rCat _ _ _ _ _)); lcg_off)
namespace TD
open PySem PySem.Spec L2 PySem.Calls
open PyProof.Rows hiding St
abbrev S (l : List Nat) : Str := SX.S l
/-! ### trees -/
inductive Tr where
  | leaf (n : List Nat)
  | node (ts : List Tr)
namespace Tr
mutual
def data : Tr → PyData
  | leaf n => .str (S n)
  | node ts => .tuple (dataAll ts)
def dataAll : List Tr → List PyData
  | [] => []
  | t :: r => data t :: dataAll r
end
mutual
def ends : Tr → Nat
  | leaf _ => 1
  | node ts => endsAll ts
def endsAll : List Tr → Nat
  | [] => 0
  | t :: r => ends t + endsAll r
end
mutual
def lev : Tr → Nat
  | leaf _ => 0
  | node ts => levAll ts + 1
def levAll : List Tr → Nat
  | [] => 0
  | t :: r => max (lev t) (levAll r)
end
mutual
/-- rows of two to w items, names of 1 to 6 signs below 256 -/
def okB (w : Nat) : Tr → Bool
  | leaf n => decide (1 ≤ n.length) && decide (n.length ≤ 6) && n.all (· < 256)
  | node ts => decide (2 ≤ ts.length) && decide (ts.length ≤ w) && okAll w ts
def okAll (w : Nat) : List Tr → Bool
  | [] => true
  | t :: r => okB w t && okAll w r
end
mutual
/-- the text of a tree -/
def text : Tr → List Nat
  | leaf n => n
  | node ts => 40 :: (TL.joinL [32] (textAll ts) ++ [41])
def textAll : List Tr → List (List Nat)
  | [] => []
  | t :: r => text t :: textAll r
end
theorem textAll_map : ∀ ts : List Tr, textAll ts = ts.map text
  | [] => rfl
  | t :: r => by rw [textAll, textAll_map r]; rfl
theorem dataAll_map : ∀ ts : List Tr, dataAll ts = ts.map data
  | [] => rfl
  | t :: r => by rw [dataAll, dataAll_map r]; rfl
theorem dataAll_len (ts : List Tr) : (dataAll ts).length = ts.length := by rw [dataAll_map, List.length_map]
theorem endsAll_sum : ∀ ts : List Tr, endsAll ts = (ts.map ends).sum
  | [] => rfl
  | t :: r => by rw [endsAll, endsAll_sum r]; rfl
theorem lev_le : ∀ {ts : List Tr} {t : Tr}, t ∈ ts → lev t ≤ levAll ts
  | s :: r, t, h => by
    rw [levAll]
    rcases List.mem_cons.mp h with e | e
    · subst e; omega
    · have := lev_le e; omega
theorem levAll_mem : ∀ {ts : List Tr}, ts ≠ [] → ∃ t ∈ ts, lev t = levAll ts
  | [], h => absurd rfl h
  | [t], _ => ⟨t, List.mem_cons_self, by simp [levAll]⟩
  | t :: s :: r, _ => by
    obtain ⟨u, hu, e⟩ := levAll_mem (ts := s :: r) (by simp)
    rw [levAll]
    by_cases h : levAll (s :: r) ≤ lev t
    · exact ⟨t, List.mem_cons_self, by omega⟩
    · exact ⟨u, List.mem_cons_of_mem _ hu, by omega⟩
theorem okAll_mem {w : Nat} : ∀ {ts : List Tr} {t : Tr}, okAll w ts = true → t ∈ ts → okB w t = true
  | s :: r, t, h, m => by
    rw [okAll, Bool.and_eq_true] at h
    rcases List.mem_cons.mp m with e | e
    · subst e; exact h.1
    · exact okAll_mem h.2 e
theorem okAll_of {w : Nat} : ∀ {ts : List Tr}, (∀ t ∈ ts, okB w t = true) → okAll w ts = true
  | [], _ => rfl
  | s :: r, h => by
    rw [okAll, Bool.and_eq_true]
    exact ⟨h s List.mem_cons_self, okAll_of fun t m => h t (List.mem_cons_of_mem _ m)⟩
theorem okB_node {w : Nat} {ts : List Tr} (h : okB w (node ts) = true) : 2 ≤ ts.length ∧ ts.length ≤ w ∧ ∀ t ∈ ts, okB w t = true := by
  rw [okB] at h
  simp only [Bool.and_eq_true, decide_eq_true_eq] at h
  exact ⟨h.1.1, h.1.2, fun t m => okAll_mem h.2 m⟩
theorem okB_leaf {w : Nat} {n : List Nat} (h : okB w (leaf n) = true) : 1 ≤ n.length ∧ n.length ≤ 6 ∧ n.all (· < 256) = true := by
  rw [okB] at h
  simp only [Bool.and_eq_true, decide_eq_true_eq] at h
  exact ⟨h.1.1, h.1.2, h.2⟩
/-- a tree's own induction -/
theorem ind {P : Tr → Prop} (hl : ∀ n, P (leaf n)) (hn : ∀ ts, (∀ t ∈ ts, P t) → P (node ts)) : ∀ t, P t
  | leaf n => hl n
  | node ts => hn ts (go ts)
where
  go : ∀ ts : List Tr, ∀ t ∈ ts, P t
    | [], _, h => absurd h (by simp)
    | s :: r, t, h => by
      rcases List.mem_cons.mp h with e | e
      · exact e ▸ ind hl hn s
      · exact go r t e
theorem ends_pos {w : Nat} (t : Tr) : okB w t = true → 1 ≤ ends t := by
  refine ind (P := fun t => okB w t = true → 1 ≤ ends t) (fun n _ => by rw [ends]; exact Nat.le_refl _) (fun ts ih h => ?_) t
  obtain ⟨h2, _, h3⟩ := okB_node h
  cases ts with
  | nil => simp at h2
  | cons s r =>
    have := ih s List.mem_cons_self (h3 s List.mem_cons_self)
    rw [ends, endsAll]; omega
theorem joinL_len : ∀ ys : List (List Nat), ys ≠ [] → (TL.joinL [32] ys).length + 1 = (ys.map fun y => y.length + 1).sum
  | [y], _ => by simp [TL.joinL]
  | y :: z :: r, _ => by
    have := joinL_len (z :: r) (by simp)
    simp only [TL.joinL, List.length_append, List.map_cons, List.sum_cons, List.length_cons, List.length_nil] at this ⊢
    omega
theorem text_len {w : Nat} (t : Tr) : okB w t = true → t.text.length + 4 ≤ 10 * t.ends := by
  refine ind (P := fun t => okB w t = true → t.text.length + 4 ≤ 10 * t.ends) (fun n h => ?_) (fun ts ih h => ?_) t
  · have := okB_leaf h
    rw [text, ends]; omega
  · obtain ⟨h2, _, h3⟩ := okB_node h
    have key : ∀ l : List Tr, (∀ t ∈ l, t.text.length + 4 ≤ 10 * t.ends) → ((textAll l).map fun y => y.length + 1).sum + 3 * l.length ≤ 10 * endsAll l := by
      intro l
      induction l with
      | nil => intro _; simp [textAll, endsAll]
      | cons a r ih2 =>
        intro hh
        have h1 := hh a List.mem_cons_self
        have h2 := ih2 fun t m => hh t (List.mem_cons_of_mem _ m)
        simp only [textAll, endsAll, List.map_cons, List.sum_cons, List.length_cons] at h2 ⊢
        omega
    have k := key ts fun t m => ih t m (h3 t m)
    have j := joinL_len (textAll ts) (by cases ts with | nil => simp at h2 | cons a r => simp [textAll])
    rw [text, ends]
    simp only [List.length_cons, List.length_append, List.length_nil]
    omega
end Tr
/-! ### trees in the heap -/
section
variable {K : PySem.W.Frag} {H : Hp} {v : V}
theorem dp_leaf {n : List Nat} (h : Dp K H v (Tr.leaf n).data) : v = .str (S n) := by
  rw [Tr.data] at h
  cases h; rfl
theorem dp_node {ts : List Tr} (h : Dp K H v (Tr.node ts).data) : ∃ p vs, v = .ref p ∧ SqT K H p vs ∧ DpAll K H vs (Tr.dataAll ts) := by
  rw [Tr.data] at h
  cases h with
  | tup h a => exact ⟨_, _, rfl, h, a⟩
theorem dp_tr_at {vs : List V} {ts : List Tr} {i : Nat} {x : V} (a : DpAll K H vs (Tr.dataAll ts)) (hx : vs[i]? = some x) : ∃ t, ts[i]? = some t ∧ Dp K H x t.data := by
  have hl := dpAll_len a
  rw [Tr.dataAll_len] at hl
  have hi := (List.getElem?_eq_some_iff.mp hx).1
  have e : (Tr.dataAll ts)[i]? = some (ts[i]'(by omega)).data := by rw [Tr.dataAll_map, List.getElem?_map]; simp [show i < ts.length by omega]
  obtain ⟨y, hy, d⟩ := dpAll_get a e
  rw [hx] at hy
  cases hy
  exact ⟨_, by simp [show i < ts.length by omega], d⟩
theorem sqT_mask {l p : Addr} {xs ys : List V} (h : H l = some (.lst xs)) (s : SqT K H p ys) : SqT K (mask l H) p ys := by
  rcases s with (s | ⟨o, s⟩) | s
  · exact .inl (.inl (by rw [mask_ne (fun e => by rw [e, h] at s; cases s)]; exact s))
  · exact .inl (.inr ⟨o, by rw [mask_ne (fun e => by rw [e, h] at s; cases s)]; exact s⟩)
  · exact .inr s
/-- a tree does not lie in a list -/
theorem dp_mask_lst {l : Addr} {xs : List V} (h : H l = some (.lst xs)) (t : Tr) : ∀ v, Dp K H v t.data → Dp K (mask l H) v t.data := by
  refine Tr.ind (P := fun t => ∀ v, Dp K H v t.data → Dp K (mask l H) v t.data) (fun n v d => ?_) (fun ts ih v d => ?_) t
  · obtain rfl := dp_leaf d
    rw [Tr.data]; exact .str _
  · obtain ⟨p, vs, rfl, s, a⟩ := dp_node d
    rw [Tr.data]
    refine .tup (sqT_mask h s) ?_
    clear s d
    induction ts generalizing vs with
    | nil => cases a; exact .nil
    | cons u r ih2 =>
      rw [Tr.dataAll] at a ⊢
      cases a with
      | cons d a => exact .cons (ih u List.mem_cons_self _ d) (ih2 (fun t m => ih t (List.mem_cons_of_mem _ m)) _ a)
theorem ty_leaf {n : List Nat} : kitB (tyN (Tr.leaf n).data) "str" = some true := by rw [Tr.data]; exact kit_str _
theorem ty_node {ts : List Tr} : kitB (tyN (Tr.node ts).data) "str" = some false := by rw [Tr.data]; exact kit_str _
theorem ty_leafT {n : List Nat} : kitB (tyN (Tr.leaf n).data) "tuple" = some false := by rw [Tr.data]; exact kit_tup _
theorem ty_nodeT {ts : List Tr} : kitB (tyN (Tr.node ts).data) "tuple" = some true := by rw [Tr.data]; exact kit_tup _
end
/-! ### comprehensions whose items are known -/
section
variable {K : PySem.W.Frag} {te : TE} {vs : List Nat} {σ : L2.St} {H1 : Hp} {Q : VK} {k : Nat}
theorem lcTy {a : Addr} {xs : List V} (hS : SqT K H1 a xs) (ys : List V) (hl : ys.length = xs.length) (hn : xs.length ≤ sizeLine) (hw : ∀ x, wipe ((wipe σ vs).set k (some x)) vs = wipe σ vs)
    (hs : ∀ (i : Nat) (x y : V) (H : Hp) (Q' : VK), xs[i]? = some x → ys[i]? = some y → Same H1 H → (∀ H4, Same H H4 → Q' y H4) → te ((wipe σ vs).set k (some x)) H Q')
    (hd : ∀ D H', New H1 H' D (.lst ys) → Q (.ref D) H') : LcW (Itt K a) (gName k) tYes te vs Q σ H1 := by
  refine lcTg hS (fun i acc _ => acc = ys.take i) hn rfl (fun i x hx D acc H Q' N hD p q1 q2 => ?_) (fun D acc H' n e => hd D H' (by rw [← hl, List.take_length] at e; exact e ▸ n))
  have hi := (List.getElem?_eq_some_iff.mp hx).1
  have hy : ys[i]? = some (ys[i]'(by omega)) := by simp [show i < ys.length by omega]
  refine ⟨hw _, hs i x _ H Q' hx hy p.same fun H4 s => q1 _ _ s ?_⟩
  show acc ++ [_] = ys.take (i + 1)
  rw [show acc = ys.take i from p.z, List.take_add_one, hy]; rfl
theorem lcLy {a : Addr} {xs : List V} (hS : SqL K H1 a xs) (ys : List V) (hl : ys.length = xs.length) (hn : xs.length ≤ sizeLine) (hw : ∀ x, wipe ((wipe σ vs).set k (some x)) vs = wipe σ vs)
    (hs : ∀ (i : Nat) (x y : V) (H : Hp) (Q' : VK), xs[i]? = some x → ys[i]? = some y → Same H1 H → (∀ H4, Same H H4 → Q' y H4) → te ((wipe σ vs).set k (some x)) H Q')
    (hd : ∀ D H', New H1 H' D (.lst ys) → Q (.ref D) H') : LcW (Itl K a) (gName k) tYes te vs Q σ H1 := by
  refine lcLg hS (fun i acc _ => acc = ys.take i) hn rfl (fun i x hx D acc H Q' N hD p q1 q2 => ?_) (fun D acc H' n e => hd D H' (by rw [← hl, List.take_length] at e; exact e ▸ n))
  have hi := (List.getElem?_eq_some_iff.mp hx).1
  have hy : ys[i]? = some (ys[i]'(by omega)) := by simp [show i < ys.length by omega]
  refine ⟨hw _, hs i x _ H Q' hx hy p.same fun H4 s => q1 _ _ s ?_⟩
  show acc ++ [_] = ys.take (i + 1)
  rw [show acc = ys.take i from p.z, List.take_add_one, hy]; rfl
/-- the items are told by a relation that new objects leave as it is -/
theorem lcRz {lo : Int} {n : Nat} (R : Nat → V → Hp → Prop) (mono : ∀ i y H H', Same H H' → R i y H → R i y H') (hn : n ≤ sizeLine) (hw : ∀ x, wipe ((wipe σ vs).set k (some x)) vs = wipe σ vs)
    (hs : ∀ (i : Nat) (D : Addr) (acc : List V) (H : Hp) (Q' : VK), i < n → H1 D = none → Same H1 H → H D = some (.lst acc) → (∀ y H4, Same H H4 → R i y (mask D H4) → Q' y H4) → te ((wipe σ vs).set k (some (.int (lo + i)))) H Q')
    (hd : ∀ D H' ys, New H1 H' D (.lst ys) → ys.length = n → (∀ i y, ys[i]? = some y → R i y H') → Q (.ref D) H') : LcW (Itr lo n) (gName k) tYes te vs Q σ H1 := by
  refine lcRg (fun i acc H => acc.length = i ∧ ∀ j y, acc[j]? = some y → R j y H) hn ⟨rfl, fun j y h => by simp at h⟩ (fun i hi D acc H Q' N hD p q1 q2 => ?_) (fun D acc H' n e => hd D H' acc n e.1 fun i y h => mono _ _ _ _ mask_same (e.2 i y h))
  refine ⟨hw _, hs i D acc H Q' hi hD p.same p.at_ fun y H4 s r => q1 y H4 s ⟨by rw [List.length_append, p.z.1]; rfl, fun j z h => ?_⟩⟩
  by_cases hj : j < acc.length
  · rw [List.getElem?_append_left hj] at h
    exact mono _ _ _ _ (mask_mono s) (p.z.2 j z h)
  · have e : j = i := by
      have := (List.getElem?_eq_some_iff.mp h).1
      rw [List.length_append] at this
      have := p.z.1
      simp only [List.length_cons, List.length_nil] at *
      omega
    subst e
    rw [List.getElem?_append_right (by omega), p.z.1, Nat.sub_self] at h
    cases h
    exact r
end
theorem range_get {α β : Type} (ts : List α) (f : α → β) : ∀ i : Nat, (ts.map f)[i]? = (ts[i]?).map f := fun i => by rw [List.getElem?_map]
/-- f'..' of some parts -/
def tJoined (ts : List TE) : TE := fun σ H Q => tJs ts Str.empty σ H fun out H1 => Q (.str out) H1
end TD

end
section
open TD L2
/-- what stands at an address -/
local macro_rules | `(tactic| lcg_sub) => `(tactic| first | assumption | exact upd_same | exact New.at_ (by assumption) | (refine New.same (by assumption) _ _ ?_; lcg_sub) | (refine (show Same _ _ from by assumption) _ _ ?_; lcg_sub) | (refine Eq.trans (upd_ne (by first | assumption | exact Ne.symm (by assumption))) ?_; lcg_sub))
/-- a list, a tuple to be read -/
local macro_rules | `(tactic| lcg_src) => `(tactic| first | assumption | exact SqL.of (by lcg_sub) | exact SqT.of (by lcg_sub) | (refine Same.seq (New.same (by assumption)) ?_; lcg_src) | (refine Same.seq (by assumption) ?_; lcg_src) | (refine sameT (New.same (by assumption)) ?_; lcg_src) | (refine sameT (by assumption) ?_; lcg_src))
/-- data at a value -/
local macro_rules | `(tactic| kp_flats) => `(tactic| first | assumption | exact Dp.str _ | exact Dp.int _ | exact Dp.non | exact Dp.bl _ | (refine dp_same (New.same (by assumption)) ?_; kp_flats) | (refine dp_same (by assumption) ?_; kp_flats))
/-- one step of a reading -/
local macro_rules | `(tactic| lcg_off) => `(tactic| first
  | with_reducible refine Stp.go ?_
  | ((with_reducible show tVar _ _ _ _); refine c_var (by rfl) ?_)
  | ((with_reducible show rIxL _ _ _ _ _); refine c_ixL (by lcg_src) (by rfl) ?_)
  | ((with_reducible show rIxT _ _ _ _ _); refine c_ixT (by lcg_src) (by rfl) ?_)
  | ((with_reducible show rSetL _ _ _ _ _); refine c_setL (by lcg_sub) (by rfl) ?_)
  | ((with_reducible show rLenQ _ _ _ _); first | (refine c_lenL (by lcg_src) ?_) | (refine c_lenT (by lcg_src) ?_))
  | ((with_reducible show rSlL _ _ _ _ _ _); refine c_slL (by lcg_src) ?_)
  | ((with_reducible show rListQ _ _ _ _); first | (refine c_listL (by lcg_src) ?_) | (refine c_listT (by lcg_src) ?_))
  | ((with_reducible show rI _ _ _ _ _ _); refine c_IC (by first | assumption | decide | omega) ?_)
  | ((with_reducible show rIsi _ _ _ _); refine c_isi (by kp_flats) (by first | assumption | decide +kernel) ?_)
  | ((with_reducible show rIx _ _ _ _ _); refine c_ix (by first | exact .inl ⟨by lcg_src, by first | assumption | rfl⟩ | exact .inr ⟨by lcg_src, by first | assumption | rfl⟩) ?_)
  | ((with_reducible show NewW _ _ _ _); refine newW ?_)
  | ((with_reducible show rCat _ _ _ _); refine c_cat (by lcg_sub) (by lcg_sub) (le_line (by first | decide | (simp only [List.length_append, List.length_cons, List.length_nil]; omega))) ?_)
  | ((with_reducible show aAddS _ _ _ _); refine c_adds (le_line (by first | decide +kernel | assumption)) ?_)
  | ((with_reducible show rIn _ false _ _ _ _); refine c_inL (by lcg_src) (by rfl) (by rfl) ?_)
  | ((with_reducible show rIn _ true _ _ _ _); refine c_niL (by lcg_src) (by rfl) (by rfl) ?_))
/-- one step, with the new object's names -/
local macro_rules | `(tactic| k_offL) => `(tactic| first | lcg_off | ((with_reducible show ∀ _ _, New _ _ _ _ → _); intro _ _ _))
/-- an error that is held -/
local macro_rules | `(tactic| one_item) => `(tactic| first | assumption | (refine ErrV.same ?_ (New.same (by assumption)); one_item) | (refine ErrV.same ?_ (by assumption); one_item))
/-- nothing was changed -/
local macro_rules | `(tactic| one_place) => `(tactic| first | assumption | exact fun _ _ h => h | exact New.same (by assumption) | (refine Same.trans ?_ (New.same (by assumption)); one_place) | (refine Same.trans ?_ (by assumption); one_place))
/-- what an expression makes, as data -/
local macro_rules | `(tactic| one_sign) => `(tactic| first | exact EvD.str | exact EvD.int | exact EvA.nil | exact EvD.neg | (apply EvA.cons; (focus one_sign); one_sign) | (apply EvD.tup; (focus one_sign); (first | decide | (simp only [List.length_append, List.length_cons, List.length_nil]; omega))) | (apply EvD.var; (focus rfl); kp_flats) | (apply EvL.var; (focus rfl); (focus lcg_sub); assumption) | (apply EvL.lst; (focus one_sign); (first | decide | (simp only [List.length_append, List.length_cons, List.length_nil]; omega))) | (apply EvL.cat; (focus one_sign); (focus one_sign); (first | decide | (simp only [List.length_append, List.length_cons, List.length_nil]; omega))) | (apply EvD.tupOf; one_sign) | (apply EvD.rep; (focus one_sign); (focus simp); (focus decide); (focus decide); decide) | (apply EvL.rep; (focus one_sign); (focus decide); decide) | (apply EvD.adds; (focus one_sign); (focus one_sign); decide +kernel) | exact EvD.non | exact EvD.bl | (apply EvD.ofL; one_sign))
/-- one step, but not into a new list, a new tuple -/
local macro_rules | `(tactic| k_asm) => `(tactic| (fail_if_success (with_reducible show tLst _ _ _ _)); (fail_if_success (with_reducible show tTup _ _ _ _)); (fail_if_success (with_reducible show tOp rCat _ _ _ _ _)); lcg_off)
namespace TD
open PySem PySem.Spec L2 PySem.Calls
open PyProof.Rows hiding St
/-! ### texts by their signs -/
theorem S_len (a : List Nat) : (S a).length = a.length := SX.S_len a
theorem S_cat (a b : List Nat) : S a ++ S b = S (a ++ b) := SX.S_cat a b
theorem S_inj {a b : List Nat} (h : S a = S b) : a = b := SX.S_inj h
theorem S_tl (a : List Nat) : (S a).cps.toList = a := rfl
theorem S_eq (x : Str) : x = S x.cps.toList := (SX.S_tl x).symm
theorem decS (a b : List Nat) : decide (V.str (S a) = V.str (S b)) = decide (a = b) := by
  by_cases h : a = b
  · subst h; simp
  · rw [decide_eq_false h, decide_eq_false]
    intro e; injection e with e; exact h (S_inj e)
theorem join_S (a : List Nat) (ys : List (List Nat)) : Txt.join (S a) (ys.map S) = S (TL.joinL a ys) := SX.join_S a ys
theorem cut_mid (a : List Nat) (i j : Nat) : cutS (S a) (some (i : Int)) (some (j : Int)) = S ((a.drop i).take (j - i)) := by
  unfold cutS
  rw [HT.sIx_nat, HT.sIx_nat, S_len, S_tl]
  refine congrArg S ?_
  by_cases h : i ≤ a.length
  · rw [show min i a.length = i by omega]
    by_cases h2 : j ≤ a.length
    · rw [show min j a.length = j by omega]
    · rw [show min j a.length = a.length by omega, List.take_of_length_le (by rw [List.length_drop]; omega), List.take_of_length_le (by rw [List.length_drop]; omega)]
  · rw [show min i a.length = a.length by omega, List.drop_eq_nil_of_le (Nat.le_refl _), List.drop_eq_nil_of_le (by omega), List.take_nil, List.take_nil]
theorem cut_to (a : List Nat) (j : Nat) : cutS (S a) none (some (j : Int)) = S (a.take j) := by
  have h := SX.slice_to (a := a) (i := (j : Int)) (by omega)
  rw [← C8.cutS_slice] at h
  simpa using h
theorem cut_from (a : List Nat) (i : Nat) : cutS (S a) (some (i : Int)) none = S (a.drop i) := by
  have h := SX.slice_from (a := a) (i := (i : Int)) (by omega)
  rw [← C8.cutS_slice] at h
  simpa using h
theorem atI_S {a : List Nat} {i : Nat} {c : Nat} (h : a[i]? = some c) : atI (S a).cps.toList (i : Int) = some c := by
  have := (List.getElem?_eq_some_iff.mp h).1
  unfold atI ixN
  rw [S_tl, if_pos (by omega), if_pos (by omega)]
  simpa using h
section
variable {K : PySem.W.Frag} {H : Hp} {Q : VK} {a b : List Nat} {i j : Nat} {c : Nat}
theorem c_slS {lo hi : Option Int} {z : Str} (hz : z.length ≤ sizeLine) (q : Q (.str (cutS z lo hi)) H) : rSlS (.str z) lo hi H Q := ⟨z, rfl, hz, q⟩
theorem c_ixS (hz : a.length ≤ sizeLine) (h : a[i]? = some c) (q : Q (.str (S [c])) H) : rIxS (.str (S a)) (.int i) H Q := ⟨S a, i, c, rfl, rfl, by rw [S_len]; exact hz, atI_S h, q⟩
theorem c_inS (q : Q (.bl (decide (c ∈ a))) H) : rInS (.str (S [c])) (.str (S a)) H Q := ⟨c, S a, rfl, rfl, q⟩
theorem c_lenS (hz : a.length ≤ sizeLine) (q : Q (.int a.length) H) : rLenS [.str (S a)] H Q := ⟨S a, rfl, by rw [S_len]; exact hz, by rw [S_len]; exact q⟩
end
/-! ### len and index of a sequence or a text -/
abbrev rLenA (K : PySem.W.Frag) : List V → Hp → VK → Prop := fun xs H Q => rLenQ K xs H Q ∨ rLenS xs H Q
abbrev rIxA (K : PySem.W.Frag) : R2 := fun x y H Q => rIx K x y H Q ∨ rIxS x y H Q
section
variable {X : Cx}
theorem call_lenA : CallR X (.builtin "len") (rLenA X.K) := fun pins s σ H xs us Q I r h => h.elim (fun h => call_len_seq pins s σ H xs us Q I r h) fun h => call_len_str pins s σ H xs us Q I r h
theorem ix_any : IxR X (rIxA X.K) := fun value slice pins s σ H x y v u Q I rx ry h hs => h.elim (fun h => ix_seq value slice pins s σ H x y v u Q I rx ry h hs) fun h => ix_str value slice pins s σ H x y v u Q I rx ry h hs
end
/-! ### a loop over a text -/
section
variable {D : Ends} {σ : L2.St} {H : Hp} {g : TG} {tb : TS} {te : TE} {R : It → Hp → Prop} {Q : VK} {i j : Int}
instance : Stp (iStr te σ H R) (te σ H fun v H1 => ∃ x, v = .str x ∧ R (Its x) H1) := ⟨id⟩
instance : Stp (rAdd (.int i) (.int j) H Q) (Q (.int (i + j)) H) := ⟨fun q => ⟨i, j, rfl, rfl, q⟩⟩
theorem forS (a : List Nat) (Pv : Nat → L2.St → Hp → Prop) (h0 : Pv 0 σ H) (hs : ∀ (i c : Nat) σ H, a[i]? = some c → Pv i σ H → g (.str (S [c])) σ H fun σ2 H2 => tb { D with nx := Pv (i + 1), ct := Pv (i + 1), bk := D.nx } σ2 H2)
    (hd : ∀ σ H, Pv a.length σ H → D.nx σ H) : ∃ x, V.str (S a) = .str x ∧ ForW (Its x) g tb D σ H := by
  refine ⟨S a, rfl, fun i m σ H => m = a.length - i ∧ i ≤ a.length ∧ Pv i σ H, ⟨a.length, by simp, Nat.zero_le _, h0⟩, ?_⟩
  rintro i m σ H ⟨rfl, hi, p⟩
  have e : (S a).cps.size = a.length := by simp [SX.S]
  by_cases hlt : i < a.length
  · refine .inr ⟨by show i < (S a).cps.size; omega, Pv (i + 1), fun σ' H' p' => ⟨a.length - (i + 1), by omega, rfl, hlt, p'⟩, fun x H' y => ?_⟩
    obtain ⟨e1, c, hc, rfl⟩ := y
    subst e1
    exact hs i c σ _ (by simpa [SX.S] using hc) p
  · have e2 : i = a.length := by omega
    subst e2
    exact .inl ⟨by show (S a).cps.size ≤ a.length; omega, hd σ H p⟩
end
/-! ### a text some times -/
abbrev aMulS : R2 := fun x y H Q => ∃ a n, x = .str a ∧ y = .int n ∧ MulOk a n ∧ Q (.str (Txt.mul a n)) H
theorem op_mul_str {X : Cx} : OpR X (binaryOp .Mult) aMulS := by
  intro pins s σ H x y v u Q I rx ry h
  obtain ⟨a, n, rfl, rfl, hz, q⟩ := h
  obtain ⟨t, rfl⟩ := rx
  obtain ⟨t', rfl⟩ := ry
  exact SB.mul hz fun t' k => ⟨.str _, H, I.tok _, ⟨_, rfl⟩, q⟩
theorem foldl_app (a : List Nat) : ∀ (n : Nat) (b : List Nat), (List.replicate n a.toArray).foldl (· ++ ·) b.toArray = (b ++ (List.replicate n a).flatten).toArray
  | 0, b => by simp
  | n + 1, b => by
    rw [List.replicate_succ, List.foldl_cons, List.append_toArray, foldl_app a n (b ++ a), List.replicate_succ, List.flatten_cons, List.append_assoc]
theorem mul_S (a : List Nat) (n : Nat) (hn : 2 ≤ n) (ha : a ≠ []) : Txt.mul (S a) (n : Int) = S (List.replicate n a).flatten := by
  unfold Txt.mul
  have h1 : ¬ ((n : Int) < 1) := by omega
  have h2 : ((n : Int) == 1 || (S a).length == 0) = false := by
    have h3 : a.length ≠ 0 := fun e => ha (List.length_eq_zero_iff.mp e)
    rw [S_len]
    simp only [Bool.or_eq_false_iff, beq_eq_false_iff_ne, ne_eq]
    exact ⟨by omega, h3⟩
  rw [if_neg h1, h2, if_neg Bool.false_ne_true]
  have := foldl_app a n []
  rw [List.nil_append] at this
  show (⟨(List.replicate n a.toArray).foldl (· ++ ·) #[]⟩ : Str) = ⟨(List.replicate n a).flatten.toArray⟩
  rw [← this]
end TD

end
section
open TD L2
/-- what stands at an address -/
local macro_rules | `(tactic| lcg_sub) => `(tactic| first | assumption | exact upd_same | exact New.at_ (by assumption) | (refine New.same (by assumption) _ _ ?_; lcg_sub) | (refine (show Same _ _ from by assumption) _ _ ?_; lcg_sub) | (refine Eq.trans (upd_ne (by first | assumption | exact Ne.symm (by assumption))) ?_; lcg_sub))
/-- a list, a tuple to be read -/
local macro_rules | `(tactic| lcg_src) => `(tactic| first | assumption | exact SqL.of (by lcg_sub) | exact SqT.of (by lcg_sub) | (refine Same.seq (New.same (by assumption)) ?_; lcg_src) | (refine Same.seq (by assumption) ?_; lcg_src) | (refine sameT (New.same (by assumption)) ?_; lcg_src) | (refine sameT (by assumption) ?_; lcg_src))
/-- data at a value -/
local macro_rules | `(tactic| kp_flats) => `(tactic| first | assumption | exact Dp.str _ | exact Dp.int _ | exact Dp.non | exact Dp.bl _ | (refine dp_same (New.same (by assumption)) ?_; kp_flats) | (refine dp_same (by assumption) ?_; kp_flats))
/-- one step of a reading -/
local macro_rules | `(tactic| lcg_off) => `(tactic| first
  | with_reducible refine Stp.go ?_
  | ((with_reducible show tVar _ _ _ _); refine c_var (by rfl) ?_)
  | ((with_reducible show rIxL _ _ _ _ _); refine c_ixL (by lcg_src) (by rfl) ?_)
  | ((with_reducible show rIxT _ _ _ _ _); refine c_ixT (by lcg_src) (by rfl) ?_)
  | ((with_reducible show rSetL _ _ _ _ _); refine c_setL (by lcg_sub) (by rfl) ?_)
  | ((with_reducible show rLenQ _ _ _ _); first | (refine c_lenL (by lcg_src) ?_) | (refine c_lenT (by lcg_src) ?_))
  | ((with_reducible show rSlL _ _ _ _ _ _); refine c_slL (by lcg_src) ?_)
  | ((with_reducible show rListQ _ _ _ _); first | (refine c_listL (by lcg_src) ?_) | (refine c_listT (by lcg_src) ?_))
  | ((with_reducible show rI _ _ _ _ _ _); refine c_IC (by first | assumption | decide | omega) ?_)
  | ((with_reducible show rIsi _ _ _ _); refine c_isi (by kp_flats) (by first | assumption | decide +kernel) ?_)
  | ((with_reducible show rIx _ _ _ _ _); refine c_ix (by first | exact .inl ⟨by lcg_src, by first | assumption | rfl⟩ | exact .inr ⟨by lcg_src, by first | assumption | rfl⟩) ?_)
  | ((with_reducible show NewW _ _ _ _); refine newW ?_)
  | ((with_reducible show rCat _ _ _ _); refine c_cat (by lcg_sub) (by lcg_sub) (le_line (by first | decide | (simp only [List.length_append, List.length_cons, List.length_nil]; omega))) ?_)
  | ((with_reducible show aAddS _ _ _ _); refine c_adds (le_line (by first | decide +kernel | assumption)) ?_)
  | ((with_reducible show rIn _ false _ _ _ _); refine c_inL (by lcg_src) (by rfl) (by rfl) ?_)
  | ((with_reducible show rIn _ true _ _ _ _); refine c_niL (by lcg_src) (by rfl) (by rfl) ?_))
/-- one step, with the new object's names -/
local macro_rules | `(tactic| k_offL) => `(tactic| first | lcg_off | ((with_reducible show ∀ _ _, New _ _ _ _ → _); intro _ _ _))
/-- an error that is held -/
local macro_rules | `(tactic| one_item) => `(tactic| first | assumption | (refine ErrV.same ?_ (New.same (by assumption)); one_item) | (refine ErrV.same ?_ (by assumption); one_item))
/-- nothing was changed -/
local macro_rules | `(tactic| one_place) => `(tactic| first | assumption | exact fun _ _ h => h | exact New.same (by assumption) | (refine Same.trans ?_ (New.same (by assumption)); one_place) | (refine Same.trans ?_ (by assumption); one_place))
/-- what an expression makes, as data -/
local macro_rules | `(tactic| one_sign) => `(tactic| first | exact EvD.str | exact EvD.int | exact EvA.nil | exact EvD.neg | (apply EvA.cons; (focus one_sign); one_sign) | (apply EvD.tup; (focus one_sign); (first | decide | (simp only [List.length_append, List.length_cons, List.length_nil]; omega))) | (apply EvD.var; (focus rfl); kp_flats) | (apply EvL.var; (focus rfl); (focus lcg_sub); assumption) | (apply EvL.lst; (focus one_sign); (first | decide | (simp only [List.length_append, List.length_cons, List.length_nil]; omega))) | (apply EvL.cat; (focus one_sign); (focus one_sign); (first | decide | (simp only [List.length_append, List.length_cons, List.length_nil]; omega))) | (apply EvD.tupOf; one_sign) | (apply EvD.rep; (focus one_sign); (focus simp); (focus decide); (focus decide); decide) | (apply EvL.rep; (focus one_sign); (focus decide); decide) | (apply EvD.adds; (focus one_sign); (focus one_sign); decide +kernel) | exact EvD.non | exact EvD.bl | (apply EvD.ofL; one_sign))
/-- one step, but not into a new list, a new tuple -/
local macro_rules | `(tactic| k_asm) => `(tactic| (fail_if_success (with_reducible show tLst _ _ _ _)); (fail_if_success (with_reducible show tTup _ _ _ _)); (fail_if_success (with_reducible show tOp rCat _ _ _ _ _)); lcg_off)
namespace TD
open PySem PySem.Spec L2 PySem.Calls PySem.W
open PyProof.Rows hiding St
/-! ### a, *b = a tuple; *a, b = a list: one star -/
section
variable {prog : Program} {w : World} {A : Around} {E : Value → Shared → Prop} {s : Shared}
theorem star_tup {l : Addr} {items : Array Value} {n i : Nat} {Q : List Value → Shared → Prop} (hl : IsTup s.heap l items) (hh : A.handled = none) (hi : i < n) (hn : n ≤ items.size + 1) (hz : items.size ≤ sizeLine)
    (h : ∀ (h2 : Heap) (tk : Tok), (∀ b o, s.heap.get? b = some o → h2.get? b = some o) → Q (items.toList.take i ++ [.ref h2.objs.size] ++ (items.toList.drop i).drop (items.size + 1 - n)) { s with heap := h2.push { cls := .type "list", data := .seq ((items.toList.drop i).take (items.size + 1 - n)).toArray }, toks := tk }) :
    wpAny (model prog w) A (unpackItems (.ref l) n (some i)) Q E s := by
  have nl : l ≠ s.heap.objs.size := by obtain ⟨o, e, _⟩ := hl; exact Nat.ne_of_lt (Heap.lt_size e)
  unfold unpackItems
  refine wpAny_bind (?_ : wpAny _ _ (notIterableAtAll _) _ _ _)
  unfold notIterableAtAll
  refine wpAny_bind (wpAny_specialOf hl.typeIs slot_tuple_iter.lookup (wpAny_pure ?_))
  simp only [Bool.false_eq_true, if_false]
  refine wpAny_bind (wpAny_holding (iter_tuple hl (wpAny_bind (wpAny_holding (draw_tuple nl i 0 _ _ ⟨_, Heap.get?_push_size _ rfl, rfl, rfl⟩ (hl.push _) (by omega) fun h1 t1 s1 => ?_)))))
  have e1 : IsTup h1 l items := (hl.push _).extBut s1.extBut nl
  rw [Nat.zero_add] at t1
  obtain ⟨oi, hoi, _⟩ := id t1
  obtain ⟨ol, hol, _⟩ := id e1
  rw [List.drop_zero]
  have f1 : (items.toList.take i).length = i := by rw [List.length_take, Array.length_toList]; omega
  have f2 : (items.toList.drop i).length = items.size - i := by rw [List.length_drop, Array.length_toList]
  rw [if_neg (show ¬ ((items.toList.take i).length < i) by omega)]
  refine wpAny_bind (wpAny_holding (kun_collect (s := { s with heap := h1 }) (T := "tuple_iterator") (.inr (.inr (.inr rfl))) (Walks.tuple (A := A.in1) hh s.heap.objs.size l nl items) (fun j u st => st.1.typeIs) (k := i) (by omega) ⟨t1, e1⟩ (Heap.lt_size hoi) (Heap.lt_size hol) (fun h2 tk hk => ?_) hz))
  have f3 : (items.toList.drop i).length - (n - 1 - i) = items.size + 1 - n := by omega
  show wpAny _ _ (if (items.toList.drop i).length < n - 1 - i then _ else _) _ _ _
  rw [if_neg (by omega)]
  refine wpAny_bind (m := newList _) ?_
  rw [f3]
  refine wpAny_newList (wpAny_pure (h h2 tk fun b o e => ?_)) ?_
  · have nb : b ≠ s.heap.objs.size := Nat.ne_of_lt (Heap.lt_size e)
    exact hk b o nb (s1.extBut b o nb (Heap.get?_push_of_some _ e))
  · rw [List.length_take]; omega
theorem star_lst {l : Addr} {items : Array Value} {n i : Nat} {Q : List Value → Shared → Prop} (hl : s.heap.IsList l items) (hh : A.handled = none) (hi : i < n) (hn : n ≤ items.size + 1) (hz : items.size ≤ sizeLine)
    (h : ∀ (h2 : Heap) (tk : Tok), (∀ b o, s.heap.get? b = some o → h2.get? b = some o) → Q (items.toList.take i ++ [.ref h2.objs.size] ++ (items.toList.drop i).drop (items.size + 1 - n)) { s with heap := h2.push { cls := .type "list", data := .seq ((items.toList.drop i).take (items.size + 1 - n)).toArray }, toks := tk }) :
    wpAny (model prog w) A (unpackItems (.ref l) n (some i)) Q E s := by
  have nl : l ≠ s.heap.objs.size := by obtain ⟨o, e, _⟩ := hl; exact Nat.ne_of_lt (Heap.lt_size e)
  unfold unpackItems
  refine wpAny_bind (?_ : wpAny _ _ (notIterableAtAll _) _ _ _)
  unfold notIterableAtAll
  refine wpAny_bind (wpAny_specialOf hl.typeIs slot_list_iter.lookup (wpAny_pure ?_))
  simp only [Bool.false_eq_true, if_false]
  refine wpAny_bind (wpAny_holding (wpAny_pyIter_list hl (wpAny_bind (wpAny_holding (kun_draw nl i 0 _ _ ⟨_, Heap.get?_push_size _ rfl, rfl, rfl⟩ (hl.push _) (by omega) fun h1 t1 s1 => ?_)))))
  have e1 : h1.IsList l items := (hl.push _).extBut s1.extBut nl
  rw [Nat.zero_add] at t1
  obtain ⟨oi, hoi, _⟩ := id t1
  obtain ⟨ol, hol, _⟩ := id e1
  rw [List.drop_zero]
  have f1 : (items.toList.take i).length = i := by rw [List.length_take, Array.length_toList]; omega
  have f2 : (items.toList.drop i).length = items.size - i := by rw [List.length_drop, Array.length_toList]
  rw [if_neg (show ¬ ((items.toList.take i).length < i) by omega)]
  refine wpAny_bind (wpAny_holding (kun_collect (s := { s with heap := h1 }) (T := "list_iterator") (.inr (.inr (.inl rfl))) (Walks.list (A := A.in1) hh s.heap.objs.size l nl items) (fun j u st => st.1.typeIs) (k := i) (by omega) ⟨t1, e1⟩ (Heap.lt_size hoi) (Heap.lt_size hol) (fun h2 tk hk => ?_) hz))
  have f3 : (items.toList.drop i).length - (n - 1 - i) = items.size + 1 - n := by omega
  show wpAny _ _ (if (items.toList.drop i).length < n - 1 - i then _ else _) _ _ _
  rw [if_neg (by omega)]
  refine wpAny_bind (m := newList _) ?_
  rw [f3]
  refine wpAny_newList (wpAny_pure (h h2 tk fun b o e => ?_)) ?_
  · have nb : b ≠ s.heap.objs.size := Nat.ne_of_lt (Heap.lt_size e)
    exact hk b o nb (s1.extBut b o nb (Heap.get?_push_of_some _ e))
  · rw [List.length_take]; omega
end
section
variable {X : Cx} {pos : Pos}
/-- (.., *m, ..) = a tuple, a list: n names, the star at i -/
def gStar (K : PySem.W.Frag) (n i : Nat) (t : TGs) : TG := fun v σ H Q => ∃ a xs, v = .ref a ∧ (SqT K H a xs ∨ SqL K H a xs) ∧ n ≤ xs.length + 1 ∧ ∀ p H1, New H H1 p (.lst ((xs.drop i).take (xs.length + 1 - n))) → t (xs.take i ++ [.ref p] ++ (xs.drop i).drop (xs.length + 1 - n)) σ H1 Q
theorem pg_star {es : List Expr} {k : Nat} {t : TGs} {n i : Nat} (hc : X.calm = true) (h : PGs X es t) (hi : i < n := by decide)
    (hn : (assignEach es X.env).length = n := by rfl) (hst : (assignEach es X.env).findIdx? (·.1) = some i := by rfl) : PG X (.Tuple es k pos) (gStar X.K n i t) := by
  refine ⟨fun pins s σ H v u Q I r hw => ?_⟩
  obtain ⟨a, xs, rfl, hq, hl, hw⟩ := hw
  cases r
  rw [PyProof.Rows.assign_Tuple]
  refine wpAny_bind (wpAny_standAt ?_)
  unfold unpack
  rw [hn, hst]
  have fin : ∀ its : List Value, Vals xs its → ∀ (h2 : Heap) (tk : Tok), xs.length ≤ sizeLine → (∀ b o, s.heap.get? b = some o → h2.get? b = some o) →
      wpAny (model X.prog X.w) X.A (assignInOrder ((assignEach es X.env).map (·.2)) (its.toArray.toList.take i ++ [.ref h2.objs.size] ++ (its.toArray.toList.drop i).drop (its.toArray.size + 1 - n))) (fun _ s' => ∃ σ' H', Inv X pins σ' H' s' ∧ Q σ' H') X.xe
        { s with heap := h2.push { cls := .type "list", data := .seq ((its.toArray.toList.drop i).take (its.toArray.size + 1 - n)).toArray }, toks := tk } := fun its rv h2 tk hz kp => by
    have I1 : Inv X pins σ H { s with heap := h2, toks := tk } := I.kept kp
    have hf : H h2.objs.size = none := I1.hok.fresh (Nat.le_refl _)
    have el : its.toArray.size = xs.length := by rw [List.size_toArray]; exact rv.length.symm
    rw [el]
    have I2 := I1.laid (a := h2.objs.size) (o := .lst ((xs.drop i).take (xs.length + 1 - n))) (t' := tk) (h' := h2.push { cls := .type "list", data := .seq ((its.drop i).take (xs.length + 1 - n)).toArray }) (fun b u e => Heap.get?_push_of_some _ e) (Nat.le_refl _)
      ⟨by rw [List.length_take]; omega, _, _, (rv.drop i).take _, Heap.get?_push_size _ rfl⟩
    exact h.run pins _ σ _ _ _ Q I2 (((rv.take i).append (.cons (show RelV (.ref h2.objs.size) (.ref h2.objs.size) from rfl) .nil)).append ((rv.drop i).drop _)) (hw _ _ (new_upd hf))
  rcases hq with hq | hq
  · obtain ⟨its, rv, ht, hz⟩ := I.tuple hq
    have el : its.toArray.size = xs.length := by rw [List.size_toArray]; exact rv.length.symm
    exact wpAny_bind (wpAny_holding (star_tup ht (I.ok.hd hc) hi (by omega) (by omega) fun h2 tk kp => fin its rv h2 tk hz kp))
  · obtain ⟨its, rv, pl, hz⟩ := I.list hq
    have hl' : s.heap.IsList a its.toArray := by
      obtain ⟨o, m, e, c, d, q⟩ := pl
      exact ⟨o, e, c, m, q⟩
    have el : its.toArray.size = xs.length := by rw [List.size_toArray]; exact rv.length.symm
    exact wpAny_bind (wpAny_holding (star_lst hl' (I.ok.hd hc) hi (by omega) (by omega) fun h2 tk kp => fin its rv h2 tk hz kp))
/-- a starred target in such a row -/
theorem pgs_star {e : Expr} {es : List Expr} {t : TG} {u : TGs} {p : Pos} (h1 : PG X e t) (h2 : PGs X es u) : PGs X (.Starred e p :: es) (gCons t u) := by
  refine ⟨fun pins s σ H vs us Q I r h => ?_⟩
  obtain ⟨v, vr, rfl, h⟩ := h
  cases r with
  | cons r rr =>
    show wpAny _ _ (assignInOrder (assign e X.env :: (assignEach es X.env).map (·.2)) _) _ _ _
    refine assignInOrder_cons (thn (h1.run pins s σ H _ _ _ I r h) fun _ s1 ⟨σ1, H1, I1, q1⟩ => ?_)
    exact h2.run pins s1 σ1 H1 _ _ Q I1 rr q1
end
/-! ### match -/
section
variable {X : Cx}
/-- the cases of a match, by the subject's value -/
structure PM (X : Cx) (cs : List MatchCase) (t : V → TS) : Prop where
  run : ∀ (first : Bool) (pins : List (Addr × Obj)) (s : Shared) (σ : L2.St) (H : Hp) (x : V) (u : Value) (D : Ends), Inv X pins σ H s → RelV x u → t x D σ H → wpAny (model X.prog X.w) X.A (matchCases cs X.env u first) (SP X pins D) X.xe s
def tMatch (te : TE) (tm : V → TS) : TS := fun D σ H => te σ H fun x H1 => tm x D σ H1
theorem ps_match {subject : Expr} {cs : List MatchCase} {pos : Pos} {te : TE} {tm : V → TS} (he : PE X subject te) (hm : PM X cs tm) : PS X (.Match subject cs pos) (tMatch te tm) :=
  ⟨fun pins s σ H D I h => wpAny_Match (thn (he.run pins s σ H _ I h) fun u s1 ⟨x, H1, I1, r1, q1⟩ => hm.run true pins s1 σ H1 x u D I1 r1 q1)⟩
def mNil : V → TS := fun _ => tNext
theorem pm_nil : PM X [] mNil := ⟨fun _ _ _ σ H _ _ _ I _ h => wpAny_matchCases_nil ⟨σ, H, I, h⟩⟩
/-- case "z": -/
def mStr (z : Str) (t : TS) (m : V → TS) : V → TS := fun x D σ H => ∃ y, x = .str y ∧ if decide (y = z) = true then t D σ H else m x D σ H
theorem pm_str {z : Str} {p p' : Pos} {body : List Stmt} {rest : List MatchCase} {t : TS} {m : V → TS} {jj : _} (hb : PSs X body t) (hr : PM X rest m) : PM X (⟨.MatchValue (.Constant (.str z) jj p) p', none, body⟩ :: rest) (mStr z t m) := by
  refine ⟨fun first pins s σ H x u D I r h => ?_⟩
  obtain ⟨y, rfl, h⟩ := h
  obtain ⟨t, rfl⟩ := r
  refine wpAny_matchCases_cons (wpAny_matchPattern_Value (Calls.Constant_str (PyProof.Rows.eq_str (wpAny_truthy_bool ?_))))
  have e : (y == z) = decide (y = z) := Bool.beq_eq_decide_eq y z
  have I1 := I.tok (s.toks + 1)
  rw [← e] at h
  cases q : (y == z) with
  | true =>
    rw [q, if_pos rfl] at h
    exact wpAny_pure (hb.run pins _ σ H D I1 h)
  | false =>
    rw [q, if_neg Bool.false_ne_true] at h
    exact hr.run false pins _ σ H (.str y) _ D I1 ⟨t, rfl⟩ h
/-- case _: -/
def mAny (t : TS) : V → TS := fun _ => t
theorem pm_any {p : Pos} {body : List Stmt} {rest : List MatchCase} {t : TS} (hb : PSs X body t) : PM X (⟨.MatchAs none none p, none, body⟩ :: rest) (mAny t) :=
  ⟨fun first pins s σ H x u D I r h => wpAny_matchCases_cons (wpAny_matchPattern_Capture (wpAny_pure (hb.run pins _ σ H D I h)))⟩
end
section
variable {D : Ends} {σ : L2.St} {H : Hp} {te : TE} {m : V → TS} {z y : Str} {t : TS} {x : V}
instance : Stp (tMatch te m D σ H) (te σ H fun x H1 => m x D σ H1) := ⟨id⟩
instance : Stp (mStr z t m (.str y) D σ H) (if decide (y = z) = true then t D σ H else m (.str y) D σ H) := ⟨fun h => ⟨y, rfl, h⟩⟩
instance : Stp (mAny t x D σ H) (t D σ H) := ⟨id⟩
instance : Stp (mNil x D σ H) (D.nx σ H) := ⟨id⟩
end
end TD

end
section
open TD L2
/-- what stands at an address -/
local macro_rules | `(tactic| lcg_sub) => `(tactic| first | assumption | exact upd_same | exact New.at_ (by assumption) | (refine New.same (by assumption) _ _ ?_; lcg_sub) | (refine (show Same _ _ from by assumption) _ _ ?_; lcg_sub) | (refine Eq.trans (upd_ne (by first | assumption | exact Ne.symm (by assumption))) ?_; lcg_sub))
/-- a list, a tuple to be read -/
local macro_rules | `(tactic| lcg_src) => `(tactic| first | assumption | exact SqL.of (by lcg_sub) | exact SqT.of (by lcg_sub) | (refine Same.seq (New.same (by assumption)) ?_; lcg_src) | (refine Same.seq (by assumption) ?_; lcg_src) | (refine sameT (New.same (by assumption)) ?_; lcg_src) | (refine sameT (by assumption) ?_; lcg_src))
/-- data at a value -/
local macro_rules | `(tactic| kp_flats) => `(tactic| first | assumption | exact Dp.str _ | exact Dp.int _ | exact Dp.non | exact Dp.bl _ | (refine dp_same (New.same (by assumption)) ?_; kp_flats) | (refine dp_same (by assumption) ?_; kp_flats))
/-- one step of a reading -/
local macro_rules | `(tactic| lcg_off) => `(tactic| first
  | with_reducible refine Stp.go ?_
  | ((with_reducible show tVar _ _ _ _); refine c_var (by rfl) ?_)
  | ((with_reducible show rIxL _ _ _ _ _); refine c_ixL (by lcg_src) (by rfl) ?_)
  | ((with_reducible show rIxT _ _ _ _ _); refine c_ixT (by lcg_src) (by rfl) ?_)
  | ((with_reducible show rSetL _ _ _ _ _); refine c_setL (by lcg_sub) (by rfl) ?_)
  | ((with_reducible show rLenQ _ _ _ _); first | (refine c_lenL (by lcg_src) ?_) | (refine c_lenT (by lcg_src) ?_))
  | ((with_reducible show rSlL _ _ _ _ _ _); refine c_slL (by lcg_src) ?_)
  | ((with_reducible show rListQ _ _ _ _); first | (refine c_listL (by lcg_src) ?_) | (refine c_listT (by lcg_src) ?_))
  | ((with_reducible show rI _ _ _ _ _ _); refine c_IC (by first | assumption | decide | omega) ?_)
  | ((with_reducible show rIsi _ _ _ _); refine c_isi (by kp_flats) (by first | assumption | decide +kernel) ?_)
  | ((with_reducible show rIx _ _ _ _ _); refine c_ix (by first | exact .inl ⟨by lcg_src, by first | assumption | rfl⟩ | exact .inr ⟨by lcg_src, by first | assumption | rfl⟩) ?_)
  | ((with_reducible show NewW _ _ _ _); refine newW ?_)
  | ((with_reducible show rCat _ _ _ _); refine c_cat (by lcg_sub) (by lcg_sub) (le_line (by first | decide | (simp only [List.length_append, List.length_cons, List.length_nil]; omega))) ?_)
  | ((with_reducible show aAddS _ _ _ _); refine c_adds (le_line (by first | decide +kernel | assumption)) ?_)
  | ((with_reducible show rIn _ false _ _ _ _); refine c_inL (by lcg_src) (by rfl) (by rfl) ?_)
  | ((with_reducible show rIn _ true _ _ _ _); refine c_niL (by lcg_src) (by rfl) (by rfl) ?_))
/-- one step, with the new object's names -/
local macro_rules | `(tactic| k_offL) => `(tactic| first | lcg_off | ((with_reducible show ∀ _ _, New _ _ _ _ → _); intro _ _ _))
/-- an error that is held -/
local macro_rules | `(tactic| one_item) => `(tactic| first | assumption | (refine ErrV.same ?_ (New.same (by assumption)); one_item) | (refine ErrV.same ?_ (by assumption); one_item))
/-- nothing was changed -/
local macro_rules | `(tactic| one_place) => `(tactic| first | assumption | exact fun _ _ h => h | exact New.same (by assumption) | (refine Same.trans ?_ (New.same (by assumption)); one_place) | (refine Same.trans ?_ (by assumption); one_place))
/-- what an expression makes, as data -/
local macro_rules | `(tactic| one_sign) => `(tactic| first | exact EvD.str | exact EvD.int | exact EvA.nil | exact EvD.neg | (apply EvA.cons; (focus one_sign); one_sign) | (apply EvD.tup; (focus one_sign); (first | decide | (simp only [List.length_append, List.length_cons, List.length_nil]; omega))) | (apply EvD.var; (focus rfl); kp_flats) | (apply EvL.var; (focus rfl); (focus lcg_sub); assumption) | (apply EvL.lst; (focus one_sign); (first | decide | (simp only [List.length_append, List.length_cons, List.length_nil]; omega))) | (apply EvL.cat; (focus one_sign); (focus one_sign); (first | decide | (simp only [List.length_append, List.length_cons, List.length_nil]; omega))) | (apply EvD.tupOf; one_sign) | (apply EvD.rep; (focus one_sign); (focus simp); (focus decide); (focus decide); decide) | (apply EvL.rep; (focus one_sign); (focus decide); decide) | (apply EvD.adds; (focus one_sign); (focus one_sign); decide +kernel) | exact EvD.non | exact EvD.bl | (apply EvD.ofL; one_sign))
/-- one step, but not into a new list, a new tuple -/
local macro_rules | `(tactic| k_asm) => `(tactic| (fail_if_success (with_reducible show tLst _ _ _ _)); (fail_if_success (with_reducible show tTup _ _ _ _)); (fail_if_success (with_reducible show tOp rCat _ _ _ _ _)); lcg_off)
namespace TD
open PySem PySem.Spec L2 PySem.Calls
open PyProof.Rows hiding St
/-! ### objects: methods, making, fields -/
section
variable {X : Cx} {C m x : Str} {k j : Nat} {ps : List Str} {sp : Sp} {E : XK} {o e : Expr} {es : List Expr} {to : TE} {ta : TA} {p pos apos : Pos}
theorem pe_okM {pl : Sem Bool} (c : Cls X.K (He.ga X.K C)) (F : OkM X.prog X.w X.K X.mg X.base k C m ps sp) (hr : Room j X.A) (hj : k ≤ j) (he : PE X o to) (hx : Passes (L2.CX X.prog X.w) X E) (ha : PA X (e :: es) ta)
    (hst : starEach (e :: es) X.env = (false, eval e X.env) :: starEach es X.env := by rfl) (hpl : (backTo pos (starEach es X.env)).any (·.1) = false := by rfl)
    (ht : eval (.Call (.Attribute o m apos) (e :: es) [] pos) X.env = (do
      let ov ← eval o X.env
      standAt apos.atName
      let (f, first) ← holding [ov] (getMethod ov m pl)
      callWith pos f first (backTo pos (starEach (e :: es) X.env)) (backToKw pos (keywordEach [] X.env))) := by rfl) :
    PE X (.Call (.Attribute o m apos) (e :: es) [] pos) (tMeth (He.ga X.K C) m sp [] E to ta) := by
  obtain ⟨⟨fd, F1, hb⟩, hm⟩ := F
  exact pe_meth (pl := pl) he c hm F1 (hr.mono hj) hb .nil hx ha hst hpl ht
theorem pe_okM0 {pl : Sem Bool} (c : Cls X.K (He.ga X.K C)) (F : OkM X.prog X.w X.K X.mg X.base k C m ps sp) (hr : Room j X.A) (hj : k ≤ j) (he : PE X o to) (hx : Passes (L2.CX X.prog X.w) X E)
    (ht : eval (.Call (.Attribute o m apos) [] [] pos) X.env = (do
      let ov ← eval o X.env
      standAt apos.atName
      let (f, first) ← holding [ov] (getMethod ov m pl)
      callWith pos f first (backTo pos (starEach [] X.env)) (backToKw pos (keywordEach [] X.env))) := by rfl) :
    PE X (.Call (.Attribute o m apos) [] [] pos) (tMeth (He.ga X.K C) m sp [] E to tNil) := by
  obtain ⟨⟨fd, F1, hb⟩, hm⟩ := F
  exact pe_meth0 (pl := pl) he c hm F1 (hr.mono hj) hb .nil hx ht
/-- a class with its __init__ -/
structure OkC (P : Program) (w : World) (K : PySem.W.Frag) (mg : Str → Option Value) (base : Heap) (k : Nat) (C : Str) (ps : List Str) (sp : Sp) : Prop where
  mkr : Mk K (He.ga K C) (He.ma K (He.ga K C) "__init__")
  ok : ∃ fd, FnOk P w K mg base (L2.CX P w) k (He.ma K (He.ga K C) "__init__") fd ps sp ∧ Binds K fd ps []
  at_ : mg C = some (.ref (He.ga K C))
theorem pe_okC (F : OkC X.prog X.w X.K X.mg X.base k x ps sp) (hr : Room j X.A) (hj : k + 1 ≤ j) (hg : Gl X x) (hx : Passes (L2.CX X.prog X.w) X E) (ha : PA X (e :: es) ta) (hdb : (x == ("__debug__" : Str)) = false := by decide)
    (he : starEach (e :: es) X.env = (false, eval e X.env) :: starEach es X.env := by rfl) (hpl : (backTo pos (starEach es X.env)).any (·.1) = false := by rfl) : PE X (.Call (.Name x p) (e :: es) [] pos) (tMake (He.ga X.K x) sp [] E ta) := by
  obtain ⟨M, ⟨fd, F1, hb⟩, hm⟩ := F
  exact pe_make M F1 (hr.mono hj) hg hm hb .nil hx ha hdb he hpl
theorem pe_okC0 (F : OkC X.prog X.w X.K X.mg X.base k x ps sp) (hr : Room j X.A) (hj : k + 1 ≤ j) (hg : Gl X x) (hx : Passes (L2.CX X.prog X.w) X E) (hdb : (x == ("__debug__" : Str)) = false := by decide) : PE X (.Call (.Name x p) [] [] pos) (tMake (He.ga X.K x) sp [] E tNil) := by
  obtain ⟨M, ⟨fd, F1, hb⟩, hm⟩ := F
  exact pe_make0 M F1 (hr.mono hj) hg hm hb .nil hx hdb
theorem okM_of {P : Program} {w : World} {K : PySem.W.Frag} {mg : Str → Option Value} {base : Heap} {k : Nat} {C m q : Str} {ar : Arguments} {bd : List Stmt} {sc : Scope} {N ps : List Str} {sp : Sp} (F : ∃ fd, FunD K m q ar bd sc [] [] (He.ma K (He.ga K C) m) fd) (S : FnScope N ps sc)
    (hm : Meth K (He.ga K C) m (He.ma K (He.ga K C) m)) (hb : ∀ (kV doc pm : Value) (an : Option Addr) (cdv ct : Value) (us : List Value), us.length = ps.length → bindArgs (PySem.W.fnOf m q ar bd sc .none kV doc pm an cdv ct) ⟨us, []⟩ = pure (ps.zip us))
    (len : ∀ vs H Q E, sp vs H Q E → vs.length = ps.length)
    (body : ∀ (cdv : Value) (A : Around) (outer : List Env) (s : Shared) (H : Hp) (vs : List V) (Q : VK) (E : XK), Room k (A.deeper (envOfC q sc s.heap.objs.size (He.ma K (He.ga K C) m) cdv)) → sp vs H Q E →
      ∃ t, PSs (cxOf (L2.CX P w) P w K mg base N q sc (He.ma K (He.ga K C) m) cdv A outer s H E) bd t ∧ t { nx := fun _ H' => Q .non H', rt := Q } (start N vs) H) : OkM P w K mg base (k + 1) C m ps sp := by
  obtain ⟨fd, F⟩ := F
  exact ⟨⟨fd, F.ok S len body, F.bindsN hb⟩, hm⟩
theorem okC_of {P : Program} {w : World} {K : PySem.W.Frag} {mg : Str → Option Value} {base : Heap} {k : Nat} {C q : Str} {ar : Arguments} {bd : List Stmt} {sc : Scope} {N ps : List Str} {sp : Sp} (F : ∃ fd, FunD K "__init__" q ar bd sc [] [] (He.ma K (He.ga K C) "__init__") fd) (S : FnScope N ps sc)
    (hm : Mk K (He.ga K C) (He.ma K (He.ga K C) "__init__")) (hg : mg C = some (.ref (He.ga K C))) (hb : ∀ (kV doc pm : Value) (an : Option Addr) (cdv ct : Value) (us : List Value), us.length = ps.length → bindArgs (PySem.W.fnOf "__init__" q ar bd sc .none kV doc pm an cdv ct) ⟨us, []⟩ = pure (ps.zip us))
    (len : ∀ vs H Q E, sp vs H Q E → vs.length = ps.length)
    (body : ∀ (cdv : Value) (A : Around) (outer : List Env) (s : Shared) (H : Hp) (vs : List V) (Q : VK) (E : XK), Room k (A.deeper (envOfC q sc s.heap.objs.size (He.ma K (He.ga K C) "__init__") cdv)) → sp vs H Q E →
      ∃ t, PSs (cxOf (L2.CX P w) P w K mg base N q sc (He.ma K (He.ga K C) "__init__") cdv A outer s H E) bd t ∧ t { nx := fun _ H' => Q .non H', rt := Q } (start N vs) H) : OkC P w K mg base (k + 1) C ps sp := by
  obtain ⟨fd, F⟩ := F
  exact ⟨hm, ⟨fd, F.ok S len body, F.bindsN hb⟩, hg⟩
end
/-! ### their steps -/
section
variable {K : PySem.W.Frag} {D : Ends} {σ : L2.St} {H : Hp} {Q : VK} {E : XK} {to te : TE} {ta : TA} {f m : Str} {C a dx : Addr} {fs : List (Str × V)} {v y : V} {sp : Sp} {P : Prop}
/-- x is an instance of C with no own name m -/
def MthP (C : Addr) (m : Str) (x : V) (H : Hp) (P : Prop) : Prop := ∃ a dx fs, x = .ref a ∧ H a = some (.ins C dx fs) ∧ fs.lookup m = none ∧ P
def FldP (K : PySem.W.Frag) (f : Str) (x : V) (H : Hp) (P : V → Prop) : Prop := ∃ a C dx fs v, x = .ref a ∧ H a = some (.ins C dx fs) ∧ Cls K C ∧ NoAttr K C f ∧ fs.lookup f = some v ∧ P v
def PutP (K : PySem.W.Frag) (f : Str) (x y : V) (H : Hp) (P : Hp → Prop) : Prop := ∃ a C dx fs, x = .ref a ∧ H a = some (.ins C dx fs) ∧ Cls K C ∧ NoAttr K C f ∧ fs.length < 1000 ∧ P (upd H a (.ins C dx (putF f y fs)))
instance : Stp (tMeth C m sp [] E to ta σ H Q) (to σ H fun x H1 => MthP C m x H1 (ta σ H1 fun vs H2 => sp (x :: (vs ++ [])) H2 Q E)) := ⟨id⟩
instance : Stp (tFld K te f σ H Q) (te σ H fun x H1 => FldP K f x H1 fun v => Q v H1) :=
  ⟨fun h => h⟩
instance : Stp (sFld K to te f D σ H) (te σ H fun y H1 => to σ H1 fun x H2 => PutP K f x y H2 fun H3 => D.nx σ H3) := ⟨id⟩
theorem c_mth (e : H a = some (.ins C dx fs)) (l : fs.lookup m = none) (q : P) : MthP C m (.ref a) H P := ⟨a, dx, fs, rfl, e, l, q⟩
theorem c_fld {P : V → Prop} (e : H a = some (.ins C dx fs)) (c : Cls K C) (n : NoAttr K C f) (l : fs.lookup f = some v) (q : P v) : FldP K f (.ref a) H P := ⟨a, C, dx, fs, v, rfl, e, c, n, l, q⟩
theorem c_put {P : Hp → Prop} (e : H a = some (.ins C dx fs)) (c : Cls K C) (n : NoAttr K C f) (l : fs.length < 1000) (q : P (upd H a (.ins C dx (putF f y fs)))) : PutP K f (.ref a) y H P := ⟨a, C, dx, fs, rfl, e, c, n, l, q⟩
/-- e.f += .. -/
def AugP (K : PySem.W.Frag) (f : Str) (x : V) (H : Hp) (P : V → (V → Hp → Prop) → Prop) (N : Hp → Prop) : Prop := ∃ a C dx fs v, x = .ref a ∧ H a = some (.ins C dx fs) ∧ Cls K C ∧ NoAttr K C f ∧ fs.lookup f = some v ∧
  P v fun z H3 => ∃ dx' fs', H3 a = some (.ins C dx' fs') ∧ fs'.length < 1000 ∧ N (upd H3 a (.ins C dx' (putF f z fs')))
instance {rd : V → V → Hp → VK → Prop} : Stp (sFldAug K to te rd f D σ H) (to σ H fun x H1 => AugP K f x H1 (fun v k => te σ H1 fun y H2 => rd v y H2 k) fun H3 => D.nx σ H3) := ⟨id⟩
theorem c_aug {P : V → (V → Hp → Prop) → Prop} {N : Hp → Prop} (e : H a = some (.ins C dx fs)) (c : Cls K C) (n : NoAttr K C f) (l : fs.lookup f = some v) (q : P v fun z H3 => ∃ dx' fs', H3 a = some (.ins C dx' fs') ∧ fs'.length < 1000 ∧ N (upd H3 a (.ins C dx' (putF f z fs')))) : AugP K f (.ref a) H P N := ⟨a, C, dx, fs, v, rfl, e, c, n, l, q⟩
/-- a new instance -/
def MakP (C : Addr) (sp : Sp) (vs : List V) (H1 : Hp) (E : XK) (Q : VK) : Prop := ∀ x dx, H1 x = none → H1 dx = none → dx ≠ x → sp (.ref x :: (vs ++ [])) (upd (upd H1 dx (.own x)) x (.ins C dx [])) (fun v H2 => v = .non ∧ Q (.ref x) H2) E
instance : Stp (tMake C sp [] E ta σ H Q) (ta σ H fun vs H1 => MakP C sp vs H1 E Q) := ⟨id⟩
end
/-! ### calls with all arguments by name -/
section
variable {X : Cx} {k j : Nat} {ps : List Str} {sp : Sp} {E : XK} {x : Str} {p pos : Pos} {kws : List Keyword} {tk : TA}
/-- f(a = .., b = ..), in the parameters' order -/
def tCallK0 (sp : Sp) (E : XK) (tk : TA) : TE := fun σ H Q => tk σ H fun zs H2 => sp zs H2 Q E
instance {σ : L2.St} {H : Hp} {Q : VK} : Stp (tCallK0 sp E tk σ H Q) (tk σ H fun zs H2 => sp zs H2 Q E) := ⟨id⟩
structure OkK (P : Program) (w : World) (K : PySem.W.Frag) (mg : Str → Option Value) (base : Heap) (k : Nat) (x : Str) (ps : List Str) (sp : Sp) : Prop where
  ok : ∃ fd, FnOk P w K mg base (L2.CX P w) k (He.ga K x) fd ps sp ∧ ∀ (s : Shared) (ws : List Value), ws.length = ps.length → BindsTo s fd ⟨[], ps.zip ws⟩ (ps.zip ws)
  kp : PySem.W.keepIn K (.ref (He.ga K x)) = true
  at_ : mg x = some (.ref (He.ga K x))
theorem pe_okK (F : OkK X.prog X.w X.K X.mg X.base k x ps sp) (hr : Room j X.A) (hj : k ≤ j) (hg : Gl X x) (hx : Passes (L2.CX X.prog X.w) X E) (hkw : PK X kws tk)
    (hall : (backToKw pos (keywordEach kws X.env)).all (·.1.isSome) = true := by rfl) (hks : (backToKw pos (keywordEach kws X.env)).filterMap (·.1) = ps := by rfl) (hdb : (x == ("__debug__" : Str)) = false := by decide)
    (hpl : ((backTo pos (starEach [] X.env)).any (·.1) || (backToKw pos (keywordEach kws X.env)).any (·.1.isNone)) = false := by rfl) : PE X (.Call (.Name x p) [] kws pos) (tCallK0 sp E tk) := by
  obtain ⟨⟨fd, F, hb⟩, hk, hm⟩ := F
  have hr := hr.mono hj
  refine ⟨fun pins s σ H Q I h => wpAny_Call_Name_kw (ld_glob I hg hm ?_ hdb)⟩
  refine PySem.W.callWith_KW0 (h₀ := X.base) I.ok.mod.kin hk hall (thn (hkw.run pos pins s σ H _ I h) fun ws s2 ⟨zs, H2, I2, rz, q2⟩ => ⟨I2.kIn, ?_⟩) hpl
  rw [hks, List.nil_append]
  have hl : ws.length = ps.length := by rw [← rz.length]; exact F.len _ _ _ _ q2
  refine wpAny_call (codeAny_mono (F.run X.A X.stack s2 H2 ⟨[], ps.zip ws⟩ ws zs Q E hr I2.env0 (hb s2 ws hl) rz q2) fun r s' hq => ?_)
  cases r with
  | error e => exact hx pins σ H2 s2 e s' I2 hq
  | ok fl =>
    cases fl with
    | ret u => exact I2.after hq
    | next => exact False.elim hq
    | brk => exact False.elim hq
    | cont => exact False.elim hq
end
theorem okK_of {P : Program} {w : World} {K : PySem.W.Frag} {mg : Str → Option Value} {base : Heap} {k : Nat} {x : Str} {ar : Arguments} {bd : List Stmt} {sc : Scope} {N ps : List Str} {sp : Sp} (F : ∃ fd, FunD K x x ar bd sc [] [] (He.ga K x) fd) (S : FnScope N ps sc) (hg : mg x = some (.ref (He.ga K x)))
    (hb : ∀ (kV doc pm : Value) (an : Option Addr) (cdv ct : Value) (ws : List Value), ws.length = ps.length → bindArgs (PySem.W.fnOf x x ar bd sc .none kV doc pm an cdv ct) ⟨[], ps.zip ws⟩ = pure (ps.zip ws)) (len : ∀ vs H Q E, sp vs H Q E → vs.length = ps.length)
    (body : ∀ (cdv : Value) (A : Around) (outer : List Env) (s : Shared) (H : Hp) (vs : List V) (Q : VK) (E : XK), Room k (A.deeper (envOfC x sc s.heap.objs.size (He.ga K x) cdv)) → sp vs H Q E →
      ∃ t, PSs (cxOf (L2.CX P w) P w K mg base N x sc (He.ga K x) cdv A outer s H E) bd t ∧ t { nx := fun _ H' => Q .non H', rt := Q } (start N vs) H) : OkK P w K mg base (k + 1) x ps sp := by
  obtain ⟨fd, F⟩ := F
  refine ⟨⟨fd, F.ok S len body, fun s ws hl => ?_⟩, F.kp, hg⟩
  obtain ⟨oc, od, dV, kV, doc, pm, an, cdv, ct, osl, e, lk, hcd, hD, hK⟩ := F.ex
  subst e
  rcases hD with ⟨_, rfl⟩ | ⟨e, _⟩
  · exact .of_eq (hb kV doc pm an cdv ct ws hl)
  · exact absurd rfl e
end TD

end
section
open TD L2
/-- what stands at an address -/
local macro_rules | `(tactic| lcg_sub) => `(tactic| first | assumption | exact upd_same | exact New.at_ (by assumption) | (refine New.same (by assumption) _ _ ?_; lcg_sub) | (refine (show Same _ _ from by assumption) _ _ ?_; lcg_sub) | (refine Eq.trans (upd_ne (by first | assumption | exact Ne.symm (by assumption))) ?_; lcg_sub))
/-- a list, a tuple to be read -/
local macro_rules | `(tactic| lcg_src) => `(tactic| first | assumption | exact SqL.of (by lcg_sub) | exact SqT.of (by lcg_sub) | (refine Same.seq (New.same (by assumption)) ?_; lcg_src) | (refine Same.seq (by assumption) ?_; lcg_src) | (refine sameT (New.same (by assumption)) ?_; lcg_src) | (refine sameT (by assumption) ?_; lcg_src))
/-- data at a value -/
local macro_rules | `(tactic| kp_flats) => `(tactic| first | assumption | exact Dp.str _ | exact Dp.int _ | exact Dp.non | exact Dp.bl _ | (refine dp_same (New.same (by assumption)) ?_; kp_flats) | (refine dp_same (by assumption) ?_; kp_flats))
/-- one step of a reading -/
local macro_rules | `(tactic| lcg_off) => `(tactic| first
  | with_reducible refine Stp.go ?_
  | ((with_reducible show tVar _ _ _ _); refine c_var (by rfl) ?_)
  | ((with_reducible show rIxL _ _ _ _ _); refine c_ixL (by lcg_src) (by rfl) ?_)
  | ((with_reducible show rIxT _ _ _ _ _); refine c_ixT (by lcg_src) (by rfl) ?_)
  | ((with_reducible show rSetL _ _ _ _ _); refine c_setL (by lcg_sub) (by rfl) ?_)
  | ((with_reducible show rLenQ _ _ _ _); first | (refine c_lenL (by lcg_src) ?_) | (refine c_lenT (by lcg_src) ?_))
  | ((with_reducible show rSlL _ _ _ _ _ _); refine c_slL (by lcg_src) ?_)
  | ((with_reducible show rListQ _ _ _ _); first | (refine c_listL (by lcg_src) ?_) | (refine c_listT (by lcg_src) ?_))
  | ((with_reducible show rI _ _ _ _ _ _); refine c_IC (by first | assumption | decide | omega) ?_)
  | ((with_reducible show rIsi _ _ _ _); refine c_isi (by kp_flats) (by first | assumption | decide +kernel) ?_)
  | ((with_reducible show rIx _ _ _ _ _); refine c_ix (by first | exact .inl ⟨by lcg_src, by first | assumption | rfl⟩ | exact .inr ⟨by lcg_src, by first | assumption | rfl⟩) ?_)
  | ((with_reducible show NewW _ _ _ _); refine newW ?_)
  | ((with_reducible show rCat _ _ _ _); refine c_cat (by lcg_sub) (by lcg_sub) (le_line (by first | decide | (simp only [List.length_append, List.length_cons, List.length_nil]; omega))) ?_)
  | ((with_reducible show aAddS _ _ _ _); refine c_adds (le_line (by first | decide +kernel | assumption)) ?_)
  | ((with_reducible show rIn _ false _ _ _ _); refine c_inL (by lcg_src) (by rfl) (by rfl) ?_)
  | ((with_reducible show rIn _ true _ _ _ _); refine c_niL (by lcg_src) (by rfl) (by rfl) ?_))
/-- one step, with the new object's names -/
local macro_rules | `(tactic| k_offL) => `(tactic| first | lcg_off | ((with_reducible show ∀ _ _, New _ _ _ _ → _); intro _ _ _))
/-- an error that is held -/
local macro_rules | `(tactic| one_item) => `(tactic| first | assumption | (refine ErrV.same ?_ (New.same (by assumption)); one_item) | (refine ErrV.same ?_ (by assumption); one_item))
/-- nothing was changed -/
local macro_rules | `(tactic| one_place) => `(tactic| first | assumption | exact fun _ _ h => h | exact New.same (by assumption) | (refine Same.trans ?_ (New.same (by assumption)); one_place) | (refine Same.trans ?_ (by assumption); one_place))
/-- what an expression makes, as data -/
local macro_rules | `(tactic| one_sign) => `(tactic| first | exact EvD.str | exact EvD.int | exact EvA.nil | exact EvD.neg | (apply EvA.cons; (focus one_sign); one_sign) | (apply EvD.tup; (focus one_sign); (first | decide | (simp only [List.length_append, List.length_cons, List.length_nil]; omega))) | (apply EvD.var; (focus rfl); kp_flats) | (apply EvL.var; (focus rfl); (focus lcg_sub); assumption) | (apply EvL.lst; (focus one_sign); (first | decide | (simp only [List.length_append, List.length_cons, List.length_nil]; omega))) | (apply EvL.cat; (focus one_sign); (focus one_sign); (first | decide | (simp only [List.length_append, List.length_cons, List.length_nil]; omega))) | (apply EvD.tupOf; one_sign) | (apply EvD.rep; (focus one_sign); (focus simp); (focus decide); (focus decide); decide) | (apply EvL.rep; (focus one_sign); (focus decide); decide) | (apply EvD.adds; (focus one_sign); (focus one_sign); decide +kernel) | exact EvD.non | exact EvD.bl | (apply EvD.ofL; one_sign))
/-- one step, but not into a new list, a new tuple -/
local macro_rules | `(tactic| k_asm) => `(tactic| (fail_if_success (with_reducible show tLst _ _ _ _)); (fail_if_success (with_reducible show tTup _ _ _ _)); (fail_if_success (with_reducible show tOp rCat _ _ _ _ _)); lcg_off)
namespace TD
open PySem PySem.Spec L2 PySem.Calls PySem.TDX
open PyProof.Rows hiding St
abbrev ns_count_ends : List Str := ["tree", "outlet"]
abbrev ps_count_ends : List Str := ["tree"]
def t_count_ends (K : PySem.W.Frag) (sp_count_ends : Sp) : TS :=
  (tRet (tIf (tB (tCB (rIsi K) (tCons (tVar 0) (tCons (tC (.ty "str")) tNil)))) (tC (.int 1)) (tCB (rSum K) (tCons (tLc (iTup K (tVar 0)) (gName 1) tYes (tCall sp_count_ends [] E0 (tCons (tVar 1) tNil)) [1]) tNil))))
abbrev ns_levels : List Str := ["tree", "outlet"]
abbrev ps_levels : List Str := ["tree"]
def t_levels (K : PySem.W.Frag) (sp_levels : Sp) : TS :=
  (tRet (tIf (tB (tCB (rIsi K) (tCons (tVar 0) (tCons (tC (.ty "str")) tNil)))) (tC (.int 0)) (tOp aAdd (tC (.int 1)) (tCB (rMax K) (tCons (tLc (iTup K (tVar 0)) (gName 1) tYes (tCall sp_levels [] E0 (tCons (tVar 1) tNil)) [1]) tNil)))))
abbrev ns_within : List Str := ["tree"]
abbrev ps_within : List Str := ["tree"]
def t_within (K : PySem.W.Frag) (sp_count_ends : Sp) (sp_levels : Sp) (E : XK) : TS :=
  (tSeq (tIfS (tTest (tOp aGt (tCall sp_count_ends [] E0 (tCons (tVar 0) tNil)) (tC (.int 400)))) (tRse (tGmk (He.ga K "TooLarge") (spE1 K (He.ga K "TooLarge") "TooLarge" "most") (tCons (tC (.int 400)) tNil)) E) tNext)
    (tSeq (tIfS (tTest (tOp aGt (tCall sp_levels [] E0 (tCons (tVar 0) tNil)) (tC (.int 40)))) (tRse (tGmk (He.ga K "TooLarge") (spE1 K (He.ga K "TooLarge") "TooLarge" "most") (tCons (tC (.int 40)) tNil)) E) tNext)
    (tRet (tVar 0))))
abbrev ns_format_tree : List Str := ["tree", "outlet"]
abbrev ps_format_tree : List Str := ["tree"]
def t_format_tree (K : PySem.W.Frag) (sp_format_tree : Sp) : TS :=
  (tRet (tIf (tB (tCB (rIsi K) (tCons (tVar 0) (tCons (tC (.ty "str")) tNil)))) (tVar 0) (tJoined [(tC (.str "(")), (tFmt (tM1 (rJoin K) (tC (.str " ")) (tLc (iTup K (tVar 0)) (gName 1) tYes (tCall sp_format_tree [] E0 (tCons (tVar 1) tNil)) [1]))), (tC (.str ")"))])))
end TD

end
section
open TD L2
/-- what stands at an address -/
local macro_rules | `(tactic| lcg_sub) => `(tactic| first | assumption | exact upd_same | exact New.at_ (by assumption) | (refine New.same (by assumption) _ _ ?_; lcg_sub) | (refine (show Same _ _ from by assumption) _ _ ?_; lcg_sub) | (refine Eq.trans (upd_ne (by first | assumption | exact Ne.symm (by assumption))) ?_; lcg_sub))
/-- a list, a tuple to be read -/
local macro_rules | `(tactic| lcg_src) => `(tactic| first | assumption | exact SqL.of (by lcg_sub) | exact SqT.of (by lcg_sub) | (refine Same.seq (New.same (by assumption)) ?_; lcg_src) | (refine Same.seq (by assumption) ?_; lcg_src) | (refine sameT (New.same (by assumption)) ?_; lcg_src) | (refine sameT (by assumption) ?_; lcg_src))
/-- data at a value -/
local macro_rules | `(tactic| kp_flats) => `(tactic| first | assumption | exact Dp.str _ | exact Dp.int _ | exact Dp.non | exact Dp.bl _ | (refine dp_same (New.same (by assumption)) ?_; kp_flats) | (refine dp_same (by assumption) ?_; kp_flats))
/-- one step of a reading -/
local macro_rules | `(tactic| lcg_off) => `(tactic| first
  | with_reducible refine Stp.go ?_
  | ((with_reducible show tVar _ _ _ _); refine c_var (by rfl) ?_)
  | ((with_reducible show rIxL _ _ _ _ _); refine c_ixL (by lcg_src) (by rfl) ?_)
  | ((with_reducible show rIxT _ _ _ _ _); refine c_ixT (by lcg_src) (by rfl) ?_)
  | ((with_reducible show rSetL _ _ _ _ _); refine c_setL (by lcg_sub) (by rfl) ?_)
  | ((with_reducible show rLenQ _ _ _ _); first | (refine c_lenL (by lcg_src) ?_) | (refine c_lenT (by lcg_src) ?_))
  | ((with_reducible show rSlL _ _ _ _ _ _); refine c_slL (by lcg_src) ?_)
  | ((with_reducible show rListQ _ _ _ _); first | (refine c_listL (by lcg_src) ?_) | (refine c_listT (by lcg_src) ?_))
  | ((with_reducible show rI _ _ _ _ _ _); refine c_IC (by first | assumption | decide | omega) ?_)
  | ((with_reducible show rIsi _ _ _ _); refine c_isi (by kp_flats) (by first | assumption | decide +kernel) ?_)
  | ((with_reducible show rIx _ _ _ _ _); refine c_ix (by first | exact .inl ⟨by lcg_src, by first | assumption | rfl⟩ | exact .inr ⟨by lcg_src, by first | assumption | rfl⟩) ?_)
  | ((with_reducible show NewW _ _ _ _); refine newW ?_)
  | ((with_reducible show rCat _ _ _ _); refine c_cat (by lcg_sub) (by lcg_sub) (le_line (by first | decide | (simp only [List.length_append, List.length_cons, List.length_nil]; omega))) ?_)
  | ((with_reducible show aAddS _ _ _ _); refine c_adds (le_line (by first | decide +kernel | assumption)) ?_)
  | ((with_reducible show rIn _ false _ _ _ _); refine c_inL (by lcg_src) (by rfl) (by rfl) ?_)
  | ((with_reducible show rIn _ true _ _ _ _); refine c_niL (by lcg_src) (by rfl) (by rfl) ?_))
/-- one step, with the new object's names -/
local macro_rules | `(tactic| k_offL) => `(tactic| first | lcg_off | ((with_reducible show ∀ _ _, New _ _ _ _ → _); intro _ _ _))
/-- an error that is held -/
local macro_rules | `(tactic| one_item) => `(tactic| first | assumption | (refine ErrV.same ?_ (New.same (by assumption)); one_item) | (refine ErrV.same ?_ (by assumption); one_item))
/-- nothing was changed -/
local macro_rules | `(tactic| one_place) => `(tactic| first | assumption | exact fun _ _ h => h | exact New.same (by assumption) | (refine Same.trans ?_ (New.same (by assumption)); one_place) | (refine Same.trans ?_ (by assumption); one_place))
/-- what an expression makes, as data -/
local macro_rules | `(tactic| one_sign) => `(tactic| first | exact EvD.str | exact EvD.int | exact EvA.nil | exact EvD.neg | (apply EvA.cons; (focus one_sign); one_sign) | (apply EvD.tup; (focus one_sign); (first | decide | (simp only [List.length_append, List.length_cons, List.length_nil]; omega))) | (apply EvD.var; (focus rfl); kp_flats) | (apply EvL.var; (focus rfl); (focus lcg_sub); assumption) | (apply EvL.lst; (focus one_sign); (first | decide | (simp only [List.length_append, List.length_cons, List.length_nil]; omega))) | (apply EvL.cat; (focus one_sign); (focus one_sign); (first | decide | (simp only [List.length_append, List.length_cons, List.length_nil]; omega))) | (apply EvD.tupOf; one_sign) | (apply EvD.rep; (focus one_sign); (focus simp); (focus decide); (focus decide); decide) | (apply EvL.rep; (focus one_sign); (focus decide); decide) | (apply EvD.adds; (focus one_sign); (focus one_sign); decide +kernel) | exact EvD.non | exact EvD.bl | (apply EvD.ofL; one_sign))
/-- one step, but not into a new list, a new tuple -/
local macro_rules | `(tactic| k_asm) => `(tactic| (fail_if_success (with_reducible show tLst _ _ _ _)); (fail_if_success (with_reducible show tTup _ _ _ _)); (fail_if_success (with_reducible show tOp rCat _ _ _ _ _)); lcg_off)
namespace TD
open PySem PySem.Spec L2 PySem.Calls PySem.TDX
open PyProof.Rows hiding St
abbrev ns_is_name : List Str := ["text", "char"]
abbrev ps_is_name : List Str := ["text"]
def t_is_name (K : PySem.W.Frag) : TS :=
  (tRet (tAndV (tCB (rIsi K) (tCons (tVar 0) (tCons (tC (.ty "str")) tNil))) (tAndV (tChain aLe aLe (tC (.int 1)) (tCB rLenS (tCons (tVar 0) tNil)) (tC (.int 6))) (tCB (rAll K) (tCons (tLc (iStr (tVar 0)) (gName 1) tYes (tOp rInS (tVar 1) (tC (.str "abcdefghijklmnopqrstuvwxyz"))) [1]) tNil)))))
abbrev ns_is_owner : List Str := ["text"]
abbrev ps_is_owner : List Str := ["text"]
def t_is_owner (K : PySem.W.Frag) (sp_is_name : Sp) : TS :=
  (tRet (tOrV (tOp (rEqD K) (tVar 0) (tC (.str "-"))) (tCall sp_is_name [] E0 (tCons (tVar 0) tNil))))
abbrev ns_has_form : List Str := ["tree", "outlet"]
abbrev ps_has_form : List Str := ["tree"]
def t_has_form (K : PySem.W.Frag) (sp_has_form : Sp) (sp_is_owner : Sp) : TS :=
  (tSeq (tIfS (tB (tCB (rIsi K) (tCons (tVar 0) (tCons (tC (.ty "tuple")) tNil)))) (tRet (tAndV (tOp aGe (tCB (rLenQ K) (tCons (tVar 0) tNil)) (tC (.int 2))) (tCB (rAll K) (tCons (tLc (iTup K (tVar 0)) (gName 1) tYes (tCall sp_has_form [] E0 (tCons (tVar 1) tNil)) [1]) tNil)))) tNext)
    (tRet (tCall sp_is_owner [] E0 (tCons (tVar 0) tNil))))
abbrev ns_is_number : List Str := ["value", "least"]
abbrev ps_is_number : List Str := ["value", "least"]
def t_is_number (K : PySem.W.Frag) : TS :=
  (tRet (tAndV (tCB (rIsi K) (tCons (tVar 0) (tCons (tC (.ty "int")) tNil))) (tOp aGe (tVar 0) (tVar 1))))
abbrev ns_is_tree : List Str := ["value"]
abbrev ps_is_tree : List Str := ["value"]
def t_is_tree (K : PySem.W.Frag) (sp_count_ends : Sp) (sp_has_form : Sp) (sp_levels : Sp) : TS :=
  (tRet (tAndV (tCall sp_has_form [] E0 (tCons (tVar 0) tNil)) (tAndV (tOp aLe (tCall sp_count_ends [] E0 (tCons (tVar 0) tNil)) (tC (.int 400))) (tOp aLe (tCall sp_levels [] E0 (tCons (tVar 0) tNil)) (tC (.int 40))))))
abbrev ns_parts_of : List Str := ["formula", "word", "rest", "good"]
abbrev ps_parts_of : List Str := ["formula"]
def t_parts_of (K : PySem.W.Frag) (sp_is_name : Sp) (sp_is_number : Sp) (sp_is_owner : Sp) (sp_is_tree : Sp) : TS :=
  (tSeq (tIfS (tOr (tNot (tB (tCB (rIsi K) (tCons (tVar 0) (tCons (tC (.ty "tuple")) tNil))))) (tTest (tOp aLt (tCB (rLenQ K) (tCons (tVar 0) tNil)) (tC (.int 2))))) (tRet (tC .non)) tNext)
    (tSeq (tAsg (tVar 0) (gStar K 2 1 (gCons (gName 1) (gCons (gName 2) gNil))))
    (tMatch (tVar 1) (mStr "name" (tRet (tIf (tAnd (tTest (tOp rEq (tCB (rLenQ K) (tCons (tVar 2) tNil)) (tC (.int 1)))) (tB (tCall sp_is_name [] E0 (tCons (tOp (rIxL K) (tVar 2) (tC (.int 0))) tNil)))) (tLst tNil) (tC .non)))
    (mStr "tree" (tRet (tIf (tAnd (tTest (tOp rEq (tCB (rLenQ K) (tCons (tVar 2) tNil)) (tC (.int 1)))) (tB (tCall sp_is_tree [] E0 (tCons (tOp (rIxL K) (tVar 2) (tC (.int 0))) tNil)))) (tLst tNil) (tC .non)))
    (mStr "every" (tRet (tIf (tAnd (tTest (tOp rEq (tCB (rLenQ K) (tCons (tVar 2) tNil)) (tC (.int 3)))) (tAnd (tB (tCall sp_is_number [] E0 (tCons (tOp (rIxL K) (tVar 2) (tC (.int 0))) (tCons (tC (.int 0)) tNil)))) (tB (tCall sp_is_number [] E0 (tCons (tOp (rIxL K) (tVar 2) (tC (.int 1))) (tCons (tC (.int 1)) tNil)))))) (tSl (rSlL K) (tVar 2) (tPart (tC (.int 2))) tNoPart) (tC .non)))
    (mStr "ahead" (tRet (tIf (tAnd (tTest (tOp rEq (tCB (rLenQ K) (tCons (tVar 2) tNil)) (tC (.int 2)))) (tB (tCall sp_is_number [] E0 (tCons (tOp (rIxL K) (tVar 2) (tC (.int 0))) (tCons (tC (.int 0)) tNil))))) (tSl (rSlL K) (tVar 2) (tPart (tC (.int 1))) tNoPart) (tC .non)))
    (mStr "paint" (tSeq (tAsg (tAndV (tOp rEq (tCB (rLenQ K) (tCons (tVar 2) tNil)) (tC (.int 4))) (tAndV (tCall sp_is_number [] E0 (tCons (tOp (rIxL K) (tVar 2) (tC (.int 0))) (tCons (tC (.int 0)) tNil))) (tCall sp_is_number [] E0 (tCons (tOp (rIxL K) (tVar 2) (tC (.int 1))) (tCons (tC (.int 1)) tNil))))) (gName 3))
    (tRet (tIf (tAnd (tB (tVar 3)) (tAnd (tTest (tOp aLt (tOp (rIxL K) (tVar 2) (tC (.int 0))) (tOp (rIxL K) (tVar 2) (tC (.int 1))))) (tB (tCall sp_is_owner [] E0 (tCons (tOp (rIxL K) (tVar 2) (tC (.int 2))) tNil))))) (tSl (rSlL K) (tVar 2) (tPart (tC (.int 3))) tNoPart) (tC .non))))
    (mStr "gather" (tRet (tIf (tTest (tOp rEq (tCB (rLenQ K) (tCons (tVar 2) tNil)) (tC (.int 1)))) (tVar 2) (tC .non)))
    (mStr "weave" (tRet (tIf (tTest (tChain aLe aLe (tC (.int 2)) (tCB (rLenQ K) (tCons (tVar 2) tNil)) (tC (.int 9)))) (tVar 2) (tC .non)))
    (mAny (tRet (tC .non)))))))))))))
abbrev ns_is_formula : List Str := ["formula", "depth", "parts", "part"]
abbrev ps_is_formula : List Str := ["formula", "depth"]
def t_is_formula (K : PySem.W.Frag) (sp_is_formula : Sp) (sp_parts_of : Sp) : TS :=
  (tSeq (tAsg (tCall sp_parts_of [] E0 (tCons (tVar 0) tNil)) (gName 2))
    (tRet (tAndV (tOp aGt (tVar 1) (tC (.int 0))) (tAndV (tOp rNotN (tVar 2) (tC .non)) (tCB (rAll K) (tCons (tLc (iList K (tVar 2)) (gName 3) tYes (tCall sp_is_formula [] E0 (tCons (tVar 3) (tCons (tOp aSub (tVar 1) (tC (.int 1))) tNil))) [3]) tNil))))))
abbrev ns_check_formula : List Str := ["formula"]
abbrev ps_check_formula : List Str := ["formula"]
def t_check_formula (K : PySem.W.Frag) (sp_is_formula : Sp) (E : XK) : TS :=
  (tIfS (tNot (tB (tCall sp_is_formula [] E0 (tCons (tVar 0) (tCons (tC (.int 8)) tNil))))) (tRse (tGmk (He.ga K "BadFormula") (spE0 K (He.ga K "BadFormula") "BadFormula") tNil) E) tNext)
end TD

end
section
open TD L2
/-- what stands at an address -/
local macro_rules | `(tactic| lcg_sub) => `(tactic| first | assumption | exact upd_same | exact New.at_ (by assumption) | (refine New.same (by assumption) _ _ ?_; lcg_sub) | (refine (show Same _ _ from by assumption) _ _ ?_; lcg_sub) | (refine Eq.trans (upd_ne (by first | assumption | exact Ne.symm (by assumption))) ?_; lcg_sub))
/-- a list, a tuple to be read -/
local macro_rules | `(tactic| lcg_src) => `(tactic| first | assumption | exact SqL.of (by lcg_sub) | exact SqT.of (by lcg_sub) | (refine Same.seq (New.same (by assumption)) ?_; lcg_src) | (refine Same.seq (by assumption) ?_; lcg_src) | (refine sameT (New.same (by assumption)) ?_; lcg_src) | (refine sameT (by assumption) ?_; lcg_src))
/-- data at a value -/
local macro_rules | `(tactic| kp_flats) => `(tactic| first | assumption | exact Dp.str _ | exact Dp.int _ | exact Dp.non | exact Dp.bl _ | (refine dp_same (New.same (by assumption)) ?_; kp_flats) | (refine dp_same (by assumption) ?_; kp_flats))
/-- one step of a reading -/
local macro_rules | `(tactic| lcg_off) => `(tactic| first
  | with_reducible refine Stp.go ?_
  | ((with_reducible show tVar _ _ _ _); refine c_var (by rfl) ?_)
  | ((with_reducible show rIxL _ _ _ _ _); refine c_ixL (by lcg_src) (by rfl) ?_)
  | ((with_reducible show rIxT _ _ _ _ _); refine c_ixT (by lcg_src) (by rfl) ?_)
  | ((with_reducible show rSetL _ _ _ _ _); refine c_setL (by lcg_sub) (by rfl) ?_)
  | ((with_reducible show rLenQ _ _ _ _); first | (refine c_lenL (by lcg_src) ?_) | (refine c_lenT (by lcg_src) ?_))
  | ((with_reducible show rSlL _ _ _ _ _ _); refine c_slL (by lcg_src) ?_)
  | ((with_reducible show rListQ _ _ _ _); first | (refine c_listL (by lcg_src) ?_) | (refine c_listT (by lcg_src) ?_))
  | ((with_reducible show rI _ _ _ _ _ _); refine c_IC (by first | assumption | decide | omega) ?_)
  | ((with_reducible show rIsi _ _ _ _); refine c_isi (by kp_flats) (by first | assumption | decide +kernel) ?_)
  | ((with_reducible show rIx _ _ _ _ _); refine c_ix (by first | exact .inl ⟨by lcg_src, by first | assumption | rfl⟩ | exact .inr ⟨by lcg_src, by first | assumption | rfl⟩) ?_)
  | ((with_reducible show NewW _ _ _ _); refine newW ?_)
  | ((with_reducible show rCat _ _ _ _); refine c_cat (by lcg_sub) (by lcg_sub) (le_line (by first | decide | (simp only [List.length_append, List.length_cons, List.length_nil]; omega))) ?_)
  | ((with_reducible show aAddS _ _ _ _); refine c_adds (le_line (by first | decide +kernel | assumption)) ?_)
  | ((with_reducible show rIn _ false _ _ _ _); refine c_inL (by lcg_src) (by rfl) (by rfl) ?_)
  | ((with_reducible show rIn _ true _ _ _ _); refine c_niL (by lcg_src) (by rfl) (by rfl) ?_))
/-- one step, with the new object's names -/
local macro_rules | `(tactic| k_offL) => `(tactic| first | lcg_off | ((with_reducible show ∀ _ _, New _ _ _ _ → _); intro _ _ _))
/-- an error that is held -/
local macro_rules | `(tactic| one_item) => `(tactic| first | assumption | (refine ErrV.same ?_ (New.same (by assumption)); one_item) | (refine ErrV.same ?_ (by assumption); one_item))
/-- nothing was changed -/
local macro_rules | `(tactic| one_place) => `(tactic| first | assumption | exact fun _ _ h => h | exact New.same (by assumption) | (refine Same.trans ?_ (New.same (by assumption)); one_place) | (refine Same.trans ?_ (by assumption); one_place))
/-- what an expression makes, as data -/
local macro_rules | `(tactic| one_sign) => `(tactic| first | exact EvD.str | exact EvD.int | exact EvA.nil | exact EvD.neg | (apply EvA.cons; (focus one_sign); one_sign) | (apply EvD.tup; (focus one_sign); (first | decide | (simp only [List.length_append, List.length_cons, List.length_nil]; omega))) | (apply EvD.var; (focus rfl); kp_flats) | (apply EvL.var; (focus rfl); (focus lcg_sub); assumption) | (apply EvL.lst; (focus one_sign); (first | decide | (simp only [List.length_append, List.length_cons, List.length_nil]; omega))) | (apply EvL.cat; (focus one_sign); (focus one_sign); (first | decide | (simp only [List.length_append, List.length_cons, List.length_nil]; omega))) | (apply EvD.tupOf; one_sign) | (apply EvD.rep; (focus one_sign); (focus simp); (focus decide); (focus decide); decide) | (apply EvL.rep; (focus one_sign); (focus decide); decide) | (apply EvD.adds; (focus one_sign); (focus one_sign); decide +kernel) | exact EvD.non | exact EvD.bl | (apply EvD.ofL; one_sign))
/-- one step, but not into a new list, a new tuple -/
local macro_rules | `(tactic| k_asm) => `(tactic| (fail_if_success (with_reducible show tLst _ _ _ _)); (fail_if_success (with_reducible show tTup _ _ _ _)); (fail_if_success (with_reducible show tOp rCat _ _ _ _ _)); lcg_off)
namespace TD
open PySem PySem.Spec L2 PySem.Calls PySem.TDX
open PyProof.Rows hiding St
abbrev ns_l_of : List Str := ["_law_bag_here", "_law_things"]
abbrev ps_l_of : List Str := ["_law_bag_here", "_law_things"]
def t_l_of (K : PySem.W.Frag) (sp_l_pull : Sp) : TS :=
  (tRet (tOp (rIxA K) (tVar 1) (tCall sp_l_pull [] E0 (tCons (tVar 0) (tCons (tCB (rLenA K) (tCons (tVar 1) tNil)) tNil)))))
abbrev ns_l_names : List Str := ["_law_bag_here", "_law_size", "_law_letters", "_law_base", "_law_k", "_law_spot", "_law_first", "_law_step"]
abbrev ps_l_names : List Str := ["_law_bag_here", "_law_size"]
def t_l_names (K : PySem.W.Frag) (sp_l_of : Sp) (sp_l_pull : Sp) : TS :=
  (tSeq (tAsg (tTup (tCons (tC (.str "abcdefghijklmnopqrstuvwxyz")) (tCons (tC (.str "")) tNil))) (gTup K 2 (gCons (gName 2) (gCons (gName 3) gNil))))
    (tSeq (tFor (iRng1 (tCons (tCall sp_l_pull [] E0 (tCons (tVar 0) (tCons (tC (.int 6)) tNil))) tNil)) (gName 4) (tAsg (tOp aAddS (tVar 3) (tCall sp_l_of [] E0 (tCons (tVar 0) (tCons (tVar 2) tNil)))) (gName 3)))
    (tSeq (tAsg (tTup (tCons (tCall sp_l_pull [] E0 (tCons (tVar 0) (tCons (tOp aAdd (tCB rLenS (tCons (tVar 3) tNil)) (tC (.int 1))) tNil))) (tCons (tCall sp_l_pull [] E0 (tCons (tVar 0) (tCons (tC (.int 26)) tNil))) (tCons (tCall sp_l_of [] E0 (tCons (tVar 0) (tCons (tLst (tCons (tC (.int 1)) (tCons (tC (.int 3)) (tCons (tC (.int 5)) (tCons (tC (.int 7)) (tCons (tC (.int 9)) tNil)))))) tNil))) tNil)))) (gTup K 3 (gCons (gName 5) (gCons (gName 6) (gCons (gName 7) gNil)))))
    (tRet (tLc (iRng1 (tCons (tVar 1) tNil)) (gName 4) tYes (tOp aAddS (tOp aAddS (tSl rSlS (tVar 3) tNoPart (tPart (tVar 5))) (tOp rIxS (tVar 2) (tOp aMod (tOp aAdd (tVar 6) (tOp aMul (tVar 7) (tVar 4))) (tC (.int 26))))) (tSl rSlS (tVar 3) (tPart (tVar 5)) tNoPart)) [4])))))
abbrev ns_l_owners : List Str := ["_law_bag_here"]
abbrev ps_l_owners : List Str := ["_law_bag_here"]
def t_l_owners (K : PySem.W.Frag) (sp_l_names : Sp) (sp_l_of : Sp) (sp_l_pull : Sp) : TS :=
  (tRet (tOp rCat (tCall sp_l_of [] E0 (tCons (tVar 0) (tCons (tLst (tCons (tLst (tCons (tC (.str "-")) tNil)) (tCons (tLst tNil) tNil))) tNil))) (tCall sp_l_names [] E0 (tCons (tVar 0) (tCons (tOp aAdd (tC (.int 2)) (tCall sp_l_pull [] E0 (tCons (tVar 0) (tCons (tC (.int 2)) tNil)))) tNil)))))
abbrev ns_l_tree : List Str := ["_law_bag_here", "_law_pool", "_law_deep", "_law_widest", "_law_k"]
abbrev ps_l_tree : List Str := ["_law_bag_here", "_law_pool", "_law_deep", "_law_widest"]
def t_l_tree (K : PySem.W.Frag) (sp_l_of : Sp) (sp_l_pull : Sp) (sp_l_tree : Sp) : TS :=
  (tSeq (tIfS (tOr (tTest (tOp rEq (tVar 2) (tC (.int 0)))) (tTest (tOp rEq (tCall sp_l_pull [] E0 (tCons (tVar 0) (tCons (tC (.int 4)) tNil))) (tC (.int 0))))) (tRet (tCall sp_l_of [] E0 (tCons (tVar 0) (tCons (tVar 1) tNil)))) tNext)
    (tRet (tCB (rTupQ K) (tCons (tLc (iRng1 (tCons (tOp aAdd (tC (.int 2)) (tCall sp_l_pull [] E0 (tCons (tVar 0) (tCons (tOp aSub (tVar 3) (tC (.int 1))) tNil)))) tNil)) (gName 4) tYes (tCall sp_l_tree [] E0 (tCons (tVar 0) (tCons (tVar 1) (tCons (tOp aSub (tVar 2) (tC (.int 1))) (tCons (tVar 3) tNil))))) [4]) tNil))))
abbrev ns_l_drawn : List Str := ["_law_bag_here", "_law_pool", "_law_deep", "_law_widest"]
abbrev ps_l_drawn : List Str := ["_law_bag_here", "_law_pool"]
def t_l_drawn (K : PySem.W.Frag) (sp_l_of : Sp) (sp_l_tree : Sp) : TS :=
  (tSeq (tAsg (tCall sp_l_of [] E0 (tCons (tVar 0) (tCons (tLst (tCons (tTup (tCons (tC (.int 2)) (tCons (tC (.int 8)) tNil))) (tCons (tTup (tCons (tC (.int 3)) (tCons (tC (.int 4)) tNil))) (tCons (tTup (tCons (tC (.int 6)) (tCons (tC (.int 2)) tNil))) (tCons (tTup (tCons (tC (.int 3)) (tCons (tC (.int 3)) tNil))) (tCons (tTup (tCons (tC (.int 1)) (tCons (tC (.int 60)) tNil))) (tCons (tTup (tCons (tC (.int 2)) (tCons (tC (.int 3)) tNil))) tNil))))))) tNil))) (gTup K 2 (gCons (gName 2) (gCons (gName 3) gNil))))
    (tRet (tCall sp_l_tree [] E0 (tCons (tVar 0) (tCons (tVar 1) (tCons (tVar 2) (tCons (tVar 3) tNil)))))))
end TD

end
section
open TD L2
/-- what stands at an address -/
local macro_rules | `(tactic| lcg_sub) => `(tactic| first | assumption | exact upd_same | exact New.at_ (by assumption) | (refine New.same (by assumption) _ _ ?_; lcg_sub) | (refine (show Same _ _ from by assumption) _ _ ?_; lcg_sub) | (refine Eq.trans (upd_ne (by first | assumption | exact Ne.symm (by assumption))) ?_; lcg_sub))
/-- a list, a tuple to be read -/
local macro_rules | `(tactic| lcg_src) => `(tactic| first | assumption | exact SqL.of (by lcg_sub) | exact SqT.of (by lcg_sub) | (refine Same.seq (New.same (by assumption)) ?_; lcg_src) | (refine Same.seq (by assumption) ?_; lcg_src) | (refine sameT (New.same (by assumption)) ?_; lcg_src) | (refine sameT (by assumption) ?_; lcg_src))
/-- data at a value -/
local macro_rules | `(tactic| kp_flats) => `(tactic| first | assumption | exact Dp.str _ | exact Dp.int _ | exact Dp.non | exact Dp.bl _ | (refine dp_same (New.same (by assumption)) ?_; kp_flats) | (refine dp_same (by assumption) ?_; kp_flats))
/-- one step of a reading -/
local macro_rules | `(tactic| lcg_off) => `(tactic| first
  | with_reducible refine Stp.go ?_
  | ((with_reducible show tVar _ _ _ _); refine c_var (by rfl) ?_)
  | ((with_reducible show rIxL _ _ _ _ _); refine c_ixL (by lcg_src) (by rfl) ?_)
  | ((with_reducible show rIxT _ _ _ _ _); refine c_ixT (by lcg_src) (by rfl) ?_)
  | ((with_reducible show rSetL _ _ _ _ _); refine c_setL (by lcg_sub) (by rfl) ?_)
  | ((with_reducible show rLenQ _ _ _ _); first | (refine c_lenL (by lcg_src) ?_) | (refine c_lenT (by lcg_src) ?_))
  | ((with_reducible show rSlL _ _ _ _ _ _); refine c_slL (by lcg_src) ?_)
  | ((with_reducible show rListQ _ _ _ _); first | (refine c_listL (by lcg_src) ?_) | (refine c_listT (by lcg_src) ?_))
  | ((with_reducible show rI _ _ _ _ _ _); refine c_IC (by first | assumption | decide | omega) ?_)
  | ((with_reducible show rIsi _ _ _ _); refine c_isi (by kp_flats) (by first | assumption | decide +kernel) ?_)
  | ((with_reducible show rIx _ _ _ _ _); refine c_ix (by first | exact .inl ⟨by lcg_src, by first | assumption | rfl⟩ | exact .inr ⟨by lcg_src, by first | assumption | rfl⟩) ?_)
  | ((with_reducible show NewW _ _ _ _); refine newW ?_)
  | ((with_reducible show rCat _ _ _ _); refine c_cat (by lcg_sub) (by lcg_sub) (le_line (by first | decide | (simp only [List.length_append, List.length_cons, List.length_nil]; omega))) ?_)
  | ((with_reducible show aAddS _ _ _ _); refine c_adds (le_line (by first | decide +kernel | assumption)) ?_)
  | ((with_reducible show rIn _ false _ _ _ _); refine c_inL (by lcg_src) (by rfl) (by rfl) ?_)
  | ((with_reducible show rIn _ true _ _ _ _); refine c_niL (by lcg_src) (by rfl) (by rfl) ?_))
/-- one step, with the new object's names -/
local macro_rules | `(tactic| k_offL) => `(tactic| first | lcg_off | ((with_reducible show ∀ _ _, New _ _ _ _ → _); intro _ _ _))
/-- an error that is held -/
local macro_rules | `(tactic| one_item) => `(tactic| first | assumption | (refine ErrV.same ?_ (New.same (by assumption)); one_item) | (refine ErrV.same ?_ (by assumption); one_item))
/-- nothing was changed -/
local macro_rules | `(tactic| one_place) => `(tactic| first | assumption | exact fun _ _ h => h | exact New.same (by assumption) | (refine Same.trans ?_ (New.same (by assumption)); one_place) | (refine Same.trans ?_ (by assumption); one_place))
/-- what an expression makes, as data -/
local macro_rules | `(tactic| one_sign) => `(tactic| first | exact EvD.str | exact EvD.int | exact EvA.nil | exact EvD.neg | (apply EvA.cons; (focus one_sign); one_sign) | (apply EvD.tup; (focus one_sign); (first | decide | (simp only [List.length_append, List.length_cons, List.length_nil]; omega))) | (apply EvD.var; (focus rfl); kp_flats) | (apply EvL.var; (focus rfl); (focus lcg_sub); assumption) | (apply EvL.lst; (focus one_sign); (first | decide | (simp only [List.length_append, List.length_cons, List.length_nil]; omega))) | (apply EvL.cat; (focus one_sign); (focus one_sign); (first | decide | (simp only [List.length_append, List.length_cons, List.length_nil]; omega))) | (apply EvD.tupOf; one_sign) | (apply EvD.rep; (focus one_sign); (focus simp); (focus decide); (focus decide); decide) | (apply EvL.rep; (focus one_sign); (focus decide); decide) | (apply EvD.adds; (focus one_sign); (focus one_sign); decide +kernel) | exact EvD.non | exact EvD.bl | (apply EvD.ofL; one_sign))
/-- one step, but not into a new list, a new tuple -/
local macro_rules | `(tactic| k_asm) => `(tactic| (fail_if_success (with_reducible show tLst _ _ _ _)); (fail_if_success (with_reducible show tTup _ _ _ _)); (fail_if_success (with_reducible show tOp rCat _ _ _ _ _)); lcg_off)
namespace TD
open PySem PySem.Spec L2 PySem.Calls PySem.TDX
open PyProof.Rows hiding St
abbrev ns_l_with : List Str := ["_law_bag_here", "_law_formula_z", "_law_odd", "_law_parts", "_law_k", "_law_spot"]
abbrev ps_l_with : List Str := ["_law_bag_here", "_law_formula_z", "_law_odd"]
def t_l_with (K : PySem.W.Frag) (sp_l_inner : Sp) (sp_l_pull : Sp) (sp_l_with : Sp) : TS :=
  (tSeq (tAsg (tCall sp_l_inner [] E0 (tCons (tVar 1) tNil)) (gName 3))
    (tSeq (tIfS (tOr (tTest (tOp (rEqD K) (tVar 3) (tLst tNil))) (tTest (tOp rEq (tCall sp_l_pull [] E0 (tCons (tVar 0) (tCons (tC (.int 3)) tNil))) (tC (.int 0))))) (tRet (tVar 2)) tNext)
    (tSeq (tAsg (tCall sp_l_pull [] E0 (tCons (tVar 0) (tCons (tCB (rLenQ K) (tCons (tVar 3) tNil)) tNil))) (gName 4))
    (tSeq (tAsg (tOp aAdd (tOp aSub (tCB (rLenQ K) (tCons (tVar 1) tNil)) (tCB (rLenQ K) (tCons (tVar 3) tNil))) (tVar 4)) (gName 5))
    (tRet (tOp (rCatA K) (tOp (rCatA K) (tSl (rSlA K) (tVar 1) tNoPart (tPart (tVar 5))) (tTup (tCons (tCall sp_l_with [] E0 (tCons (tVar 0) (tCons (tOp (rIxL K) (tVar 3) (tVar 4)) (tCons (tVar 2) tNil)))) tNil))) (tSl (rSlA K) (tVar 1) (tPart (tOp aAdd (tVar 5) (tC (.int 1)))) tNoPart)))))))
abbrev ns_l_nest : List Str := ["_law_count_z", "_law_formula_z", "_law_k"]
abbrev ps_l_nest : List Str := ["_law_count_z"]
def t_l_nest (K : PySem.W.Frag) : TS :=
  (tSeq (tAsg (tTup (tCons (tC (.str "name")) (tCons (tC (.str "x")) tNil))) (gName 1))
    (tSeq (tFor (iRng1 (tCons (tOp aSub (tVar 0) (tC (.int 1))) tNil)) (gName 2) (tAsg (tTup (tCons (tC (.str "gather")) (tCons (tVar 1) tNil))) (gName 1)))
    (tRet (tVar 1))))
abbrev ns_eval57 : List Str := ["formula", "trees", "name"]
abbrev ps_eval57 : List Str := ["formula", "trees"]
def t_eval57 (K : PySem.W.Frag) (sp_check_formula : Sp) (E : XK) : TS :=
  (tSeq (tDrop (tCall sp_check_formula [] E (tCons (tVar 0) tNil)))
    tNever)
abbrev ns_law : List Str := ["_law_script", "_law_bag_here", "_law_names_here", "_law_inner_here", "_law_odd", "_law_chain", "_law_k", "_law_turn", "_law_formula_z", "_law_bad", "_law_found"]
abbrev ps_law : List Str := ["_law_script"]
def t_law (K : PySem.W.Frag) (sp_check_formula : Sp) (sp_evaluate : Sp) (sp_l_bag : Sp) (sp_l_formula : Sp) (sp_l_names : Sp) (sp_l_nest : Sp) (sp_l_of : Sp) (sp_l_pull : Sp) (sp_l_with : Sp) : TS :=
  (tSeq (tAsg (tCall sp_l_bag [] E0 (tCons (tVar 0) tNil)) (gName 1))
    (tSeq (tAsg (tTup (tCons (tCall sp_l_names [] E0 (tCons (tVar 1) (tCons (tC (.int 3)) tNil))) (tCons (tTup (tCons (tC (.str "name")) (tCons (tC (.str "x")) tNil))) tNil))) (gTup K 2 (gCons (gName 2) (gCons (gName 3) gNil))))
    (tSeq (tAsg (tLst (tCons (tC (.str "x")) (tCons (tC (.int 5)) (tCons (tTup tNil) (tCons (tTup (tCons (tC (.str "name")) tNil)) (tCons (tTup (tCons (tC (.str "name")) (tCons (tC (.str "A")) tNil))) (tCons (tTup (tCons (tC (.str "name")) (tCons (tC (.str "sevenxx")) tNil))) (tCons (tTup (tCons (tC (.str "tree")) (tCons (tTup (tCons (tC (.str "a")) tNil)) tNil))) (tCons (tTup (tCons (tC (.str "tree")) (tCons (tC (.int 3)) tNil))) (tCons (tTup (tCons (tC (.str "tree")) (tCons (tC (.str "A")) tNil))) (tCons (tTup (tCons (tC (.str "lift")) (tCons (tVar 3) tNil))) tNil))))))))))) (gName 4))
    (tSeq (tAsg (tOp rCat (tVar 4) (tLst (tCons (tTup (tCons (tC (.str "every")) (tCons (tC (.int 0)) (tCons (tC (.int 0)) (tCons (tVar 3) tNil))))) (tCons (tTup (tCons (tC (.str "every")) (tCons (tUn (rU fun i => .int (-i)) (tC (.int 1))) (tCons (tC (.int 1)) (tCons (tVar 3) tNil))))) (tCons (tTup (tCons (tC (.str "every")) (tCons (tC (.int 1)) (tCons (tVar 3) tNil)))) (tCons (tTup (tCons (tC (.str "ahead")) (tCons (tUn (rU fun i => .int (-i)) (tC (.int 1))) (tCons (tVar 3) tNil)))) (tCons (tTup (tCons (tC (.str "ahead")) (tCons (tVar 3) tNil))) tNil))))))) (gName 4))
    (tSeq (tAsg (tOp rCat (tVar 4) (tLst (tCons (tTup (tCons (tC (.str "paint")) (tCons (tC (.int 3)) (tCons (tC (.int 3)) (tCons (tC (.str "a")) (tCons (tVar 3) tNil)))))) (tCons (tTup (tCons (tC (.str "paint")) (tCons (tC (.int 0)) (tCons (tC (.int 2)) (tCons (tC (.str "A")) (tCons (tVar 3) tNil)))))) (tCons (tTup (tCons (tC (.str "paint")) (tCons (tC (.int 0)) (tCons (tC (.int 2)) (tCons (tVar 3) tNil))))) (tCons (tTup (tCons (tC (.str "gather")) tNil)) (tCons (tTup (tCons (tC (.str "gather")) (tCons (tVar 3) (tCons (tVar 3) tNil)))) tNil))))))) (gName 4))
    (tSeq (tAsg (tC (.str "a")) (gName 5))
    (tSeq (tFor (iRng1 (tCons (tC (.int 41)) tNil)) (gName 6) (tAsg (tTup (tCons (tVar 5) (tCons (tC (.str "b")) tNil))) (gName 5)))
    (tSeq (tAsg (tOp rCat (tVar 4) (tLst (tCons (tTup (tCons (tC (.str "tree")) (tCons (tVar 5) tNil))) (tCons (tTup (tCons (tC (.str "weave")) (tCons (tTup (tCons (tC (.str "name")) (tCons (tC (.str "x")) tNil))) (tCons (tTup (tCons (tC (.str "tree")) (tCons (tVar 5) tNil))) tNil)))) tNil)))) (gName 4))
    (tSeq (tAsg (tOp rCat (tVar 4) (tLst (tCons (tTup (tCons (tC (.str "weave")) (tCons (tVar 3) tNil))) (tCons (tCB (rTupQ K) (tCons (tOp rCat (tLst (tCons (tC (.str "weave")) tNil)) (tOp rRep (tLst (tCons (tVar 3) tNil)) (tC (.int 10)))) tNil)) (tCons (tTup (tCons (tC (.str "tree")) (tCons (tOp (rRepT K) (tTup (tCons (tC (.str "a")) tNil)) (tC (.int 401))) tNil))) (tCons (tLst (tCons (tC (.str "name")) (tCons (tC (.str "x")) tNil))) (tCons (tTup (tCons (tC (.str "every")) (tCons (tC (.int 0)) (tCons (tC (.str "1")) (tCons (tVar 3) tNil))))) (tCons (tTup (tCons (tC (.str "name")) (tCons (tC (.str "x")) (tCons (tC (.str "y")) tNil)))) tNil)))))))) (gName 4))
    (tSeq (tFor (iRng1 (tCons (tC (.int 6)) tNil)) (gName 7) (tSeq (tAsg (tCall sp_l_formula [] E0 (tCons (tVar 1) (tCons (tVar 2) (tCons (tOp aAdd (tC (.int 1)) (tCall sp_l_pull [] E0 (tCons (tVar 1) (tCons (tC (.int 4)) tNil)))) tNil)))) (gName 8))
    (tSeq (tAsg (tCall sp_l_with [] E0 (tCons (tVar 1) (tCons (tVar 8) (tCons (tCall sp_l_of [] E0 (tCons (tVar 1) (tCons (tVar 4) tNil))) tNil)))) (gName 9))
    (tSeq (tAsg (tLst (tCons (LamX.tLam [(lawP K, lamQ)] (TTry K) (fun E => (tCall sp_check_formula [] E (tCons (tVar 9) tNil)))) (tCons (LamX.tLam [(lawP K, lamQ)] (TTry K) (fun E => (tCallK0 sp_check_formula E (tCons (tVar 8) tNil)))) tNil))) (gName 10))
    (tSeq (tDrop (tBM K "list" rAppend (tVar 10) (tCons (LamX.tLam [(lawP K, lamQ)] (TTry K) (fun E => (tCall sp_evaluate [] E (tCons (tVar 9) (tCons tDNewK tNil))))) tNil)))
    (tIfS (tTest (tOp (rNeD K) (tVar 10) (tLst (tCons (tTup (tCons (tC (.str "BadFormula")) (tCons (tC .non) tNil))) (tCons (tTup (tCons (tC (.str "value")) (tCons (tC .non) tNil))) (tCons (tTup (tCons (tC (.str "BadFormula")) (tCons (tC .non) tNil))) tNil)))))) (tRet (tC (.bl false))) tNext))))))
    (tSeq (tAsg (tLst (tCons (LamX.tLam [(lawP K, lamQ)] (TTry K) (fun E => (tCall sp_check_formula [] E (tCons (tCall sp_l_nest [] E0 (tCons (tC (.int 8)) tNil)) tNil)))) (tCons (LamX.tLam [(lawP K, lamQ)] (TTry K) (fun E => (tCall sp_check_formula [] E (tCons (tCall sp_l_nest [] E0 (tCons (tC (.int 9)) tNil)) tNil)))) tNil))) (gName 10))
    (tSeq (tDrop (tBM K "list" rAppend (tVar 10) (tCons (LamX.tLam [(lawP K, lamQ)] (TTry K) (fun E => (tCall sp_check_formula [] E (tCons (tCB (rTupQ K) (tCons (tOp rCat (tLst (tCons (tC (.str "weave")) tNil)) (tOp rRep (tLst (tCons (tVar 3) tNil)) (tC (.int 9)))) tNil)) tNil)))) tNil)))
    (tRet (tOp (rEqD K) (tVar 10) (tLst (tCons (tTup (tCons (tC (.str "value")) (tCons (tC .non) tNil))) (tCons (tTup (tCons (tC (.str "BadFormula")) (tCons (tC .non) tNil))) (tCons (tTup (tCons (tC (.str "value")) (tCons (tC .non) tNil))) tNil))))))))))))))))))
end TD

end
section
open TD L2
/-- what stands at an address -/
local macro_rules | `(tactic| lcg_sub) => `(tactic| first | assumption | exact upd_same | exact New.at_ (by assumption) | (refine New.same (by assumption) _ _ ?_; lcg_sub) | (refine (show Same _ _ from by assumption) _ _ ?_; lcg_sub) | (refine Eq.trans (upd_ne (by first | assumption | exact Ne.symm (by assumption))) ?_; lcg_sub))
/-- a list, a tuple to be read -/
local macro_rules | `(tactic| lcg_src) => `(tactic| first | assumption | exact SqL.of (by lcg_sub) | exact SqT.of (by lcg_sub) | (refine Same.seq (New.same (by assumption)) ?_; lcg_src) | (refine Same.seq (by assumption) ?_; lcg_src) | (refine sameT (New.same (by assumption)) ?_; lcg_src) | (refine sameT (by assumption) ?_; lcg_src))
/-- data at a value -/
local macro_rules | `(tactic| kp_flats) => `(tactic| first | assumption | exact Dp.str _ | exact Dp.int _ | exact Dp.non | exact Dp.bl _ | (refine dp_same (New.same (by assumption)) ?_; kp_flats) | (refine dp_same (by assumption) ?_; kp_flats))
/-- one step of a reading -/
local macro_rules | `(tactic| lcg_off) => `(tactic| first
  | with_reducible refine Stp.go ?_
  | ((with_reducible show tVar _ _ _ _); refine c_var (by rfl) ?_)
  | ((with_reducible show rIxL _ _ _ _ _); refine c_ixL (by lcg_src) (by rfl) ?_)
  | ((with_reducible show rIxT _ _ _ _ _); refine c_ixT (by lcg_src) (by rfl) ?_)
  | ((with_reducible show rSetL _ _ _ _ _); refine c_setL (by lcg_sub) (by rfl) ?_)
  | ((with_reducible show rLenQ _ _ _ _); first | (refine c_lenL (by lcg_src) ?_) | (refine c_lenT (by lcg_src) ?_))
  | ((with_reducible show rSlL _ _ _ _ _ _); refine c_slL (by lcg_src) ?_)
  | ((with_reducible show rListQ _ _ _ _); first | (refine c_listL (by lcg_src) ?_) | (refine c_listT (by lcg_src) ?_))
  | ((with_reducible show rI _ _ _ _ _ _); refine c_IC (by first | assumption | decide | omega) ?_)
  | ((with_reducible show rIsi _ _ _ _); refine c_isi (by kp_flats) (by first | assumption | decide +kernel) ?_)
  | ((with_reducible show rIx _ _ _ _ _); refine c_ix (by first | exact .inl ⟨by lcg_src, by first | assumption | rfl⟩ | exact .inr ⟨by lcg_src, by first | assumption | rfl⟩) ?_)
  | ((with_reducible show NewW _ _ _ _); refine newW ?_)
  | ((with_reducible show rCat _ _ _ _); refine c_cat (by lcg_sub) (by lcg_sub) (le_line (by first | decide | (simp only [List.length_append, List.length_cons, List.length_nil]; omega))) ?_)
  | ((with_reducible show aAddS _ _ _ _); refine c_adds (le_line (by first | decide +kernel | assumption)) ?_)
  | ((with_reducible show rIn _ false _ _ _ _); refine c_inL (by lcg_src) (by rfl) (by rfl) ?_)
  | ((with_reducible show rIn _ true _ _ _ _); refine c_niL (by lcg_src) (by rfl) (by rfl) ?_))
/-- one step, with the new object's names -/
local macro_rules | `(tactic| k_offL) => `(tactic| first | lcg_off | ((with_reducible show ∀ _ _, New _ _ _ _ → _); intro _ _ _))
/-- an error that is held -/
local macro_rules | `(tactic| one_item) => `(tactic| first | assumption | (refine ErrV.same ?_ (New.same (by assumption)); one_item) | (refine ErrV.same ?_ (by assumption); one_item))
/-- nothing was changed -/
local macro_rules | `(tactic| one_place) => `(tactic| first | assumption | exact fun _ _ h => h | exact New.same (by assumption) | (refine Same.trans ?_ (New.same (by assumption)); one_place) | (refine Same.trans ?_ (by assumption); one_place))
/-- what an expression makes, as data -/
local macro_rules | `(tactic| one_sign) => `(tactic| first | exact EvD.str | exact EvD.int | exact EvA.nil | exact EvD.neg | (apply EvA.cons; (focus one_sign); one_sign) | (apply EvD.tup; (focus one_sign); (first | decide | (simp only [List.length_append, List.length_cons, List.length_nil]; omega))) | (apply EvD.var; (focus rfl); kp_flats) | (apply EvL.var; (focus rfl); (focus lcg_sub); assumption) | (apply EvL.lst; (focus one_sign); (first | decide | (simp only [List.length_append, List.length_cons, List.length_nil]; omega))) | (apply EvL.cat; (focus one_sign); (focus one_sign); (first | decide | (simp only [List.length_append, List.length_cons, List.length_nil]; omega))) | (apply EvD.tupOf; one_sign) | (apply EvD.rep; (focus one_sign); (focus simp); (focus decide); (focus decide); decide) | (apply EvL.rep; (focus one_sign); (focus decide); decide) | (apply EvD.adds; (focus one_sign); (focus one_sign); decide +kernel) | exact EvD.non | exact EvD.bl | (apply EvD.ofL; one_sign))
/-- one step, but not into a new list, a new tuple -/
local macro_rules | `(tactic| k_asm) => `(tactic| (fail_if_success (with_reducible show tLst _ _ _ _)); (fail_if_success (with_reducible show tTup _ _ _ _)); (fail_if_success (with_reducible show tOp rCat _ _ _ _ _)); lcg_off)
namespace TD
open PySem PySem.Spec L2 PySem.Calls PySem.TDX
open PyProof.Rows hiding St
abbrev ns_l_class : List Str := ["_law_bag_here", "_law_most", "_law_step"]
abbrev ps_l_class : List Str := ["_law_bag_here", "_law_most"]
def t_l_class (K : PySem.W.Frag) (sp_l_pull : Sp) : TS :=
  (tSeq (tAsg (tOp aAdd (tC (.int 1)) (tCall sp_l_pull [] E0 (tCons (tVar 0) (tCons (tVar 1) tNil)))) (gName 2))
    (tRet (tTup (tCons (tCall sp_l_pull [] E0 (tCons (tVar 0) (tCons (tVar 2) tNil))) (tCons (tVar 2) tNil)))))
abbrev ns_l_formula : List Str := ["_law_bag_here", "_law_names_here", "_law_deep", "_law_way", "_law_inner_here", "_law_first", "_law_step", "_law_parts", "_law_k"]
abbrev ps_l_formula : List Str := ["_law_bag_here", "_law_names_here", "_law_deep"]
def t_l_formula (K : PySem.W.Frag) (sp_l_class : Sp) (sp_l_formula : Sp) (sp_l_of : Sp) (sp_l_pull : Sp) (sp_l_tree : Sp) : TS :=
  (tSeq (tAsg (tIf (tTest (tOp aGt (tVar 2) (tC (.int 1)))) (tCall sp_l_pull [] E0 (tCons (tVar 0) (tCons (tC (.int 8)) tNil))) (tCall sp_l_pull [] E0 (tCons (tVar 0) (tCons (tC (.int 2)) tNil)))) (gName 3))
    (tSeq (tIfS (tTest (tOp rEq (tVar 3) (tC (.int 0)))) (tRet (tTup (tCons (tC (.str "name")) (tCons (tCall sp_l_of [] E0 (tCons (tVar 0) (tCons (tVar 1) tNil))) tNil)))) tNext)
    (tSeq (tIfS (tTest (tOp rEq (tVar 3) (tC (.int 1)))) (tRet (tTup (tCons (tC (.str "tree")) (tCons (tCall sp_l_tree [] E0 (tCons (tVar 0) (tCons (tLst (tCons (tC (.str "a")) (tCons (tC (.str "b")) (tCons (tC (.str "-")) tNil)))) (tCons (tC (.int 2)) (tCons (tC (.int 3)) tNil))))) tNil)))) tNext)
    (tSeq (tAsg (tCall sp_l_formula [] E0 (tCons (tVar 0) (tCons (tVar 1) (tCons (tOp aSub (tVar 2) (tC (.int 1))) tNil)))) (gName 4))
    (tSeq (tIfS (tTest (tOp rEq (tVar 3) (tC (.int 2)))) (tRet (tTup (tCons (tC (.str "every")) (tCons (tCall sp_l_pull [] E0 (tCons (tVar 0) (tCons (tC (.int 20)) tNil))) (tCons (tOp aAdd (tC (.int 1)) (tCall sp_l_pull [] E0 (tCons (tVar 0) (tCons (tC (.int 9)) tNil)))) (tCons (tVar 4) tNil)))))) tNext)
    (tSeq (tIfS (tTest (tOp rEq (tVar 3) (tC (.int 3)))) (tRet (tTup (tCons (tC (.str "ahead")) (tCons (tCall sp_l_pull [] E0 (tCons (tVar 0) (tCons (tCall sp_l_of [] E0 (tCons (tVar 0) (tCons (tLst (tCons (tC (.int 9)) (tCons (tOp aPow (tC (.int 10)) (tC (.int 29))) tNil))) tNil))) tNil))) (tCons (tVar 4) tNil))))) tNext)
    (tSeq (tIfS (tTest (tOp rEq (tVar 3) (tC (.int 4)))) (tSeq (tAsg (tCall sp_l_class [] E0 (tCons (tVar 0) (tCons (tC (.int 6)) tNil))) (gTup K 2 (gCons (gName 5) (gCons (gName 6) gNil))))
    (tRet (tTup (tCons (tC (.str "paint")) (tCons (tVar 5) (tCons (tVar 6) (tCons (tCall sp_l_of [] E0 (tCons (tVar 0) (tCons (tLst (tCons (tC (.str "a")) (tCons (tC (.str "x")) (tCons (tC (.str "-")) tNil)))) tNil))) (tCons (tVar 4) tNil)))))))) tNext)
    (tSeq (tIfS (tTest (tOp rEq (tVar 3) (tC (.int 5)))) (tRet (tTup (tCons (tC (.str "gather")) (tCons (tVar 4) tNil)))) tNext)
    (tSeq (tAsg (tLc (iRng1 (tCons (tCall sp_l_of [] E0 (tCons (tVar 0) (tCons (tLst (tCons (tC (.int 1)) (tCons (tC (.int 1)) (tCons (tC (.int 2)) tNil)))) tNil))) tNil)) (gName 8) tYes (tCall sp_l_formula [] E0 (tCons (tVar 0) (tCons (tVar 1) (tCons (tOp aSub (tVar 2) (tC (.int 1))) tNil)))) [8]) (gName 7))
    (tRet (tCB (rTupQ K) (tCons (tOp rCat (tLst (tCons (tC (.str "weave")) (tCons (tVar 4) tNil))) (tVar 7)) tNil))))))))))))
abbrev ns_l_inner : List Str := ["_law_formula_z", "_law_heads"]
abbrev ps_l_inner : List Str := ["_law_formula_z"]
def t_l_inner (K : PySem.W.Frag) : TS :=
  (tSeq (tAsg (tDisp [((tC (.str "name")), (tC (.int 9))), ((tC (.str "tree")), (tC (.int 9))), ((tC (.str "every")), (tC (.int 3))), ((tC (.str "ahead")), (tC (.int 2))), ((tC (.str "paint")), (tC (.int 4))), ((tC (.str "gather")), (tC (.int 1))), ((tC (.str "weave")), (tC (.int 1)))]) (gName 1))
    (tRet (tCB (rListQ K) (tCons (tSl (rSlA K) (tVar 0) (tPart (tDGet (tVar 1) (tOp (rIxT K) (tVar 0) (tC (.int 0))))) tNoPart) tNil))))
end TD

end
section
open TD L2
/-- what stands at an address -/
local macro_rules | `(tactic| lcg_sub) => `(tactic| first | assumption | exact upd_same | exact New.at_ (by assumption) | (refine New.same (by assumption) _ _ ?_; lcg_sub) | (refine (show Same _ _ from by assumption) _ _ ?_; lcg_sub) | (refine Eq.trans (upd_ne (by first | assumption | exact Ne.symm (by assumption))) ?_; lcg_sub))
/-- a list, a tuple to be read -/
local macro_rules | `(tactic| lcg_src) => `(tactic| first | assumption | exact SqL.of (by lcg_sub) | exact SqT.of (by lcg_sub) | (refine Same.seq (New.same (by assumption)) ?_; lcg_src) | (refine Same.seq (by assumption) ?_; lcg_src) | (refine sameT (New.same (by assumption)) ?_; lcg_src) | (refine sameT (by assumption) ?_; lcg_src))
/-- data at a value -/
local macro_rules | `(tactic| kp_flats) => `(tactic| first | assumption | exact Dp.str _ | exact Dp.int _ | exact Dp.non | exact Dp.bl _ | (refine dp_same (New.same (by assumption)) ?_; kp_flats) | (refine dp_same (by assumption) ?_; kp_flats))
/-- one step of a reading -/
local macro_rules | `(tactic| lcg_off) => `(tactic| first
  | with_reducible refine Stp.go ?_
  | ((with_reducible show tVar _ _ _ _); refine c_var (by rfl) ?_)
  | ((with_reducible show rIxL _ _ _ _ _); refine c_ixL (by lcg_src) (by rfl) ?_)
  | ((with_reducible show rIxT _ _ _ _ _); refine c_ixT (by lcg_src) (by rfl) ?_)
  | ((with_reducible show rSetL _ _ _ _ _); refine c_setL (by lcg_sub) (by rfl) ?_)
  | ((with_reducible show rLenQ _ _ _ _); first | (refine c_lenL (by lcg_src) ?_) | (refine c_lenT (by lcg_src) ?_))
  | ((with_reducible show rSlL _ _ _ _ _ _); refine c_slL (by lcg_src) ?_)
  | ((with_reducible show rListQ _ _ _ _); first | (refine c_listL (by lcg_src) ?_) | (refine c_listT (by lcg_src) ?_))
  | ((with_reducible show rI _ _ _ _ _ _); refine c_IC (by first | assumption | decide | omega) ?_)
  | ((with_reducible show rIsi _ _ _ _); refine c_isi (by kp_flats) (by first | assumption | decide +kernel) ?_)
  | ((with_reducible show rIx _ _ _ _ _); refine c_ix (by first | exact .inl ⟨by lcg_src, by first | assumption | rfl⟩ | exact .inr ⟨by lcg_src, by first | assumption | rfl⟩) ?_)
  | ((with_reducible show NewW _ _ _ _); refine newW ?_)
  | ((with_reducible show rCat _ _ _ _); refine c_cat (by lcg_sub) (by lcg_sub) (le_line (by first | decide | (simp only [List.length_append, List.length_cons, List.length_nil]; omega))) ?_)
  | ((with_reducible show aAddS _ _ _ _); refine c_adds (le_line (by first | decide +kernel | assumption)) ?_)
  | ((with_reducible show rIn _ false _ _ _ _); refine c_inL (by lcg_src) (by rfl) (by rfl) ?_)
  | ((with_reducible show rIn _ true _ _ _ _); refine c_niL (by lcg_src) (by rfl) (by rfl) ?_))
/-- one step, with the new object's names -/
local macro_rules | `(tactic| k_offL) => `(tactic| first | lcg_off | ((with_reducible show ∀ _ _, New _ _ _ _ → _); intro _ _ _))
/-- an error that is held -/
local macro_rules | `(tactic| one_item) => `(tactic| first | assumption | (refine ErrV.same ?_ (New.same (by assumption)); one_item) | (refine ErrV.same ?_ (by assumption); one_item))
/-- nothing was changed -/
local macro_rules | `(tactic| one_place) => `(tactic| first | assumption | exact fun _ _ h => h | exact New.same (by assumption) | (refine Same.trans ?_ (New.same (by assumption)); one_place) | (refine Same.trans ?_ (by assumption); one_place))
/-- what an expression makes, as data -/
local macro_rules | `(tactic| one_sign) => `(tactic| first | exact EvD.str | exact EvD.int | exact EvA.nil | exact EvD.neg | (apply EvA.cons; (focus one_sign); one_sign) | (apply EvD.tup; (focus one_sign); (first | decide | (simp only [List.length_append, List.length_cons, List.length_nil]; omega))) | (apply EvD.var; (focus rfl); kp_flats) | (apply EvL.var; (focus rfl); (focus lcg_sub); assumption) | (apply EvL.lst; (focus one_sign); (first | decide | (simp only [List.length_append, List.length_cons, List.length_nil]; omega))) | (apply EvL.cat; (focus one_sign); (focus one_sign); (first | decide | (simp only [List.length_append, List.length_cons, List.length_nil]; omega))) | (apply EvD.tupOf; one_sign) | (apply EvD.rep; (focus one_sign); (focus simp); (focus decide); (focus decide); decide) | (apply EvL.rep; (focus one_sign); (focus decide); decide) | (apply EvD.adds; (focus one_sign); (focus one_sign); decide +kernel) | exact EvD.non | exact EvD.bl | (apply EvD.ofL; one_sign))
/-- one step, but not into a new list, a new tuple -/
local macro_rules | `(tactic| k_asm) => `(tactic| (fail_if_success (with_reducible show tLst _ _ _ _)); (fail_if_success (with_reducible show tTup _ _ _ _)); (fail_if_success (with_reducible show tOp rCat _ _ _ _ _)); lcg_off)
namespace TD
open PySem PySem.Spec L2 PySem.Calls
open PyProof.Rows hiding St
abbrev ns_l_bag : List Str := ["_law_script", "_law_salt", "_law_cell"]
abbrev ps_l_bag : List Str := ["_law_script"]
def t_l_bag (K : PySem.W.Frag) : TS :=
  (tSeq (tAsg (tC (.int 9497)) (gName 1))
    (tSeq (tFor (iList K (tSl (rSlL K) (tVar 0) tNoPart (tPart (tC (.int 63))))) (gName 2) (tAsg (tOp aMod (tOp aAdd (tOp aAdd (tOp aMul (tVar 1) (tC (.int 40014))) (tOp aMod (tVar 2) (tC (.int 2147483563)))) (tC (.int 11))) (tC (.int 2147483647))) (gName 1)))
    (tRet (tLst (tCons (tCB (rListQ K) (tCons (tSl (rSlL K) (tVar 0) tNoPart (tPart (tC (.int 63)))) tNil)) (tCons (tC (.int 0)) (tCons (tC (.int 0)) (tCons (tVar 1) tNil))))))))
abbrev ns_l_pull : List Str := ["_law_bag_here", "_law_amount", "_law_cell", "_law_got", "_law_seed"]
abbrev ps_l_pull : List Str := ["_law_bag_here", "_law_amount"]
def t_l_pull (K : PySem.W.Frag) : TS :=
  (C8.tCut (tIfS (tAnd (tTest (tOp rEq (tOp (rIxL K) (tVar 0) (tC (.int 2))) (tC (.int 0)))) (tTest (tOp aLt (tOp (rIxL K) (tVar 0) (tC (.int 1))) (tCB (rLenQ K) (tCons (tOp (rIxL K) (tVar 0) (tC (.int 0))) tNil))))) (tSeq (tAsg (tOp (rIxL K) (tOp (rIxL K) (tVar 0) (tC (.int 0))) (tOp (rIxL K) (tVar 0) (tC (.int 1)))) (gName 2))
    (tSeq (tAsg (tOp aAdd (tOp (rIxL K) (tVar 0) (tC (.int 1))) (tC (.int 1))) (gSub (tVar 0) (tC (.int 1)) rSetL))
    (tIfS (tTest (tOp aGe (tVar 2) (tOp aPow (tC (.int 10)) (tC (.int 18))))) (tAsg (tVar 2) (gSub (tVar 0) (tC (.int 2)) rSetL)) (tAsg (tOp aMod (tOp aAdd (tOp aAdd (tOp aMul (tOp (rIxL K) (tVar 0) (tC (.int 3))) (tC (.int 39373))) (tOp aMul (tOp aMod (tVar 2) (tC (.int 2147483563))) (tC (.int 40692)))) (tC (.int 3))) (tC (.int 2147483647))) (gSub (tVar 0) (tC (.int 3)) rSetL))))) tNext)
    (tSeq (tIfS (tTest (tOp aGt (tOp (rIxL K) (tVar 0) (tC (.int 2))) (tC (.int 0)))) (tSeq (tAsg (tOp aMod (tOp (rIxL K) (tVar 0) (tC (.int 2))) (tVar 1)) (gName 3))
    (tSeq (tAsg (tOp aDiv (tOp (rIxL K) (tVar 0) (tC (.int 2))) (tVar 1)) (gSub (tVar 0) (tC (.int 2)) rSetL))
    (tRet (tVar 3)))) tNext)
    (tSeq (tAsg (tOp (rIxL K) (tVar 0) (tC (.int 3))) (gName 4))
    (tSeq (tAsg (tOp aMod (tOp aAdd (tOp aAdd (tOp aMul (tVar 4) (tVar 4)) (tOp aMul (tVar 4) (tC (.int 48271)))) (tC (.int 1442695041))) (tC (.int 2147483647))) (gSub (tVar 0) (tC (.int 3)) rSetL))
    (tRet (tOp aMod (tOp aAdd (tOp aDiv (tOp (rIxL K) (tVar 0) (tC (.int 3))) (tC (.int 83))) (tOp aMul (tOp aMod (tOp (rIxL K) (tVar 0) (tC (.int 3))) (tC (.int 8209))) (tC (.int 53)))) (tVar 1)))))))
/-- the bag: the script's copy at L, the place in it, what is left of a great number, the salt; G: the heap without it -/
structure BagL (K : PySem.W.Frag) (L : Addr) (G : Hp) (l : List V) : Prop where
  ex : ∃ (ns : List Int) (pos big salt : Int), l = [.ref L, .int pos, .int big, .int salt] ∧ G L = some (.lst (ns.map V.int)) ∧ 0 ≤ pos ∧ 0 ≤ big ∧ 0 ≤ salt ∧ salt < 2147483647
/-- the bag stands at b, its list at L, all else is G -/
structure BagV (K : PySem.W.Frag) (H : Hp) (b L : Addr) (G : Hp) : Prop where
  eq : mask b H = G
  ex : ∃ l, H b = some (.lst l) ∧ BagL K L G l
theorem BagL.same {K : PySem.W.Frag} {L : Addr} {G G' : Hp} {l : List V} (e : Same G G') (h : BagL K L G l) : BagL K L G' l := by
  obtain ⟨ns, pos, big, salt, rfl, hL, r⟩ := h
  exact ⟨ns, pos, big, salt, rfl, e _ _ hL, r⟩
section
variable {K : PySem.W.Frag} {H H' : Hp} {b L p : Addr} {G : Hp} {o : HO}
theorem BagV.view (h : BagV K H b L G) : Same G H := h.eq ▸ mask_same
/-- behind a step that changed nothing that stood -/
theorem BagV.keep (h : BagV K H b L G) (s : Same H H') : BagV K H' b L (mask b H') := by
  obtain ⟨e, l, hb, hl⟩ := h
  exact ⟨rfl, l, s _ _ hb, hl.same (e ▸ mask_mono s)⟩
theorem BagV.same (h : BagV K H b L G) (s : Same H H') : Same G (mask b H') := h.eq ▸ mask_mono s
theorem BagV.new (h : BagV K H b L G) (n : New H H' p o) : New G (mask b H') p o := by
  obtain ⟨e, l, hb, hl⟩ := h
  exact e ▸ n.masked hb
theorem BagV.ne (h : BagV K H b L G) {a : Addr} {o : HO} (g : G a = some o) : a ≠ b := fun z => by
  have e := h.eq
  rw [z, ← e, mask_at] at g
  cases g
end
def spPull (K : PySem.W.Frag) : Sp := fun vs H Q _ => ∃ (b L : Addr) (n : Int) (G : Hp), vs = [.ref b, .int n] ∧ BagV K H b L G ∧ 0 < n ∧ n ≤ 10 ^ 30 ∧ ∀ r H', 0 ≤ r → r < n → BagV K H' b L G → Q (.int r) H'
theorem seq_upd {K : PySem.W.Frag} {H : Hp} {a b : Addr} {xs : List V} {o : HO} (n : a ≠ b) (h : SqL K H a xs) : SqL K (upd H b o) a xs := by
  rcases h with (h | ⟨o, h⟩) | h
  · exact .inl (.inl (by rw [upd_ne n]; exact h))
  · exact .inl (.inr ⟨o, by rw [upd_ne n]; exact h⟩)
  · exact .inr h
theorem atI_map {α β : Type} {xs : List α} {f : α → β} {i : Int} (h0 : 0 ≤ i) (h1 : i < xs.length) : ∃ x, xs[i.toNat]? = some x ∧ atI (xs.map f) i = some (f x) := by
  have h2 : i.toNat < xs.length := by omega
  refine ⟨xs[i.toNat], by simp [h2], ?_⟩
  unfold atI ixN
  rw [if_pos h0, if_pos (by rw [List.length_map]; exact h1)]
  simp [h2]
theorem cpow18 : CPow 10 18 := ⟨by decide, by decide, by decide⟩
theorem cdiv_small {i j : Int} (h0 : 0 < j) (h1 : j ≤ 10 ^ 30) : CDivW i j := wide_div (b := 110) h0 (by omega) (by decide) (by decide)
theorem cmul_s {i j : Int} (h0 : 0 ≤ i) (h1 : i < 2147483647) : CMul i j := .inl ⟨by omega, by omega⟩
theorem mod_b (i : Int) {n : Int} (h : 0 < n) : 0 ≤ i % n ∧ i % n < n := ⟨Int.emod_nonneg _ (by omega), Int.emod_lt_of_pos _ h⟩
/-- what stands between the two halves of a pull -/
def PullMid (K : PySem.W.Frag) (b L : Addr) (n : Int) (G : Hp) : L2.St → Hp → Prop := fun σ H' => ∃ (v : Option V) (pos big salt : Int), σ = [some (.ref b), some (.int n), v, none, none] ∧ H' b = some (.lst [.ref L, .int pos, .int big, .int salt]) ∧ mask b H' = G ∧ 0 ≤ pos ∧ 0 ≤ big ∧ 0 ≤ salt ∧ salt < 2147483647
theorem pure_l_pull {K : PySem.W.Frag} (vs : List V) (H : Hp) (Q : VK) (E : XK) (h : spPull K vs H Q E) : t_l_pull K { nx := fun _ H' => Q .non H', rt := Q } (start ns_l_pull vs) H := by
  obtain ⟨b, L, n, G, rfl, V0, n0, n1, k⟩ := h
  obtain ⟨eG, l, hb, ns, pos, big, salt, rfl, hL, h1, h2, h3, h4⟩ := V0
  have hL0 : ∀ H', mask b H' = G → SqL K H' L (ns.map V.int) := fun H' e => Same.seq (e ▸ mask_same) (SqL.of hL)
  have hu : ∀ o, mask b (upd H b o) = G := fun o => mask_upd.trans eG
  show t_l_pull K _ [some (.ref b), some (.int n), none, none, none] H
  unfold t_l_pull
  refine c_cut (PullMid K b L n G) ?_ ?_
  · have hL1 := hL0 H eG
    have hL2 := fun o => hL0 _ (hu o)
    repeat lcg_off
    refine ite_d (fun c => ?_) (fun c => ?_)
    · repeat lcg_off
      refine ite_d (fun c2 => ?_) (fun c2 => ?_)
      · rw [List.length_map] at c2
        obtain ⟨m, hm, ha⟩ := atI_map (f := V.int) h1 c2
        repeat lcg_off
        refine c_ixL hL1 ha ?_
        repeat lcg_off
        refine c_IC cpow18 ?_
        repeat lcg_off
        refine ite_d (fun c3 => ?_) (fun c3 => ?_)
        · repeat lcg_off
          rw [show (10 : Int) ^ (18 : Int).toNat = 1000000000000000000 from by decide] at c3
          exact ⟨_, _, _, _, rfl, upd_same, by simp only [mask_upd]; exact eG, by omega, by omega, h3, h4⟩
        · repeat lcg_off
          refine c_IC (cmul_s h3 h4) ?_
          repeat lcg_off
          have m2 := mod_b m (n := 2147483563) (by decide)
          refine c_IC (cmul_s m2.1 (by omega)) ?_
          repeat lcg_off
          have m3 := mod_b (salt * 39373 + m % 2147483563 * 40692 + 3) (n := 2147483647) (by decide)
          exact ⟨_, _, _, _, rfl, upd_same, by simp only [mask_upd]; exact eG, by omega, h2, m3.1, m3.2⟩
      · repeat lcg_off
        exact ⟨_, _, _, _, rfl, hb, eG, h1, h2, h3, h4⟩
    · refine ite_f ?_
      repeat lcg_off
      exact ⟨_, _, _, _, rfl, hb, eG, h1, h2, h3, h4⟩
  · clear h1 h2 h3 h4 hb eG hu
    rintro σ' H' ⟨v, pos, big, salt, rfl, hb, eG, h1, h2, h3, h4⟩
    repeat lcg_off
    refine ite_d (fun c => ?_) (fun c => ?_)
    · repeat lcg_off
      refine c_IC (cdiv_small n0 n1) ?_
      repeat lcg_off
      have m := mod_b big n0
      exact k _ _ m.1 m.2 ⟨mask_upd.trans eG, _, upd_same, ns, _, _, _, rfl, hL, h1, Int.ediv_nonneg h2 (by omega), h3, h4⟩
    · repeat lcg_off
      refine c_IC (cmul_s h3 h4) ?_
      repeat lcg_off
      refine c_IC (cmul_s h3 h4) ?_
      repeat lcg_off
      have m := mod_b (salt * salt + salt * 48271 + 1442695041) (n := 2147483647) (by decide)
      generalize (salt * salt + salt * 48271 + 1442695041) % 2147483647 = z at m
      repeat lcg_off
      refine c_IC (cdiv_small (by decide) (by decide)) ?_
      repeat lcg_off
      have m2 := mod_b z (n := 8209) (by decide)
      refine c_IC (cmul_s m2.1 (by omega)) ?_
      repeat lcg_off
      have m3 := mod_b (z / 83 + z % 8209 * 53) n0
      exact k _ _ m3.1 m3.2 ⟨mask_upd.trans eG, _, upd_same, ns, _, _, _, rfl, hL, h1, h2, m.1, m.2⟩
/-- the bag of a script -/
def spBag (K : PySem.W.Frag) : Sp := fun vs H Q _ => ∃ (a : Addr) (ns : List Int), vs = [.ref a] ∧ SqL K H a (ns.map V.int) ∧ ∀ b L H', Same H H' → BagV K H' b L (mask b H') → Q (.ref b) H'
theorem cutV_ints (ns : List Int) (lo hi : Option Int) : ∃ ms : List Int, cutV (ns.map V.int) lo hi = ms.map V.int := by
  unfold cutV
  rw [← List.map_drop, ← List.map_take]
  exact ⟨_, rfl⟩
theorem get_map {α β : Type} {xs : List α} {f : α → β} {i : Nat} {y : β} (h : (xs.map f)[i]? = some y) : ∃ x, xs[i]? = some x ∧ y = f x := by
  rw [List.getElem?_map] at h
  cases e : xs[i]? with
  | none => rw [e] at h; cases h
  | some m => rw [e] at h; exact ⟨m, rfl, (Option.some.inj h).symm⟩
theorem pure_l_bag {K : PySem.W.Frag} (vs : List V) (H : Hp) (Q : VK) (E : XK) (h : spBag K vs H Q E) : t_l_bag K { nx := fun _ H' => Q .non H', rt := Q } (start ns_l_bag vs) H := by
  obtain ⟨a, ns, rfl, hS, k⟩ := h
  show t_l_bag K _ [some (.ref a), none, none] H
  unfold t_l_bag
  repeat lcg_off
  intro p H1 N1
  obtain ⟨ms, hm⟩ := cutV_ints ns none (some 63)
  rw [hm] at N1
  refine forL (SqL.of N1.at_) (fun i σ H' => H' = H1 ∧ ∃ (z : Int) (v : Option V), σ = [some (.ref a), some (.int z), v] ∧ 0 ≤ z ∧ z < 2147483647) ?_ ?_ ?_ ?_
  · exact ⟨rfl, 9497, none, rfl, by decide, by decide⟩
  · rintro i σ H' - ⟨rfl, -⟩
    exact SqL.of N1.at_
  · rintro i x σ H' hx ⟨rfl, z, v, rfl, z0, z1⟩
    obtain ⟨m, -, rfl⟩ := get_map hx
    repeat lcg_off
    refine c_IC (cmul_s z0 z1) ?_
    repeat lcg_off
    have m3 := mod_b (z * 40014 + m % 2147483563 + 11) (n := 2147483647) (by decide)
    exact ⟨rfl, _, _, rfl, m3.1, m3.2⟩
  · rintro σ H' ⟨rfl, z, v, rfl, z0, z1⟩
    have hS1 := N1.same.seq hS
    repeat lcg_off
    intro p2 H2 N2
    rw [hm] at N2
    repeat lcg_off
    intro p3 H3 N3
    repeat lcg_off
    intro b H4 N4
    refine k b p3 H4 (N1.same.trans (N2.same.trans (N3.same.trans N4.same))) ⟨rfl, _, N4.at_, ms, 0, 0, z, rfl, ?_, by decide, by decide, z0, z1⟩
    rw [mask_ne (ne_of_none N3.at_ N4.free)]
    exact N4.same _ _ N3.at_
end TD

end
section
open TD L2
/-- what stands at an address -/
local macro_rules | `(tactic| lcg_sub) => `(tactic| first | assumption | exact upd_same | exact New.at_ (by assumption) | (refine New.same (by assumption) _ _ ?_; lcg_sub) | (refine (show Same _ _ from by assumption) _ _ ?_; lcg_sub) | (refine Eq.trans (upd_ne (by first | assumption | exact Ne.symm (by assumption))) ?_; lcg_sub))
/-- a list, a tuple to be read -/
local macro_rules | `(tactic| lcg_src) => `(tactic| first | assumption | exact SqL.of (by lcg_sub) | exact SqT.of (by lcg_sub) | (refine Same.seq (New.same (by assumption)) ?_; lcg_src) | (refine Same.seq (by assumption) ?_; lcg_src) | (refine sameT (New.same (by assumption)) ?_; lcg_src) | (refine sameT (by assumption) ?_; lcg_src))
/-- data at a value -/
local macro_rules | `(tactic| kp_flats) => `(tactic| first | assumption | exact Dp.str _ | exact Dp.int _ | exact Dp.non | exact Dp.bl _ | (refine dp_same (New.same (by assumption)) ?_; kp_flats) | (refine dp_same (by assumption) ?_; kp_flats))
/-- one step of a reading -/
local macro_rules | `(tactic| lcg_off) => `(tactic| first
  | with_reducible refine Stp.go ?_
  | ((with_reducible show tVar _ _ _ _); refine c_var (by rfl) ?_)
  | ((with_reducible show rIxL _ _ _ _ _); refine c_ixL (by lcg_src) (by rfl) ?_)
  | ((with_reducible show rIxT _ _ _ _ _); refine c_ixT (by lcg_src) (by rfl) ?_)
  | ((with_reducible show rSetL _ _ _ _ _); refine c_setL (by lcg_sub) (by rfl) ?_)
  | ((with_reducible show rLenQ _ _ _ _); first | (refine c_lenL (by lcg_src) ?_) | (refine c_lenT (by lcg_src) ?_))
  | ((with_reducible show rSlL _ _ _ _ _ _); refine c_slL (by lcg_src) ?_)
  | ((with_reducible show rListQ _ _ _ _); first | (refine c_listL (by lcg_src) ?_) | (refine c_listT (by lcg_src) ?_))
  | ((with_reducible show rI _ _ _ _ _ _); refine c_IC (by first | assumption | decide | omega) ?_)
  | ((with_reducible show rIsi _ _ _ _); refine c_isi (by kp_flats) (by first | assumption | decide +kernel) ?_)
  | ((with_reducible show rIx _ _ _ _ _); refine c_ix (by first | exact .inl ⟨by lcg_src, by first | assumption | rfl⟩ | exact .inr ⟨by lcg_src, by first | assumption | rfl⟩) ?_)
  | ((with_reducible show NewW _ _ _ _); refine newW ?_)
  | ((with_reducible show rCat _ _ _ _); refine c_cat (by lcg_sub) (by lcg_sub) (le_line (by first | decide | (simp only [List.length_append, List.length_cons, List.length_nil]; omega))) ?_)
  | ((with_reducible show aAddS _ _ _ _); refine c_adds (le_line (by first | decide +kernel | assumption)) ?_)
  | ((with_reducible show rIn _ false _ _ _ _); refine c_inL (by lcg_src) (by rfl) (by rfl) ?_)
  | ((with_reducible show rIn _ true _ _ _ _); refine c_niL (by lcg_src) (by rfl) (by rfl) ?_))
/-- one step, with the new object's names -/
local macro_rules | `(tactic| k_offL) => `(tactic| first | lcg_off | ((with_reducible show ∀ _ _, New _ _ _ _ → _); intro _ _ _))
/-- an error that is held -/
local macro_rules | `(tactic| one_item) => `(tactic| first | assumption | (refine ErrV.same ?_ (New.same (by assumption)); one_item) | (refine ErrV.same ?_ (by assumption); one_item))
/-- nothing was changed -/
local macro_rules | `(tactic| one_place) => `(tactic| first | assumption | exact fun _ _ h => h | exact New.same (by assumption) | (refine Same.trans ?_ (New.same (by assumption)); one_place) | (refine Same.trans ?_ (by assumption); one_place))
/-- what an expression makes, as data -/
local macro_rules | `(tactic| one_sign) => `(tactic| first | exact EvD.str | exact EvD.int | exact EvA.nil | exact EvD.neg | (apply EvA.cons; (focus one_sign); one_sign) | (apply EvD.tup; (focus one_sign); (first | decide | (simp only [List.length_append, List.length_cons, List.length_nil]; omega))) | (apply EvD.var; (focus rfl); kp_flats) | (apply EvL.var; (focus rfl); (focus lcg_sub); assumption) | (apply EvL.lst; (focus one_sign); (first | decide | (simp only [List.length_append, List.length_cons, List.length_nil]; omega))) | (apply EvL.cat; (focus one_sign); (focus one_sign); (first | decide | (simp only [List.length_append, List.length_cons, List.length_nil]; omega))) | (apply EvD.tupOf; one_sign) | (apply EvD.rep; (focus one_sign); (focus simp); (focus decide); (focus decide); decide) | (apply EvL.rep; (focus one_sign); (focus decide); decide) | (apply EvD.adds; (focus one_sign); (focus one_sign); decide +kernel) | exact EvD.non | exact EvD.bl | (apply EvD.ofL; one_sign))
/-- one step, but not into a new list, a new tuple -/
local macro_rules | `(tactic| k_asm) => `(tactic| (fail_if_success (with_reducible show tLst _ _ _ _)); (fail_if_success (with_reducible show tTup _ _ _ _)); (fail_if_success (with_reducible show tOp rCat _ _ _ _ _)); lcg_off)
namespace TD
open PySem PySem.Spec L2 PySem.Calls PySem.TDX
open PyProof.Rows hiding St
def top (i : Nat) : Stmt := PySem.Challenge.pw_turndeal_k57_wrong_formulas.main.body.getD i (.Pass ⟨0, 0, 0, 0⟩)
abbrev s_l_bag : Stmt := top 50
theorem sc_l_bag : FnScope ns_l_bag ps_l_bag (defScope s_l_bag) := ⟨rfl, rfl, rfl, by decide +kernel, rfl, by decide +kernel, by decide +kernel⟩
theorem b_l_bag {P : Program} {w : World} {K : PySem.W.Frag} {mg : Str → Option Value} {base : Heap} {f : Addr} {cdv : Value} {A : Around} {outer : List Env} {s : Shared} {H : Hp} {E : XK} {kk : Nat} (hr : Room kk (A.deeper (envOfC "_law_bag" (defScope s_l_bag) s.heap.objs.size f cdv))) (z_list : mg "list" = none) :
    PSs (cxOf (L2.CX P w) P w K mg base ns_l_bag "_law_bag" (defScope s_l_bag) f cdv A outer s H E) (defBody s_l_bag) (t_l_bag K) :=
  (pss_cons (ps_set (i := 1) sc_l_bag.nd rfl (by first | exact .inl rfl | exact .inr rfl) pe_int)
    (pss_cons (ps_for (passes_of rfl) rfl (pi_list (pe_slice sl_list (pv 0) po_none (po_some pe_int))) (pg_name (i := 2) sc_l_bag.nd rfl (by first | exact .inl rfl | exact .inr rfl)) (pss_one (ps_set (i := 1) sc_l_bag.nd rfl (by first | exact .inl rfl | exact .inr rfl) (pe_op op_mod (pe_op op_add (pe_op op_add (pe_op op_mul (pv 1) pe_int) (pe_op op_mod (pv 2) pe_int)) pe_int) pe_int))))
    (pss_one (ps_ret (pe_lst (pa_cons (pe_callTy call_list_of rfl z_list (by decide +kernel) (pa_cons (pe_slice sl_list (pv 0) po_none (po_some pe_int)) pa_nil)) (pa_cons pe_int (pa_cons pe_int (pa_cons (pv 1) pa_nil)))))))))
abbrev s_l_pull : Stmt := top 51
theorem sc_l_pull : FnScope ns_l_pull ps_l_pull (defScope s_l_pull) := ⟨rfl, rfl, rfl, by decide +kernel, rfl, by decide +kernel, by decide +kernel⟩
theorem b_l_pull {P : Program} {w : World} {K : PySem.W.Frag} {mg : Str → Option Value} {base : Heap} {f : Addr} {cdv : Value} {A : Around} {outer : List Env} {s : Shared} {H : Hp} {E : XK} {kk : Nat} (hr : Room kk (A.deeper (envOfC "_law_pull" (defScope s_l_pull) s.heap.objs.size f cdv))) (z_len : mg "len" = none) :
    PSs (cxOf (L2.CX P w) P w K mg base ns_l_pull "_law_pull" (defScope s_l_pull) f cdv A outer s H E) (defBody s_l_pull) (t_l_pull K) :=
  (C8.pss_cut (ps_if (PW.pt (pw_and (pt_cmpR op_eq (pe_ix ix_list (pv 0) pe_int (fun _ _ => rfl)) pe_int (nomark _)) (pw_and1 (pt_cmpR op_lt (pe_ix ix_list (pv 0) pe_int (fun _ _ => rfl)) (pe_callB call_len_seq rfl z_len (by decide +kernel) (pa_cons (pe_ix ix_list (pv 0) pe_int (fun _ _ => rfl)) pa_nil)) (nomark _))))) (pss_cons (ps_set (i := 2) sc_l_pull.nd rfl (by first | exact .inl rfl | exact .inr rfl) (pe_ix ix_list (pe_ix ix_list (pv 0) pe_int (fun _ _ => rfl)) (pe_ix ix_list (pv 0) pe_int (fun _ _ => rfl)) (fun _ _ => rfl)))
    (pss_cons (ps_asg (pe_op op_add (pe_ix ix_list (pv 0) pe_int (fun _ _ => rfl)) pe_int) (pg_sub (pv 0) pe_int set_list))
    (pss_one (ps_if (pt_cmpR op_ge (pv 2) (pe_op op_pow pe_int pe_int) (nomark _)) (pss_one (ps_asg (pv 2) (pg_sub (pv 0) pe_int set_list))) (pss_one (ps_asg (pe_op op_mod (pe_op op_add (pe_op op_add (pe_op op_mul (pe_ix ix_list (pv 0) pe_int (fun _ _ => rfl)) pe_int) (pe_op op_mul (pe_op op_mod (pv 2) pe_int) pe_int)) pe_int) pe_int) (pg_sub (pv 0) pe_int set_list))))))) pss_nil)
    (pss_cons (ps_if (pt_cmpR op_gt (pe_ix ix_list (pv 0) pe_int (fun _ _ => rfl)) pe_int (nomark _)) (pss_cons (ps_set (i := 3) sc_l_pull.nd rfl (by first | exact .inl rfl | exact .inr rfl) (pe_op op_mod (pe_ix ix_list (pv 0) pe_int (fun _ _ => rfl)) (pv 1)))
    (pss_cons (ps_asg (pe_op op_fdivW (pe_ix ix_list (pv 0) pe_int (fun _ _ => rfl)) (pv 1)) (pg_sub (pv 0) pe_int set_list))
    (pss_one (ps_ret (pv 3))))) pss_nil)
    (pss_cons (ps_set (i := 4) sc_l_pull.nd rfl (by first | exact .inl rfl | exact .inr rfl) (pe_ix ix_list (pv 0) pe_int (fun _ _ => rfl)))
    (pss_cons (ps_asg (pe_op op_mod (pe_op op_add (pe_op op_add (pe_op op_mul (pv 4) (pv 4)) (pe_op op_mul (pv 4) pe_int)) pe_int) pe_int) (pg_sub (pv 0) pe_int set_list))
    (pss_one (ps_ret (pe_op op_mod (pe_op op_add (pe_op op_fdivW (pe_ix ix_list (pv 0) pe_int (fun _ _ => rfl)) pe_int) (pe_op op_mul (pe_op op_mod (pe_ix ix_list (pv 0) pe_int (fun _ _ => rfl)) pe_int) pe_int)) (pv 1))))))))
abbrev s_count_ends : Stmt := top 23
theorem sc_count_ends : FnScope ns_count_ends ps_count_ends (defScope s_count_ends) := ⟨rfl, rfl, rfl, by decide +kernel, rfl, by decide +kernel, by decide +kernel⟩
theorem b_count_ends {P : Program} {w : World} {K : PySem.W.Frag} {mg : Str → Option Value} {base : Heap} {f : Addr} {cdv : Value} {A : Around} {outer : List Env} {s : Shared} {H : Hp} {E : XK} {kk : Nat} {sp_count_ends : Sp} {k_count_ends : Nat} (hr : Room kk (A.deeper (envOfC "count_ends" (defScope s_count_ends) s.heap.objs.size f cdv))) (z_str : mg "str" = none) (z_isinstance : mg "isinstance" = none) (F_count_ends : OkF P w K mg base k_count_ends "count_ends" ["tree"] sp_count_ends) (h_count_ends : k_count_ends ≤ kk) (z_sum : mg "sum" = none) :
    PSs (cxOf (L2.CX P w) P w K mg base ns_count_ends "count_ends" (defScope s_count_ends) f cdv A outer s H E) (defBody s_count_ends) (t_count_ends K sp_count_ends) :=
  (pss_one (ps_ret (pe_ifExp (pt_val (pe_callB call_isi rfl z_isinstance (by decide +kernel) (pa_cons (pv 0) (pa_cons (pe_bltn rfl z_str (by decide +kernel) rfl) pa_nil)))) pe_int (pe_callB (cr_sum rfl) rfl z_sum (by decide +kernel) (pa_cons (pe_lc (own := [("outlet", 1)]) (g := (gName 1)) (tt := tYes) (te := (tCall sp_count_ends [] E0 (tCons (tVar 1) tNil))) rfl sc_count_ends.nd (pi_tup (pv 0)) (blkOk_by (N := ns_count_ends) (sc := defScope s_count_ends) (by decide +kernel)) (fun _ _ _ _ _ => (pg_name (i := 1) sc_count_ends.nd rfl (by first | exact .inl rfl | exact .inr rfl))) (fun _ _ _ _ _ => pts_nil) (fun _ _ _ _ _ => (pe_okF F_count_ends hr h_count_ends rfl passL (pa_cons (pv 1) pa_nil)))) pa_nil)))))
abbrev s_levels : Stmt := top 24
theorem sc_levels : FnScope ns_levels ps_levels (defScope s_levels) := ⟨rfl, rfl, rfl, by decide +kernel, rfl, by decide +kernel, by decide +kernel⟩
theorem b_levels {P : Program} {w : World} {K : PySem.W.Frag} {mg : Str → Option Value} {base : Heap} {f : Addr} {cdv : Value} {A : Around} {outer : List Env} {s : Shared} {H : Hp} {E : XK} {kk : Nat} {sp_levels : Sp} {k_levels : Nat} (hr : Room kk (A.deeper (envOfC "levels" (defScope s_levels) s.heap.objs.size f cdv))) (z_str : mg "str" = none) (z_isinstance : mg "isinstance" = none) (F_levels : OkF P w K mg base k_levels "levels" ["tree"] sp_levels) (h_levels : k_levels ≤ kk) (z_max : mg "max" = none) :
    PSs (cxOf (L2.CX P w) P w K mg base ns_levels "levels" (defScope s_levels) f cdv A outer s H E) (defBody s_levels) (t_levels K sp_levels) :=
  (pss_one (ps_ret (pe_ifExp (pt_val (pe_callB call_isi rfl z_isinstance (by decide +kernel) (pa_cons (pv 0) (pa_cons (pe_bltn rfl z_str (by decide +kernel) rfl) pa_nil)))) pe_int (pe_op op_add pe_int (pe_callB (cr_max rfl) rfl z_max (by decide +kernel) (pa_cons (pe_lc (own := [("outlet", 1)]) (g := (gName 1)) (tt := tYes) (te := (tCall sp_levels [] E0 (tCons (tVar 1) tNil))) rfl sc_levels.nd (pi_tup (pv 0)) (blkOk_by (N := ns_levels) (sc := defScope s_levels) (by decide +kernel)) (fun _ _ _ _ _ => (pg_name (i := 1) sc_levels.nd rfl (by first | exact .inl rfl | exact .inr rfl))) (fun _ _ _ _ _ => pts_nil) (fun _ _ _ _ _ => (pe_okF F_levels hr h_levels rfl passL (pa_cons (pv 1) pa_nil)))) pa_nil))))))
abbrev s_is_name : Stmt := top 20
theorem sc_is_name : FnScope ns_is_name ps_is_name (defScope s_is_name) := ⟨rfl, rfl, rfl, by decide +kernel, rfl, by decide +kernel, by decide +kernel⟩
theorem b_is_name {P : Program} {w : World} {K : PySem.W.Frag} {mg : Str → Option Value} {base : Heap} {f : Addr} {cdv : Value} {A : Around} {outer : List Env} {s : Shared} {H : Hp} {E : XK} {kk : Nat} (hr : Room kk (A.deeper (envOfC "is_name" (defScope s_is_name) s.heap.objs.size f cdv))) (z_str : mg "str" = none) (z_isinstance : mg "isinstance" = none) (z_len : mg "len" = none) (z_MOST_NAME : ∃ t, mg "MOST_NAME" = some (.int 6 t)) (z_LETTERS : ∃ t, mg "LETTERS" = some (.str "abcdefghijklmnopqrstuvwxyz" t)) (z_all : mg "all" = none) :
    PSs (cxOf (L2.CX P w) P w K mg base ns_is_name "is_name" (defScope s_is_name) f cdv A outer s H E) (defBody s_is_name) (t_is_name K) :=
  (pss_one (ps_ret (pe_and (pe_callB call_isi rfl z_isinstance (by decide +kernel) (pa_cons (pv 0) (pa_cons (pe_bltn rfl z_str (by decide +kernel) rfl) pa_nil))) (pe_and (pe_chain op_le op_le pe_int (pe_callB call_len_str rfl z_len (by decide +kernel) (pa_cons (pv 0) pa_nil)) (pe_gi rfl z_MOST_NAME)) (pe_one (pe_callB (cr_all rfl) rfl z_all (by decide +kernel) (pa_cons (pe_lc (own := [("char", 1)]) (g := (gName 1)) (tt := tYes) (te := (tOp rInS (tVar 1) (tC (.str "abcdefghijklmnopqrstuvwxyz")))) rfl sc_is_name.nd (pi_str (pv 0)) (blkOk_by (N := ns_is_name) (sc := defScope s_is_name) (by decide +kernel)) (fun _ _ _ _ _ => (pg_name (i := 1) sc_is_name.nd rfl (by first | exact .inl rfl | exact .inr rfl))) (fun _ _ _ _ _ => pts_nil) (fun _ _ _ _ _ => (pe_cmpR op_inS (pv 1) (pe_gs rfl z_LETTERS) (by with_unfolding_all rfl)))) pa_nil)))))))
abbrev s_is_owner : Stmt := top 21
theorem sc_is_owner : FnScope ns_is_owner ps_is_owner (defScope s_is_owner) := ⟨rfl, rfl, rfl, by decide +kernel, rfl, by decide +kernel, by decide +kernel⟩
theorem b_is_owner {P : Program} {w : World} {K : PySem.W.Frag} {mg : Str → Option Value} {base : Heap} {f : Addr} {cdv : Value} {A : Around} {outer : List Env} {s : Shared} {H : Hp} {E : XK} {kk : Nat} {sp_is_name : Sp} {k_is_name : Nat} (hr : Room kk (A.deeper (envOfC "is_owner" (defScope s_is_owner) s.heap.objs.size f cdv))) (z_NOBODY : ∃ t, mg "NOBODY" = some (.str "-" t)) (F_is_name : OkF P w K mg base k_is_name "is_name" ["text"] sp_is_name) (h_is_name : k_is_name ≤ kk) :
    PSs (cxOf (L2.CX P w) P w K mg base ns_is_owner "is_owner" (defScope s_is_owner) f cdv A outer s H E) (defBody s_is_owner) (t_is_owner K sp_is_name) :=
  (pss_one (ps_ret (pe_or (pe_cmpR (op_eqD (hu64 hr)) (pv 0) (pe_gs rfl z_NOBODY) (nomark _)) (pe_one (pe_okF F_is_name hr h_is_name rfl passL (pa_cons (pv 0) pa_nil))))))
abbrev s_has_form : Stmt := top 22
theorem sc_has_form : FnScope ns_has_form ps_has_form (defScope s_has_form) := ⟨rfl, rfl, rfl, by decide +kernel, rfl, by decide +kernel, by decide +kernel⟩
theorem b_has_form {P : Program} {w : World} {K : PySem.W.Frag} {mg : Str → Option Value} {base : Heap} {f : Addr} {cdv : Value} {A : Around} {outer : List Env} {s : Shared} {H : Hp} {E : XK} {kk : Nat} {sp_has_form : Sp} {k_has_form : Nat} {sp_is_owner : Sp} {k_is_owner : Nat} (hr : Room kk (A.deeper (envOfC "has_form" (defScope s_has_form) s.heap.objs.size f cdv))) (z_tuple : mg "tuple" = none) (z_isinstance : mg "isinstance" = none) (z_len : mg "len" = none) (F_has_form : OkF P w K mg base k_has_form "has_form" ["tree"] sp_has_form) (h_has_form : k_has_form ≤ kk) (z_all : mg "all" = none) (F_is_owner : OkF P w K mg base k_is_owner "is_owner" ["text"] sp_is_owner) (h_is_owner : k_is_owner ≤ kk) :
    PSs (cxOf (L2.CX P w) P w K mg base ns_has_form "has_form" (defScope s_has_form) f cdv A outer s H E) (defBody s_has_form) (t_has_form K sp_has_form sp_is_owner) :=
  (pss_cons (ps_if (pt_val (pe_callB call_isi rfl z_isinstance (by decide +kernel) (pa_cons (pv 0) (pa_cons (pe_bltn rfl z_tuple (by decide +kernel) rfl) pa_nil)))) (pss_one (ps_ret (pe_and (pe_cmpR op_ge (pe_callB call_len_seq rfl z_len (by decide +kernel) (pa_cons (pv 0) pa_nil)) pe_int (nomark _)) (pe_one (pe_callB (cr_all rfl) rfl z_all (by decide +kernel) (pa_cons (pe_lc (own := [("outlet", 1)]) (g := (gName 1)) (tt := tYes) (te := (tCall sp_has_form [] E0 (tCons (tVar 1) tNil))) rfl sc_has_form.nd (pi_tup (pv 0)) (blkOk_by (N := ns_has_form) (sc := defScope s_has_form) (by decide +kernel)) (fun _ _ _ _ _ => (pg_name (i := 1) sc_has_form.nd rfl (by first | exact .inl rfl | exact .inr rfl))) (fun _ _ _ _ _ => pts_nil) (fun _ _ _ _ _ => (pe_okF F_has_form hr h_has_form rfl passL (pa_cons (pv 1) pa_nil)))) pa_nil)))))) pss_nil)
    (pss_one (ps_ret (pe_okF F_is_owner hr h_is_owner rfl passL (pa_cons (pv 0) pa_nil)))))
abbrev s_is_number : Stmt := top 40
theorem sc_is_number : FnScope ns_is_number ps_is_number (defScope s_is_number) := ⟨rfl, rfl, rfl, by decide +kernel, rfl, by decide +kernel, by decide +kernel⟩
theorem b_is_number {P : Program} {w : World} {K : PySem.W.Frag} {mg : Str → Option Value} {base : Heap} {f : Addr} {cdv : Value} {A : Around} {outer : List Env} {s : Shared} {H : Hp} {E : XK} {kk : Nat} (hr : Room kk (A.deeper (envOfC "is_number" (defScope s_is_number) s.heap.objs.size f cdv))) (z_int : mg "int" = none) (z_isinstance : mg "isinstance" = none) :
    PSs (cxOf (L2.CX P w) P w K mg base ns_is_number "is_number" (defScope s_is_number) f cdv A outer s H E) (defBody s_is_number) (t_is_number K) :=
  (pss_one (ps_ret (pe_and (pe_callB call_isi rfl z_isinstance (by decide +kernel) (pa_cons (pv 0) (pa_cons (pe_bltn rfl z_int (by decide +kernel) rfl) pa_nil))) (pe_one (pe_cmpR op_ge (pv 0) (pv 1) (nomark _))))))
abbrev s_is_tree : Stmt := top 41
theorem sc_is_tree : FnScope ns_is_tree ps_is_tree (defScope s_is_tree) := ⟨rfl, rfl, rfl, by decide +kernel, rfl, by decide +kernel, by decide +kernel⟩
theorem b_is_tree {P : Program} {w : World} {K : PySem.W.Frag} {mg : Str → Option Value} {base : Heap} {f : Addr} {cdv : Value} {A : Around} {outer : List Env} {s : Shared} {H : Hp} {E : XK} {kk : Nat} {sp_count_ends : Sp} {k_count_ends : Nat} {sp_has_form : Sp} {k_has_form : Nat} {sp_levels : Sp} {k_levels : Nat} (hr : Room kk (A.deeper (envOfC "is_tree" (defScope s_is_tree) s.heap.objs.size f cdv))) (F_has_form : OkF P w K mg base k_has_form "has_form" ["tree"] sp_has_form) (h_has_form : k_has_form ≤ kk) (F_count_ends : OkF P w K mg base k_count_ends "count_ends" ["tree"] sp_count_ends) (h_count_ends : k_count_ends ≤ kk) (z_MOST_ENDS : ∃ t, mg "MOST_ENDS" = some (.int 400 t)) (F_levels : OkF P w K mg base k_levels "levels" ["tree"] sp_levels) (h_levels : k_levels ≤ kk) (z_MOST_LEVELS : ∃ t, mg "MOST_LEVELS" = some (.int 40 t)) :
    PSs (cxOf (L2.CX P w) P w K mg base ns_is_tree "is_tree" (defScope s_is_tree) f cdv A outer s H E) (defBody s_is_tree) (t_is_tree K sp_count_ends sp_has_form sp_levels) :=
  (pss_one (ps_ret (pe_and (pe_okF F_has_form hr h_has_form rfl passL (pa_cons (pv 0) pa_nil)) (pe_and (pe_cmpR op_le (pe_okF F_count_ends hr h_count_ends rfl passL (pa_cons (pv 0) pa_nil)) (pe_gi rfl z_MOST_ENDS) (nomark _)) (pe_one (pe_cmpR op_le (pe_okF F_levels hr h_levels rfl passL (pa_cons (pv 0) pa_nil)) (pe_gi rfl z_MOST_LEVELS) (nomark _)))))))
abbrev s_parts_of : Stmt := top 42
theorem sc_parts_of : FnScope ns_parts_of ps_parts_of (defScope s_parts_of) := ⟨rfl, rfl, rfl, by decide +kernel, rfl, by decide +kernel, by decide +kernel⟩
theorem b_parts_of {P : Program} {w : World} {K : PySem.W.Frag} {mg : Str → Option Value} {base : Heap} {f : Addr} {cdv : Value} {A : Around} {outer : List Env} {s : Shared} {H : Hp} {E : XK} {kk : Nat} {sp_is_name : Sp} {k_is_name : Nat} {sp_is_number : Sp} {k_is_number : Nat} {sp_is_owner : Sp} {k_is_owner : Nat} {sp_is_tree : Sp} {k_is_tree : Nat} (hr : Room kk (A.deeper (envOfC "parts_of" (defScope s_parts_of) s.heap.objs.size f cdv))) (z_tuple : mg "tuple" = none) (z_isinstance : mg "isinstance" = none) (z_len : mg "len" = none) (z_MOST_PARTS : ∃ t, mg "MOST_PARTS" = some (.int 9 t)) (F_is_number : OkF P w K mg base k_is_number "is_number" ["value", "least"] sp_is_number) (h_is_number : k_is_number ≤ kk) (F_is_owner : OkF P w K mg base k_is_owner "is_owner" ["text"] sp_is_owner) (h_is_owner : k_is_owner ≤ kk) (F_is_tree : OkF P w K mg base k_is_tree "is_tree" ["value"] sp_is_tree) (h_is_tree : k_is_tree ≤ kk) (F_is_name : OkF P w K mg base k_is_name "is_name" ["text"] sp_is_name) (h_is_name : k_is_name ≤ kk) :
    PSs (cxOf (L2.CX P w) P w K mg base ns_parts_of "parts_of" (defScope s_parts_of) f cdv A outer s H E) (defBody s_parts_of) (t_parts_of K sp_is_name sp_is_number sp_is_owner sp_is_tree) :=
  (pss_cons (ps_if (PW.pt (pw_or (pt_not (pt_val (pe_callB call_isi rfl z_isinstance (by decide +kernel) (pa_cons (pv 0) (pa_cons (pe_bltn rfl z_tuple (by decide +kernel) rfl) pa_nil))))) (pw_or1 (pt_cmpR op_lt (pe_callB call_len_seq rfl z_len (by decide +kernel) (pa_cons (pv 0) pa_nil)) pe_int (nomark _))))) (pss_one (ps_ret pe_non)) pss_nil)
    (pss_cons (ps_asg (pv 0) (pg_star rfl (pgs_cons (pg_name (i := 1) sc_parts_of.nd rfl (by first | exact .inl rfl | exact .inr rfl)) (pgs_star (pg_name (i := 2) sc_parts_of.nd rfl (by first | exact .inl rfl | exact .inr rfl)) pgs_nil))))
    (pss_one (ps_match (pv 1) (pm_str (pss_one (ps_ret (pe_ifExp (PW.pt (pw_and (pt_cmpR op_eq (pe_callB call_len_seq rfl z_len (by decide +kernel) (pa_cons (pv 2) pa_nil)) pe_int (nomark _)) (pw_and1 (pt_val (pe_okF F_is_name hr h_is_name rfl passL (pa_cons (pe_ix ix_list (pv 2) pe_int (fun _ _ => rfl)) pa_nil)))))) (pe_lst pa_nil) pe_non)))
    (pm_str (pss_one (ps_ret (pe_ifExp (PW.pt (pw_and (pt_cmpR op_eq (pe_callB call_len_seq rfl z_len (by decide +kernel) (pa_cons (pv 2) pa_nil)) pe_int (nomark _)) (pw_and1 (pt_val (pe_okF F_is_tree hr h_is_tree rfl passL (pa_cons (pe_ix ix_list (pv 2) pe_int (fun _ _ => rfl)) pa_nil)))))) (pe_lst pa_nil) pe_non)))
    (pm_str (pss_one (ps_ret (pe_ifExp (PW.pt (pw_and (pt_cmpR op_eq (pe_callB call_len_seq rfl z_len (by decide +kernel) (pa_cons (pv 2) pa_nil)) pe_int (nomark _)) (pw_and (pt_val (pe_okF F_is_number hr h_is_number rfl passL (pa_cons (pe_ix ix_list (pv 2) pe_int (fun _ _ => rfl)) (pa_cons pe_int pa_nil)))) (pw_and1 (pt_val (pe_okF F_is_number hr h_is_number rfl passL (pa_cons (pe_ix ix_list (pv 2) pe_int (fun _ _ => rfl)) (pa_cons pe_int pa_nil)))))))) (pe_slice sl_list (pv 2) (po_some pe_int) po_none) pe_non)))
    (pm_str (pss_one (ps_ret (pe_ifExp (PW.pt (pw_and (pt_cmpR op_eq (pe_callB call_len_seq rfl z_len (by decide +kernel) (pa_cons (pv 2) pa_nil)) pe_int (nomark _)) (pw_and1 (pt_val (pe_okF F_is_number hr h_is_number rfl passL (pa_cons (pe_ix ix_list (pv 2) pe_int (fun _ _ => rfl)) (pa_cons pe_int pa_nil))))))) (pe_slice sl_list (pv 2) (po_some pe_int) po_none) pe_non)))
    (pm_str (pss_cons (ps_set (i := 3) sc_parts_of.nd rfl (by first | exact .inl rfl | exact .inr rfl) (pe_and (pe_cmpR op_eq (pe_callB call_len_seq rfl z_len (by decide +kernel) (pa_cons (pv 2) pa_nil)) pe_int (nomark _)) (pe_and (pe_okF F_is_number hr h_is_number rfl passL (pa_cons (pe_ix ix_list (pv 2) pe_int (fun _ _ => rfl)) (pa_cons pe_int pa_nil))) (pe_one (pe_okF F_is_number hr h_is_number rfl passL (pa_cons (pe_ix ix_list (pv 2) pe_int (fun _ _ => rfl)) (pa_cons pe_int pa_nil)))))))
    (pss_one (ps_ret (pe_ifExp (PW.pt (pw_and (pt_val (pv 3)) (pw_and (pt_cmpR op_lt (pe_ix ix_list (pv 2) pe_int (fun _ _ => rfl)) (pe_ix ix_list (pv 2) pe_int (fun _ _ => rfl)) (nomark _)) (pw_and1 (pt_val (pe_okF F_is_owner hr h_is_owner rfl passL (pa_cons (pe_ix ix_list (pv 2) pe_int (fun _ _ => rfl)) pa_nil))))))) (pe_slice sl_list (pv 2) (po_some pe_int) po_none) pe_non))))
    (pm_str (pss_one (ps_ret (pe_ifExp (pt_cmpR op_eq (pe_callB call_len_seq rfl z_len (by decide +kernel) (pa_cons (pv 2) pa_nil)) pe_int (nomark _)) (pv 2) pe_non)))
    (pm_str (pss_one (ps_ret (pe_ifExp (pt_chain op_le op_le pe_int (pe_callB call_len_seq rfl z_len (by decide +kernel) (pa_cons (pv 2) pa_nil)) (pe_gi rfl z_MOST_PARTS)) (pv 2) pe_non)))
    (pm_any (pss_one (ps_ret pe_non))))))))))))))
abbrev s_is_formula : Stmt := top 43
theorem sc_is_formula : FnScope ns_is_formula ps_is_formula (defScope s_is_formula) := ⟨rfl, rfl, rfl, by decide +kernel, rfl, by decide +kernel, by decide +kernel⟩
theorem b_is_formula {P : Program} {w : World} {K : PySem.W.Frag} {mg : Str → Option Value} {base : Heap} {f : Addr} {cdv : Value} {A : Around} {outer : List Env} {s : Shared} {H : Hp} {E : XK} {kk : Nat} {sp_is_formula : Sp} {k_is_formula : Nat} {sp_parts_of : Sp} {k_parts_of : Nat} (hr : Room kk (A.deeper (envOfC "is_formula" (defScope s_is_formula) s.heap.objs.size f cdv))) (F_parts_of : OkF P w K mg base k_parts_of "parts_of" ["formula"] sp_parts_of) (h_parts_of : k_parts_of ≤ kk) (F_is_formula : OkF P w K mg base k_is_formula "is_formula" ["formula", "depth"] sp_is_formula) (h_is_formula : k_is_formula ≤ kk) (z_all : mg "all" = none) :
    PSs (cxOf (L2.CX P w) P w K mg base ns_is_formula "is_formula" (defScope s_is_formula) f cdv A outer s H E) (defBody s_is_formula) (t_is_formula K sp_is_formula sp_parts_of) :=
  (pss_cons (ps_set (i := 2) sc_is_formula.nd rfl (by first | exact .inl rfl | exact .inr rfl) (pe_okF F_parts_of hr h_parts_of rfl passL (pa_cons (pv 0) pa_nil)))
    (pss_one (ps_ret (pe_and (pe_cmpR op_gt (pv 1) pe_int (nomark _)) (pe_and (pe_cmpR op_notN1 (pv 2) pe_non (nomark _)) (pe_one (pe_callB (cr_all rfl) rfl z_all (by decide +kernel) (pa_cons (pe_lc (own := [("part", 3)]) (g := (gName 3)) (tt := tYes) (te := (tCall sp_is_formula [] E0 (tCons (tVar 3) (tCons (tOp aSub (tVar 1) (tC (.int 1))) tNil)))) rfl sc_is_formula.nd (pi_list (pv 2)) (blkOk_by (N := ns_is_formula) (sc := defScope s_is_formula) (by decide +kernel)) (fun _ _ _ _ _ => (pg_name (i := 3) sc_is_formula.nd rfl (by first | exact .inl rfl | exact .inr rfl))) (fun _ _ _ _ _ => pts_nil) (fun _ _ _ _ _ => (pe_okF F_is_formula hr h_is_formula rfl passL (pa_cons (pv 3) (pa_cons (pe_op op_sub (pv 1) pe_int) pa_nil))))) pa_nil))))))))
abbrev s_check_formula : Stmt := top 44
theorem sc_check_formula : FnScope ns_check_formula ps_check_formula (defScope s_check_formula) := ⟨rfl, rfl, rfl, by decide +kernel, rfl, by decide +kernel, by decide +kernel⟩
theorem b_check_formula {P : Program} {w : World} {K : PySem.W.Frag} {mg : Str → Option Value} {base : Heap} {f : Addr} {cdv : Value} {A : Around} {outer : List Env} {s : Shared} {H : Hp} {E : XK} {kk : Nat} {kx : Nat} {sp_is_formula : Sp} {k_is_formula : Nat} (hr : Room kk (A.deeper (envOfC "check_formula" (defScope s_check_formula) s.heap.objs.size f cdv))) (z_MOST_DEPTH : ∃ t, mg "MOST_DEPTH" = some (.int 8 t)) (F_is_formula : OkF P w K mg base k_is_formula "is_formula" ["formula", "depth"] sp_is_formula) (h_is_formula : k_is_formula ≤ kk) (F_BadFormula : OkX P w K mg base kx "BadFormula" ["self"] (spE0 K (He.ga K "BadFormula") "BadFormula")) (h_BadFormula : kx + 1 ≤ kk) :
    PSs (cxOf (L2.CX P w) P w K mg base ns_check_formula "check_formula" (defScope s_check_formula) f cdv A outer s H E) (defBody s_check_formula) (t_check_formula K sp_is_formula E) :=
  (pss_one (ps_if (pt_not (pt_val (pe_okF F_is_formula hr h_is_formula rfl passL (pa_cons (pv 0) (pa_cons (pe_gi rfl z_MOST_DEPTH) pa_nil))))) (pss_one (ps_raise rfl (takes_of rfl rfl rfl rfl) (pmk_x0 F_BadFormula hr h_BadFormula rfl))) pss_nil))
abbrev s_l_of : Stmt := top 52
theorem sc_l_of : FnScope ns_l_of ps_l_of (defScope s_l_of) := ⟨rfl, rfl, rfl, by decide +kernel, rfl, by decide +kernel, by decide +kernel⟩
theorem b_l_of {P : Program} {w : World} {K : PySem.W.Frag} {mg : Str → Option Value} {base : Heap} {f : Addr} {cdv : Value} {A : Around} {outer : List Env} {s : Shared} {H : Hp} {E : XK} {kk : Nat} {sp_l_pull : Sp} {k_l_pull : Nat} (hr : Room kk (A.deeper (envOfC "_law_of" (defScope s_l_of) s.heap.objs.size f cdv))) (z_len : mg "len" = none) (F_l_pull : OkF P w K mg base k_l_pull "_law_pull" ["_law_bag_here", "_law_amount"] sp_l_pull) (h_l_pull : k_l_pull ≤ kk) :
    PSs (cxOf (L2.CX P w) P w K mg base ns_l_of "_law_of" (defScope s_l_of) f cdv A outer s H E) (defBody s_l_of) (t_l_of K sp_l_pull) :=
  (pss_one (ps_ret (pe_ix ix_any (pv 1) (pe_okF F_l_pull hr h_l_pull rfl passL (pa_cons (pv 0) (pa_cons (pe_callB call_lenA rfl z_len (by decide +kernel) (pa_cons (pv 1) pa_nil)) pa_nil))) (fun _ _ => rfl))))
abbrev s_l_names : Stmt := top 53
theorem sc_l_names : FnScope ns_l_names ps_l_names (defScope s_l_names) := ⟨rfl, rfl, rfl, by decide +kernel, rfl, by decide +kernel, by decide +kernel⟩
theorem b_l_names {P : Program} {w : World} {K : PySem.W.Frag} {mg : Str → Option Value} {base : Heap} {f : Addr} {cdv : Value} {A : Around} {outer : List Env} {s : Shared} {H : Hp} {E : XK} {kk : Nat} {sp_l_of : Sp} {k_l_of : Nat} {sp_l_pull : Sp} {k_l_pull : Nat} (hr : Room kk (A.deeper (envOfC "_law_names" (defScope s_l_names) s.heap.objs.size f cdv))) (F_l_pull : OkF P w K mg base k_l_pull "_law_pull" ["_law_bag_here", "_law_amount"] sp_l_pull) (h_l_pull : k_l_pull ≤ kk) (z_range : mg "range" = none) (F_l_of : OkF P w K mg base k_l_of "_law_of" ["_law_bag_here", "_law_things"] sp_l_of) (h_l_of : k_l_of ≤ kk) (z_len : mg "len" = none) :
    PSs (cxOf (L2.CX P w) P w K mg base ns_l_names "_law_names" (defScope s_l_names) f cdv A outer s H E) (defBody s_l_names) (t_l_names K sp_l_of sp_l_pull) :=
  (pss_cons (ps_asg (pe_tup (pa_cons pe_str (pa_cons pe_str pa_nil))) (pg_tup rfl (pgs_cons (pg_name (i := 2) sc_l_names.nd rfl (by first | exact .inl rfl | exact .inr rfl)) (pgs_cons (pg_name (i := 3) sc_l_names.nd rfl (by first | exact .inl rfl | exact .inr rfl)) pgs_nil))))
    (pss_cons (ps_for (passes_of rfl) rfl (pi_range1 rfl z_range (pa_cons (pe_okF F_l_pull hr h_l_pull rfl passL (pa_cons (pv 0) (pa_cons pe_int pa_nil))) pa_nil)) (pg_name (i := 4) sc_l_names.nd rfl (by first | exact .inl rfl | exact .inr rfl)) (pss_one (ps_set (i := 3) sc_l_names.nd rfl (by first | exact .inl rfl | exact .inr rfl) (pe_op op_add_str (pv 3) (pe_okF F_l_of hr h_l_of rfl passL (pa_cons (pv 0) (pa_cons (pv 2) pa_nil)))))))
    (pss_cons (ps_asg (pe_tup (pa_cons (pe_okF F_l_pull hr h_l_pull rfl passL (pa_cons (pv 0) (pa_cons (pe_op op_add (pe_callB call_len_str rfl z_len (by decide +kernel) (pa_cons (pv 3) pa_nil)) pe_int) pa_nil))) (pa_cons (pe_okF F_l_pull hr h_l_pull rfl passL (pa_cons (pv 0) (pa_cons pe_int pa_nil))) (pa_cons (pe_okF F_l_of hr h_l_of rfl passL (pa_cons (pv 0) (pa_cons (pe_lst (pa_cons pe_int (pa_cons pe_int (pa_cons pe_int (pa_cons pe_int (pa_cons pe_int pa_nil)))))) pa_nil))) pa_nil)))) (pg_tup rfl (pgs_cons (pg_name (i := 5) sc_l_names.nd rfl (by first | exact .inl rfl | exact .inr rfl)) (pgs_cons (pg_name (i := 6) sc_l_names.nd rfl (by first | exact .inl rfl | exact .inr rfl)) (pgs_cons (pg_name (i := 7) sc_l_names.nd rfl (by first | exact .inl rfl | exact .inr rfl)) pgs_nil)))))
    (pss_one (ps_ret (pe_lc (own := [("_law_k", 4)]) (g := (gName 4)) (tt := tYes) (te := (tOp aAddS (tOp aAddS (tSl rSlS (tVar 3) tNoPart (tPart (tVar 5))) (tOp rIxS (tVar 2) (tOp aMod (tOp aAdd (tVar 6) (tOp aMul (tVar 7) (tVar 4))) (tC (.int 26))))) (tSl rSlS (tVar 3) (tPart (tVar 5)) tNoPart))) rfl sc_l_names.nd (pi_range1 rfl z_range (pa_cons (pv 1) pa_nil)) (blkOk_by (N := ns_l_names) (sc := defScope s_l_names) (by decide +kernel)) (fun _ _ _ _ _ => (pg_name (i := 4) sc_l_names.nd rfl (by first | exact .inl rfl | exact .inr rfl))) (fun _ _ _ _ _ => pts_nil) (fun _ _ _ _ _ => (pe_op op_add_str (pe_op op_add_str (pe_slice sl_str (pv 3) po_none (po_some (pv 5))) (pe_ix ix_str (pv 2) (pe_op op_mod (pe_op op_add (pv 6) (pe_op op_mul (pv 7) (pv 4))) pe_int) (fun _ _ => rfl))) (pe_slice sl_str (pv 3) (po_some (pv 5)) po_none)))))))))
abbrev s_l_tree : Stmt := top 54
theorem sc_l_tree : FnScope ns_l_tree ps_l_tree (defScope s_l_tree) := ⟨rfl, rfl, rfl, by decide +kernel, rfl, by decide +kernel, by decide +kernel⟩
theorem b_l_tree {P : Program} {w : World} {K : PySem.W.Frag} {mg : Str → Option Value} {base : Heap} {f : Addr} {cdv : Value} {A : Around} {outer : List Env} {s : Shared} {H : Hp} {E : XK} {kk : Nat} {sp_l_of : Sp} {k_l_of : Nat} {sp_l_pull : Sp} {k_l_pull : Nat} {sp_l_tree : Sp} {k_l_tree : Nat} (hr : Room kk (A.deeper (envOfC "_law_tree" (defScope s_l_tree) s.heap.objs.size f cdv))) (F_l_pull : OkF P w K mg base k_l_pull "_law_pull" ["_law_bag_here", "_law_amount"] sp_l_pull) (h_l_pull : k_l_pull ≤ kk) (F_l_of : OkF P w K mg base k_l_of "_law_of" ["_law_bag_here", "_law_things"] sp_l_of) (h_l_of : k_l_of ≤ kk) (z_range : mg "range" = none) (F_l_tree : OkF P w K mg base k_l_tree "_law_tree" ["_law_bag_here", "_law_pool", "_law_deep", "_law_widest"] sp_l_tree) (h_l_tree : k_l_tree ≤ kk) (z_tuple : mg "tuple" = none) :
    PSs (cxOf (L2.CX P w) P w K mg base ns_l_tree "_law_tree" (defScope s_l_tree) f cdv A outer s H E) (defBody s_l_tree) (t_l_tree K sp_l_of sp_l_pull sp_l_tree) :=
  (pss_cons (ps_if (PW.pt (pw_or (pt_cmpR op_eq (pv 2) pe_int (nomark _)) (pw_or1 (pt_cmpR op_eq (pe_okF F_l_pull hr h_l_pull rfl passL (pa_cons (pv 0) (pa_cons pe_int pa_nil))) pe_int (nomark _))))) (pss_one (ps_ret (pe_okF F_l_of hr h_l_of rfl passL (pa_cons (pv 0) (pa_cons (pv 1) pa_nil))))) pss_nil)
    (pss_one (ps_ret (pe_callTy call_tuple_of rfl z_tuple (by decide +kernel) (pa_cons (pe_lc (own := [("_law_k", 4)]) (g := (gName 4)) (tt := tYes) (te := (tCall sp_l_tree [] E0 (tCons (tVar 0) (tCons (tVar 1) (tCons (tOp aSub (tVar 2) (tC (.int 1))) (tCons (tVar 3) tNil)))))) rfl sc_l_tree.nd (pi_range1 rfl z_range (pa_cons (pe_op op_add pe_int (pe_okF F_l_pull hr h_l_pull rfl passL (pa_cons (pv 0) (pa_cons (pe_op op_sub (pv 3) pe_int) pa_nil)))) pa_nil)) (blkOk_by (N := ns_l_tree) (sc := defScope s_l_tree) (by decide +kernel)) (fun _ _ _ _ _ => (pg_name (i := 4) sc_l_tree.nd rfl (by first | exact .inl rfl | exact .inr rfl))) (fun _ _ _ _ _ => pts_nil) (fun _ _ _ _ _ => (pe_okF F_l_tree hr h_l_tree rfl passL (pa_cons (pv 0) (pa_cons (pv 1) (pa_cons (pe_op op_sub (pv 2) pe_int) (pa_cons (pv 3) pa_nil))))))) pa_nil)))))
abbrev s_l_class : Stmt := top 57
theorem sc_l_class : FnScope ns_l_class ps_l_class (defScope s_l_class) := ⟨rfl, rfl, rfl, by decide +kernel, rfl, by decide +kernel, by decide +kernel⟩
theorem b_l_class {P : Program} {w : World} {K : PySem.W.Frag} {mg : Str → Option Value} {base : Heap} {f : Addr} {cdv : Value} {A : Around} {outer : List Env} {s : Shared} {H : Hp} {E : XK} {kk : Nat} {sp_l_pull : Sp} {k_l_pull : Nat} (hr : Room kk (A.deeper (envOfC "_law_class" (defScope s_l_class) s.heap.objs.size f cdv))) (F_l_pull : OkF P w K mg base k_l_pull "_law_pull" ["_law_bag_here", "_law_amount"] sp_l_pull) (h_l_pull : k_l_pull ≤ kk) :
    PSs (cxOf (L2.CX P w) P w K mg base ns_l_class "_law_class" (defScope s_l_class) f cdv A outer s H E) (defBody s_l_class) (t_l_class K sp_l_pull) :=
  (pss_cons (ps_set (i := 2) sc_l_class.nd rfl (by first | exact .inl rfl | exact .inr rfl) (pe_op op_add pe_int (pe_okF F_l_pull hr h_l_pull rfl passL (pa_cons (pv 0) (pa_cons (pv 1) pa_nil)))))
    (pss_one (ps_ret (pe_tup (pa_cons (pe_okF F_l_pull hr h_l_pull rfl passL (pa_cons (pv 0) (pa_cons (pv 2) pa_nil))) (pa_cons (pv 2) pa_nil))))))
abbrev s_l_formula : Stmt := top 58
theorem sc_l_formula : FnScope ns_l_formula ps_l_formula (defScope s_l_formula) := ⟨rfl, rfl, rfl, by decide +kernel, rfl, by decide +kernel, by decide +kernel⟩
theorem b_l_formula {P : Program} {w : World} {K : PySem.W.Frag} {mg : Str → Option Value} {base : Heap} {f : Addr} {cdv : Value} {A : Around} {outer : List Env} {s : Shared} {H : Hp} {E : XK} {kk : Nat} {sp_l_class : Sp} {k_l_class : Nat} {sp_l_formula : Sp} {k_l_formula : Nat} {sp_l_of : Sp} {k_l_of : Nat} {sp_l_pull : Sp} {k_l_pull : Nat} {sp_l_tree : Sp} {k_l_tree : Nat} (hr : Room kk (A.deeper (envOfC "_law_formula" (defScope s_l_formula) s.heap.objs.size f cdv))) (F_l_pull : OkF P w K mg base k_l_pull "_law_pull" ["_law_bag_here", "_law_amount"] sp_l_pull) (h_l_pull : k_l_pull ≤ kk) (F_l_of : OkF P w K mg base k_l_of "_law_of" ["_law_bag_here", "_law_things"] sp_l_of) (h_l_of : k_l_of ≤ kk) (F_l_tree : OkF P w K mg base k_l_tree "_law_tree" ["_law_bag_here", "_law_pool", "_law_deep", "_law_widest"] sp_l_tree) (h_l_tree : k_l_tree ≤ kk) (F_l_formula : OkF P w K mg base k_l_formula "_law_formula" ["_law_bag_here", "_law_names_here", "_law_deep"] sp_l_formula) (h_l_formula : k_l_formula ≤ kk) (F_l_class : OkF P w K mg base k_l_class "_law_class" ["_law_bag_here", "_law_most"] sp_l_class) (h_l_class : k_l_class ≤ kk) (z_range : mg "range" = none) (z_tuple : mg "tuple" = none) :
    PSs (cxOf (L2.CX P w) P w K mg base ns_l_formula "_law_formula" (defScope s_l_formula) f cdv A outer s H E) (defBody s_l_formula) (t_l_formula K sp_l_class sp_l_formula sp_l_of sp_l_pull sp_l_tree) :=
  (pss_cons (ps_set (i := 3) sc_l_formula.nd rfl (by first | exact .inl rfl | exact .inr rfl) (pe_ifExp (pt_cmpR op_gt (pv 2) pe_int (nomark _)) (pe_okF F_l_pull hr h_l_pull rfl passL (pa_cons (pv 0) (pa_cons pe_int pa_nil))) (pe_okF F_l_pull hr h_l_pull rfl passL (pa_cons (pv 0) (pa_cons pe_int pa_nil)))))
    (pss_cons (ps_if (pt_cmpR op_eq (pv 3) pe_int (nomark _)) (pss_one (ps_ret (pe_tup (pa_cons pe_str (pa_cons (pe_okF F_l_of hr h_l_of rfl passL (pa_cons (pv 0) (pa_cons (pv 1) pa_nil))) pa_nil))))) pss_nil)
    (pss_cons (ps_if (pt_cmpR op_eq (pv 3) pe_int (nomark _)) (pss_one (ps_ret (pe_tup (pa_cons pe_str (pa_cons (pe_okF F_l_tree hr h_l_tree rfl passL (pa_cons (pv 0) (pa_cons (pe_lst (pa_cons pe_str (pa_cons pe_str (pa_cons pe_str pa_nil)))) (pa_cons pe_int (pa_cons pe_int pa_nil))))) pa_nil))))) pss_nil)
    (pss_cons (ps_set (i := 4) sc_l_formula.nd rfl (by first | exact .inl rfl | exact .inr rfl) (pe_okF F_l_formula hr h_l_formula rfl passL (pa_cons (pv 0) (pa_cons (pv 1) (pa_cons (pe_op op_sub (pv 2) pe_int) pa_nil)))))
    (pss_cons (ps_if (pt_cmpR op_eq (pv 3) pe_int (nomark _)) (pss_one (ps_ret (pe_tup (pa_cons pe_str (pa_cons (pe_okF F_l_pull hr h_l_pull rfl passL (pa_cons (pv 0) (pa_cons pe_int pa_nil))) (pa_cons (pe_op op_add pe_int (pe_okF F_l_pull hr h_l_pull rfl passL (pa_cons (pv 0) (pa_cons pe_int pa_nil)))) (pa_cons (pv 4) pa_nil))))))) pss_nil)
    (pss_cons (ps_if (pt_cmpR op_eq (pv 3) pe_int (nomark _)) (pss_one (ps_ret (pe_tup (pa_cons pe_str (pa_cons (pe_okF F_l_pull hr h_l_pull rfl passL (pa_cons (pv 0) (pa_cons (pe_okF F_l_of hr h_l_of rfl passL (pa_cons (pv 0) (pa_cons (pe_lst (pa_cons pe_int (pa_cons (pe_op op_pow pe_int pe_int) pa_nil))) pa_nil))) pa_nil))) (pa_cons (pv 4) pa_nil)))))) pss_nil)
    (pss_cons (ps_if (pt_cmpR op_eq (pv 3) pe_int (nomark _)) (pss_cons (ps_asg (pe_okF F_l_class hr h_l_class rfl passL (pa_cons (pv 0) (pa_cons pe_int pa_nil))) (pg_tup rfl (pgs_cons (pg_name (i := 5) sc_l_formula.nd rfl (by first | exact .inl rfl | exact .inr rfl)) (pgs_cons (pg_name (i := 6) sc_l_formula.nd rfl (by first | exact .inl rfl | exact .inr rfl)) pgs_nil))))
    (pss_one (ps_ret (pe_tup (pa_cons pe_str (pa_cons (pv 5) (pa_cons (pv 6) (pa_cons (pe_okF F_l_of hr h_l_of rfl passL (pa_cons (pv 0) (pa_cons (pe_lst (pa_cons pe_str (pa_cons pe_str (pa_cons pe_str pa_nil)))) pa_nil))) (pa_cons (pv 4) pa_nil))))))))) pss_nil)
    (pss_cons (ps_if (pt_cmpR op_eq (pv 3) pe_int (nomark _)) (pss_one (ps_ret (pe_tup (pa_cons pe_str (pa_cons (pv 4) pa_nil))))) pss_nil)
    (pss_cons (ps_setLc (i := 7) (own := [("_law_k", 8)]) (g := (gName 8)) (tt := tYes) (te := (tCall sp_l_formula [] E0 (tCons (tVar 0) (tCons (tVar 1) (tCons (tOp aSub (tVar 2) (tC (.int 1))) tNil))))) rfl sc_l_formula.nd rfl rfl (sw_true rfl rfl rfl (by decide +kernel)) (pi_range1 rfl z_range (pa_cons (pe_okF F_l_of hr h_l_of rfl passL (pa_cons (pv 0) (pa_cons (pe_lst (pa_cons pe_int (pa_cons pe_int (pa_cons pe_int pa_nil)))) pa_nil))) pa_nil)) (blkOk_by (N := ns_l_formula) (sc := defScope s_l_formula) (by decide +kernel)) (fun _ _ _ _ _ => (pg_name (i := 8) sc_l_formula.nd rfl (by first | exact .inl rfl | exact .inr rfl))) (fun _ _ _ _ _ => pts_nil) (fun _ _ _ _ _ => (pe_okF F_l_formula hr h_l_formula rfl passL (pa_cons (pv 0) (pa_cons (pv 1) (pa_cons (pe_op op_sub (pv 2) pe_int) pa_nil))))))
    (pss_one (ps_ret (pe_callTy call_tuple_of rfl z_tuple (by decide +kernel) (pa_cons (pe_op op_cat (pe_lst (pa_cons pe_str (pa_cons (pv 4) pa_nil))) (pv 7)) pa_nil)))))))))))))
abbrev s_l_inner : Stmt := top 59
theorem sc_l_inner : FnScope ns_l_inner ps_l_inner (defScope s_l_inner) := ⟨rfl, rfl, rfl, by decide +kernel, rfl, by decide +kernel, by decide +kernel⟩
theorem b_l_inner {P : Program} {w : World} {K : PySem.W.Frag} {mg : Str → Option Value} {base : Heap} {f : Addr} {cdv : Value} {A : Around} {outer : List Env} {s : Shared} {H : Hp} {E : XK} {kk : Nat} (hr : Room kk (A.deeper (envOfC "_law_inner" (defScope s_l_inner) s.heap.objs.size f cdv))) (z_list : mg "list" = none) :
    PSs (cxOf (L2.CX P w) P w K mg base ns_l_inner "_law_inner" (defScope s_l_inner) f cdv A outer s H E) (defBody s_l_inner) (t_l_inner K) :=
  (pss_cons (ps_set (i := 1) sc_l_inner.nd rfl (by first | exact .inl rfl | exact .inr rfl) (pe_disp (pps_cons pe_str pe_int (pps_cons pe_str pe_int (pps_cons pe_str pe_int (pps_cons pe_str pe_int (pps_cons pe_str pe_int (pps_cons pe_str pe_int (pps_cons pe_str pe_int pps_nil))))))) (by rfl) (by rfl) (fun z => by cases z) (by decide)))
    (pss_one (ps_ret (pe_callTy call_list_of rfl z_list (by decide +kernel) (pa_cons (pe_slice sl_tupA (pv 0) (po_some (pe_dget (hu_of hr) (pv 1) (pe_ix ix_tup (pv 0) pe_int (fun _ _ => rfl)) (fun _ _ => rfl))) po_none) pa_nil)))))
abbrev s_l_with : Stmt := top 60
theorem sc_l_with : FnScope ns_l_with ps_l_with (defScope s_l_with) := ⟨rfl, rfl, rfl, by decide +kernel, rfl, by decide +kernel, by decide +kernel⟩
theorem b_l_with {P : Program} {w : World} {K : PySem.W.Frag} {mg : Str → Option Value} {base : Heap} {f : Addr} {cdv : Value} {A : Around} {outer : List Env} {s : Shared} {H : Hp} {E : XK} {kk : Nat} {sp_l_inner : Sp} {k_l_inner : Nat} {sp_l_pull : Sp} {k_l_pull : Nat} {sp_l_with : Sp} {k_l_with : Nat} (hr : Room kk (A.deeper (envOfC "_law_with" (defScope s_l_with) s.heap.objs.size f cdv))) (F_l_inner : OkF P w K mg base k_l_inner "_law_inner" ["_law_formula_z"] sp_l_inner) (h_l_inner : k_l_inner ≤ kk) (F_l_pull : OkF P w K mg base k_l_pull "_law_pull" ["_law_bag_here", "_law_amount"] sp_l_pull) (h_l_pull : k_l_pull ≤ kk) (z_len : mg "len" = none) (F_l_with : OkF P w K mg base k_l_with "_law_with" ["_law_bag_here", "_law_formula_z", "_law_odd"] sp_l_with) (h_l_with : k_l_with ≤ kk) :
    PSs (cxOf (L2.CX P w) P w K mg base ns_l_with "_law_with" (defScope s_l_with) f cdv A outer s H E) (defBody s_l_with) (t_l_with K sp_l_inner sp_l_pull sp_l_with) :=
  (pss_cons (ps_set (i := 3) sc_l_with.nd rfl (by first | exact .inl rfl | exact .inr rfl) (pe_okF F_l_inner hr h_l_inner rfl passL (pa_cons (pv 1) pa_nil)))
    (pss_cons (ps_if (PW.pt (pw_or (pt_cmpR (op_eqD (hu64 hr)) (pv 3) (pe_lst pa_nil) (nomark _)) (pw_or1 (pt_cmpR op_eq (pe_okF F_l_pull hr h_l_pull rfl passL (pa_cons (pv 0) (pa_cons pe_int pa_nil))) pe_int (nomark _))))) (pss_one (ps_ret (pv 2))) pss_nil)
    (pss_cons (ps_set (i := 4) sc_l_with.nd rfl (by first | exact .inl rfl | exact .inr rfl) (pe_okF F_l_pull hr h_l_pull rfl passL (pa_cons (pv 0) (pa_cons (pe_callB call_len_seq rfl z_len (by decide +kernel) (pa_cons (pv 3) pa_nil)) pa_nil))))
    (pss_cons (ps_set (i := 5) sc_l_with.nd rfl (by first | exact .inl rfl | exact .inr rfl) (pe_op op_add (pe_op op_sub (pe_callB call_len_seq rfl z_len (by decide +kernel) (pa_cons (pv 1) pa_nil)) (pe_callB call_len_seq rfl z_len (by decide +kernel) (pa_cons (pv 3) pa_nil))) (pv 4)))
    (pss_one (ps_ret (pe_op op_catA (pe_op op_catA (pe_slice sl_tupA (pv 1) po_none (po_some (pv 5))) (pe_tup (pa_cons (pe_okF F_l_with hr h_l_with rfl passL (pa_cons (pv 0) (pa_cons (pe_ix ix_list (pv 3) (pv 4) (fun _ _ => rfl)) (pa_cons (pv 2) pa_nil)))) pa_nil))) (pe_slice sl_tupA (pv 1) (po_some (pe_op op_add (pv 5) pe_int)) po_none))))))))
abbrev s_l_nest : Stmt := top 61
theorem sc_l_nest : FnScope ns_l_nest ps_l_nest (defScope s_l_nest) := ⟨rfl, rfl, rfl, by decide +kernel, rfl, by decide +kernel, by decide +kernel⟩
theorem b_l_nest {P : Program} {w : World} {K : PySem.W.Frag} {mg : Str → Option Value} {base : Heap} {f : Addr} {cdv : Value} {A : Around} {outer : List Env} {s : Shared} {H : Hp} {E : XK} {kk : Nat} (hr : Room kk (A.deeper (envOfC "_law_nest" (defScope s_l_nest) s.heap.objs.size f cdv))) (z_range : mg "range" = none) :
    PSs (cxOf (L2.CX P w) P w K mg base ns_l_nest "_law_nest" (defScope s_l_nest) f cdv A outer s H E) (defBody s_l_nest) (t_l_nest K) :=
  (pss_cons (ps_set (i := 1) sc_l_nest.nd rfl (by first | exact .inl rfl | exact .inr rfl) (pe_tup (pa_cons pe_str (pa_cons pe_str pa_nil))))
    (pss_cons (ps_for (passes_of rfl) rfl (pi_range1 rfl z_range (pa_cons (pe_op op_sub (pv 0) pe_int) pa_nil)) (pg_name (i := 2) sc_l_nest.nd rfl (by first | exact .inl rfl | exact .inr rfl)) (pss_one (ps_set (i := 1) sc_l_nest.nd rfl (by first | exact .inl rfl | exact .inr rfl) (pe_tup (pa_cons pe_str (pa_cons (pv 1) pa_nil))))))
    (pss_one (ps_ret (pv 1)))))
abbrev s_eval57 : Stmt := top 48
theorem sc_eval57 : FnScope ns_eval57 ps_eval57 (defScope s_eval57) := ⟨rfl, rfl, rfl, by decide +kernel, rfl, by decide +kernel, by decide +kernel⟩
theorem b_eval57 {P : Program} {w : World} {K : PySem.W.Frag} {mg : Str → Option Value} {base : Heap} {f : Addr} {cdv : Value} {A : Around} {outer : List Env} {s : Shared} {H : Hp} {E : XK} {kk : Nat} {sp_check_formula : Sp} {k_check_formula : Nat} (hr : Room kk (A.deeper (envOfC "evaluate" (defScope s_eval57) s.heap.objs.size f cdv))) (F_check_formula : OkF P w K mg base k_check_formula "check_formula" ["formula"] sp_check_formula) (h_check_formula : k_check_formula ≤ kk) :
    PSs (cxOf (L2.CX P w) P w K mg base ns_eval57 "evaluate" (defScope s_eval57) f cdv A outer s H E) (defBody s_eval57) (t_eval57 K sp_check_formula E) :=
  (pss_cons (ps_expr (pe_okF F_check_formula hr h_check_formula rfl (passes_call (takes_of rfl rfl rfl rfl) (fun _ _ _ _ h => h)) (pa_cons (pv 0) pa_nil)))
    pss_never)
abbrev s_l_fieldX : Stmt := top 55
theorem sc_l_fieldX : FnScope ns_l_fieldX ps_l_fieldX (defScope s_l_fieldX) := ⟨rfl, rfl, rfl, by decide +kernel, rfl, by decide +kernel, by decide +kernel⟩
theorem b_l_fieldX {CX : CXT} {P : Program} {w : World} {K : PySem.W.Frag} {mg : Str → Option Value} {base : Heap} {f : Addr} {cdv : Value} {A : Around} {outer : List Env} {s : Shared} {H : Hp} {E : XK} {p : Addr × Obj} {eC : Value} {ed : Option Addr} (hz : Zc eC ed p.2) (hf : ∃ xs, p.2.data = .fields xs) :
    PSs (L2H.cxH CX P w K mg base ns_l_fieldX "_law_field" (defScope s_l_fieldX) f cdv A outer s H E p) (defBody s_l_fieldX) (t_l_fieldX K p.1 eC ed) :=
  (pss_cons (ps_if (pt_cmpR op_in_seq (pe_xh List.mem_cons_self hz hf (pv 0)) (pe_lst (pa_cons pe_str (pa_cons pe_str (pa_cons pe_str pa_nil)))) (by with_unfolding_all rfl)) (pss_one (ps_ret (pe_xh List.mem_cons_self hz hf (pv 0)))) pss_nil)
    (pss_cons (ps_if (pt_cmpR op_in_seq (pe_xh List.mem_cons_self hz hf (pv 0)) (pe_lst (pa_cons pe_str (pa_cons pe_str (pa_cons pe_str pa_nil)))) (by with_unfolding_all rfl)) (pss_one (ps_ret (pe_xh List.mem_cons_self hz hf (pv 0)))) pss_nil)
    (pss_cons (ps_if (pt_cmpR op_in_seq (pe_xh List.mem_cons_self hz hf (pv 0)) (pe_lst (pa_cons pe_str (pa_cons pe_str pa_nil))) (by with_unfolding_all rfl)) (pss_one (ps_ret (pe_xh List.mem_cons_self hz hf (pv 0)))) pss_nil)
    (pss_cons (ps_if (pt_cmpR op_in_seq (pe_xh List.mem_cons_self hz hf (pv 0)) (pe_lst (pa_cons pe_str (pa_cons pe_str (pa_cons pe_str pa_nil)))) (by with_unfolding_all rfl)) (pss_one (ps_ret (pe_xh List.mem_cons_self hz hf (pv 0)))) pss_nil)
    (pss_cons (ps_if (pt_cmpR op_in_seq (pe_xh List.mem_cons_self hz hf (pv 0)) (pe_lst (pa_cons pe_str (pa_cons pe_str pa_nil))) (by with_unfolding_all rfl)) (pss_one (ps_ret (pe_xh List.mem_cons_self hz hf (pv 0)))) pss_nil)
    (pss_cons (ps_if (pt_cmpR op_in_seq (pe_xh List.mem_cons_self hz hf (pv 0)) (pe_lst (pa_cons pe_str (pa_cons pe_str pa_nil))) (by with_unfolding_all rfl)) (pss_one (ps_ret (pe_ifExp (pt_cmpR op_eq (pe_xh List.mem_cons_self hz hf (pv 0)) pe_str (nomark _)) (pe_xh List.mem_cons_self hz hf (pv 0)) (pe_xh List.mem_cons_self hz hf (pv 0))))) pss_nil)
    (pss_one (ps_ret (pe_ifExp (pt_cmpR op_eq (pe_xh List.mem_cons_self hz hf (pv 0)) pe_str (nomark _)) (pe_xh List.mem_cons_self hz hf (pv 0)) (pe_ifExp (pt_cmpR op_eq (pe_xh List.mem_cons_self hz hf (pv 0)) pe_str (nomark _)) (pe_xh List.mem_cons_self hz hf (pv 0)) pe_non))))))))))
end TD

end
section
open TD L2
/-- what stands at an address -/
local macro_rules | `(tactic| lcg_sub) => `(tactic| first | assumption | exact upd_same | exact New.at_ (by assumption) | (refine New.same (by assumption) _ _ ?_; lcg_sub) | (refine (show Same _ _ from by assumption) _ _ ?_; lcg_sub) | (refine Eq.trans (upd_ne (by first | assumption | exact Ne.symm (by assumption))) ?_; lcg_sub))
/-- a list, a tuple to be read -/
local macro_rules | `(tactic| lcg_src) => `(tactic| first | assumption | exact SqL.of (by lcg_sub) | exact SqT.of (by lcg_sub) | (refine Same.seq (New.same (by assumption)) ?_; lcg_src) | (refine Same.seq (by assumption) ?_; lcg_src) | (refine sameT (New.same (by assumption)) ?_; lcg_src) | (refine sameT (by assumption) ?_; lcg_src))
/-- data at a value -/
local macro_rules | `(tactic| kp_flats) => `(tactic| first | assumption | exact Dp.str _ | exact Dp.int _ | exact Dp.non | exact Dp.bl _ | (refine dp_same (New.same (by assumption)) ?_; kp_flats) | (refine dp_same (by assumption) ?_; kp_flats))
/-- one step of a reading -/
local macro_rules | `(tactic| lcg_off) => `(tactic| first
  | with_reducible refine Stp.go ?_
  | ((with_reducible show tVar _ _ _ _); refine c_var (by rfl) ?_)
  | ((with_reducible show rIxL _ _ _ _ _); refine c_ixL (by lcg_src) (by rfl) ?_)
  | ((with_reducible show rIxT _ _ _ _ _); refine c_ixT (by lcg_src) (by rfl) ?_)
  | ((with_reducible show rSetL _ _ _ _ _); refine c_setL (by lcg_sub) (by rfl) ?_)
  | ((with_reducible show rLenQ _ _ _ _); first | (refine c_lenL (by lcg_src) ?_) | (refine c_lenT (by lcg_src) ?_))
  | ((with_reducible show rSlL _ _ _ _ _ _); refine c_slL (by lcg_src) ?_)
  | ((with_reducible show rListQ _ _ _ _); first | (refine c_listL (by lcg_src) ?_) | (refine c_listT (by lcg_src) ?_))
  | ((with_reducible show rI _ _ _ _ _ _); refine c_IC (by first | assumption | decide | omega) ?_)
  | ((with_reducible show rIsi _ _ _ _); refine c_isi (by kp_flats) (by first | assumption | decide +kernel) ?_)
  | ((with_reducible show rIx _ _ _ _ _); refine c_ix (by first | exact .inl ⟨by lcg_src, by first | assumption | rfl⟩ | exact .inr ⟨by lcg_src, by first | assumption | rfl⟩) ?_)
  | ((with_reducible show NewW _ _ _ _); refine newW ?_)
  | ((with_reducible show rCat _ _ _ _); refine c_cat (by lcg_sub) (by lcg_sub) (le_line (by first | decide | (simp only [List.length_append, List.length_cons, List.length_nil]; omega))) ?_)
  | ((with_reducible show aAddS _ _ _ _); refine c_adds (le_line (by first | decide +kernel | assumption)) ?_)
  | ((with_reducible show rIn _ false _ _ _ _); refine c_inL (by lcg_src) (by rfl) (by rfl) ?_)
  | ((with_reducible show rIn _ true _ _ _ _); refine c_niL (by lcg_src) (by rfl) (by rfl) ?_))
/-- one step, with the new object's names -/
local macro_rules | `(tactic| k_offL) => `(tactic| first | lcg_off | ((with_reducible show ∀ _ _, New _ _ _ _ → _); intro _ _ _))
/-- an error that is held -/
local macro_rules | `(tactic| one_item) => `(tactic| first | assumption | (refine ErrV.same ?_ (New.same (by assumption)); one_item) | (refine ErrV.same ?_ (by assumption); one_item))
/-- nothing was changed -/
local macro_rules | `(tactic| one_place) => `(tactic| first | assumption | exact fun _ _ h => h | exact New.same (by assumption) | (refine Same.trans ?_ (New.same (by assumption)); one_place) | (refine Same.trans ?_ (by assumption); one_place))
/-- what an expression makes, as data -/
local macro_rules | `(tactic| one_sign) => `(tactic| first | exact EvD.str | exact EvD.int | exact EvA.nil | exact EvD.neg | (apply EvA.cons; (focus one_sign); one_sign) | (apply EvD.tup; (focus one_sign); (first | decide | (simp only [List.length_append, List.length_cons, List.length_nil]; omega))) | (apply EvD.var; (focus rfl); kp_flats) | (apply EvL.var; (focus rfl); (focus lcg_sub); assumption) | (apply EvL.lst; (focus one_sign); (first | decide | (simp only [List.length_append, List.length_cons, List.length_nil]; omega))) | (apply EvL.cat; (focus one_sign); (focus one_sign); (first | decide | (simp only [List.length_append, List.length_cons, List.length_nil]; omega))) | (apply EvD.tupOf; one_sign) | (apply EvD.rep; (focus one_sign); (focus simp); (focus decide); (focus decide); decide) | (apply EvL.rep; (focus one_sign); (focus decide); decide) | (apply EvD.adds; (focus one_sign); (focus one_sign); decide +kernel) | exact EvD.non | exact EvD.bl | (apply EvD.ofL; one_sign))
/-- one step, but not into a new list, a new tuple -/
local macro_rules | `(tactic| k_asm) => `(tactic| (fail_if_success (with_reducible show tLst _ _ _ _)); (fail_if_success (with_reducible show tTup _ _ _ _)); (fail_if_success (with_reducible show tOp rCat _ _ _ _ _)); lcg_off)
namespace TD
open PySem PySem.Spec L2 PySem.Calls PySem.TDX
open PyProof.Rows hiding St
abbrev s_l_try : Stmt := top 56
theorem sc_l_try : FnScope ["_law_ask", "_law_e"] ["_law_ask"] (defScope s_l_try) := ⟨rfl, rfl, rfl, by decide +kernel, rfl, by decide +kernel, by decide +kernel⟩
abbrev s_law : Stmt := top 62
theorem sc_law : FnScope ns_law ps_law (defScope s_law) := ⟨rfl, rfl, rfl, by decide +kernel, rfl, by decide +kernel, by decide +kernel⟩
theorem b_law {P : Program} {w : World} {K : PySem.W.Frag} {mg : Str → Option Value} {base : Heap} {f : Addr} {A : Around} {outer : List Env} {s : Shared} {H : Hp} {E : XK} {kk : Nat} {kK_check_formula : Nat} {sp_check_formula : Sp} {k_check_formula : Nat} {sp_evaluate : Sp} {k_evaluate : Nat} {sp_l_bag : Sp} {k_l_bag : Nat} {sp_l_formula : Sp} {k_l_formula : Nat} {sp_l_names : Sp} {k_l_names : Nat} {sp_l_nest : Sp} {k_l_nest : Nat} {sp_l_of : Sp} {k_l_of : Nat} {sp_l_pull : Sp} {k_l_pull : Nat} {sp_l_with : Sp} {k_l_with : Nat} (hr : Room (kk + 2) (A.deeper (envOfC "law" (defScope s_law) s.heap.objs.size f (.ref (lawC K))))) (F_l_bag : OkF P w K mg base k_l_bag "_law_bag" ["_law_script"] sp_l_bag) (h_l_bag : k_l_bag ≤ kk) (F_l_names : OkF P w K mg base k_l_names "_law_names" ["_law_bag_here", "_law_size"] sp_l_names) (h_l_names : k_l_names ≤ kk) (z_range : mg "range" = none) (z_tuple : mg "tuple" = none) (F_l_pull : OkF P w K mg base k_l_pull "_law_pull" ["_law_bag_here", "_law_amount"] sp_l_pull) (h_l_pull : k_l_pull ≤ kk) (F_l_formula : OkF P w K mg base k_l_formula "_law_formula" ["_law_bag_here", "_law_names_here", "_law_deep"] sp_l_formula) (h_l_formula : k_l_formula ≤ kk) (F_l_of : OkF P w K mg base k_l_of "_law_of" ["_law_bag_here", "_law_things"] sp_l_of) (h_l_of : k_l_of ≤ kk) (F_l_with : OkF P w K mg base k_l_with "_law_with" ["_law_bag_here", "_law_formula_z", "_law_odd"] sp_l_with) (h_l_with : k_l_with ≤ kk) (FT : ∃ fd, FunD K "_law_try" "_law_try" (defArgs s_l_try) (defBody s_l_try) (defScope s_l_try) [] [] (He.ga K "_law_try") fd) (FF : OkFX P w K mg base) (m_try : mg "_law_try" = some (.ref (He.ga K "_law_try"))) (m_TE : mg "TurnError" = some (.ref (He.ga K "TurnError"))) (m_TM : mg "TurnMissing" = some (.ref (He.ga K "TurnMissing"))) (TB : LamX.TabB base mg (lawC K) (lawP K)) (FK_check_formula : OkK P w K mg base kK_check_formula "check_formula" ["formula"] sp_check_formula) (hK_check_formula : kK_check_formula ≤ kk) (F_check_formula : OkF P w K mg base k_check_formula "check_formula" ["formula"] sp_check_formula) (h_check_formula : k_check_formula ≤ kk) (F_evaluate : OkF P w K mg base k_evaluate "evaluate" ["formula", "trees"] sp_evaluate) (h_evaluate : k_evaluate ≤ kk) (F_l_nest : OkF P w K mg base k_l_nest "_law_nest" ["_law_count_z"] sp_l_nest) (h_l_nest : k_l_nest ≤ kk) :
    PSs (cxOf (L2.CX P w) P w K mg base ns_law "law" (defScope s_law) f (.ref (lawC K)) A outer s H E) (defBody s_law) (t_law K sp_check_formula sp_evaluate sp_l_bag sp_l_formula sp_l_names sp_l_nest sp_l_of sp_l_pull sp_l_with) :=
  (pss_cons (ps_set (i := 1) sc_law.nd rfl (by first | exact .inl rfl | exact .inr rfl) (pe_okF F_l_bag hr (Nat.le_add_right_of_le h_l_bag) rfl passL (pa_cons (pv 0) pa_nil)))
    (pss_cons (ps_asg (pe_tup (pa_cons (pe_okF F_l_names hr (Nat.le_add_right_of_le h_l_names) rfl passL (pa_cons (pv 1) (pa_cons pe_int pa_nil))) (pa_cons (pe_tup (pa_cons pe_str (pa_cons pe_str pa_nil))) pa_nil))) (pg_tup rfl (pgs_cons (pg_name (i := 2) sc_law.nd rfl (by first | exact .inl rfl | exact .inr rfl)) (pgs_cons (pg_name (i := 3) sc_law.nd rfl (by first | exact .inl rfl | exact .inr rfl)) pgs_nil))))
    (pss_cons (ps_set (i := 4) sc_law.nd rfl (by first | exact .inl rfl | exact .inr rfl) (pe_lst (pa_cons pe_str (pa_cons pe_int (pa_cons (pe_tup pa_nil) (pa_cons (pe_tup (pa_cons pe_str pa_nil)) (pa_cons (pe_tup (pa_cons pe_str (pa_cons pe_str pa_nil))) (pa_cons (pe_tup (pa_cons pe_str (pa_cons pe_str pa_nil))) (pa_cons (pe_tup (pa_cons pe_str (pa_cons (pe_tup (pa_cons pe_str pa_nil)) pa_nil))) (pa_cons (pe_tup (pa_cons pe_str (pa_cons pe_int pa_nil))) (pa_cons (pe_tup (pa_cons pe_str (pa_cons pe_str pa_nil))) (pa_cons (pe_tup (pa_cons pe_str (pa_cons (pv 3) pa_nil))) pa_nil))))))))))))
    (pss_cons (ps_set (i := 4) sc_law.nd rfl (by first | exact .inl rfl | exact .inr rfl) (pe_op op_cat (pv 4) (pe_lst (pa_cons (pe_tup (pa_cons pe_str (pa_cons pe_int (pa_cons pe_int (pa_cons (pv 3) pa_nil))))) (pa_cons (pe_tup (pa_cons pe_str (pa_cons (pe_un un_neg pe_int) (pa_cons pe_int (pa_cons (pv 3) pa_nil))))) (pa_cons (pe_tup (pa_cons pe_str (pa_cons pe_int (pa_cons (pv 3) pa_nil)))) (pa_cons (pe_tup (pa_cons pe_str (pa_cons (pe_un un_neg pe_int) (pa_cons (pv 3) pa_nil)))) (pa_cons (pe_tup (pa_cons pe_str (pa_cons (pv 3) pa_nil))) pa_nil))))))))
    (pss_cons (ps_set (i := 4) sc_law.nd rfl (by first | exact .inl rfl | exact .inr rfl) (pe_op op_cat (pv 4) (pe_lst (pa_cons (pe_tup (pa_cons pe_str (pa_cons pe_int (pa_cons pe_int (pa_cons pe_str (pa_cons (pv 3) pa_nil)))))) (pa_cons (pe_tup (pa_cons pe_str (pa_cons pe_int (pa_cons pe_int (pa_cons pe_str (pa_cons (pv 3) pa_nil)))))) (pa_cons (pe_tup (pa_cons pe_str (pa_cons pe_int (pa_cons pe_int (pa_cons (pv 3) pa_nil))))) (pa_cons (pe_tup (pa_cons pe_str pa_nil)) (pa_cons (pe_tup (pa_cons pe_str (pa_cons (pv 3) (pa_cons (pv 3) pa_nil)))) pa_nil))))))))
    (pss_cons (ps_set (i := 5) sc_law.nd rfl (by first | exact .inl rfl | exact .inr rfl) pe_str)
    (pss_cons (ps_for (passes_of rfl) rfl (pi_range1 rfl z_range (pa_cons pe_int pa_nil)) (pg_name (i := 6) sc_law.nd rfl (by first | exact .inl rfl | exact .inr rfl)) (pss_one (ps_set (i := 5) sc_law.nd rfl (by first | exact .inl rfl | exact .inr rfl) (pe_tup (pa_cons (pv 5) (pa_cons pe_str pa_nil))))))
    (pss_cons (ps_set (i := 4) sc_law.nd rfl (by first | exact .inl rfl | exact .inr rfl) (pe_op op_cat (pv 4) (pe_lst (pa_cons (pe_tup (pa_cons pe_str (pa_cons (pv 5) pa_nil))) (pa_cons (pe_tup (pa_cons pe_str (pa_cons (pe_tup (pa_cons pe_str (pa_cons pe_str pa_nil))) (pa_cons (pe_tup (pa_cons pe_str (pa_cons (pv 5) pa_nil))) pa_nil)))) pa_nil)))))
    (pss_cons (ps_set (i := 4) sc_law.nd rfl (by first | exact .inl rfl | exact .inr rfl) (pe_op op_cat (pv 4) (pe_lst (pa_cons (pe_tup (pa_cons pe_str (pa_cons (pv 3) pa_nil))) (pa_cons (pe_callTy call_tuple_of rfl z_tuple (by decide +kernel) (pa_cons (pe_op op_cat (pe_lst (pa_cons pe_str pa_nil)) (pe_op op_rep (pe_lst (pa_cons (pv 3) pa_nil)) pe_int)) pa_nil)) (pa_cons (pe_tup (pa_cons pe_str (pa_cons (pe_op op_repT (pe_tup (pa_cons pe_str pa_nil)) pe_int) pa_nil))) (pa_cons (pe_lst (pa_cons pe_str (pa_cons pe_str pa_nil))) (pa_cons (pe_tup (pa_cons pe_str (pa_cons pe_int (pa_cons pe_str (pa_cons (pv 3) pa_nil))))) (pa_cons (pe_tup (pa_cons pe_str (pa_cons pe_str (pa_cons pe_str pa_nil)))) pa_nil)))))))))
    (pss_cons (ps_for (passes_of rfl) rfl (pi_range1 rfl z_range (pa_cons pe_int pa_nil)) (pg_name (i := 7) sc_law.nd rfl (by first | exact .inl rfl | exact .inr rfl)) (pss_cons (ps_set (i := 8) sc_law.nd rfl (by first | exact .inl rfl | exact .inr rfl) (pe_okF F_l_formula hr (Nat.le_add_right_of_le h_l_formula) rfl passL (pa_cons (pv 1) (pa_cons (pv 2) (pa_cons (pe_op op_add pe_int (pe_okF F_l_pull hr (Nat.le_add_right_of_le h_l_pull) rfl passL (pa_cons (pv 1) (pa_cons pe_int pa_nil)))) pa_nil)))))
    (pss_cons (ps_set (i := 9) sc_law.nd rfl (by first | exact .inl rfl | exact .inr rfl) (pe_okF F_l_with hr (Nat.le_add_right_of_le h_l_with) rfl passL (pa_cons (pv 1) (pa_cons (pv 8) (pa_cons (pe_okF F_l_of hr (Nat.le_add_right_of_le h_l_of) rfl passL (pa_cons (pv 1) (pa_cons (pv 4) pa_nil))) pa_nil)))))
    (pss_cons (ps_set (i := 10) sc_law.nd rfl (by first | exact .inl rfl | exact .inr rfl) (pe_lst (pa_cons (pe_try FT FF rfl m_try m_TE m_TM sc_l_try rfl (.inl rfl) rfl rfl rfl (fun _ _ _ _ _ _ _ us hl => match us, hl with | [_], _ => rfl) TB rfl hr (LamX.lamS_by (by rfl)) rfl (fun _ _ _ _ _ => rfl) (fun A outer s H E f c' hr2 => (pe_okF F_check_formula hr2 h_check_formula rfl (passes_call (takes_of rfl rfl rfl rfl) (fun _ _ _ _ h => h)) (pa_cons (pv 9) pa_nil)))) (pa_cons (pe_tryD FT FF rfl m_try m_TE m_TM sc_l_try rfl (.inl rfl) rfl rfl rfl (fun _ _ _ _ _ _ _ us hl => match us, hl with | [_], _ => rfl) TB rfl hr (lamSD_by (p := "_law_n") (by rfl)) (show ("_law_n" : Str) ∉ ns_law from by decide) rfl (fun _ _ _ _ _ _ _ => ⟨_, rfl, rfl⟩) (fun A outer s H E f c' hr2 => (pe_okK FK_check_formula hr2 hK_check_formula rfl (passes_call (takes_of rfl rfl rfl rfl) (fun _ _ _ _ h => h)) (pk_cons (pv 8) pk_nil)))) pa_nil))))
    (pss_cons (ps_expr (pe_bm PySem.F.plainAttrs_list PySem.F.slot_list_append PySem.F.type_list_append mt_append (pv 10) (pa_cons (pe_try FT FF rfl m_try m_TE m_TM sc_l_try rfl (.inl rfl) rfl rfl rfl (fun _ _ _ _ _ _ _ us hl => match us, hl with | [_], _ => rfl) TB rfl hr (LamX.lamS_by (by rfl)) rfl (fun _ _ _ _ _ => rfl) (fun A outer s H E f c' hr2 => (pe_okF F_evaluate hr2 h_evaluate rfl (passes_call (takes_of rfl rfl rfl rfl) (fun _ _ _ _ h => h)) (pa_cons (pv 9) (pa_cons pe_dnewK pa_nil))))) pa_nil)))
    (pss_one (ps_if (pt_cmpR (op_neD (hu64 hr)) (pv 10) (pe_lst (pa_cons (pe_tup (pa_cons pe_str (pa_cons pe_non pa_nil))) (pa_cons (pe_tup (pa_cons pe_str (pa_cons pe_non pa_nil))) (pa_cons (pe_tup (pa_cons pe_str (pa_cons pe_non pa_nil))) pa_nil)))) (nomark _)) (pss_one (ps_ret pe_bl)) pss_nil)))))))
    (pss_cons (ps_set (i := 10) sc_law.nd rfl (by first | exact .inl rfl | exact .inr rfl) (pe_lst (pa_cons (pe_try FT FF rfl m_try m_TE m_TM sc_l_try rfl (.inl rfl) rfl rfl rfl (fun _ _ _ _ _ _ _ us hl => match us, hl with | [_], _ => rfl) TB rfl hr (LamX.lamS_by (by rfl)) rfl (fun _ _ _ _ _ => rfl) (fun A outer s H E f c' hr2 => (pe_okF F_check_formula hr2 h_check_formula rfl (passes_call (takes_of rfl rfl rfl rfl) (fun _ _ _ _ h => h)) (pa_cons (pe_okF F_l_nest hr2 h_l_nest rfl passL (pa_cons pe_int pa_nil)) pa_nil)))) (pa_cons (pe_tryD FT FF rfl m_try m_TE m_TM sc_l_try rfl (.inl rfl) rfl rfl rfl (fun _ _ _ _ _ _ _ us hl => match us, hl with | [_], _ => rfl) TB rfl hr (lamSD_by (p := "_law_n") (by rfl)) (show ("_law_n" : Str) ∉ ns_law from by decide) rfl (fun _ _ _ _ _ _ _ => ⟨_, rfl, rfl⟩) (fun A outer s H E f c' hr2 => (pe_okF F_check_formula hr2 h_check_formula rfl (passes_call (takes_of rfl rfl rfl rfl) (fun _ _ _ _ h => h)) (pa_cons (pe_okF F_l_nest hr2 h_l_nest rfl passL (pa_cons pe_int pa_nil)) pa_nil)))) pa_nil))))
    (pss_cons (ps_expr (pe_bm PySem.F.plainAttrs_list PySem.F.slot_list_append PySem.F.type_list_append mt_append (pv 10) (pa_cons (pe_try FT FF rfl m_try m_TE m_TM sc_l_try rfl (.inl rfl) rfl rfl rfl (fun _ _ _ _ _ _ _ us hl => match us, hl with | [_], _ => rfl) TB rfl hr (LamX.lamS_by (by rfl)) rfl (fun _ _ _ _ _ => rfl) (fun A outer s H E f c' hr2 => (pe_okF F_check_formula hr2 h_check_formula rfl (passes_call (takes_of rfl rfl rfl rfl) (fun _ _ _ _ h => h)) (pa_cons (pe_callTy call_tuple_of rfl z_tuple (by decide +kernel) (pa_cons (pe_op op_cat (pe_lst (pa_cons pe_str pa_nil)) (pe_op op_rep (pe_lst (pa_cons (pv 3) pa_nil)) pe_int)) pa_nil)) pa_nil)))) pa_nil)))
    (pss_one (ps_ret (pe_cmpR (op_eqD (hu64 hr)) (pv 10) (pe_lst (pa_cons (pe_tup (pa_cons pe_str (pa_cons pe_non pa_nil))) (pa_cons (pe_tup (pa_cons pe_str (pa_cons pe_non pa_nil))) (pa_cons (pe_tup (pa_cons pe_str (pa_cons pe_non pa_nil))) pa_nil)))) (nomark _))))))))))))))))
end TD

end
section
open TD L2
/-- what stands at an address -/
local macro_rules | `(tactic| lcg_sub) => `(tactic| first | assumption | exact upd_same | exact New.at_ (by assumption) | (refine New.same (by assumption) _ _ ?_; lcg_sub) | (refine (show Same _ _ from by assumption) _ _ ?_; lcg_sub) | (refine Eq.trans (upd_ne (by first | assumption | exact Ne.symm (by assumption))) ?_; lcg_sub))
/-- a list, a tuple to be read -/
local macro_rules | `(tactic| lcg_src) => `(tactic| first | assumption | exact SqL.of (by lcg_sub) | exact SqT.of (by lcg_sub) | (refine Same.seq (New.same (by assumption)) ?_; lcg_src) | (refine Same.seq (by assumption) ?_; lcg_src) | (refine sameT (New.same (by assumption)) ?_; lcg_src) | (refine sameT (by assumption) ?_; lcg_src))
/-- data at a value -/
local macro_rules | `(tactic| kp_flats) => `(tactic| first | assumption | exact Dp.str _ | exact Dp.int _ | exact Dp.non | exact Dp.bl _ | (refine dp_same (New.same (by assumption)) ?_; kp_flats) | (refine dp_same (by assumption) ?_; kp_flats))
/-- one step of a reading -/
local macro_rules | `(tactic| lcg_off) => `(tactic| first
  | with_reducible refine Stp.go ?_
  | ((with_reducible show tVar _ _ _ _); refine c_var (by rfl) ?_)
  | ((with_reducible show rIxL _ _ _ _ _); refine c_ixL (by lcg_src) (by rfl) ?_)
  | ((with_reducible show rIxT _ _ _ _ _); refine c_ixT (by lcg_src) (by rfl) ?_)
  | ((with_reducible show rSetL _ _ _ _ _); refine c_setL (by lcg_sub) (by rfl) ?_)
  | ((with_reducible show rLenQ _ _ _ _); first | (refine c_lenL (by lcg_src) ?_) | (refine c_lenT (by lcg_src) ?_))
  | ((with_reducible show rSlL _ _ _ _ _ _); refine c_slL (by lcg_src) ?_)
  | ((with_reducible show rListQ _ _ _ _); first | (refine c_listL (by lcg_src) ?_) | (refine c_listT (by lcg_src) ?_))
  | ((with_reducible show rI _ _ _ _ _ _); refine c_IC (by first | assumption | decide | omega) ?_)
  | ((with_reducible show rIsi _ _ _ _); refine c_isi (by kp_flats) (by first | assumption | decide +kernel) ?_)
  | ((with_reducible show rIx _ _ _ _ _); refine c_ix (by first | exact .inl ⟨by lcg_src, by first | assumption | rfl⟩ | exact .inr ⟨by lcg_src, by first | assumption | rfl⟩) ?_)
  | ((with_reducible show NewW _ _ _ _); refine newW ?_)
  | ((with_reducible show rCat _ _ _ _); refine c_cat (by lcg_sub) (by lcg_sub) (le_line (by first | decide | (simp only [List.length_append, List.length_cons, List.length_nil]; omega))) ?_)
  | ((with_reducible show aAddS _ _ _ _); refine c_adds (le_line (by first | decide +kernel | assumption)) ?_)
  | ((with_reducible show rIn _ false _ _ _ _); refine c_inL (by lcg_src) (by rfl) (by rfl) ?_)
  | ((with_reducible show rIn _ true _ _ _ _); refine c_niL (by lcg_src) (by rfl) (by rfl) ?_))
/-- one step, with the new object's names -/
local macro_rules | `(tactic| k_offL) => `(tactic| first | lcg_off | ((with_reducible show ∀ _ _, New _ _ _ _ → _); intro _ _ _))
/-- an error that is held -/
local macro_rules | `(tactic| one_item) => `(tactic| first | assumption | (refine ErrV.same ?_ (New.same (by assumption)); one_item) | (refine ErrV.same ?_ (by assumption); one_item))
/-- nothing was changed -/
local macro_rules | `(tactic| one_place) => `(tactic| first | assumption | exact fun _ _ h => h | exact New.same (by assumption) | (refine Same.trans ?_ (New.same (by assumption)); one_place) | (refine Same.trans ?_ (by assumption); one_place))
/-- what an expression makes, as data -/
local macro_rules | `(tactic| one_sign) => `(tactic| first | exact EvD.str | exact EvD.int | exact EvA.nil | exact EvD.neg | (apply EvA.cons; (focus one_sign); one_sign) | (apply EvD.tup; (focus one_sign); (first | decide | (simp only [List.length_append, List.length_cons, List.length_nil]; omega))) | (apply EvD.var; (focus rfl); kp_flats) | (apply EvL.var; (focus rfl); (focus lcg_sub); assumption) | (apply EvL.lst; (focus one_sign); (first | decide | (simp only [List.length_append, List.length_cons, List.length_nil]; omega))) | (apply EvL.cat; (focus one_sign); (focus one_sign); (first | decide | (simp only [List.length_append, List.length_cons, List.length_nil]; omega))) | (apply EvD.tupOf; one_sign) | (apply EvD.rep; (focus one_sign); (focus simp); (focus decide); (focus decide); decide) | (apply EvL.rep; (focus one_sign); (focus decide); decide) | (apply EvD.adds; (focus one_sign); (focus one_sign); decide +kernel) | exact EvD.non | exact EvD.bl | (apply EvD.ofL; one_sign))
/-- one step, but not into a new list, a new tuple -/
local macro_rules | `(tactic| k_asm) => `(tactic| (fail_if_success (with_reducible show tLst _ _ _ _)); (fail_if_success (with_reducible show tTup _ _ _ _)); (fail_if_success (with_reducible show tOp rCat _ _ _ _ _)); lcg_off)
namespace TD
open PySem PySem.Spec L2 PySem.Calls
open PyProof.Rows hiding St
abbrev ns_l_like : List Str := ["_law_found", "_law_due", "_law_key", "_law_k"]
abbrev ps_l_like : List Str := ["_law_found", "_law_due"]
def t_l_like (K : PySem.W.Frag) (sp_l_like : Sp) : TS :=
  (tSeq (tIfS (tOr (tTest (tOp rNe (tCB (rIsi K) (tCons (tVar 1) (tCons (tC (.ty "tuple")) tNil))) (tCB (rIsi K) (tCons (tVar 0) (tCons (tC (.ty "tuple")) tNil))))) (tTest (tOp rNe (tCB (rIsi K) (tCons (tVar 1) (tCons (tC (.ty "list")) tNil))) (tCB (rIsi K) (tCons (tVar 0) (tCons (tC (.ty "list")) tNil)))))) (tRet (tC (.bl false))) tNext)
    (tSeq (tIfS (tB (tCB (rIsi K) (tCons (tVar 1) (tCons (tC (.ty "dict")) tNil)))) tNever tNext)
    (tSeq (tIfS (tNot (tB (tCB (rIsiT K) (tCons (tVar 1) (tCons (tTup (tCons (tC (.ty "tuple")) (tCons (tC (.ty "list")) tNil))) tNil))))) (tRet (tAndV (tOp rEq (tCB (rIsi K) (tCons (tVar 0) (tCons (tC (.ty "bool")) tNil))) (tCB (rIsi K) (tCons (tVar 1) (tCons (tC (.ty "bool")) tNil)))) (tOp (rEqD K) (tVar 0) (tVar 1)))) tNext)
    (tRet (tAndV (tOp rEq (tCB (rLenQ K) (tCons (tVar 0) tNil)) (tCB (rLenQ K) (tCons (tVar 1) tNil))) (tCB (rAll K) (tCons (tLc (iRng1 (tCons (tCB (rLenQ K) (tCons (tVar 1) tNil)) tNil)) (gName 3) tYes (tCall sp_l_like [] E0 (tCons (tOp (rIx K) (tVar 0) (tVar 3)) (tCons (tOp (rIx K) (tVar 1) (tVar 3)) tNil))) [3]) tNil)))))))
end TD

end
section
open TD L2
/-- what stands at an address -/
local macro_rules | `(tactic| lcg_sub) => `(tactic| first | assumption | exact upd_same | exact New.at_ (by assumption) | (refine New.same (by assumption) _ _ ?_; lcg_sub) | (refine (show Same _ _ from by assumption) _ _ ?_; lcg_sub) | (refine Eq.trans (upd_ne (by first | assumption | exact Ne.symm (by assumption))) ?_; lcg_sub))
/-- a list, a tuple to be read -/
local macro_rules | `(tactic| lcg_src) => `(tactic| first | assumption | exact SqL.of (by lcg_sub) | exact SqT.of (by lcg_sub) | (refine Same.seq (New.same (by assumption)) ?_; lcg_src) | (refine Same.seq (by assumption) ?_; lcg_src) | (refine sameT (New.same (by assumption)) ?_; lcg_src) | (refine sameT (by assumption) ?_; lcg_src))
/-- data at a value -/
local macro_rules | `(tactic| kp_flats) => `(tactic| first | assumption | exact Dp.str _ | exact Dp.int _ | exact Dp.non | exact Dp.bl _ | (refine dp_same (New.same (by assumption)) ?_; kp_flats) | (refine dp_same (by assumption) ?_; kp_flats))
/-- one step of a reading -/
local macro_rules | `(tactic| lcg_off) => `(tactic| first
  | with_reducible refine Stp.go ?_
  | ((with_reducible show tVar _ _ _ _); refine c_var (by rfl) ?_)
  | ((with_reducible show rIxL _ _ _ _ _); refine c_ixL (by lcg_src) (by rfl) ?_)
  | ((with_reducible show rIxT _ _ _ _ _); refine c_ixT (by lcg_src) (by rfl) ?_)
  | ((with_reducible show rSetL _ _ _ _ _); refine c_setL (by lcg_sub) (by rfl) ?_)
  | ((with_reducible show rLenQ _ _ _ _); first | (refine c_lenL (by lcg_src) ?_) | (refine c_lenT (by lcg_src) ?_))
  | ((with_reducible show rSlL _ _ _ _ _ _); refine c_slL (by lcg_src) ?_)
  | ((with_reducible show rListQ _ _ _ _); first | (refine c_listL (by lcg_src) ?_) | (refine c_listT (by lcg_src) ?_))
  | ((with_reducible show rI _ _ _ _ _ _); refine c_IC (by first | assumption | decide | omega) ?_)
  | ((with_reducible show rIsi _ _ _ _); refine c_isi (by kp_flats) (by first | assumption | decide +kernel) ?_)
  | ((with_reducible show rIx _ _ _ _ _); refine c_ix (by first | exact .inl ⟨by lcg_src, by first | assumption | rfl⟩ | exact .inr ⟨by lcg_src, by first | assumption | rfl⟩) ?_)
  | ((with_reducible show NewW _ _ _ _); refine newW ?_)
  | ((with_reducible show rCat _ _ _ _); refine c_cat (by lcg_sub) (by lcg_sub) (le_line (by first | decide | (simp only [List.length_append, List.length_cons, List.length_nil]; omega))) ?_)
  | ((with_reducible show aAddS _ _ _ _); refine c_adds (le_line (by first | decide +kernel | assumption)) ?_)
  | ((with_reducible show rIn _ false _ _ _ _); refine c_inL (by lcg_src) (by rfl) (by rfl) ?_)
  | ((with_reducible show rIn _ true _ _ _ _); refine c_niL (by lcg_src) (by rfl) (by rfl) ?_))
/-- one step, with the new object's names -/
local macro_rules | `(tactic| k_offL) => `(tactic| first | lcg_off | ((with_reducible show ∀ _ _, New _ _ _ _ → _); intro _ _ _))
/-- an error that is held -/
local macro_rules | `(tactic| one_item) => `(tactic| first | assumption | (refine ErrV.same ?_ (New.same (by assumption)); one_item) | (refine ErrV.same ?_ (by assumption); one_item))
/-- nothing was changed -/
local macro_rules | `(tactic| one_place) => `(tactic| first | assumption | exact fun _ _ h => h | exact New.same (by assumption) | (refine Same.trans ?_ (New.same (by assumption)); one_place) | (refine Same.trans ?_ (by assumption); one_place))
/-- what an expression makes, as data -/
local macro_rules | `(tactic| one_sign) => `(tactic| first | exact EvD.str | exact EvD.int | exact EvA.nil | exact EvD.neg | (apply EvA.cons; (focus one_sign); one_sign) | (apply EvD.tup; (focus one_sign); (first | decide | (simp only [List.length_append, List.length_cons, List.length_nil]; omega))) | (apply EvD.var; (focus rfl); kp_flats) | (apply EvL.var; (focus rfl); (focus lcg_sub); assumption) | (apply EvL.lst; (focus one_sign); (first | decide | (simp only [List.length_append, List.length_cons, List.length_nil]; omega))) | (apply EvL.cat; (focus one_sign); (focus one_sign); (first | decide | (simp only [List.length_append, List.length_cons, List.length_nil]; omega))) | (apply EvD.tupOf; one_sign) | (apply EvD.rep; (focus one_sign); (focus simp); (focus decide); (focus decide); decide) | (apply EvL.rep; (focus one_sign); (focus decide); decide) | (apply EvD.adds; (focus one_sign); (focus one_sign); decide +kernel) | exact EvD.non | exact EvD.bl | (apply EvD.ofL; one_sign))
/-- one step, but not into a new list, a new tuple -/
local macro_rules | `(tactic| k_asm) => `(tactic| (fail_if_success (with_reducible show tLst _ _ _ _)); (fail_if_success (with_reducible show tTup _ _ _ _)); (fail_if_success (with_reducible show tOp rCat _ _ _ _ _)); lcg_off)
namespace TD
open PySem PySem.Spec L2 PySem.Calls
open PyProof.Rows hiding St
/-- data of depth n at most, with texts that are texts, no dict, short rows -/
def okD : Nat → PyData → Bool
  | _, .none => true
  | _, .bool _ => true
  | _, .int _ => true
  | _, .str x => (PyData.str x).canLay0
  | n + 1, .list xs => decide (xs.length ≤ 100000) && xs.all (okD n)
  | n + 1, .tuple xs => decide (xs.length ≤ 100000) && xs.all (okD n)
  | _, _ => false
mutual
theorem okD_lay : ∀ {d : PyData} {n : Nat}, okD n d = true → d.canLay0 = true ∧ d.depth ≤ n
  | .none, n, h => by cases n <;> exact ⟨by simp only [PyData.canLay0], by simp [PyData.depth]⟩
  | .bool _, n, h => by cases n <;> exact ⟨by simp only [PyData.canLay0], by simp [PyData.depth]⟩
  | .int _, n, h => by cases n <;> exact ⟨by simp only [PyData.canLay0], by simp [PyData.depth]⟩
  | .str x, n, h => by cases n <;> exact ⟨by simpa only [PyData.canLay0, okD] using h, by simp [PyData.depth]⟩
  | .list xs, 0, h => by simp [okD] at h
  | .tuple xs, 0, h => by simp [okD] at h
  | .dict xs, n, h => by cases n <;> simp [okD] at h
  | .list xs, n + 1, h => by
    simp only [okD, Bool.and_eq_true] at h
    have i := okD_layAll h.2
    exact ⟨by simpa only [PyData.canLay0] using i.1, by simp only [PyData.depth]; omega⟩
  | .tuple xs, n + 1, h => by
    simp only [okD, Bool.and_eq_true] at h
    have i := okD_layAll h.2
    exact ⟨by simpa only [PyData.canLay0] using i.1, by simp only [PyData.depth]; omega⟩
theorem okD_layAll : ∀ {ds : List PyData} {n : Nat}, ds.all (okD n) = true → PyData.canLayAll0 ds = true ∧ PyData.depthAll ds ≤ n
  | [], n, _ => ⟨by simp only [PyData.canLayAll0], by simp [PyData.depthAll]⟩
  | d :: ds, n, h => by
    simp only [List.all_cons, Bool.and_eq_true] at h
    have i := okD_lay h.1
    have j := okD_layAll h.2
    exact ⟨by simp only [PyData.canLayAll0, i.1, j.1, Bool.and_self], by simp only [PyData.depthAll]; omega⟩
end
theorem okD_shaped {d : PyData} {n : Nat} (hn : n ≤ 64) (h : okD n d = true) : SeqAt.shaped d = true := by
  have i := okD_lay h
  exact Bool.and_eq_true_iff.mpr ⟨i.1, decide_eq_true (Nat.le_trans i.2 hn)⟩
theorem okD_items {d : PyData} {n : Nat} (h : okD (n + 1) d = true) : (itemsD d).length ≤ 100000 ∧ (itemsD d).all (okD n) = true := by
  cases d with
  | list xs => simp only [okD, Bool.and_eq_true, decide_eq_true_eq] at h; exact h
  | tuple xs => simp only [okD, Bool.and_eq_true, decide_eq_true_eq] at h; exact h
  | _ => exact ⟨Nat.zero_le _, rfl⟩
theorem okD_seq0 {d : PyData} (h : okD 0 d = true) : isTup d = false ∧ isLst d = false := by cases d <;> first | exact ⟨rfl, rfl⟩ | simp [okD] at h
theorem okD_dct {d : PyData} {n : Nat} (h : okD n d = true) : isDct d = false := by cases n <;> cases d <;> first | rfl | (simp only [okD] at h; cases h)
/-- _law_like on data of depth n at most -/
def spLike (K : PySem.W.Frag) (n : Nat) : Sp := fun vs H Q _ => ∃ (v u : V) (f d : PyData), vs = [v, u] ∧ Dp K H v f ∧ Dp K H u d ∧ okD n f = true ∧ okD n d = true ∧ ∀ H', Same H H' → Q (.bl (likeD f d)) H'
def spLikeP (K : PySem.W.Frag) : Nat → Sp
  | 0 => fun _ _ _ _ => False
  | n + 1 => spLike K n
theorem atI_nat {xs : List V} {i : Nat} {v : V} (h : xs[i]? = some v) : atI xs (i : Int) = some v := by
  have := (List.getElem?_eq_some_iff.mp h).1
  unfold atI ixN
  rw [if_pos (by omega), if_pos (by omega)]
  simpa using h
def likeAt (fs ds : List PyData) (i : Nat) : Bool := match fs[i]?, ds[i]? with | some x, some y => likeD x y | _, _ => false
theorem likeAt_all : ∀ {fs ds : List PyData}, fs.length = ds.length → ((List.range ds.length).map (likeAt fs ds)).all id = likeAll fs ds
  | [], [], _ => by simp [likeAll]
  | [], _ :: _, h => by simp at h
  | _ :: _, [], h => by simp at h
  | f :: fs, d :: ds, h => by
    have h' : fs.length = ds.length := by simpa using h
    rw [likeAll, ← likeAt_all h', List.length_cons, List.range_succ_eq_map, List.map_cons, List.map_map, List.all_cons]
    rfl
theorem atI_sq {K : PySem.W.Frag} {H H2 : Hp} {p : Addr} {vs : List V} {ds : List PyData} {i : Nat} (s : SqL K H p vs ∨ SqT K H p vs) (a : DpAll K H vs ds) (hi : i < ds.length) (h : Same H H2) :
    ∃ v d, ds[i]? = some d ∧ Dp K H2 v d ∧ ((SqL K H2 p vs ∧ atI vs (i : Int) = some v) ∨ (SqT K H2 p vs ∧ atI vs (i : Int) = some v)) := by
  obtain ⟨v, e, dv⟩ := dpAll_get a (i := i) (d := ds[i]) (by simp [hi])
  refine ⟨v, ds[i], by simp [hi], dp_same h dv, ?_⟩
  rcases s with s | s
  · exact .inl ⟨h.seq s, atI_nat e⟩
  · exact .inr ⟨sameT h s, atI_nat e⟩
theorem pure_l_like {K : PySem.W.Frag} {n : Nat} (hn : n ≤ 64) {vs : List V} {H : Hp} {Q : VK} {E : XK} (h : spLike K n vs H Q E) :
    t_l_like K (spLikeP K n) { nx := fun _ H' => Q .non H', rt := Q } (start ns_l_like vs) H := by
  obtain ⟨v, u, f, d, rfl, hf, hd, okf, okd, q⟩ := h
  have q0 : ∀ b, b = likeD f d → Q (.bl b) H := fun b e => e ▸ q H (fun _ _ x => x)
  unfold t_l_like
  have kt := kit_tup f; have kt' := kit_tup d; have kl := kit_lst f; have kl' := kit_lst d; have kb := kit_boo f; have kb' := kit_boo d; have kd := kit_dct d
  rw [okD_dct okd] at kd
  repeat lcg_off
  refine ite_nd (fun h1 => ?_) (fun h1 => ?_)
  · refine ite_t ?_
    repeat lcg_off
    exact q0 _ (like_kind (.inl (by intro e; exact h1 (by rw [e])))).symm
  repeat lcg_off
  refine ite_nd (fun h2 => ?_) (fun h2 => ?_)
  · repeat lcg_off
    exact q0 _ (like_kind (.inr (by intro e; exact h2 (by rw [e])))).symm
  injection h1 with h1
  injection h2 with h2
  repeat lcg_off
  refine ite_f ?_
  repeat lcg_off
  intro p H1 N1
  have hd1 := dp_same N1.same hd
  have hf1 := dp_same N1.same hf
  repeat lcg_off
  refine c_isiT2 hd1 (by lcg_sub) kt' kl' ?_
  repeat lcg_off
  by_cases hs : isTup d = true ∨ isLst d = true
  · have e : (!(isTup d || isLst d)) = false := by rcases hs with e | e <;> simp [e]
    rw [e]
    refine ite_f ?_
    obtain ⟨pd, ds, rfl, sd, ad⟩ := dp_seq hd1 hs
    obtain ⟨pf, fs, rfl, sf, af⟩ := dp_seq hf1 (by rw [← h1, ← h2]; exact hs)
    have el := like_items h1 h2 hs
    have l1 := dpAll_len ad; have l2 := dpAll_len af
    repeat lcg_off
    refine ⟨_, _, rfl, sf, ?_⟩
    repeat lcg_off
    refine ⟨_, _, rfl, sd, ?_⟩
    repeat lcg_off
    refine ite_d (fun e => ?_) (fun e => ?_)
    · injection e with e
      have e1 : fs.length = ds.length := by omega
      cases n with
      | zero => have := okD_seq0 okd; rw [this.1, this.2] at hs; exact absurd hs (by decide)
      | succ m =>
      have id := okD_items okd; have jf := okD_items okf
      have e2 : (itemsD f).length = (itemsD d).length := by omega
      repeat lcg_off
      refine ⟨_, _, rfl, sd, ?_⟩
      repeat lcg_off
      have lz := id.1
      refine ⟨_, rfl, by omega, by omega, ?_⟩
      rw [Int.toNat_natCast]
      refine lcR1 (fun i => .bl (likeAt (itemsD f) (itemsD d) i)) (Nat.le_trans (m := 100000) (by omega) (by decide)) (fun x => rfl) (fun i H2 Q2 hi s2 q2 => ?_) (fun D H2 N2 => ?_)
      · obtain ⟨vf, df, ef, dvf, af2⟩ := atI_sq sf af (i := i) (by omega) s2
        obtain ⟨vd, dd, ed, dvd, ad2⟩ := atI_sq sd ad (i := i) (by omega) s2
        have ee : likeAt (itemsD f) (itemsD d) i = likeD df dd := by rw [likeAt, ef, ed]
        have of := List.all_eq_true.mp jf.2 _ (List.mem_of_getElem? ef)
        have od := List.all_eq_true.mp id.2 _ (List.mem_of_getElem? ed)
        repeat lcg_off
        refine c_ix af2 ?_
        repeat lcg_off
        refine c_ix ad2 ?_
        repeat lcg_off
        exact ⟨_, _, _, _, rfl, dvf, dvd, of, od, fun H4 s4 => ee ▸ q2 H4 s4⟩
      · repeat lcg_off
        refine ⟨D, (List.range ds.length).map (likeAt (itemsD f) (itemsD d)), rfl, ?_, ?_⟩
        · rw [List.map_map]; exact SqL.of N2.at_
        · rw [l1, likeAt_all e2, ← el]; exact q H2 (N1.same.trans N2.same)
    · have e2 : likeD f d = false := by
        cases h : likeD f d with
        | false => rfl
        | true =>
          rw [el] at h
          have := likeAll_len h
          exact absurd (show V.int fs.length = V.int ds.length by rw [show fs.length = ds.length by omega]) e
      exact e2 ▸ q H1 N1.same
  · have e : (isTup d || isLst d) = false := by simpa using hs
    rw [e]
    refine ite_t ?_
    simp only [not_or, Bool.not_eq_true] at hs
    have eo := like_other hs.1 hs.2 (h1 ▸ hs.1) (h2 ▸ hs.2)
    repeat lcg_off
    refine ite_d (fun e => ?_) (fun e => ?_)
    · injection e with e
      repeat lcg_off
      refine ⟨f, d, hf1, hd1, okD_shaped hn okf, okD_shaped hn okd, ?_⟩
      have : PyData.eqv f d = likeD f d := by rw [eo, e, beq_self_eq_true, Bool.true_and]
      exact this ▸ q H1 N1.same
    · have : likeD f d = false := by
        rw [eo, show (isBoo f == isBoo d) = false from by simpa using fun z => e (by rw [z])]; rfl
      exact this ▸ q H1 N1.same
end TD

end
section
open TD L2
/-- what stands at an address -/
local macro_rules | `(tactic| lcg_sub) => `(tactic| first | assumption | exact upd_same | exact New.at_ (by assumption) | (refine New.same (by assumption) _ _ ?_; lcg_sub) | (refine (show Same _ _ from by assumption) _ _ ?_; lcg_sub) | (refine Eq.trans (upd_ne (by first | assumption | exact Ne.symm (by assumption))) ?_; lcg_sub))
/-- a list, a tuple to be read -/
local macro_rules | `(tactic| lcg_src) => `(tactic| first | assumption | exact SqL.of (by lcg_sub) | exact SqT.of (by lcg_sub) | (refine Same.seq (New.same (by assumption)) ?_; lcg_src) | (refine Same.seq (by assumption) ?_; lcg_src) | (refine sameT (New.same (by assumption)) ?_; lcg_src) | (refine sameT (by assumption) ?_; lcg_src))
/-- data at a value -/
local macro_rules | `(tactic| kp_flats) => `(tactic| first | assumption | exact Dp.str _ | exact Dp.int _ | exact Dp.non | exact Dp.bl _ | (refine dp_same (New.same (by assumption)) ?_; kp_flats) | (refine dp_same (by assumption) ?_; kp_flats))
/-- one step of a reading -/
local macro_rules | `(tactic| lcg_off) => `(tactic| first
  | with_reducible refine Stp.go ?_
  | ((with_reducible show tVar _ _ _ _); refine c_var (by rfl) ?_)
  | ((with_reducible show rIxL _ _ _ _ _); refine c_ixL (by lcg_src) (by rfl) ?_)
  | ((with_reducible show rIxT _ _ _ _ _); refine c_ixT (by lcg_src) (by rfl) ?_)
  | ((with_reducible show rSetL _ _ _ _ _); refine c_setL (by lcg_sub) (by rfl) ?_)
  | ((with_reducible show rLenQ _ _ _ _); first | (refine c_lenL (by lcg_src) ?_) | (refine c_lenT (by lcg_src) ?_))
  | ((with_reducible show rSlL _ _ _ _ _ _); refine c_slL (by lcg_src) ?_)
  | ((with_reducible show rListQ _ _ _ _); first | (refine c_listL (by lcg_src) ?_) | (refine c_listT (by lcg_src) ?_))
  | ((with_reducible show rI _ _ _ _ _ _); refine c_IC (by first | assumption | decide | omega) ?_)
  | ((with_reducible show rIsi _ _ _ _); refine c_isi (by kp_flats) (by first | assumption | decide +kernel) ?_)
  | ((with_reducible show rIx _ _ _ _ _); refine c_ix (by first | exact .inl ⟨by lcg_src, by first | assumption | rfl⟩ | exact .inr ⟨by lcg_src, by first | assumption | rfl⟩) ?_)
  | ((with_reducible show NewW _ _ _ _); refine newW ?_)
  | ((with_reducible show rCat _ _ _ _); refine c_cat (by lcg_sub) (by lcg_sub) (le_line (by first | decide | (simp only [List.length_append, List.length_cons, List.length_nil]; omega))) ?_)
  | ((with_reducible show aAddS _ _ _ _); refine c_adds (le_line (by first | decide +kernel | assumption)) ?_)
  | ((with_reducible show rIn _ false _ _ _ _); refine c_inL (by lcg_src) (by rfl) (by rfl) ?_)
  | ((with_reducible show rIn _ true _ _ _ _); refine c_niL (by lcg_src) (by rfl) (by rfl) ?_))
/-- one step, with the new object's names -/
local macro_rules | `(tactic| k_offL) => `(tactic| first | lcg_off | ((with_reducible show ∀ _ _, New _ _ _ _ → _); intro _ _ _))
/-- an error that is held -/
local macro_rules | `(tactic| one_item) => `(tactic| first | assumption | (refine ErrV.same ?_ (New.same (by assumption)); one_item) | (refine ErrV.same ?_ (by assumption); one_item))
/-- nothing was changed -/
local macro_rules | `(tactic| one_place) => `(tactic| first | assumption | exact fun _ _ h => h | exact New.same (by assumption) | (refine Same.trans ?_ (New.same (by assumption)); one_place) | (refine Same.trans ?_ (by assumption); one_place))
/-- what an expression makes, as data -/
local macro_rules | `(tactic| one_sign) => `(tactic| first | exact EvD.str | exact EvD.int | exact EvA.nil | exact EvD.neg | (apply EvA.cons; (focus one_sign); one_sign) | (apply EvD.tup; (focus one_sign); (first | decide | (simp only [List.length_append, List.length_cons, List.length_nil]; omega))) | (apply EvD.var; (focus rfl); kp_flats) | (apply EvL.var; (focus rfl); (focus lcg_sub); assumption) | (apply EvL.lst; (focus one_sign); (first | decide | (simp only [List.length_append, List.length_cons, List.length_nil]; omega))) | (apply EvL.cat; (focus one_sign); (focus one_sign); (first | decide | (simp only [List.length_append, List.length_cons, List.length_nil]; omega))) | (apply EvD.tupOf; one_sign) | (apply EvD.rep; (focus one_sign); (focus simp); (focus decide); (focus decide); decide) | (apply EvL.rep; (focus one_sign); (focus decide); decide) | (apply EvD.adds; (focus one_sign); (focus one_sign); decide +kernel) | exact EvD.non | exact EvD.bl | (apply EvD.ofL; one_sign))
/-- one step, but not into a new list, a new tuple -/
local macro_rules | `(tactic| k_asm) => `(tactic| (fail_if_success (with_reducible show tLst _ _ _ _)); (fail_if_success (with_reducible show tTup _ _ _ _)); (fail_if_success (with_reducible show tOp rCat _ _ _ _ _)); lcg_off)
namespace TD
/-! ### the reader of trees, in plain Lean -/
abbrev lowers : List Nat := [97, 98, 99, 100, 101, 102, 103, 104, 105, 106, 107, 108, 109, 110, 111, 112, 113, 114, 115, 116, 117, 118, 119, 120, 121, 122]
/-- the name that begins at i -/
def runAt (z : List Nat) (i : Nat) : List Nat := ((z.drop i).take 6).takeWhile fun c => decide (c ∈ lowers)
mutual
def pTree (z : List Nat) : Nat → Nat → Option Tr × Nat
  | 0, i => (none, i)
  | m + 1, i =>
    if z[i]? = some 40 then (match pTree z m (i + 1) with | (none, j) => (none, j) | (some t, j) => pRow z m [t] j)
    else if z[i]? = some 45 then (some (.leaf [45]), i + 1)
    else if runAt z i = [] then (none, i) else (some (.leaf (runAt z i)), i + (runAt z i).length)
def pRow (z : List Nat) : Nat → List Tr → Nat → Option Tr × Nat
  | 0, _, i => (none, i)
  | m + 1, found, i =>
    if z[i]? = some 32 then (match pTree z m (i + 1) with | (none, j) => (none, j) | (some t, j) => pRow z m (found ++ [t]) j)
    else if found.length < 2 then (none, i) else if z[i]? = some 41 then (some (.node found), i + 1) else (none, i)
end
/-- the brackets that open from i on -/
def opens (z : List Nat) (i : Nat) : Nat := (z.drop i).count 40
theorem opens_le (z : List Nat) {i j : Nat} (h : i ≤ j) : opens z j ≤ opens z i := by
  unfold opens
  have : z.drop j = (z.drop i).drop (j - i) := by rw [List.drop_drop]; congr 1; omega
  rw [this]
  exact (List.drop_sublist _ _).count_le 40
theorem get_lt {z : List Nat} {i c : Nat} (h : z[i]? = some c) : i < z.length := (List.getElem?_eq_some_iff.mp h).1
theorem drop_get {z : List Nat} {i c : Nat} (h : z[i]? = some c) : z.drop i = c :: z.drop (i + 1) := by
  have := get_lt h
  rw [List.drop_eq_getElem_cons this]
  congr 1
  rw [List.getElem?_eq_getElem this] at h
  exact Option.some.inj h
theorem opens_open {z : List Nat} {i : Nat} (h : z[i]? = some 40) : opens z i = opens z (i + 1) + 1 := by
  unfold opens
  rw [drop_get h, List.count_cons]
  simp
theorem runAt_len (z : List Nat) (i : Nat) : (runAt z i).length ≤ 6 ∧ i + (runAt z i).length ≤ max i z.length := by
  have h1 : (runAt z i).length ≤ ((z.drop i).take 6).length := (List.takeWhile_sublist _).length_le
  rw [List.length_take, List.length_drop] at h1
  omega
theorem mem_tw {p : Nat → Bool} : ∀ {l : List Nat} {c : Nat}, c ∈ l.takeWhile p → p c = true
  | a :: r, c, h => by
    rw [List.takeWhile_cons] at h
    cases e : p a with
    | true =>
      rw [e] at h
      rcases List.mem_cons.mp h with q | q
      · rw [q]; exact e
      · exact mem_tw q
    | false => rw [e] at h; simp at h
theorem tw_step {p : Nat → Bool} : ∀ {l : List Nat} {r : Nat}, r ≤ (l.takeWhile p).length → (r < (l.takeWhile p).length ↔ ∃ c, l[r]? = some c ∧ p c = true)
  | [], r, h => by simp
  | a :: l, r, h => by
    rw [List.takeWhile_cons] at h ⊢
    cases e : p a with
    | false =>
      rw [e] at h
      have : r = 0 := by simpa using h
      subst this
      simp [e]
    | true =>
      rw [e] at h
      cases r with
      | zero => simp [e]
      | succ r =>
        have := tw_step (p := p) (l := l) (r := r) (by simpa using h)
        simpa using this
theorem run_step {z : List Nat} {i r : Nat} (h : r ≤ (runAt z i).length) : r < (runAt z i).length ↔ (i + r < z.length ∧ r < 6 ∧ ∃ c, z[i + r]? = some c ∧ c ∈ lowers) := by
  have := tw_step (p := fun c => decide (c ∈ lowers)) (l := (z.drop i).take 6) h
  rw [show runAt z i = ((z.drop i).take 6).takeWhile fun c => decide (c ∈ lowers) from rfl, this]
  constructor
  · rintro ⟨c, hc, hp⟩
    rw [List.getElem?_take] at hc
    by_cases h6 : r < 6
    · rw [if_pos h6, List.getElem?_drop] at hc
      exact ⟨get_lt hc, h6, c, hc, by simpa using hp⟩
    · rw [if_neg h6] at hc; cases hc
  · rintro ⟨_, h6, c, hc, hp⟩
    exact ⟨c, by rw [List.getElem?_take, if_pos h6, List.getElem?_drop]; exact hc, by simpa using hp⟩
theorem run_text (z : List Nat) (i : Nat) : (z.drop i).take (runAt z i).length = runAt z i := by
  have h1 : runAt z i <+: (z.drop i).take 6 := List.takeWhile_prefix _
  have h2 : runAt z i <+: z.drop i := h1.trans (List.take_prefix _ _)
  exact (List.prefix_iff_eq_take.mp h2).symm
theorem runAt_low (z : List Nat) (i : Nat) : ∀ c ∈ runAt z i, c ∈ lowers := fun c h => by
  have := mem_tw h
  simpa using this
theorem low_256 : ∀ c ∈ lowers, c < 256 := by decide
/-- what was read is a tree; it ends behind its beginning -/
structure Read (z : List Nat) (i : Nat) (t : Tr) (j : Nat) : Prop where
  lt : i < j
  le : j ≤ z.length
  ok : t.okB z.length = true
  lev : t.lev ≤ opens z i
  en : t.ends + i ≤ j
theorem endsAll_app (ts : List Tr) (t : Tr) : Tr.endsAll (ts ++ [t]) = Tr.endsAll ts + t.ends := by
  rw [Tr.endsAll_sum, Tr.endsAll_sum, List.map_append, List.sum_append]; simp
mutual
theorem pTree_ok {z : List Nat} : ∀ {m i : Nat} {t : Tr} {j : Nat}, pTree z m i = (some t, j) → Read z i t j
  | 0, i, t, j, h => by rw [pTree] at h; cases h
  | m + 1, i, t, j, h => by
    rw [pTree] at h
    by_cases c1 : z[i]? = some 40
    · rw [if_pos c1] at h
      have hi := get_lt c1
      cases e : pTree z m (i + 1) with
      | mk o k =>
        rw [e] at h
        cases o with
        | none => cases h
        | some u =>
          have r := pTree_ok e
          have ho := opens_open c1
          refine pRow_ok (i := i) (found := [u]) ho (by have := r.en; simp only [Tr.endsAll]; omega) (by have := r.lt; omega) (by have := r.lt; simp; omega) r.le (fun s hs => ?_) h
          rw [List.mem_singleton.mp hs]
          exact ⟨r.ok, by have := r.lev; omega⟩
    · rw [if_neg c1] at h
      by_cases c2 : z[i]? = some 45
      · rw [if_pos c2] at h
        cases h
        exact ⟨by omega, get_lt c2, by simp [Tr.okB], by simp [Tr.lev], by rw [Tr.ends]; omega⟩
      · rw [if_neg c2] at h
        by_cases c3 : runAt z i = []
        · rw [if_pos c3] at h; cases h
        · rw [if_neg c3] at h
          cases h
          have l := runAt_len z i
          have l1 : 1 ≤ (runAt z i).length := by
            cases e : runAt z i with
            | nil => exact absurd e c3
            | cons a r => simp
          refine ⟨by omega, by omega, ?_, by simp [Tr.lev], by rw [Tr.ends]; omega⟩
          rw [Tr.okB]
          simp only [Bool.and_eq_true, decide_eq_true_eq, List.all_eq_true]
          exact ⟨⟨l1, l.1⟩, fun c hc => low_256 c (runAt_low z i c hc)⟩
theorem pRow_ok {z : List Nat} {i : Nat} : ∀ {m : Nat} {found : List Tr} {k : Nat} {t : Tr} {j : Nat}, opens z i = opens z (i + 1) + 1 → Tr.endsAll found + i < k → i < k → found.length < k - i → k ≤ z.length → (∀ s ∈ found, s.okB z.length = true ∧ s.lev + 1 ≤ opens z i) → pRow z m found k = (some t, j) → Read z i t j
  | 0, found, k, t, j, _, _, _, _, _, _, h => by rw [pRow] at h; cases h
  | m + 1, found, k, t, j, h0, he, h1, h2, h3, h4, h => by
    rw [pRow] at h
    by_cases c1 : z[k]? = some 32
    · rw [if_pos c1] at h
      cases e : pTree z m (k + 1) with
      | mk o l =>
        rw [e] at h
        cases o with
        | none => cases h
        | some u =>
          have r := pTree_ok e
          refine pRow_ok h0 (by have := r.en; rw [endsAll_app]; omega) (by have := r.lt; omega) (by have := r.lt; simp; omega) r.le (fun s hs => ?_) h
          rcases List.mem_append.mp hs with hs | hs
          · exact h4 s hs
          · rw [List.mem_singleton.mp hs]
            have := r.lev; have := opens_le z (show i + 1 ≤ k + 1 by omega)
            exact ⟨r.ok, by omega⟩
    · rw [if_neg c1] at h
      by_cases c2 : found.length < 2
      · rw [if_pos c2] at h; cases h
      · rw [if_neg c2] at h
        by_cases c3 : z[k]? = some 41
        · rw [if_pos c3] at h
          cases h
          have := get_lt c3
          refine ⟨by omega, by omega, ?_, ?_, by rw [Tr.ends]; omega⟩
          · rw [Tr.okB]
            simp only [Bool.and_eq_true, decide_eq_true_eq]
            exact ⟨⟨by omega, by omega⟩, Tr.okAll_of fun s hs => (h4 s hs).1⟩
          · rw [Tr.lev]
            obtain ⟨u, hu, e⟩ := Tr.levAll_mem (ts := found) (by intro e; subst e; simp at c2)
            have := (h4 u hu).2
            omega
        · rw [if_neg c3] at h; cases h
end
end TD

end
section
open TD L2
/-- what stands at an address -/
local macro_rules | `(tactic| lcg_sub) => `(tactic| first | assumption | exact upd_same | exact New.at_ (by assumption) | (refine New.same (by assumption) _ _ ?_; lcg_sub) | (refine (show Same _ _ from by assumption) _ _ ?_; lcg_sub) | (refine Eq.trans (upd_ne (by first | assumption | exact Ne.symm (by assumption))) ?_; lcg_sub))
/-- a list, a tuple to be read -/
local macro_rules | `(tactic| lcg_src) => `(tactic| first | assumption | exact SqL.of (by lcg_sub) | exact SqT.of (by lcg_sub) | (refine Same.seq (New.same (by assumption)) ?_; lcg_src) | (refine Same.seq (by assumption) ?_; lcg_src) | (refine sameT (New.same (by assumption)) ?_; lcg_src) | (refine sameT (by assumption) ?_; lcg_src))
/-- data at a value -/
local macro_rules | `(tactic| kp_flats) => `(tactic| first | assumption | exact Dp.str _ | exact Dp.int _ | exact Dp.non | exact Dp.bl _ | (refine dp_same (New.same (by assumption)) ?_; kp_flats) | (refine dp_same (by assumption) ?_; kp_flats))
/-- one step of a reading -/
local macro_rules | `(tactic| lcg_off) => `(tactic| first
  | with_reducible refine Stp.go ?_
  | ((with_reducible show tVar _ _ _ _); refine c_var (by rfl) ?_)
  | ((with_reducible show rIxL _ _ _ _ _); refine c_ixL (by lcg_src) (by rfl) ?_)
  | ((with_reducible show rIxT _ _ _ _ _); refine c_ixT (by lcg_src) (by rfl) ?_)
  | ((with_reducible show rSetL _ _ _ _ _); refine c_setL (by lcg_sub) (by rfl) ?_)
  | ((with_reducible show rLenQ _ _ _ _); first | (refine c_lenL (by lcg_src) ?_) | (refine c_lenT (by lcg_src) ?_))
  | ((with_reducible show rSlL _ _ _ _ _ _); refine c_slL (by lcg_src) ?_)
  | ((with_reducible show rListQ _ _ _ _); first | (refine c_listL (by lcg_src) ?_) | (refine c_listT (by lcg_src) ?_))
  | ((with_reducible show rI _ _ _ _ _ _); refine c_IC (by first | assumption | decide | omega) ?_)
  | ((with_reducible show rIsi _ _ _ _); refine c_isi (by kp_flats) (by first | assumption | decide +kernel) ?_)
  | ((with_reducible show rIx _ _ _ _ _); refine c_ix (by first | exact .inl ⟨by lcg_src, by first | assumption | rfl⟩ | exact .inr ⟨by lcg_src, by first | assumption | rfl⟩) ?_)
  | ((with_reducible show NewW _ _ _ _); refine newW ?_)
  | ((with_reducible show rCat _ _ _ _); refine c_cat (by lcg_sub) (by lcg_sub) (le_line (by first | decide | (simp only [List.length_append, List.length_cons, List.length_nil]; omega))) ?_)
  | ((with_reducible show aAddS _ _ _ _); refine c_adds (le_line (by first | decide +kernel | assumption)) ?_)
  | ((with_reducible show rIn _ false _ _ _ _); refine c_inL (by lcg_src) (by rfl) (by rfl) ?_)
  | ((with_reducible show rIn _ true _ _ _ _); refine c_niL (by lcg_src) (by rfl) (by rfl) ?_))
/-- one step, with the new object's names -/
local macro_rules | `(tactic| k_offL) => `(tactic| first | lcg_off | ((with_reducible show ∀ _ _, New _ _ _ _ → _); intro _ _ _))
/-- an error that is held -/
local macro_rules | `(tactic| one_item) => `(tactic| first | assumption | (refine ErrV.same ?_ (New.same (by assumption)); one_item) | (refine ErrV.same ?_ (by assumption); one_item))
/-- nothing was changed -/
local macro_rules | `(tactic| one_place) => `(tactic| first | assumption | exact fun _ _ h => h | exact New.same (by assumption) | (refine Same.trans ?_ (New.same (by assumption)); one_place) | (refine Same.trans ?_ (by assumption); one_place))
/-- what an expression makes, as data -/
local macro_rules | `(tactic| one_sign) => `(tactic| first | exact EvD.str | exact EvD.int | exact EvA.nil | exact EvD.neg | (apply EvA.cons; (focus one_sign); one_sign) | (apply EvD.tup; (focus one_sign); (first | decide | (simp only [List.length_append, List.length_cons, List.length_nil]; omega))) | (apply EvD.var; (focus rfl); kp_flats) | (apply EvL.var; (focus rfl); (focus lcg_sub); assumption) | (apply EvL.lst; (focus one_sign); (first | decide | (simp only [List.length_append, List.length_cons, List.length_nil]; omega))) | (apply EvL.cat; (focus one_sign); (focus one_sign); (first | decide | (simp only [List.length_append, List.length_cons, List.length_nil]; omega))) | (apply EvD.tupOf; one_sign) | (apply EvD.rep; (focus one_sign); (focus simp); (focus decide); (focus decide); decide) | (apply EvL.rep; (focus one_sign); (focus decide); decide) | (apply EvD.adds; (focus one_sign); (focus one_sign); decide +kernel) | exact EvD.non | exact EvD.bl | (apply EvD.ofL; one_sign))
/-- one step, but not into a new list, a new tuple -/
local macro_rules | `(tactic| k_asm) => `(tactic| (fail_if_success (with_reducible show tLst _ _ _ _)); (fail_if_success (with_reducible show tTup _ _ _ _)); (fail_if_success (with_reducible show tOp rCat _ _ _ _ _)); lcg_off)
namespace TD
open PySem PySem.Spec L2 PySem.Calls
open PyProof.Rows hiding St
/-! ### formulas as data -/
/-- data of texts, numbers, rows, of depth n at most -/
def okP : Nat → PyData → Bool
  | _, .int _ => true
  | _, .str x => (PyData.str x).canLay0 && decide (x.length ≤ 100000)
  | n + 1, .list xs => decide (xs.length ≤ 100000) && xs.all (okP n)
  | n + 1, .tuple xs => decide (xs.length ≤ 100000) && xs.all (okP n)
  | _, _ => false
mutual
theorem okP_okD : ∀ {d : PyData} {n : Nat}, okP n d = true → okD n d = true
  | .none, n, h => by cases n <;> simp [okP] at h
  | .bool _, n, h => by cases n <;> simp [okP] at h
  | .dict _, n, h => by cases n <;> simp [okP] at h
  | .int _, n, h => by cases n <;> rfl
  | .str x, n, h => by cases n <;> (simp only [okP, Bool.and_eq_true] at h; exact h.1)
  | .list xs, 0, h => by simp [okP] at h
  | .tuple xs, 0, h => by simp [okP] at h
  | .list xs, n + 1, h => by
    simp only [okP, Bool.and_eq_true] at h
    simp only [okD, Bool.and_eq_true]
    exact ⟨h.1, okP_okDs h.2⟩
  | .tuple xs, n + 1, h => by
    simp only [okP, Bool.and_eq_true] at h
    simp only [okD, Bool.and_eq_true]
    exact ⟨h.1, okP_okDs h.2⟩
theorem okP_okDs : ∀ {ds : List PyData} {n : Nat}, ds.all (okP n) = true → ds.all (okD n) = true
  | [], _, _ => rfl
  | d :: ds, n, h => by
    simp only [List.all_cons, Bool.and_eq_true] at h ⊢
    exact ⟨okP_okD h.1, okP_okDs h.2⟩
end
mutual
theorem okP_mono : ∀ {d : PyData} {n m : Nat}, n ≤ m → okP n d = true → okP m d = true
  | .none, n, m, _, h => by cases n <;> simp [okP] at h
  | .bool _, n, m, _, h => by cases n <;> simp [okP] at h
  | .dict _, n, m, _, h => by cases n <;> simp [okP] at h
  | .int _, n, m, _, h => by cases m <;> rfl
  | .str x, n, m, _, h => by cases n <;> cases m <;> exact h
  | .list xs, 0, m, _, h => by simp [okP] at h
  | .tuple xs, 0, m, _, h => by simp [okP] at h
  | .list xs, n + 1, 0, l, h => by omega
  | .tuple xs, n + 1, 0, l, h => by omega
  | .list xs, n + 1, m + 1, l, h => by
    simp only [okP, Bool.and_eq_true] at h ⊢
    exact ⟨h.1, okP_monos (by omega) h.2⟩
  | .tuple xs, n + 1, m + 1, l, h => by
    simp only [okP, Bool.and_eq_true] at h ⊢
    exact ⟨h.1, okP_monos (by omega) h.2⟩
theorem okP_monos : ∀ {ds : List PyData} {n m : Nat}, n ≤ m → ds.all (okP n) = true → ds.all (okP m) = true
  | [], _, _, _, _ => rfl
  | d :: ds, n, m, l, h => by
    simp only [List.all_cons, Bool.and_eq_true] at h ⊢
    exact ⟨okP_mono l h.1, okP_monos l h.2⟩
end
def isNameD : PyData → Bool
  | .str x => decide (1 ≤ x.length) && (decide (x.length ≤ 6) && x.cps.toList.all fun c => decide (c ∈ lowers))
  | _ => false
def isOwnerD : PyData → Bool
  | .str x => decide (x = S [45]) || isNameD (.str x)
  | _ => false
theorem eqv_owner (d : PyData) : (PyData.eqv d (.str (S [45])) || isNameD d) = isOwnerD d := by
  cases d with
  | str x => simp only [PyData.eqv, isOwnerD]; rfl
  | _ => simp only [PyData.eqv, isOwnerD, isNameD, Bool.or_self]
mutual
def hasFormD : PyData → Bool
  | .tuple ds => decide (2 ≤ ds.length) && hasFormAll ds
  | .str x => isOwnerD (.str x)
  | _ => false
def hasFormAll : List PyData → Bool
  | [] => true
  | d :: r => hasFormD d && hasFormAll r
end
theorem hasFormAll_all : ∀ ds : List PyData, hasFormAll ds = ds.all hasFormD
  | [] => rfl
  | d :: r => by rw [hasFormAll, hasFormAll_all r, List.all_cons]
mutual
def toTr : PyData → Tr
  | .tuple ds => .node (toTrs ds)
  | .str x => .leaf x.cps.toList
  | _ => .leaf []
def toTrs : List PyData → List Tr
  | [] => []
  | d :: r => toTr d :: toTrs r
end
theorem toTrs_len : ∀ ds : List PyData, (toTrs ds).length = ds.length
  | [] => rfl
  | d :: r => by rw [toTrs, List.length_cons, List.length_cons, toTrs_len r]
theorem isNameD_str {x : Str} (h : isNameD (.str x) = true) : 1 ≤ x.length ∧ x.length ≤ 6 ∧ ∀ c ∈ x.cps.toList, c ∈ lowers := by
  simp only [isNameD, Bool.and_eq_true, decide_eq_true_eq, List.all_eq_true] at h
  exact ⟨h.1, h.2.1, h.2.2⟩
theorem isOwnerD_str {x : Str} (h : isOwnerD (.str x) = true) : x = S [45] ∨ (1 ≤ x.length ∧ x.length ≤ 6 ∧ ∀ c ∈ x.cps.toList, c ∈ lowers) := by
  simp only [isOwnerD, Bool.or_eq_true, decide_eq_true_eq] at h
  exact h.imp id isNameD_str
mutual
theorem toTr_ok : ∀ {d : PyData} {n : Nat}, hasFormD d = true → okP n d = true → (toTr d).data = d ∧ (toTr d).okB 100000 = true ∧ (toTr d).lev ≤ n
  | .none, n, h, _ => by simp [hasFormD] at h
  | .bool _, n, h, _ => by simp [hasFormD] at h
  | .int _, n, h, _ => by simp [hasFormD] at h
  | .dict _, n, h, _ => by simp [hasFormD] at h
  | .list _, n, h, _ => by simp [hasFormD] at h
  | .str x, n, h, _ => by
    rw [hasFormD] at h
    refine ⟨by rw [toTr, Tr.data, ← S_eq], ?_, by rw [toTr, Tr.lev]; exact Nat.zero_le _⟩
    rw [toTr, Tr.okB]
    rcases isOwnerD_str h with rfl | ⟨h1, h2, h3⟩
    · decide
    · simp only [Bool.and_eq_true, decide_eq_true_eq, List.all_eq_true]
      have e : x.cps.toList.length = x.length := by rw [← S_len, ← S_eq]
      exact ⟨⟨by omega, by omega⟩, fun c hc => low_256 c (h3 c hc)⟩
  | .tuple ds, 0, h, ho => by simp [okP] at ho
  | .tuple ds, n + 1, h, ho => by
    rw [hasFormD, Bool.and_eq_true, decide_eq_true_eq] at h
    rw [okP, Bool.and_eq_true, decide_eq_true_eq] at ho
    obtain ⟨e, b, l⟩ := toTrs_ok h.2 ho.2
    refine ⟨by rw [toTr, Tr.data, e], ?_, by rw [toTr, Tr.lev]; omega⟩
    rw [toTr, Tr.okB, b, toTrs_len]
    simp [h.1, ho.1]
theorem toTrs_ok : ∀ {ds : List PyData} {n : Nat}, hasFormAll ds = true → ds.all (okP n) = true → Tr.dataAll (toTrs ds) = ds ∧ Tr.okAll 100000 (toTrs ds) = true ∧ Tr.levAll (toTrs ds) ≤ n
  | [], n, _, _ => ⟨rfl, rfl, Nat.zero_le _⟩
  | d :: r, n, h, ho => by
    rw [hasFormAll, Bool.and_eq_true] at h
    rw [List.all_cons, Bool.and_eq_true] at ho
    obtain ⟨e1, b1, l1⟩ := toTr_ok h.1 ho.1
    obtain ⟨e2, b2, l2⟩ := toTrs_ok h.2 ho.2
    refine ⟨by rw [toTrs, Tr.dataAll, e1, e2], by rw [toTrs, Tr.okAll, b1, b2]; rfl, by rw [toTrs, Tr.levAll]; omega⟩
end
/-- a tree within the limits -/
def isTreeD (d : PyData) : Bool := hasFormD d && (decide ((toTr d).ends ≤ 400) && decide ((toTr d).lev ≤ 40))
def isNumD (m : Int) : PyData → Bool | .int i => decide (m ≤ i) | _ => false
def ltD : PyData → PyData → Bool
  | .int i, .int j => decide (i < j)
  | _, _ => false
/-- parts_of -/
def pOne (f : PyData → Bool) : List PyData → Option (List PyData) | [d] => if f d = true then some [] else none | _ => none
def pEvery : List PyData → Option (List PyData) | [a, b, f] => if (isNumD 0 a && isNumD 1 b) = true then some [f] else none | _ => none
def pAhead : List PyData → Option (List PyData) | [a, f] => if isNumD 0 a = true then some [f] else none | _ => none
def pPaint : List PyData → Option (List PyData) | [a, b, o, f] => if (isNumD 0 a && isNumD 1 b && ltD a b && isOwnerD o) = true then some [f] else none | _ => none
def pGather : List PyData → Option (List PyData) | [f] => some [f] | _ => none
def partsW (w : Str) (rest : List PyData) : Option (List PyData) :=
  if w = "name" then pOne isNameD rest else if w = "tree" then pOne isTreeD rest else if w = "every" then pEvery rest else if w = "ahead" then pAhead rest else if w = "paint" then pPaint rest
  else if w = "gather" then pGather rest else if w = "weave" then (if 2 ≤ rest.length ∧ rest.length ≤ 9 then some rest else none) else none
def partsD : PyData → Option (List PyData)
  | .tuple (.str w :: d :: rest) => partsW w (d :: rest)
  | _ => none
/-- is_formula -/
def isFmD : Nat → PyData → Bool
  | 0, _ => false
  | n + 1, d => match partsD d with
    | some ps => ps.all (isFmD n)
    | none => false
/-- a tuple begins with a text, where it is long -/
def wordy : PyData → Bool
  | .tuple (.str _ :: _) => true
  | .tuple [_] => true
  | .tuple (_ :: _ :: _) => false
  | _ => true
/-! ### formulas -/
inductive Fm where
  | name (n : List Nat)
  | tree (t : Tr)
  | every (a b : Nat) (f : Fm)
  | ahead (a : Nat) (f : Fm)
  | paint (a b : Nat) (o : List Nat) (f : Fm)
  | gather (f : Fm)
  | weave (fs : List Fm)
namespace Fm
mutual
def data : Fm → PyData
  | name n => .tuple [.str "name", .str (S n)]
  | tree t => .tuple [.str "tree", t.data]
  | every a b f => .tuple [.str "every", .int a, .int b, data f]
  | ahead a f => .tuple [.str "ahead", .int a, data f]
  | paint a b o f => .tuple [.str "paint", .int a, .int b, .str (S o), data f]
  | gather f => .tuple [.str "gather", data f]
  | weave fs => .tuple (.str "weave" :: dataAll fs)
def dataAll : List Fm → List PyData
  | [] => []
  | f :: r => data f :: dataAll r
end
theorem dataAll_map : ∀ fs : List Fm, dataAll fs = fs.map data
  | [] => rfl
  | f :: r => by rw [dataAll, dataAll_map r]; rfl
/-- the parts -/
def parts : Fm → List Fm
  | name _ => []
  | tree _ => []
  | every _ _ f => [f]
  | ahead _ f => [f]
  | paint _ _ _ f => [f]
  | gather f => [f]
  | weave fs => fs
/-- what stands ahead of the parts -/
def head : Fm → List PyData
  | name n => [.str "name", .str (S n)]
  | tree t => [.str "tree", t.data]
  | every a b _ => [.str "every", .int a, .int b]
  | ahead a _ => [.str "ahead", .int a]
  | paint a b o _ => [.str "paint", .int a, .int b, .str (S o)]
  | gather _ => [.str "gather"]
  | weave _ => [.str "weave"]
theorem data_eq (f : Fm) : f.data = .tuple (f.head ++ f.parts.map data) := by
  cases f <;> (first | rfl | skip)
  rw [data, dataAll_map]; rfl
mutual
def deep : Fm → Nat
  | name _ => 1
  | tree _ => 1
  | every _ _ f => deep f + 1
  | ahead _ f => deep f + 1
  | paint _ _ _ f => deep f + 1
  | gather f => deep f + 1
  | weave fs => deepAll fs + 1
def deepAll : List Fm → Nat
  | [] => 0
  | f :: r => max (deep f) (deepAll r)
end
theorem deep_mem : ∀ {fs : List Fm} {f : Fm}, f ∈ fs → f.deep ≤ deepAll fs
  | g :: r, f, h => by
    rw [deepAll]
    rcases List.mem_cons.mp h with e | e
    · subst e; omega
    · have := deep_mem e; omega
theorem deep_parts {f g : Fm} (h : g ∈ f.parts) : g.deep < f.deep := by
  cases f with
  | name _ => simp [parts] at h
  | tree _ => simp [parts] at h
  | every _ _ f => simp [parts] at h; subst h; rw [deep]; omega
  | ahead _ f => simp [parts] at h; subst h; rw [deep]; omega
  | paint _ _ _ f => simp [parts] at h; subst h; rw [deep]; omega
  | gather f => simp [parts] at h; subst h; rw [deep]; omega
  | weave fs => rw [deep]; have := deep_mem (show g ∈ fs from h); omega
theorem deep_pos (f : Fm) : 1 ≤ f.deep := by cases f <;> (simp only [deep]; omega)
/-- the parts' number -/
theorem ind {P : Fm → Prop} (h : ∀ f, (∀ g ∈ f.parts, P g) → P f) : ∀ f, P f := by
  suffices ∀ n f, f.deep ≤ n → P f from fun f => this _ f (Nat.le_refl _)
  intro n
  induction n with
  | zero => intro f hf; have := deep_pos f; omega
  | succ n ih => exact fun f hf => h f fun g hg => ih g (by have := deep_parts hg; omega)
/-- numbers, names, trees, widths as check_formula wants them, but the depth -/
def lets1 : Fm → Bool
  | name n => isNameD (.str (S n))
  | tree t => isTreeD t.data
  | every _ b _ => decide (1 ≤ b)
  | ahead _ _ => true
  | paint a b o _ => decide (a < b) && isOwnerD (.str (S o))
  | gather _ => true
  | weave fs => decide (2 ≤ fs.length ∧ fs.length ≤ 9)
theorem parts_data (f : Fm) : partsD f.data = if f.lets1 = true then some (f.parts.map data) else none := by
  cases f with
  | name n => rw [data, partsD, partsW, if_pos rfl]; rfl
  | tree t => rw [data, partsD, partsW, if_neg (by decide), if_pos rfl]; rfl
  | every a b f =>
    rw [data, partsD, partsW, if_neg (by decide), if_neg (by decide), if_pos rfl]
    have h : (isNumD 0 (.int a) && isNumD 1 (.int b)) = decide (1 ≤ b) := by
      simp only [isNumD]
      by_cases hb : 1 ≤ b
      · simp [hb]; omega
      · simp [hb]; omega
    simp only [pEvery, pAhead, pPaint, h, lets1, parts, List.map_cons, List.map_nil]
  | ahead a f =>
    rw [data, partsD, partsW, if_neg (by decide), if_neg (by decide), if_neg (by decide), if_pos rfl]
    have h : isNumD 0 (.int a) = true := by simp only [isNumD, decide_eq_true_eq]; omega
    simp only [pEvery, pAhead, pPaint, h, lets1, parts, List.map_cons, List.map_nil]
  | paint a b o f =>
    rw [data, partsD, partsW, if_neg (by decide), if_neg (by decide), if_neg (by decide), if_neg (by decide), if_pos rfl]
    have h : (isNumD 0 (.int a) && isNumD 1 (.int b) && ltD (.int a) (.int b) && isOwnerD (.str (S o))) = (decide (a < b) && isOwnerD (.str (S o))) := by
      simp only [isNumD, ltD]
      by_cases hb : a < b
      · have h1 : (1 : Int) ≤ b := by omega
        have h2 : (0 : Int) ≤ a := by omega
        have h3 : (a : Int) < b := by omega
        simp [hb, h1, h2, h3]
      · have h3 : ¬ (a : Int) < b := by omega
        simp [hb, h3]
    simp only [pEvery, pAhead, pPaint, h, lets1, parts, List.map_cons, List.map_nil]
  | gather f => rw [data, partsD, partsW, if_neg (by decide), if_neg (by decide), if_neg (by decide), if_neg (by decide), if_neg (by decide), if_pos rfl]; rfl
  | weave fs =>
    rw [data, dataAll_map]
    cases fs with
    | nil => rfl
    | cons g r =>
      rw [List.map_cons, partsD]
      unfold partsW
      rw [if_neg (by decide), if_neg (by decide), if_neg (by decide), if_neg (by decide), if_neg (by decide), if_neg (by decide), if_pos rfl]
      simp only [lets1, parts, List.map_cons, List.length_cons, List.length_map, decide_eq_true_eq]
mutual
/-- all of it is let -/
def lets : Fm → Bool
  | name n => lets1 (name n)
  | tree t => lets1 (tree t)
  | every a b f => lets1 (every a b f) && lets f
  | ahead a f => lets1 (ahead a f) && lets f
  | paint a b o f => lets1 (paint a b o f) && lets f
  | gather f => lets1 (gather f) && lets f
  | weave fs => lets1 (weave fs) && letsAll fs
def letsAll : List Fm → Bool
  | [] => true
  | f :: r => lets f && letsAll r
end
theorem letsAll_all : ∀ fs : List Fm, letsAll fs = fs.all lets
  | [] => rfl
  | f :: r => by rw [letsAll, letsAll_all r, List.all_cons]
theorem lets_eq (f : Fm) : f.lets = (f.lets1 && f.parts.all lets) := by
  cases f <;> simp [lets, parts, letsAll_all]
theorem deepAll_lt {fs : List Fm} {n : Nat} : deepAll fs ≤ n ↔ ∀ f ∈ fs, f.deep ≤ n := by
  induction fs with
  | nil => simp [deepAll]
  | cons f r ih =>
    rw [deepAll]
    simp only [List.mem_cons, forall_eq_or_imp, ← ih]
    omega
theorem deep_eq (f : Fm) : f.deep = deepAll f.parts + 1 := by
  cases f <;> simp [deep, parts, deepAll]
theorem isFm_data : ∀ (n : Nat) (f : Fm), isFmD n f.data = (decide (f.deep ≤ n) && f.lets)
  | 0, f => by have := deep_pos f; simp [isFmD, show ¬ f.deep ≤ 0 by omega]
  | n + 1, f => by
    rw [isFmD, parts_data, lets_eq, deep_eq]
    cases h : f.lets1 with
    | false => simp
    | true =>
      simp only [if_true, Bool.true_and]
      have e : (f.parts.map data).all (isFmD n) = f.parts.all fun g => decide (g.deep ≤ n) && g.lets := by
        rw [List.all_map]
        congr 1
        funext g
        exact isFm_data n g
      rw [e]
      have e2 : decide (deepAll f.parts + 1 ≤ n + 1) = f.parts.all fun g => decide (g.deep ≤ n) := by
        rw [Bool.eq_iff_iff]
        simp only [decide_eq_true_eq, List.all_eq_true]
        rw [← deepAll_lt]
        omega
      rw [e2, Bool.eq_iff_iff]
      simp only [List.all_eq_true, Bool.and_eq_true]
      exact ⟨fun h => ⟨fun g hg => (h g hg).1, fun g hg => (h g hg).2⟩, fun h g hg => ⟨h.1 g hg, h.2 g hg⟩⟩
end Fm
end TD

end
section
open TD L2
/-- what stands at an address -/
local macro_rules | `(tactic| lcg_sub) => `(tactic| first | assumption | exact upd_same | exact New.at_ (by assumption) | (refine New.same (by assumption) _ _ ?_; lcg_sub) | (refine (show Same _ _ from by assumption) _ _ ?_; lcg_sub) | (refine Eq.trans (upd_ne (by first | assumption | exact Ne.symm (by assumption))) ?_; lcg_sub))
/-- a list, a tuple to be read -/
local macro_rules | `(tactic| lcg_src) => `(tactic| first | assumption | exact SqL.of (by lcg_sub) | exact SqT.of (by lcg_sub) | (refine Same.seq (New.same (by assumption)) ?_; lcg_src) | (refine Same.seq (by assumption) ?_; lcg_src) | (refine sameT (New.same (by assumption)) ?_; lcg_src) | (refine sameT (by assumption) ?_; lcg_src))
/-- data at a value -/
local macro_rules | `(tactic| kp_flats) => `(tactic| first | assumption | exact Dp.str _ | exact Dp.int _ | exact Dp.non | exact Dp.bl _ | (refine dp_same (New.same (by assumption)) ?_; kp_flats) | (refine dp_same (by assumption) ?_; kp_flats))
/-- one step of a reading -/
local macro_rules | `(tactic| lcg_off) => `(tactic| first
  | with_reducible refine Stp.go ?_
  | ((with_reducible show tVar _ _ _ _); refine c_var (by rfl) ?_)
  | ((with_reducible show rIxL _ _ _ _ _); refine c_ixL (by lcg_src) (by rfl) ?_)
  | ((with_reducible show rIxT _ _ _ _ _); refine c_ixT (by lcg_src) (by rfl) ?_)
  | ((with_reducible show rSetL _ _ _ _ _); refine c_setL (by lcg_sub) (by rfl) ?_)
  | ((with_reducible show rLenQ _ _ _ _); first | (refine c_lenL (by lcg_src) ?_) | (refine c_lenT (by lcg_src) ?_))
  | ((with_reducible show rSlL _ _ _ _ _ _); refine c_slL (by lcg_src) ?_)
  | ((with_reducible show rListQ _ _ _ _); first | (refine c_listL (by lcg_src) ?_) | (refine c_listT (by lcg_src) ?_))
  | ((with_reducible show rI _ _ _ _ _ _); refine c_IC (by first | assumption | decide | omega) ?_)
  | ((with_reducible show rIsi _ _ _ _); refine c_isi (by kp_flats) (by first | assumption | decide +kernel) ?_)
  | ((with_reducible show rIx _ _ _ _ _); refine c_ix (by first | exact .inl ⟨by lcg_src, by first | assumption | rfl⟩ | exact .inr ⟨by lcg_src, by first | assumption | rfl⟩) ?_)
  | ((with_reducible show NewW _ _ _ _); refine newW ?_)
  | ((with_reducible show rCat _ _ _ _); refine c_cat (by lcg_sub) (by lcg_sub) (le_line (by first | decide | (simp only [List.length_append, List.length_cons, List.length_nil]; omega))) ?_)
  | ((with_reducible show aAddS _ _ _ _); refine c_adds (le_line (by first | decide +kernel | assumption)) ?_)
  | ((with_reducible show rIn _ false _ _ _ _); refine c_inL (by lcg_src) (by rfl) (by rfl) ?_)
  | ((with_reducible show rIn _ true _ _ _ _); refine c_niL (by lcg_src) (by rfl) (by rfl) ?_))
/-- one step, with the new object's names -/
local macro_rules | `(tactic| k_offL) => `(tactic| first | lcg_off | ((with_reducible show ∀ _ _, New _ _ _ _ → _); intro _ _ _))
/-- an error that is held -/
local macro_rules | `(tactic| one_item) => `(tactic| first | assumption | (refine ErrV.same ?_ (New.same (by assumption)); one_item) | (refine ErrV.same ?_ (by assumption); one_item))
/-- nothing was changed -/
local macro_rules | `(tactic| one_place) => `(tactic| first | assumption | exact fun _ _ h => h | exact New.same (by assumption) | (refine Same.trans ?_ (New.same (by assumption)); one_place) | (refine Same.trans ?_ (by assumption); one_place))
/-- what an expression makes, as data -/
local macro_rules | `(tactic| one_sign) => `(tactic| first | exact EvD.str | exact EvD.int | exact EvA.nil | exact EvD.neg | (apply EvA.cons; (focus one_sign); one_sign) | (apply EvD.tup; (focus one_sign); (first | decide | (simp only [List.length_append, List.length_cons, List.length_nil]; omega))) | (apply EvD.var; (focus rfl); kp_flats) | (apply EvL.var; (focus rfl); (focus lcg_sub); assumption) | (apply EvL.lst; (focus one_sign); (first | decide | (simp only [List.length_append, List.length_cons, List.length_nil]; omega))) | (apply EvL.cat; (focus one_sign); (focus one_sign); (first | decide | (simp only [List.length_append, List.length_cons, List.length_nil]; omega))) | (apply EvD.tupOf; one_sign) | (apply EvD.rep; (focus one_sign); (focus simp); (focus decide); (focus decide); decide) | (apply EvL.rep; (focus one_sign); (focus decide); decide) | (apply EvD.adds; (focus one_sign); (focus one_sign); decide +kernel) | exact EvD.non | exact EvD.bl | (apply EvD.ofL; one_sign))
/-- one step, but not into a new list, a new tuple -/
local macro_rules | `(tactic| k_asm) => `(tactic| (fail_if_success (with_reducible show tLst _ _ _ _)); (fail_if_success (with_reducible show tTup _ _ _ _)); (fail_if_success (with_reducible show tOp rCat _ _ _ _ _)); lcg_off)
namespace TD
open PySem PySem.Spec L2 PySem.Calls PySem.TDX
open PyProof.Rows hiding St
abbrev ns_l_tree_text : List Str := ["_law_tree_z", "_law_one"]
abbrev ps_l_tree_text : List Str := ["_law_tree_z"]
def t_l_tree_text (K : PySem.W.Frag) (sp_l_tree_text : Sp) : TS :=
  (tRet (tIf (tB (tCB (rIsi K) (tCons (tVar 0) (tCons (tC (.ty "tuple")) tNil)))) (tOp aAddS (tOp aAddS (tC (.str "(")) (tM1 (rJoin K) (tC (.str " ")) (tLc (iTup K (tVar 0)) (gName 1) tYes (tCall sp_l_tree_text [] E0 (tCons (tVar 1) tNil)) [1]))) (tC (.str ")"))) (tVar 0)))
abbrev ns_l_levels : List Str := ["_law_tree_z", "_law_one"]
abbrev ps_l_levels : List Str := ["_law_tree_z"]
def t_l_levels (K : PySem.W.Frag) (sp_l_levels : Sp) : TS :=
  (tRet (tIf (tB (tCB (rIsi K) (tCons (tVar 0) (tCons (tC (.ty "tuple")) tNil)))) (tOp aAdd (tC (.int 1)) (tCB (rMax K) (tCons (tLc (iTup K (tVar 0)) (gName 1) tYes (tCall sp_l_levels [] E0 (tCons (tVar 1) tNil)) [1]) tNil))) (tC (.int 0))))
abbrev ns_l_ends : List Str := ["_law_tree_z", "_law_first", "_law_step", "_law_found", "_law_k"]
abbrev ps_l_ends : List Str := ["_law_tree_z", "_law_first", "_law_step"]
def t_l_ends (K : PySem.W.Frag) (sp_l_ends : Sp) : TS :=
  (tSeq (tIfS (tNot (tB (tCB (rIsi K) (tCons (tVar 0) (tCons (tC (.ty "tuple")) tNil))))) (tRet (tLst (tCons (tTup (tCons (tVar 1) (tCons (tVar 2) (tCons (tVar 0) tNil)))) tNil))) tNext)
    (tSeq (tAsg (tLst tNil) (gName 3))
    (tSeq (tFor (iRng1 (tCons (tCB (rLenQ K) (tCons (tVar 0) tNil)) tNil)) (gName 4) (tAsg (tOp rCat (tVar 3) (tCall sp_l_ends [] E0 (tCons (tOp (rIxT K) (tVar 0) (tVar 4)) (tCons (tOp aAdd (tVar 1) (tOp aMul (tVar 2) (tVar 4))) (tCons (tOp aMul (tVar 2) (tCB (rLenQ K) (tCons (tVar 0) tNil))) tNil))))) (gName 3)))
    (tRet (tVar 3)))))
abbrev ns_l_bent_text : List Str := ["_law_bag_here", "_law_text_z", "_law_at", "_law_sign"]
abbrev ps_l_bent_text : List Str := ["_law_bag_here", "_law_text_z"]
def t_l_bent_text (K : PySem.W.Frag) (sp_l_of : Sp) (sp_l_pull : Sp) : TS :=
  (tSeq (tAsg (tCall sp_l_pull [] E0 (tCons (tVar 0) (tCons (tOp aAdd (tCB rLenS (tCons (tVar 1) tNil)) (tC (.int 1))) tNil))) (gName 2))
    (tSeq (tAsg (tCall sp_l_of [] E0 (tCons (tVar 0) (tCons (tLst (tCons (tC (.str "")) (tCons (tC (.str " ")) (tCons (tC (.str "(")) (tCons (tC (.str ")")) (tCons (tC (.str "a")) (tCons (tC (.str "-")) (tCons (tC (.str "A")) (tCons (tC (.str "0")) (tCons (tC (.str ",")) (tCons (tC (.str "[")) (tCons (tC (.str "]")) (tCons (tC (.str ", ")) (tCons (tC (.str "9")) (tCons (tC (.str "b c")) (tCons (tC (.str "every(")) tNil)))))))))))))))) tNil))) (gName 3))
    (tRet (tOp aAddS (tOp aAddS (tSl rSlS (tVar 1) tNoPart (tPart (tVar 2))) (tVar 3)) (tSl rSlS (tVar 1) (tPart (tOp aAdd (tVar 2) (tCall sp_l_pull [] E0 (tCons (tVar 0) (tCons (tC (.int 2)) tNil))))) tNoPart)))))
abbrev ns_l_letters_at : List Str := ["_law_text_z", "_law_at", "_law_signs", "_law_most", "_law_size"]
abbrev ps_l_letters_at : List Str := ["_law_text_z", "_law_at", "_law_signs", "_law_most"]
def t_l_letters_at (K : PySem.W.Frag) : TS :=
  (tSeq (tAsg (tC (.int 0)) (gName 4))
    (tSeq (tWhile (tAnd (tTest (tOp aLt (tVar 4) (tVar 3))) (tAnd (tTest (tOp aLt (tOp aAdd (tVar 1) (tVar 4)) (tCB rLenS (tCons (tVar 0) tNil)))) (tTest (tOp rInS (tOp rIxS (tVar 0) (tOp aAdd (tVar 1) (tVar 4))) (tVar 2))))) (tAsg (tOp aAdd (tVar 4) (tC (.int 1))) (gName 4)))
    (tRet (tVar 4))))
abbrev ns_l_tree_at : List Str := ["_law_text_z", "_law_at", "_law_size", "_law_found", "_law_one"]
abbrev ps_l_tree_at : List Str := ["_law_text_z", "_law_at"]
def t_l_tree_at (K : PySem.W.Frag) (sp_l_letters_at : Sp) (sp_l_tree_at : Sp) : TS :=
  (tSeq (tIfS (tTest (tOp rEq (tSl rSlS (tVar 0) (tPart (tVar 1)) (tPart (tOp aAdd (tVar 1) (tC (.int 1))))) (tC (.str "-")))) (tRet (tTup (tCons (tC (.str "-")) (tCons (tOp aAdd (tVar 1) (tC (.int 1))) tNil)))) tNext)
    (tSeq (tIfS (tTest (tOp rNe (tSl rSlS (tVar 0) (tPart (tVar 1)) (tPart (tOp aAdd (tVar 1) (tC (.int 1))))) (tC (.str "(")))) (tSeq (tAsg (tCall sp_l_letters_at [] E0 (tCons (tVar 0) (tCons (tVar 1) (tCons (tC (.str "abcdefghijklmnopqrstuvwxyz")) (tCons (tC (.int 6)) tNil))))) (gName 2))
    (tRet (tTup (tCons (tIf (tTest (tOp aGt (tVar 2) (tC (.int 0)))) (tSl rSlS (tVar 0) (tPart (tVar 1)) (tPart (tOp aAdd (tVar 1) (tVar 2)))) (tC .non)) (tCons (tOp aAdd (tVar 1) (tVar 2)) tNil))))) tNext)
    (tSeq (tAsg (tLst tNil) (gName 3))
    (tSeq (tAsg (tOp aAdd (tVar 1) (tC (.int 1))) (gName 1))
    (tWhile (tB (tC (.bl true))) (tSeq (tAsg (tCall sp_l_tree_at [] E0 (tCons (tVar 0) (tCons (tVar 1) tNil))) (gTup K 2 (gCons (gName 4) (gCons (gName 1) gNil))))
    (tSeq (tIfS (tTest (tOp rIsN (tVar 4) (tC .non))) (tRet (tTup (tCons (tC .non) (tCons (tVar 1) tNil)))) tNext)
    (tSeq (tDrop (tBM K "list" rAppend (tVar 3) (tCons (tVar 4) tNil)))
    (tSeq (tIfS (tAnd (tTest (tOp rEq (tSl rSlS (tVar 0) (tPart (tVar 1)) (tPart (tOp aAdd (tVar 1) (tC (.int 1))))) (tC (.str ")")))) (tTest (tOp aGt (tCB (rLenQ K) (tCons (tVar 3) tNil)) (tC (.int 1))))) (tRet (tTup (tCons (tCB (rTupQ K) (tCons (tVar 3) tNil)) (tCons (tOp aAdd (tVar 1) (tC (.int 1))) tNil)))) tNext)
    (tSeq (tIfS (tTest (tOp rNe (tSl rSlS (tVar 0) (tPart (tVar 1)) (tPart (tOp aAdd (tVar 1) (tC (.int 1))))) (tC (.str " ")))) (tRet (tTup (tCons (tC .non) (tCons (tVar 1) tNil)))) tNext)
    (tAsg (tOp aAdd (tVar 1) (tC (.int 1))) (gName 1))))))))))))
abbrev ns_l_tree_due : List Str := ["_law_text_z", "_law_tree_z", "_law_at"]
abbrev ps_l_tree_due : List Str := ["_law_text_z"]
def t_l_tree_due (K : PySem.W.Frag) (sp_l_ends : Sp) (sp_l_levels : Sp) (sp_l_tree_at : Sp) : TS :=
  (tSeq (tAsg (tCall sp_l_tree_at [] E0 (tCons (tVar 0) (tCons (tC (.int 0)) tNil))) (gTup K 2 (gCons (gName 1) (gCons (gName 2) gNil))))
    (tSeq (tIfS (tOr (tTest (tOp rIsN (tVar 1) (tC .non))) (tTest (tOp aLt (tVar 2) (tCB rLenS (tCons (tVar 0) tNil))))) (tRet (tTup (tCons (tC (.str "BadText")) (tCons (tVar 2) tNil)))) tNext)
    (tSeq (tIfS (tTest (tOp aGt (tCB (rLenQ K) (tCons (tCall sp_l_ends [] E0 (tCons (tVar 1) (tCons (tC (.int 0)) (tCons (tC (.int 1)) tNil)))) tNil)) (tC (.int 400)))) (tRet (tTup (tCons (tC (.str "TooLarge")) (tCons (tC (.int 400)) tNil)))) tNext)
    (tRet (tIf (tTest (tOp aGt (tCall sp_l_levels [] E0 (tCons (tVar 1) tNil)) (tC (.int 40)))) (tTup (tCons (tC (.str "TooLarge")) (tCons (tC (.int 40)) tNil))) (tTup (tCons (tC (.str "value")) (tCons (tVar 1) tNil))))))))
end TD

end
section
open TD L2
/-- what stands at an address -/
local macro_rules | `(tactic| lcg_sub) => `(tactic| first | assumption | exact upd_same | exact New.at_ (by assumption) | (refine New.same (by assumption) _ _ ?_; lcg_sub) | (refine (show Same _ _ from by assumption) _ _ ?_; lcg_sub) | (refine Eq.trans (upd_ne (by first | assumption | exact Ne.symm (by assumption))) ?_; lcg_sub))
/-- a list, a tuple to be read -/
local macro_rules | `(tactic| lcg_src) => `(tactic| first | assumption | exact SqL.of (by lcg_sub) | exact SqT.of (by lcg_sub) | (refine Same.seq (New.same (by assumption)) ?_; lcg_src) | (refine Same.seq (by assumption) ?_; lcg_src) | (refine sameT (New.same (by assumption)) ?_; lcg_src) | (refine sameT (by assumption) ?_; lcg_src))
/-- data at a value -/
local macro_rules | `(tactic| kp_flats) => `(tactic| first | assumption | exact Dp.str _ | exact Dp.int _ | exact Dp.non | exact Dp.bl _ | (refine dp_same (New.same (by assumption)) ?_; kp_flats) | (refine dp_same (by assumption) ?_; kp_flats))
/-- one step of a reading -/
local macro_rules | `(tactic| lcg_off) => `(tactic| first
  | with_reducible refine Stp.go ?_
  | ((with_reducible show tVar _ _ _ _); refine c_var (by rfl) ?_)
  | ((with_reducible show rIxL _ _ _ _ _); refine c_ixL (by lcg_src) (by rfl) ?_)
  | ((with_reducible show rIxT _ _ _ _ _); refine c_ixT (by lcg_src) (by rfl) ?_)
  | ((with_reducible show rSetL _ _ _ _ _); refine c_setL (by lcg_sub) (by rfl) ?_)
  | ((with_reducible show rLenQ _ _ _ _); first | (refine c_lenL (by lcg_src) ?_) | (refine c_lenT (by lcg_src) ?_))
  | ((with_reducible show rSlL _ _ _ _ _ _); refine c_slL (by lcg_src) ?_)
  | ((with_reducible show rListQ _ _ _ _); first | (refine c_listL (by lcg_src) ?_) | (refine c_listT (by lcg_src) ?_))
  | ((with_reducible show rI _ _ _ _ _ _); refine c_IC (by first | assumption | decide | omega) ?_)
  | ((with_reducible show rIsi _ _ _ _); refine c_isi (by kp_flats) (by first | assumption | decide +kernel) ?_)
  | ((with_reducible show rIx _ _ _ _ _); refine c_ix (by first | exact .inl ⟨by lcg_src, by first | assumption | rfl⟩ | exact .inr ⟨by lcg_src, by first | assumption | rfl⟩) ?_)
  | ((with_reducible show NewW _ _ _ _); refine newW ?_)
  | ((with_reducible show rCat _ _ _ _); refine c_cat (by lcg_sub) (by lcg_sub) (le_line (by first | decide | (simp only [List.length_append, List.length_cons, List.length_nil]; omega))) ?_)
  | ((with_reducible show aAddS _ _ _ _); refine c_adds (le_line (by first | decide +kernel | assumption)) ?_)
  | ((with_reducible show rIn _ false _ _ _ _); refine c_inL (by lcg_src) (by rfl) (by rfl) ?_)
  | ((with_reducible show rIn _ true _ _ _ _); refine c_niL (by lcg_src) (by rfl) (by rfl) ?_))
/-- one step, with the new object's names -/
local macro_rules | `(tactic| k_offL) => `(tactic| first | lcg_off | ((with_reducible show ∀ _ _, New _ _ _ _ → _); intro _ _ _))
/-- an error that is held -/
local macro_rules | `(tactic| one_item) => `(tactic| first | assumption | (refine ErrV.same ?_ (New.same (by assumption)); one_item) | (refine ErrV.same ?_ (by assumption); one_item))
/-- nothing was changed -/
local macro_rules | `(tactic| one_place) => `(tactic| first | assumption | exact fun _ _ h => h | exact New.same (by assumption) | (refine Same.trans ?_ (New.same (by assumption)); one_place) | (refine Same.trans ?_ (by assumption); one_place))
/-- what an expression makes, as data -/
local macro_rules | `(tactic| one_sign) => `(tactic| first | exact EvD.str | exact EvD.int | exact EvA.nil | exact EvD.neg | (apply EvA.cons; (focus one_sign); one_sign) | (apply EvD.tup; (focus one_sign); (first | decide | (simp only [List.length_append, List.length_cons, List.length_nil]; omega))) | (apply EvD.var; (focus rfl); kp_flats) | (apply EvL.var; (focus rfl); (focus lcg_sub); assumption) | (apply EvL.lst; (focus one_sign); (first | decide | (simp only [List.length_append, List.length_cons, List.length_nil]; omega))) | (apply EvL.cat; (focus one_sign); (focus one_sign); (first | decide | (simp only [List.length_append, List.length_cons, List.length_nil]; omega))) | (apply EvD.tupOf; one_sign) | (apply EvD.rep; (focus one_sign); (focus simp); (focus decide); (focus decide); decide) | (apply EvL.rep; (focus one_sign); (focus decide); decide) | (apply EvD.adds; (focus one_sign); (focus one_sign); decide +kernel) | exact EvD.non | exact EvD.bl | (apply EvD.ofL; one_sign))
/-- one step, but not into a new list, a new tuple -/
local macro_rules | `(tactic| k_asm) => `(tactic| (fail_if_success (with_reducible show tLst _ _ _ _)); (fail_if_success (with_reducible show tTup _ _ _ _)); (fail_if_success (with_reducible show tOp rCat _ _ _ _ _)); lcg_off)
namespace TD
open PySem PySem.Spec L2 PySem.Calls PySem.TDX
open PyProof.Rows hiding St
abbrev ns_Scanner_init : List Str := ["self", "text"]
abbrev ps_Scanner_init : List Str := ["self", "text"]
def t_Scanner_init (K : PySem.W.Frag) : TS :=
  (tSeq (sFld K (tVar 0) (tVar 1) "text")
    (sFld K (tVar 0) (tC (.int 0)) "spot"))
abbrev ns_Scanner_sees : List Str := ["self", "sign"]
abbrev ps_Scanner_sees : List Str := ["self", "sign"]
def t_Scanner_sees (K : PySem.W.Frag) : TS :=
  (tRet (tOp rEq (tSl rSlS (tFld K (tVar 0) "text") (tPart (tFld K (tVar 0) "spot")) (tPart (tOp aAdd (tFld K (tVar 0) "spot") (tC (.int 1))))) (tVar 1)))
abbrev ns_Scanner_need : List Str := ["self", "signs", "sign"]
abbrev ps_Scanner_need : List Str := ["self", "signs"]
def t_Scanner_need (K : PySem.W.Frag) (sp_Scanner_sees : Sp) (E : XK) : TS :=
  (tFor (iStr (tVar 1)) (gName 2) (tSeq (tIfS (tNot (tB (tMeth (He.ga K "Scanner") "sees" sp_Scanner_sees [] E0 (tVar 0) (tCons (tVar 2) tNil)))) (tRse (tGmk (He.ga K "BadText") (spE1 K (He.ga K "BadText") "BadText" "at") (tCons (tFld K (tVar 0) "spot") tNil)) E) tNext)
    (sFldAug K (tVar 0) (tC (.int 1)) rAdd "spot")))
abbrev ns_Scanner_run_of : List Str := ["self", "signs", "most", "begin"]
abbrev ps_Scanner_run_of : List Str := ["self", "signs", "most"]
def t_Scanner_run_of (K : PySem.W.Frag) (E : XK) : TS :=
  (tSeq (tAsg (tFld K (tVar 0) "spot") (gName 3))
    (tSeq (tWhile (tAnd (tTest (tOp aLt (tFld K (tVar 0) "spot") (tCB rLenS (tCons (tFld K (tVar 0) "text") tNil)))) (tAnd (tTest (tOp aLt (tFld K (tVar 0) "spot") (tOp aAdd (tVar 3) (tVar 2)))) (tTest (tOp rInS (tOp rIxS (tFld K (tVar 0) "text") (tFld K (tVar 0) "spot")) (tVar 1))))) (sFldAug K (tVar 0) (tC (.int 1)) rAdd "spot"))
    (tSeq (tIfS (tTest (tOp rEq (tFld K (tVar 0) "spot") (tVar 3))) (tRse (tGmk (He.ga K "BadText") (spE1 K (He.ga K "BadText") "BadText" "at") (tCons (tVar 3) tNil)) E) tNext)
    (tRet (tSl rSlS (tFld K (tVar 0) "text") (tPart (tVar 3)) (tPart (tFld K (tVar 0) "spot")))))))
abbrev ns_Scanner_read_owner : List Str := ["self"]
abbrev ps_Scanner_read_owner : List Str := ["self"]
def t_Scanner_read_owner (K : PySem.W.Frag) (sp_Scanner_run_of : Sp) (sp_Scanner_sees : Sp) (E : XK) : TS :=
  (tSeq (tIfS (tB (tMeth (He.ga K "Scanner") "sees" sp_Scanner_sees [] E0 (tVar 0) (tCons (tC (.str "-")) tNil))) (tSeq (sFldAug K (tVar 0) (tC (.int 1)) rAdd "spot")
    (tRet (tC (.str "-")))) tNext)
    (tRet (tMeth (He.ga K "Scanner") "run_of" sp_Scanner_run_of [] E (tVar 0) (tCons (tC (.str "abcdefghijklmnopqrstuvwxyz")) (tCons (tC (.int 6)) tNil)))))
abbrev ns_Scanner_tree : List Str := ["self", "found"]
abbrev ps_Scanner_tree : List Str := ["self"]
def t_Scanner_tree (K : PySem.W.Frag) (sp_Scanner_need : Sp) (sp_Scanner_read_owner : Sp) (sp_Scanner_sees : Sp) (sp_Scanner_tree : Sp) (E : XK) : TS :=
  (tSeq (tIfS (tNot (tB (tMeth (He.ga K "Scanner") "sees" sp_Scanner_sees [] E0 (tVar 0) (tCons (tC (.str "(")) tNil)))) (tRet (tMeth (He.ga K "Scanner") "read_owner" sp_Scanner_read_owner [] E (tVar 0) tNil)) tNext)
    (tSeq (sFldAug K (tVar 0) (tC (.int 1)) rAdd "spot")
    (tSeq (tAsg (tLst (tCons (tMeth (He.ga K "Scanner") "tree" sp_Scanner_tree [] E (tVar 0) tNil) tNil)) (gName 1))
    (tSeq (tWhile (tOr (tTest (tOp aLt (tCB (rLenQ K) (tCons (tVar 1) tNil)) (tC (.int 2)))) (tB (tMeth (He.ga K "Scanner") "sees" sp_Scanner_sees [] E0 (tVar 0) (tCons (tC (.str " ")) tNil)))) (tSeq (tDrop (tMeth (He.ga K "Scanner") "need" sp_Scanner_need [] E (tVar 0) (tCons (tC (.str " ")) tNil)))
    (tDrop (tBM K "list" rAppend (tVar 1) (tCons (tMeth (He.ga K "Scanner") "tree" sp_Scanner_tree [] E (tVar 0) tNil) tNil)))))
    (tSeq (tDrop (tMeth (He.ga K "Scanner") "need" sp_Scanner_need [] E (tVar 0) (tCons (tC (.str ")")) tNil)))
    (tRet (tCB (rTupQ K) (tCons (tVar 1) tNil))))))))
abbrev ns_Scanner_end : List Str := ["self"]
abbrev ps_Scanner_end : List Str := ["self"]
def t_Scanner_end (K : PySem.W.Frag) (E : XK) : TS :=
  (tIfS (tTest (tOp aLt (tFld K (tVar 0) "spot") (tCB rLenS (tCons (tFld K (tVar 0) "text") tNil)))) (tRse (tGmk (He.ga K "BadText") (spE1 K (He.ga K "BadText") "BadText" "at") (tCons (tFld K (tVar 0) "spot") tNil)) E) tNext)
abbrev ns_parse_tree : List Str := ["text", "scanner", "tree"]
abbrev ps_parse_tree : List Str := ["text"]
def t_parse_tree (K : PySem.W.Frag) (sp_Scanner : Sp) (sp_Scanner_end : Sp) (sp_Scanner_tree : Sp) (sp_within : Sp) (E : XK) : TS :=
  (tSeq (tAsg (tMake (He.ga K "Scanner") sp_Scanner [] E0 (tCons (tVar 0) tNil)) (gName 1))
    (tSeq (tAsg (tMeth (He.ga K "Scanner") "tree" sp_Scanner_tree [] E (tVar 1) tNil) (gName 2))
    (tSeq (tDrop (tMeth (He.ga K "Scanner") "end" sp_Scanner_end [] E (tVar 1) tNil))
    (tRet (tCall sp_within [] E (tCons (tVar 2) tNil))))))
end TD

end
section
open TD L2
/-- what stands at an address -/
local macro_rules | `(tactic| lcg_sub) => `(tactic| first | assumption | exact upd_same | exact New.at_ (by assumption) | (refine New.same (by assumption) _ _ ?_; lcg_sub) | (refine (show Same _ _ from by assumption) _ _ ?_; lcg_sub) | (refine Eq.trans (upd_ne (by first | assumption | exact Ne.symm (by assumption))) ?_; lcg_sub))
/-- a list, a tuple to be read -/
local macro_rules | `(tactic| lcg_src) => `(tactic| first | assumption | exact SqL.of (by lcg_sub) | exact SqT.of (by lcg_sub) | (refine Same.seq (New.same (by assumption)) ?_; lcg_src) | (refine Same.seq (by assumption) ?_; lcg_src) | (refine sameT (New.same (by assumption)) ?_; lcg_src) | (refine sameT (by assumption) ?_; lcg_src))
/-- data at a value -/
local macro_rules | `(tactic| kp_flats) => `(tactic| first | assumption | exact Dp.str _ | exact Dp.int _ | exact Dp.non | exact Dp.bl _ | (refine dp_same (New.same (by assumption)) ?_; kp_flats) | (refine dp_same (by assumption) ?_; kp_flats))
/-- one step of a reading -/
local macro_rules | `(tactic| lcg_off) => `(tactic| first
  | with_reducible refine Stp.go ?_
  | ((with_reducible show tVar _ _ _ _); refine c_var (by rfl) ?_)
  | ((with_reducible show rIxL _ _ _ _ _); refine c_ixL (by lcg_src) (by rfl) ?_)
  | ((with_reducible show rIxT _ _ _ _ _); refine c_ixT (by lcg_src) (by rfl) ?_)
  | ((with_reducible show rSetL _ _ _ _ _); refine c_setL (by lcg_sub) (by rfl) ?_)
  | ((with_reducible show rLenQ _ _ _ _); first | (refine c_lenL (by lcg_src) ?_) | (refine c_lenT (by lcg_src) ?_))
  | ((with_reducible show rSlL _ _ _ _ _ _); refine c_slL (by lcg_src) ?_)
  | ((with_reducible show rListQ _ _ _ _); first | (refine c_listL (by lcg_src) ?_) | (refine c_listT (by lcg_src) ?_))
  | ((with_reducible show rI _ _ _ _ _ _); refine c_IC (by first | assumption | decide | omega) ?_)
  | ((with_reducible show rIsi _ _ _ _); refine c_isi (by kp_flats) (by first | assumption | decide +kernel) ?_)
  | ((with_reducible show rIx _ _ _ _ _); refine c_ix (by first | exact .inl ⟨by lcg_src, by first | assumption | rfl⟩ | exact .inr ⟨by lcg_src, by first | assumption | rfl⟩) ?_)
  | ((with_reducible show NewW _ _ _ _); refine newW ?_)
  | ((with_reducible show rCat _ _ _ _); refine c_cat (by lcg_sub) (by lcg_sub) (le_line (by first | decide | (simp only [List.length_append, List.length_cons, List.length_nil]; omega))) ?_)
  | ((with_reducible show aAddS _ _ _ _); refine c_adds (le_line (by first | decide +kernel | assumption)) ?_)
  | ((with_reducible show rIn _ false _ _ _ _); refine c_inL (by lcg_src) (by rfl) (by rfl) ?_)
  | ((with_reducible show rIn _ true _ _ _ _); refine c_niL (by lcg_src) (by rfl) (by rfl) ?_))
/-- one step, with the new object's names -/
local macro_rules | `(tactic| k_offL) => `(tactic| first | lcg_off | ((with_reducible show ∀ _ _, New _ _ _ _ → _); intro _ _ _))
/-- an error that is held -/
local macro_rules | `(tactic| one_item) => `(tactic| first | assumption | (refine ErrV.same ?_ (New.same (by assumption)); one_item) | (refine ErrV.same ?_ (by assumption); one_item))
/-- nothing was changed -/
local macro_rules | `(tactic| one_place) => `(tactic| first | assumption | exact fun _ _ h => h | exact New.same (by assumption) | (refine Same.trans ?_ (New.same (by assumption)); one_place) | (refine Same.trans ?_ (by assumption); one_place))
/-- what an expression makes, as data -/
local macro_rules | `(tactic| one_sign) => `(tactic| first | exact EvD.str | exact EvD.int | exact EvA.nil | exact EvD.neg | (apply EvA.cons; (focus one_sign); one_sign) | (apply EvD.tup; (focus one_sign); (first | decide | (simp only [List.length_append, List.length_cons, List.length_nil]; omega))) | (apply EvD.var; (focus rfl); kp_flats) | (apply EvL.var; (focus rfl); (focus lcg_sub); assumption) | (apply EvL.lst; (focus one_sign); (first | decide | (simp only [List.length_append, List.length_cons, List.length_nil]; omega))) | (apply EvL.cat; (focus one_sign); (focus one_sign); (first | decide | (simp only [List.length_append, List.length_cons, List.length_nil]; omega))) | (apply EvD.tupOf; one_sign) | (apply EvD.rep; (focus one_sign); (focus simp); (focus decide); (focus decide); decide) | (apply EvL.rep; (focus one_sign); (focus decide); decide) | (apply EvD.adds; (focus one_sign); (focus one_sign); decide +kernel) | exact EvD.non | exact EvD.bl | (apply EvD.ofL; one_sign))
/-- one step, but not into a new list, a new tuple -/
local macro_rules | `(tactic| k_asm) => `(tactic| (fail_if_success (with_reducible show tLst _ _ _ _)); (fail_if_success (with_reducible show tTup _ _ _ _)); (fail_if_success (with_reducible show tOp rCat _ _ _ _ _)); lcg_off)
namespace TD
open PySem PySem.Spec L2 PySem.Calls PySem.TDX
open PyProof.Rows hiding St
/-! ### count_ends, levels, within, format_tree -/
def spEnds (K : PySem.W.Frag) (n : Nat) : Sp := fun vs H Q _ => ∃ (v : V) (t : Tr), vs = [v] ∧ Dp K H v t.data ∧ t.lev ≤ n ∧ t.okB 100000 = true ∧ ∀ H', Same H H' → Q (.int t.ends) H'
def spLev (K : PySem.W.Frag) (n : Nat) : Sp := fun vs H Q _ => ∃ (v : V) (t : Tr), vs = [v] ∧ Dp K H v t.data ∧ t.lev ≤ n ∧ t.okB 100000 = true ∧ ∀ H', Same H H' → Q (.int t.lev) H'
/-- with n turns left -/
def spP (sp : Nat → Sp) : Nat → Sp
  | 0 => fun _ _ _ _ => False
  | n + 1 => sp n
theorem lev_node {ts : List Tr} {n : Nat} {t : Tr} (h : (Tr.node ts).lev ≤ n + 1) (m : t ∈ ts) : t.lev ≤ n := by
  rw [Tr.lev] at h
  have := Tr.lev_le m
  omega
theorem sum_cast {α : Type} (f : α → Nat) : ∀ ts : List α, ((ts.map f).sum : Nat) = (ts.map fun t => (f t : Int)).sum
  | [] => rfl
  | t :: r => by simp only [List.map_cons, List.sum_cons, Int.natCast_add, sum_cast f r]
section
variable {K : PySem.W.Frag} {n : Nat} {vs : List V} {H : Hp} {Q : VK} {E : XK}
theorem pure_count_ends (h : spEnds K n vs H Q E) : t_count_ends K (spP (spEnds K) n) { nx := fun _ H' => Q .non H', rt := Q } (start ns_count_ends vs) H := by
  obtain ⟨v, t, rfl, hd, hn, ho, q⟩ := h
  unfold t_count_ends
  cases t with
  | leaf l =>
    have k := ty_leaf (n := l)
    repeat lcg_off
    refine ite_t ?_
    repeat lcg_off
    exact q _ (fun _ _ h => h)
  | node ts =>
    have k := ty_node (ts := ts)
    obtain ⟨p, xs, rfl, hs, ha⟩ := dp_node hd
    obtain ⟨h2, h3, h4⟩ := Tr.okB_node ho
    have hl := dpAll_len ha
    rw [Tr.dataAll_len] at hl
    cases n with
    | zero => rw [Tr.lev] at hn; omega
    | succ n =>
    repeat lcg_off
    refine ite_f ?_
    repeat lcg_off
    refine ⟨_, rfl, ⟨_, hs⟩, ?_⟩
    refine lcTy hs (ts.map fun t => .int t.ends) (by rw [List.length_map]; omega) (le_line (by omega)) (fun x => rfl) (fun i x y H2 Q2 hx hy s2 q2 => ?_) (fun D H2 N2 => ?_)
    · obtain ⟨t, ht, dt⟩ := dp_tr_at ha hx
      rw [List.getElem?_map, ht] at hy
      cases hy
      have hm := List.mem_of_getElem? ht
      repeat lcg_off
      exact ⟨_, t, rfl, dp_same s2 dt, lev_node hn hm, h4 t hm, q2⟩
    · repeat lcg_off
      refine ⟨D, ts.map fun t => (t.ends : Int), rfl, ?_, ?_⟩
      · rw [List.map_map]; exact SqL.of N2.at_
      · have : (ts.map fun t => (t.ends : Int)).sum = ((Tr.node ts).ends : Nat) := by
          rw [Tr.ends, Tr.endsAll_sum, sum_cast]
        rw [this]; exact q _ N2.same
theorem pure_levels (h : spLev K n vs H Q E) : t_levels K (spP (spLev K) n) { nx := fun _ H' => Q .non H', rt := Q } (start ns_levels vs) H := by
  obtain ⟨v, t, rfl, hd, hn, ho, q⟩ := h
  unfold t_levels
  cases t with
  | leaf l =>
    have k := ty_leaf (n := l)
    repeat lcg_off
    refine ite_t ?_
    repeat lcg_off
    exact q _ (fun _ _ h => h)
  | node ts =>
    have k := ty_node (ts := ts)
    obtain ⟨p, xs, rfl, hs, ha⟩ := dp_node hd
    obtain ⟨h2, h3, h4⟩ := Tr.okB_node ho
    have hl := dpAll_len ha
    rw [Tr.dataAll_len] at hl
    cases n with
    | zero => rw [Tr.lev] at hn; omega
    | succ n =>
    repeat lcg_off
    refine ite_f ?_
    repeat lcg_off
    refine ⟨_, rfl, ⟨_, hs⟩, ?_⟩
    refine lcTy hs (ts.map fun t => .int t.lev) (by rw [List.length_map]; omega) (le_line (by omega)) (fun x => rfl) (fun i x y H2 Q2 hx hy s2 q2 => ?_) (fun D H2 N2 => ?_)
    · obtain ⟨t, ht, dt⟩ := dp_tr_at ha hx
      rw [List.getElem?_map, ht] at hy
      cases hy
      have hm := List.mem_of_getElem? ht
      repeat lcg_off
      exact ⟨_, t, rfl, dp_same s2 dt, lev_node hn hm, h4 t hm, q2⟩
    · repeat lcg_off
      refine ⟨D, ts.map fun t => (t.lev : Int), rfl, by rw [List.map_map]; exact SqL.of N2.at_, by rw [List.length_map]; omega, fun m hm ge => ?_⟩
      obtain ⟨u, hu, eu⟩ := Tr.levAll_mem (ts := ts) (by intro e; subst e; simp at h2)
      have g1 := ge _ (List.mem_map.mpr ⟨u, hu, rfl⟩)
      obtain ⟨t, ht, rfl⟩ := List.mem_map.mp hm
      have g2 := Tr.lev_le ht
      repeat lcg_off
      have : (1 : Int) + t.lev = ((Tr.node ts).lev : Nat) := by rw [Tr.lev]; omega
      rw [this]; exact q _ N2.same
/-- format_tree -/
def spFmt (K : PySem.W.Frag) (n : Nat) : Sp := fun vs H Q _ => ∃ (v : V) (t : Tr), vs = [v] ∧ Dp K H v t.data ∧ t.lev ≤ n ∧ t.okB 100000 = true ∧ t.ends ≤ 5000 ∧ ∀ H', Same H H' → Q (.str (S t.text)) H'
theorem ends_mem : ∀ {ts : List Tr} {t : Tr}, t ∈ ts → t.ends ≤ Tr.endsAll ts
  | s :: r, t, h => by
    rw [Tr.endsAll]
    rcases List.mem_cons.mp h with e | e
    · subst e; omega
    · have := ends_mem e; omega
theorem c_fmt {y : Str} {σ : L2.St} {te : TE} (h : te σ H fun x H1 => x = .str y ∧ y.length ≤ sizeLine ∧ Q (.str y) H1) (mono : ∀ P P' : VK, (∀ x H, P x H → P' x H) → te σ H P → te σ H P') : tFmt te σ H Q :=
  mono _ _ (fun x H1 h => .inl ⟨y, h⟩) h
def FmtP (x : V) (H : Hp) (Q : VK) : Prop := (∃ y : Str, x = .str y ∧ y.length ≤ sizeLine ∧ Q (.str y) H) ∨ ∃ i : Int, x = .int i ∧ i.natAbs.log2 < 1920 ∧ Q (.str (toString i)) H
instance {σ : L2.St} {te : TE} : Stp (tFmt te σ H Q) (te σ H fun x H1 => FmtP x H1 Q) := ⟨id⟩
theorem c_fms {y : Str} (h : y.length ≤ sizeLine) (q : Q (.str y) H) : FmtP (.str y) H Q := .inl ⟨y, rfl, h, q⟩
instance {σ : L2.St} {ts : List TE} : Stp (tJoined ts σ H Q) (tJs ts Str.empty σ H fun out H1 => Q (.str out) H1) := ⟨id⟩
instance {σ : L2.St} {t : TE} {ts : List TE} {acc : Str} {QS : Str → Hp → Prop} : Stp (tJs (t :: ts) acc σ H QS) (t σ H fun x H1 => ∃ y : Str, x = .str y ∧ (acc ++ y).length ≤ sizeLine ∧ tJs ts (acc ++ y) σ H1 QS) := ⟨id⟩
instance {σ : L2.St} {acc : Str} {QS : Str → Hp → Prop} : Stp (tJs [] acc σ H QS) (QS acc H) := ⟨id⟩
theorem sum_le_join {ts : List Tr} : ((Tr.textAll ts).map fun y => y.length + 1).sum = ((Tr.textAll ts).map fun y => y.length).sum + ts.length := by
  induction ts with
  | nil => rfl
  | cons a r ih => simp only [Tr.textAll, List.map_cons, List.sum_cons, List.length_cons, ih]; omega
theorem pure_format_tree (h : spFmt K n vs H Q E) : t_format_tree K (spP (spFmt K) n) { nx := fun _ H' => Q .non H', rt := Q } (start ns_format_tree vs) H := by
  obtain ⟨v, t, rfl, hd, hn, ho, he, q⟩ := h
  unfold t_format_tree
  cases t with
  | leaf l =>
    have k := ty_leaf (n := l)
    obtain rfl := dp_leaf hd
    repeat lcg_off
    refine ite_t ?_
    repeat lcg_off
    exact q _ (fun _ _ h => h)
  | node ts =>
    have k := ty_node (ts := ts)
    obtain ⟨p, xs, rfl, hs, ha⟩ := dp_node hd
    obtain ⟨h2, h3, h4⟩ := Tr.okB_node ho
    have hl := dpAll_len ha
    rw [Tr.dataAll_len] at hl
    have tl := Tr.text_len _ ho
    have tj : (Tr.node ts).text.length = (TL.joinL [32] (Tr.textAll ts)).length + 2 := by rw [Tr.text]; simp
    have jl := Tr.joinL_len (Tr.textAll ts) (by cases ts with | nil => simp at h2 | cons a r => simp [Tr.textAll])
    rw [sum_le_join] at jl
    cases n with
    | zero => rw [Tr.lev] at hn; omega
    | succ n =>
    repeat lcg_off
    refine ite_f ?_
    repeat lcg_off
    refine ⟨_, rfl, le_line (by decide +kernel), ?_⟩
    repeat lcg_off
    refine ⟨_, rfl, ⟨_, hs⟩, ?_⟩
    refine lcTy hs (ts.map fun t => .str (S t.text)) (by rw [List.length_map]; omega) (le_line (by omega)) (fun x => rfl) (fun i x y H2 Q2 hx hy s2 q2 => ?_) (fun D H2 N2 => ?_)
    · obtain ⟨t, ht, dt⟩ := dp_tr_at ha hx
      rw [List.getElem?_map, ht] at hy
      cases hy
      have hm := List.mem_of_getElem? ht
      have e1 := ends_mem hm
      rw [Tr.ends] at he
      repeat lcg_off
      exact ⟨_, t, rfl, dp_same s2 dt, lev_node hn hm, h4 t hm, by omega, q2⟩
    · have eD : (ts.map fun t => V.str (S t.text)) = ((Tr.textAll ts).map S).map V.str := by rw [Tr.textAll_map, List.map_map, List.map_map]; rfl
      rw [eD] at N2
      refine c_join ((Tr.textAll ts).map S) (.inl (SqL.of N2.at_)) ?_ ?_
      · have e1 : (((Tr.textAll ts).map S).map (·.length)).sum = ((Tr.textAll ts).map fun y => y.length).sum := by rw [List.map_map]; exact congrArg List.sum (List.map_congr_left fun y _ => S_len y)
        have e2 : ((Tr.textAll ts).map S).length = ts.length := by rw [List.length_map, Tr.textAll_map, List.length_map]
        rw [e1, e2, show (" " : Str).length = 1 from rfl]
        omega
      · rw [show (" " : Str) = S [32] from rfl, join_S]
        have e3 : (Str.empty ++ ("(" : Str)) = S [40] := by decide +kernel
        refine c_fms (by rw [S_len]; exact le_line (by omega)) ⟨_, rfl, ?_, ?_⟩
        · rw [e3, S_cat, S_len]; exact le_line (by simp; omega)
        · repeat lcg_off
          have e4 : Str.empty ++ ("(" : Str) ++ S (TL.joinL [32] (Tr.textAll ts)) ++ (")" : Str) = S (Tr.node ts).text := by rw [e3, S_cat, show (")" : Str) = S [41] from rfl, S_cat, Tr.text]; rfl
          refine ⟨_, rfl, ?_, ?_⟩
          · rw [e4, S_len]; exact le_line (by omega)
          · rw [e4]; exact q _ N2.same
end
end TD

end
section
open TD L2
/-- what stands at an address -/
local macro_rules | `(tactic| lcg_sub) => `(tactic| first | assumption | exact upd_same | exact New.at_ (by assumption) | (refine New.same (by assumption) _ _ ?_; lcg_sub) | (refine (show Same _ _ from by assumption) _ _ ?_; lcg_sub) | (refine Eq.trans (upd_ne (by first | assumption | exact Ne.symm (by assumption))) ?_; lcg_sub))
/-- a list, a tuple to be read -/
local macro_rules | `(tactic| lcg_src) => `(tactic| first | assumption | exact SqL.of (by lcg_sub) | exact SqT.of (by lcg_sub) | (refine Same.seq (New.same (by assumption)) ?_; lcg_src) | (refine Same.seq (by assumption) ?_; lcg_src) | (refine sameT (New.same (by assumption)) ?_; lcg_src) | (refine sameT (by assumption) ?_; lcg_src))
/-- data at a value -/
local macro_rules | `(tactic| kp_flats) => `(tactic| first | assumption | exact Dp.str _ | exact Dp.int _ | exact Dp.non | exact Dp.bl _ | (refine dp_same (New.same (by assumption)) ?_; kp_flats) | (refine dp_same (by assumption) ?_; kp_flats))
/-- one step of a reading -/
local macro_rules | `(tactic| lcg_off) => `(tactic| first
  | with_reducible refine Stp.go ?_
  | ((with_reducible show tVar _ _ _ _); refine c_var (by rfl) ?_)
  | ((with_reducible show rIxL _ _ _ _ _); refine c_ixL (by lcg_src) (by rfl) ?_)
  | ((with_reducible show rIxT _ _ _ _ _); refine c_ixT (by lcg_src) (by rfl) ?_)
  | ((with_reducible show rSetL _ _ _ _ _); refine c_setL (by lcg_sub) (by rfl) ?_)
  | ((with_reducible show rLenQ _ _ _ _); first | (refine c_lenL (by lcg_src) ?_) | (refine c_lenT (by lcg_src) ?_))
  | ((with_reducible show rSlL _ _ _ _ _ _); refine c_slL (by lcg_src) ?_)
  | ((with_reducible show rListQ _ _ _ _); first | (refine c_listL (by lcg_src) ?_) | (refine c_listT (by lcg_src) ?_))
  | ((with_reducible show rI _ _ _ _ _ _); refine c_IC (by first | assumption | decide | omega) ?_)
  | ((with_reducible show rIsi _ _ _ _); refine c_isi (by kp_flats) (by first | assumption | decide +kernel) ?_)
  | ((with_reducible show rIx _ _ _ _ _); refine c_ix (by first | exact .inl ⟨by lcg_src, by first | assumption | rfl⟩ | exact .inr ⟨by lcg_src, by first | assumption | rfl⟩) ?_)
  | ((with_reducible show NewW _ _ _ _); refine newW ?_)
  | ((with_reducible show rCat _ _ _ _); refine c_cat (by lcg_sub) (by lcg_sub) (le_line (by first | decide | (simp only [List.length_append, List.length_cons, List.length_nil]; omega))) ?_)
  | ((with_reducible show aAddS _ _ _ _); refine c_adds (le_line (by first | decide +kernel | assumption)) ?_)
  | ((with_reducible show rIn _ false _ _ _ _); refine c_inL (by lcg_src) (by rfl) (by rfl) ?_)
  | ((with_reducible show rIn _ true _ _ _ _); refine c_niL (by lcg_src) (by rfl) (by rfl) ?_))
/-- one step, with the new object's names -/
local macro_rules | `(tactic| k_offL) => `(tactic| first | lcg_off | ((with_reducible show ∀ _ _, New _ _ _ _ → _); intro _ _ _))
/-- an error that is held -/
local macro_rules | `(tactic| one_item) => `(tactic| first | assumption | (refine ErrV.same ?_ (New.same (by assumption)); one_item) | (refine ErrV.same ?_ (by assumption); one_item))
/-- nothing was changed -/
local macro_rules | `(tactic| one_place) => `(tactic| first | assumption | exact fun _ _ h => h | exact New.same (by assumption) | (refine Same.trans ?_ (New.same (by assumption)); one_place) | (refine Same.trans ?_ (by assumption); one_place))
/-- what an expression makes, as data -/
local macro_rules | `(tactic| one_sign) => `(tactic| first | exact EvD.str | exact EvD.int | exact EvA.nil | exact EvD.neg | (apply EvA.cons; (focus one_sign); one_sign) | (apply EvD.tup; (focus one_sign); (first | decide | (simp only [List.length_append, List.length_cons, List.length_nil]; omega))) | (apply EvD.var; (focus rfl); kp_flats) | (apply EvL.var; (focus rfl); (focus lcg_sub); assumption) | (apply EvL.lst; (focus one_sign); (first | decide | (simp only [List.length_append, List.length_cons, List.length_nil]; omega))) | (apply EvL.cat; (focus one_sign); (focus one_sign); (first | decide | (simp only [List.length_append, List.length_cons, List.length_nil]; omega))) | (apply EvD.tupOf; one_sign) | (apply EvD.rep; (focus one_sign); (focus simp); (focus decide); (focus decide); decide) | (apply EvL.rep; (focus one_sign); (focus decide); decide) | (apply EvD.adds; (focus one_sign); (focus one_sign); decide +kernel) | exact EvD.non | exact EvD.bl | (apply EvD.ofL; one_sign))
/-- one step, but not into a new list, a new tuple -/
local macro_rules | `(tactic| k_asm) => `(tactic| (fail_if_success (with_reducible show tLst _ _ _ _)); (fail_if_success (with_reducible show tTup _ _ _ _)); (fail_if_success (with_reducible show tOp rCat _ _ _ _ _)); lcg_off)
namespace TD
open PySem PySem.Spec L2 PySem.Calls PySem.TDX
open PyProof.Rows hiding St
/-- an error that is raised: its class x, its one field f with the value y; the heap is H but for new objects -/
def Raised (K : PySem.W.Frag) (x f : Str) (y : V) (H : Hp) (E : XK) : Prop := ∀ d H', New H H' d (.xd [(f, y), ("word", .str x)]) → E (.ref (He.ga K x)) (some d) H'
def Raised0 (K : PySem.W.Frag) (x : Str) (H : Hp) (E : XK) : Prop := ∀ d H', New H H' d (.xd [("word", .str x)]) → E (.ref (He.ga K x)) (some d) H'
theorem Raised.after {K : PySem.W.Frag} {x f : Str} {y : V} {H H1 : Hp} {E : XK} (h : Raised K x f y H E) (s : Same H H1) : Raised K x f y H1 E := fun d H' n => h d H' (n.after s)
theorem Raised0.after {K : PySem.W.Frag} {x : Str} {H H1 : Hp} {E : XK} (h : Raised0 K x H E) (s : Same H H1) : Raised0 K x H1 E := fun d H' n => h d H' (n.after s)
/-- within -/
def spWithin (K : PySem.W.Frag) (n : Nat) : Sp := fun vs H Q E => ∃ (v : V) (t : Tr), vs = [v] ∧ Dp K H v t.data ∧ t.lev ≤ n ∧ t.okB 100000 = true ∧
  if 400 < t.ends then Raised K "TooLarge" "most" (.int 400) H E else if 40 < t.lev then Raised K "TooLarge" "most" (.int 40) H E else ∀ H', Same H H' → Q v H'
theorem pure_within {K : PySem.W.Frag} {n : Nat} {vs : List V} {H : Hp} {Q : VK} {E : XK} (T : ErrC K (He.ga K "TooLarge") ["word", "most"]) (h : spWithin K n vs H Q E) : t_within K (spEnds K n) (spLev K n) E { nx := fun _ H' => Q .non H', rt := Q } (start ns_within vs) H := by
  obtain ⟨v, t, rfl, hd, hn, ho, q⟩ := h
  unfold t_within
  repeat lcg_off
  refine ⟨v, t, rfl, hd, hn, ho, fun H1 s1 => ?_⟩
  repeat lcg_off
  refine ite_d (fun c => ?_) (fun c => ?_)
  · rw [if_pos (by omega)] at q
    repeat lcg_off
    exact c_xm1 T (q.after s1)
  rw [if_neg (by omega)] at q
  repeat lcg_off
  refine ⟨v, t, rfl, dp_same s1 hd, hn, ho, fun H2 s2 => ?_⟩
  repeat lcg_off
  refine ite_d (fun c => ?_) (fun c => ?_)
  · rw [if_pos (by omega)] at q
    repeat lcg_off
    exact c_xm1 T (q.after (s1.trans s2))
  rw [if_neg (by omega)] at q
  repeat lcg_off
  exact q _ (s1.trans s2)
end TD

end
section
open TD L2
/-- what stands at an address -/
local macro_rules | `(tactic| lcg_sub) => `(tactic| first | assumption | exact upd_same | exact New.at_ (by assumption) | (refine New.same (by assumption) _ _ ?_; lcg_sub) | (refine (show Same _ _ from by assumption) _ _ ?_; lcg_sub) | (refine Eq.trans (upd_ne (by first | assumption | exact Ne.symm (by assumption))) ?_; lcg_sub))
/-- a list, a tuple to be read -/
local macro_rules | `(tactic| lcg_src) => `(tactic| first | assumption | exact SqL.of (by lcg_sub) | exact SqT.of (by lcg_sub) | (refine Same.seq (New.same (by assumption)) ?_; lcg_src) | (refine Same.seq (by assumption) ?_; lcg_src) | (refine sameT (New.same (by assumption)) ?_; lcg_src) | (refine sameT (by assumption) ?_; lcg_src))
/-- data at a value -/
local macro_rules | `(tactic| kp_flats) => `(tactic| first | assumption | exact Dp.str _ | exact Dp.int _ | exact Dp.non | exact Dp.bl _ | (refine dp_same (New.same (by assumption)) ?_; kp_flats) | (refine dp_same (by assumption) ?_; kp_flats))
/-- one step of a reading -/
local macro_rules | `(tactic| lcg_off) => `(tactic| first
  | with_reducible refine Stp.go ?_
  | ((with_reducible show tVar _ _ _ _); refine c_var (by rfl) ?_)
  | ((with_reducible show rIxL _ _ _ _ _); refine c_ixL (by lcg_src) (by rfl) ?_)
  | ((with_reducible show rIxT _ _ _ _ _); refine c_ixT (by lcg_src) (by rfl) ?_)
  | ((with_reducible show rSetL _ _ _ _ _); refine c_setL (by lcg_sub) (by rfl) ?_)
  | ((with_reducible show rLenQ _ _ _ _); first | (refine c_lenL (by lcg_src) ?_) | (refine c_lenT (by lcg_src) ?_))
  | ((with_reducible show rSlL _ _ _ _ _ _); refine c_slL (by lcg_src) ?_)
  | ((with_reducible show rListQ _ _ _ _); first | (refine c_listL (by lcg_src) ?_) | (refine c_listT (by lcg_src) ?_))
  | ((with_reducible show rI _ _ _ _ _ _); refine c_IC (by first | assumption | decide | omega) ?_)
  | ((with_reducible show rIsi _ _ _ _); refine c_isi (by kp_flats) (by first | assumption | decide +kernel) ?_)
  | ((with_reducible show rIx _ _ _ _ _); refine c_ix (by first | exact .inl ⟨by lcg_src, by first | assumption | rfl⟩ | exact .inr ⟨by lcg_src, by first | assumption | rfl⟩) ?_)
  | ((with_reducible show NewW _ _ _ _); refine newW ?_)
  | ((with_reducible show rCat _ _ _ _); refine c_cat (by lcg_sub) (by lcg_sub) (le_line (by first | decide | (simp only [List.length_append, List.length_cons, List.length_nil]; omega))) ?_)
  | ((with_reducible show aAddS _ _ _ _); refine c_adds (le_line (by first | decide +kernel | assumption)) ?_)
  | ((with_reducible show rIn _ false _ _ _ _); refine c_inL (by lcg_src) (by rfl) (by rfl) ?_)
  | ((with_reducible show rIn _ true _ _ _ _); refine c_niL (by lcg_src) (by rfl) (by rfl) ?_))
/-- one step, with the new object's names -/
local macro_rules | `(tactic| k_offL) => `(tactic| first | lcg_off | ((with_reducible show ∀ _ _, New _ _ _ _ → _); intro _ _ _))
/-- an error that is held -/
local macro_rules | `(tactic| one_item) => `(tactic| first | assumption | (refine ErrV.same ?_ (New.same (by assumption)); one_item) | (refine ErrV.same ?_ (by assumption); one_item))
/-- nothing was changed -/
local macro_rules | `(tactic| one_place) => `(tactic| first | assumption | exact fun _ _ h => h | exact New.same (by assumption) | (refine Same.trans ?_ (New.same (by assumption)); one_place) | (refine Same.trans ?_ (by assumption); one_place))
/-- what an expression makes, as data -/
local macro_rules | `(tactic| one_sign) => `(tactic| first | exact EvD.str | exact EvD.int | exact EvA.nil | exact EvD.neg | (apply EvA.cons; (focus one_sign); one_sign) | (apply EvD.tup; (focus one_sign); (first | decide | (simp only [List.length_append, List.length_cons, List.length_nil]; omega))) | (apply EvD.var; (focus rfl); kp_flats) | (apply EvL.var; (focus rfl); (focus lcg_sub); assumption) | (apply EvL.lst; (focus one_sign); (first | decide | (simp only [List.length_append, List.length_cons, List.length_nil]; omega))) | (apply EvL.cat; (focus one_sign); (focus one_sign); (first | decide | (simp only [List.length_append, List.length_cons, List.length_nil]; omega))) | (apply EvD.tupOf; one_sign) | (apply EvD.rep; (focus one_sign); (focus simp); (focus decide); (focus decide); decide) | (apply EvL.rep; (focus one_sign); (focus decide); decide) | (apply EvD.adds; (focus one_sign); (focus one_sign); decide +kernel) | exact EvD.non | exact EvD.bl | (apply EvD.ofL; one_sign))
/-- one step, but not into a new list, a new tuple -/
local macro_rules | `(tactic| k_asm) => `(tactic| (fail_if_success (with_reducible show tLst _ _ _ _)); (fail_if_success (with_reducible show tTup _ _ _ _)); (fail_if_success (with_reducible show tOp rCat _ _ _ _ _)); lcg_off)
namespace TD
open PySem PySem.Spec L2 PySem.Calls PySem.TDX
open PyProof.Rows hiding St
/-! ### the Scanner -/
abbrev scF (z : List Nat) (i : Nat) : List (Str × V) := [("text", .str (S z)), ("spot", .int (i : Nat))]
abbrev scO (K : PySem.W.Frag) (dx : Addr) (z : List Nat) (i : Nat) : HO := .ins (He.ga K "Scanner") dx (scF z i)
/-- the class -/
structure ScC (K : PySem.W.Frag) : Prop where
  c : Cls K (He.ga K "Scanner")
  t : NoAttr K (He.ga K "Scanner") "text"
  s : NoAttr K (He.ga K "Scanner") "spot"
/-- an error, seen past the scanner at a -/
def RaisedS (K : PySem.W.Frag) (a : Addr) (x f : Str) (y : V) (H : Hp) (E : XK) : Prop := ∀ d H', New (mask a H) (mask a H') d (.xd [(f, y), ("word", .str x)]) → E (.ref (He.ga K x)) (some d) H'
theorem RaisedS.after {K : PySem.W.Frag} {a : Addr} {x f : Str} {y : V} {H H1 : Hp} {E : XK} (h : RaisedS K a x f y H E) (s : Same (mask a H) (mask a H1)) : RaisedS K a x f y H1 E := fun d H' n => h d H' (n.after s)
theorem RaisedS.of {K : PySem.W.Frag} {a : Addr} {x f : Str} {y : V} {H : Hp} {E : XK} {o : HO} (h : RaisedS K a x f y H E) (e : H a = some o) : Raised K x f y H E := fun d H' n => h d H' (n.masked e)
def spSees (K : PySem.W.Frag) : Sp := fun vs H Q _ => ∃ (a dx : Addr) (z : List Nat) (i c : Nat), vs = [.ref a, .str (S [c])] ∧ H a = some (scO K dx z i) ∧ z.length ≤ 100000 ∧ Q (.bl (decide (z[i]? = some c))) H
def spNeed (K : PySem.W.Frag) : Sp := fun vs H Q E => ∃ (a dx : Addr) (z : List Nat) (i c : Nat), vs = [.ref a, .str (S [c])] ∧ H a = some (scO K dx z i) ∧ z.length ≤ 100000 ∧
  if z[i]? = some c then Q .non (upd H a (scO K dx z (i + 1))) else Raised K "BadText" "at" (.int i) H E
def spRun (K : PySem.W.Frag) : Sp := fun vs H Q E => ∃ (a dx : Addr) (z : List Nat) (i : Nat), vs = [.ref a, .str (S lowers), .int 6] ∧ H a = some (scO K dx z i) ∧ z.length ≤ 100000 ∧
  if runAt z i = [] then Raised K "BadText" "at" (.int i) H E else Q (.str (S (runAt z i))) (upd H a (scO K dx z (i + (runAt z i).length)))
def spOwner (K : PySem.W.Frag) : Sp := fun vs H Q E => ∃ (a dx : Addr) (z : List Nat) (i : Nat), vs = [.ref a] ∧ H a = some (scO K dx z i) ∧ z.length ≤ 100000 ∧
  if z[i]? = some 45 then Q (.str (S [45])) (upd H a (scO K dx z (i + 1))) else if runAt z i = [] then Raised K "BadText" "at" (.int i) H E else Q (.str (S (runAt z i))) (upd H a (scO K dx z (i + (runAt z i).length)))
def spInit (K : PySem.W.Frag) : Sp := fun vs H Q _ => ∃ (a dx : Addr) (z : List Nat), vs = [.ref a, .str (S z)] ∧ H a = some (.ins (He.ga K "Scanner") dx []) ∧ Q .non (upd H a (scO K dx z 0))
def spEnd (K : PySem.W.Frag) : Sp := fun vs H Q E => ∃ (a dx : Addr) (z : List Nat) (i : Nat), vs = [.ref a] ∧ H a = some (scO K dx z i) ∧ z.length ≤ 100000 ∧ if i < z.length then Raised K "BadText" "at" (.int i) H E else Q .non H
theorem upd_upd {H : Hp} {a : Addr} {o u : HO} : upd (upd H a o) a u = upd H a u := by
  funext b
  by_cases h : b = a
  · subst h; rw [upd_same, upd_same]
  · rw [upd_ne h, upd_ne h, upd_ne h]
theorem upd_self {H : Hp} {a : Addr} {o : HO} (h : H a = some o) : upd H a o = H := by
  funext b
  by_cases e : b = a
  · subst e; rw [upd_same, h]
  · rw [upd_ne e]
theorem take1 (z : List Nat) (i : Nat) (c : Nat) : decide ((z.drop i).take 1 = [c]) = decide (z[i]? = some c) := by
  cases e : z[i]? with
  | none =>
    have := List.getElem?_eq_none_iff.mp e
    rw [List.drop_eq_nil_of_le (by omega)]; simp
  | some d => rw [drop_get e]; simp
section
variable {K : PySem.W.Frag} (C : ScC K) {vs : List V} {H : Hp} {Q : VK} {E : XK}
include C
theorem pure_sees (h : spSees K vs H Q E) : t_Scanner_sees K { nx := fun _ H' => Q .non H', rt := Q } (start ns_Scanner_sees vs) H := by
  obtain ⟨a, dx, z, i, c, rfl, e, hz, q⟩ := h
  unfold t_Scanner_sees
  repeat lcg_off
  refine c_fld e C.c C.t (by rfl) ?_
  repeat lcg_off
  refine c_fld e C.c C.s (by rfl) ?_
  repeat lcg_off
  refine c_fld e C.c C.s (by rfl) ?_
  repeat lcg_off
  refine c_slS (by rw [S_len]; exact le_line hz) ?_
  rw [show (i : Int) + 1 = ((i + 1 : Nat) : Int) by omega, cut_mid, Nat.add_sub_cancel_left]
  repeat lcg_off
  rw [decS, take1]; exact q
theorem pure_init (h : spInit K vs H Q E) : t_Scanner_init K { nx := fun _ H' => Q .non H', rt := Q } (start ns_Scanner_init vs) H := by
  obtain ⟨a, dx, z, rfl, e, q⟩ := h
  unfold t_Scanner_init
  repeat lcg_off
  refine c_put e C.c C.t (by decide) ?_
  repeat lcg_off
  refine c_put upd_same C.c C.s (Nat.le_of_ble_eq_true (by rfl)) ?_
  rw [upd_upd]
  exact q
theorem pure_end (T : ErrC K (He.ga K "BadText") ["word", "at"]) (h : spEnd K vs H Q E) : t_Scanner_end K E { nx := fun _ H' => Q .non H', rt := Q } (start ns_Scanner_end vs) H := by
  obtain ⟨a, dx, z, i, rfl, e, hz, q⟩ := h
  unfold t_Scanner_end
  repeat lcg_off
  refine c_fld e C.c C.s (by rfl) ?_
  repeat lcg_off
  refine c_fld e C.c C.t (by rfl) ?_
  repeat lcg_off
  refine c_lenS (le_line hz) ?_
  repeat lcg_off
  refine ite_d (fun c => ?_) (fun c => ?_)
  · rw [if_pos (by omega)] at q
    repeat lcg_off
    refine c_fld e C.c C.s (by rfl) ?_
    repeat lcg_off
    exact c_xm1 T q
  · rw [if_neg (by omega)] at q
    repeat lcg_off
    exact q
theorem pure_need (T : ErrC K (He.ga K "BadText") ["word", "at"]) (h : spNeed K vs H Q E) : t_Scanner_need K (spSees K) E { nx := fun _ H' => Q .non H', rt := Q } (start ns_Scanner_need vs) H := by
  obtain ⟨a, dx, z, i, c, rfl, e, hz, q⟩ := h
  unfold t_Scanner_need
  repeat lcg_off
  refine forS [c] (fun k σ H' => (k = 0 ∧ H' = H ∧ ∃ x, σ = [some (.ref a), some (.str (S [c])), x]) ∨ (k = 1 ∧ Q .non H')) (.inl ⟨rfl, rfl, _, rfl⟩) (fun k d σ H' hd p => ?_) (fun σ H' p => ?_)
  · rcases p with ⟨rfl, rfl, x, rfl⟩ | ⟨rfl, _⟩
    · simp only [List.getElem?_cons_zero, Option.some.injEq] at hd
      subst hd
      repeat lcg_off
      refine c_mth e (by rfl) ?_
      repeat lcg_off
      refine ⟨a, dx, z, i, c, rfl, e, hz, ?_⟩
      repeat lcg_off
      by_cases hc : z[i]? = some c
      · rw [if_pos hc] at q
        rw [decide_eq_true hc]
        refine ite_f ?_
        repeat lcg_off
        refine c_aug e C.c C.s (by rfl) ?_
        repeat lcg_off
        refine ⟨dx, _, e, Nat.le_of_ble_eq_true (by rfl), .inr ⟨rfl, ?_⟩⟩
        exact q
      · rw [if_neg hc] at q
        rw [decide_eq_false hc]
        refine ite_t ?_
        repeat lcg_off
        refine c_fld e C.c C.s (by rfl) ?_
        repeat lcg_off
        exact c_xm1 T q
    · simp at hd
  · rcases p with ⟨h1, _⟩ | ⟨_, q'⟩
    · simp at h1
    · exact q'
theorem pure_run_of (T : ErrC K (He.ga K "BadText") ["word", "at"]) (h : spRun K vs H Q E) : t_Scanner_run_of K E { nx := fun _ H' => Q .non H', rt := Q } (start ns_Scanner_run_of vs) H := by
  obtain ⟨a, dx, z, i, rfl, e, hz, q⟩ := h
  unfold t_Scanner_run_of
  repeat lcg_off
  refine c_fld e C.c C.s (by rfl) ?_
  repeat lcg_off
  refine ⟨fun m σ H' => ∃ r, m = (runAt z i).length - r ∧ r ≤ (runAt z i).length ∧ σ = [some (.ref a), some (.str (S lowers)), some (.int 6), some (.int i)] ∧ H' = upd H a (scO K dx z (i + r)), ⟨_, 0, rfl, Nat.zero_le _, rfl, (upd_self e).symm⟩, ?_⟩
  rintro m σ H' ⟨r, rfl, hr, rfl, rfl⟩
  have st := run_step hr
  have rl := runAt_len z i
  have e1 : (upd H a (scO K dx z (i + r))) a = some (scO K dx z (i + r)) := upd_same
  have stop : ¬ r < (runAt z i).length → tSeq (tIfS (tTest (tOp rEq (tFld K (tVar 0) "spot") (tVar 3))) (tRse (tGmk (He.ga K "BadText") (spE1 K (He.ga K "BadText") "BadText" "at") (tCons (tVar 3) tNil)) E) tNext)
    (tRet (tSl rSlS (tFld K (tVar 0) "text") (tPart (tVar 3)) (tPart (tFld K (tVar 0) "spot")))) { nx := fun _ H' => Q .non H', rt := Q } [some (.ref a), some (.str (S lowers)), some (.int 6), some (.int i)] (upd H a (scO K dx z (i + r))) := fun hge => by
    have er : r = (runAt z i).length := by omega
    repeat lcg_off
    refine c_fld e1 C.c C.s (by rfl) ?_
    repeat lcg_off
    refine ite_d (fun c => ?_) (fun c => ?_)
    · have h0 : r = 0 := by injection c with c; omega
      rw [if_pos (List.length_eq_zero_iff.mp (by omega))] at q
      repeat lcg_off
      subst h0
      rw [show upd H a (scO K dx z (i + 0)) = H from upd_self e]
      exact c_xm1 T q
    · have h0 : r ≠ 0 := fun h => c (by rw [h]; rfl)
      rw [if_neg (fun h => h0 (by rw [er, h]; rfl))] at q
      repeat lcg_off
      refine c_fld e1 C.c C.t (by rfl) ?_
      repeat lcg_off
      refine c_fld e1 C.c C.s (by rfl) ?_
      repeat lcg_off
      refine c_slS (by rw [S_len]; exact le_line hz) ?_
      rw [cut_mid, show i + r - i = r by omega, er, run_text]
      exact q
  repeat lcg_off
  refine c_fld e1 C.c C.s (by rfl) ?_
  repeat lcg_off
  refine c_fld e1 C.c C.t (by rfl) ?_
  repeat lcg_off
  refine c_lenS (le_line hz) ?_
  repeat lcg_off
  refine ite_d (fun c1 => ?_) (fun c1 => ?_)
  · repeat lcg_off
    refine c_fld e1 C.c C.s (by rfl) ?_
    repeat lcg_off
    refine ite_d (fun c2 => ?_) (fun c2 => ?_)
    · repeat lcg_off
      refine c_fld e1 C.c C.t (by rfl) ?_
      repeat lcg_off
      refine c_fld e1 C.c C.s (by rfl) ?_
      repeat lcg_off
      refine c_ixS (le_line hz) (List.getElem?_eq_getElem (show i + r < z.length by omega)) ?_
      repeat lcg_off
      refine c_inS ?_
      repeat lcg_off
      refine ite_d (fun c3 => ?_) (fun c3 => ?_)
      · have lt := st.mpr ⟨by omega, by omega, _, List.getElem?_eq_getElem (show i + r < z.length by omega), c3⟩
        refine ⟨fun σ' H' => σ' = [some (.ref a), some (.str (S lowers)), some (.int 6), some (.int i)] ∧ H' = upd H a (scO K dx z (i + (r + 1))), fun σ' H' ⟨h1, h2⟩ => ⟨_, by omega, r + 1, rfl, by omega, h1, h2⟩, ?_⟩
        repeat lcg_off
        refine c_aug e1 C.c C.s (by rfl) ?_
        repeat lcg_off
        refine ⟨dx, _, e1, Nat.le_of_ble_eq_true (by rfl), rfl, ?_⟩
        rw [upd_upd]; rfl
      · refine stop fun lt => ?_
        obtain ⟨_, _, c, hc, hp⟩ := st.mp lt
        rw [List.getElem?_eq_getElem (show i + r < z.length by omega)] at hc
        exact c3 (Option.some.inj hc ▸ hp)
    · refine ite_f ?_
      refine stop fun lt => ?_
      have := (st.mp lt).2.1
      omega
  · refine ite_f ?_
    refine stop fun lt => ?_
    have := (st.mp lt).1
    omega
theorem pure_read_owner (h : spOwner K vs H Q E) : t_Scanner_read_owner K (spRun K) (spSees K) E { nx := fun _ H' => Q .non H', rt := Q } (start ns_Scanner_read_owner vs) H := by
  obtain ⟨a, dx, z, i, rfl, e, hz, q⟩ := h
  unfold t_Scanner_read_owner
  repeat lcg_off
  refine c_mth e (by rfl) ?_
  repeat lcg_off
  refine ⟨a, dx, z, i, 45, rfl, e, hz, ?_⟩
  repeat lcg_off
  by_cases hc : z[i]? = some 45
  · rw [if_pos hc] at q
    rw [decide_eq_true hc]
    refine ite_t ?_
    repeat lcg_off
    refine c_aug e C.c C.s (by rfl) ?_
    repeat lcg_off
    refine ⟨dx, _, e, Nat.le_of_ble_eq_true (by rfl), ?_⟩
    repeat lcg_off
    exact q
  · rw [if_neg hc] at q
    rw [decide_eq_false hc]
    refine ite_f ?_
    repeat lcg_off
    refine c_mth e (by rfl) ?_
    repeat lcg_off
    exact ⟨a, dx, z, i, rfl, e, hz, q⟩
end
/-- what a reader of z from i on with the scanner at a leaves: R its result -/
def ScOut (K : PySem.W.Frag) (a dx : Addr) (z : List Nat) (H : Hp) (Q : VK) (E : XK) : Option Tr × Nat → Prop
  | (none, j) => RaisedS K a "BadText" "at" (.int j) H E
  | (some t, j) => ∀ v H', H' a = some (scO K dx z j) → Same (mask a H) (mask a H') → Dp K (mask a H') v t.data → Q v H'
theorem ScOut.after {K : PySem.W.Frag} {a dx : Addr} {z : List Nat} {H H1 : Hp} {Q : VK} {E : XK} {R : Option Tr × Nat} (h : ScOut K a dx z H Q E R) (s : Same (mask a H) (mask a H1)) : ScOut K a dx z H1 Q E R := by
  rcases R with ⟨_ | t, j⟩
  · exact RaisedS.after h s
  · exact fun v H' e s2 d => h v H' e (s.trans s2) d
def spScTree (K : PySem.W.Frag) (n : Nat) : Sp := fun vs H Q E => ∃ (a dx : Addr) (z : List Nat) (i m : Nat), vs = [.ref a] ∧ H a = some (scO K dx z i) ∧ z.length ≤ 100000 ∧ i ≤ z.length ∧ opens z i ≤ n ∧ 2 * (z.length - i) + 2 ≤ m ∧ ScOut K a dx z H Q E (pTree z m i)
/-- between two turns of the reader of a row: l the trees so far -/
def RowI (K : PySem.W.Frag) (a l dx : Addr) (z : List Nat) (H1 : Hp) (i : Nat) (R : Option Tr × Nat) (k : Nat) (σ : L2.St) (H' : Hp) : Prop := ∃ (found : List Tr) (vs : List V) (i' : Nat), σ = [some (.ref a), some (.ref l)] ∧ H' a = some (scO K dx z i') ∧ H' l = some (.lst vs) ∧
  Same (mask a H1) (mask l (mask a H')) ∧ DpAll K (mask l (mask a H')) vs (Tr.dataAll found) ∧ i + 1 ≤ i' ∧ i' ≤ z.length ∧ 2 * (z.length - i') + 1 ≤ k ∧ found.length ≤ i' ∧ pRow z k found i' = R
theorem dpAll_append {K : PySem.W.Frag} {H : Hp} {v : V} {t : Tr} : ∀ {vs : List V} {ts : List Tr}, DpAll K H vs (Tr.dataAll ts) → Dp K H v t.data → DpAll K H (vs ++ [v]) (Tr.dataAll (ts ++ [t]))
  | [], [], .nil, d => .cons d .nil
  | _ :: _, _ :: _, .cons e a, d => .cons e (dpAll_append a d)
theorem mask_upd_ne {a b : Addr} {H : Hp} {o : HO} (h : b ≠ a) : mask a (upd H b o) = upd (mask a H) b o := by
  funext c
  by_cases e : c = a
  · subst e; rw [mask_at, upd_ne (Ne.symm h), mask_at]
  · rw [mask_ne e]
    by_cases e2 : c = b
    · subst e2; rw [upd_same, upd_same]
    · rw [upd_ne e2, upd_ne e2, mask_ne e]
theorem mask_upd_same {a : Addr} {H : Hp} {o : HO} : Same (mask a H) (mask a (upd H a o)) := fun b u h => by rw [mask_upd]; exact h
section
variable {K : PySem.W.Frag} (C : ScC K) {n : Nat} {vs : List V} {H : Hp} {Q : VK} {E : XK}
include C
theorem pure_sc_tree (h : spScTree K n vs H Q E) : t_Scanner_tree K (spNeed K) (spOwner K) (spSees K) (spP (spScTree K) n) E { nx := fun _ H' => Q .non H', rt := Q } (start ns_Scanner_tree vs) H := by
  obtain ⟨a, dx, z, i, m, rfl, e, hz, hi, ho, hm, q⟩ := h
  obtain ⟨m, rfl⟩ : ∃ k, m = k + 1 := ⟨m - 1, by omega⟩
  rw [pTree] at q
  unfold t_Scanner_tree
  repeat lcg_off
  refine c_mth e (by rfl) ?_
  repeat lcg_off
  refine ⟨a, dx, z, i, 40, rfl, e, hz, ?_⟩
  repeat lcg_off
  by_cases hc : z[i]? = some 40
  · rw [if_pos hc] at q
    rw [decide_eq_true hc]
    refine ite_f ?_
    repeat lcg_off
    refine c_aug e C.c C.s (by rfl) ?_
    repeat lcg_off
    refine ⟨dx, _, e, Nat.le_of_ble_eq_true (by rfl), ?_⟩
    have hi2 := get_lt hc
    have o1 := opens_open hc
    generalize hH1 : upd H a (.ins (He.ga K "Scanner") dx (putF "spot" (.int ((i : Int) + 1)) (scF z i))) = H1
    have e1 : H1 a = some (scO K dx z (i + 1)) := by rw [← hH1]; exact upd_same
    have s1 : Same (mask a H) (mask a H1) := by rw [← hH1]; exact mask_upd_same
    repeat lcg_off
    refine c_mth e1 (by rfl) ?_
    repeat lcg_off
    cases n with
    | zero => omega
    | succ n =>
    refine ⟨a, dx, z, i + 1, m, rfl, e1, hz, by omega, by omega, by omega, ?_⟩
    cases h1 : pTree z m (i + 1) with
    | mk o j =>
      rw [h1] at q
      cases o with
      | none => exact RaisedS.after q s1
      | some t =>
        intro v H2 e2 s2 d2
        have r := pTree_ok h1
        repeat lcg_off
        intro l H3 N3
        repeat lcg_off
        have al : a ≠ l := ne_of_none e2 N3.free
        have vw : Same (mask a H2) (mask l (mask a H3)) := fun b u hb => by
          have h1 : b ≠ a := fun h => by rw [h, mask_at] at hb; cases hb
          rw [mask_ne h1] at hb
          rw [mask_ne (ne_of_none hb N3.free), mask_ne h1]
          exact N3.same _ _ hb
        refine ⟨RowI K a l dx z H1 i (pRow z m [t] j), ⟨m, [t], [v], j, rfl, N3.same _ _ e2, N3.at_, s2.trans vw, .cons (dp_same vw d2) .nil, by have := r.lt; omega, r.le, by have := r.lt; omega, by have := r.lt; simp; omega, rfl⟩, ?_⟩
        replace q : ScOut K a dx z H Q E (pRow z m [t] j) := q
        rintro k σ H' ⟨found, vs, i', rfl, ea, el, sm, dv, hi1, hi2, hk, hf, hR⟩
        obtain ⟨k, rfl⟩ : ∃ k', k = k' + 1 := ⟨k - 1, by omega⟩
        rw [← hR, pRow] at q
        rw [pRow] at hR
        have hl := dpAll_len dv
        rw [Tr.dataAll_len] at hl
        have sma : Same (mask a H) (mask a H') := s1.trans (sm.trans mask_same)
        have oi := opens_le z hi1
        -- a turn
        have turn : ∀ D' : Ends, D'.nx = RowI K a l dx z H1 i (pRow z m [t] j) k → (z[i']? = some 32 ∨ found.length < 2) →
            tSeq (tDrop (tMeth (He.ga K "Scanner") "need" (spNeed K) [] E (tVar 0) (tCons (tC (.str " ")) tNil))) (tDrop (tBM K "list" rAppend (tVar 1) (tCons (tMeth (He.ga K "Scanner") "tree" (spP (spScTree K) (n + 1)) [] E (tVar 0) tNil) tNil))) D' [some (.ref a), some (.ref l)] H' := fun D' hD hc2 => by
          repeat lcg_off
          refine c_mth ea (by rfl) ?_
          repeat lcg_off
          refine ⟨a, dx, z, i', 32, rfl, ea, hz, ?_⟩
          by_cases h32 : z[i']? = some 32
          · rw [if_pos h32]
            rw [if_pos h32] at q hR
            have g32 := get_lt h32
            generalize hH4 : upd H' a (scO K dx z (i' + 1)) = H4
            have e4 : H4 a = some (scO K dx z (i' + 1)) := by rw [← hH4]; exact upd_same
            have m4 : mask a H4 = mask a H' := by rw [← hH4, mask_upd]
            have el4 : H4 l = some (.lst vs) := by rw [← hH4, upd_ne (Ne.symm al)]; exact el
            repeat lcg_off
            refine c_tyL (SqL.of el4) ?_
            repeat lcg_off
            refine c_mth e4 (by rfl) ?_
            repeat lcg_off
            have o2 := opens_le z (show i + 1 ≤ i' + 1 by omega)
            refine ⟨a, dx, z, i' + 1, k, rfl, e4, hz, by omega, by omega, by omega, ?_⟩
            cases h5 : pTree z k (i' + 1) with
            | mk o j2 =>
              rw [h5] at q hR
              cases o with
              | none => exact RaisedS.after q (m4 ▸ sma)
              | some u =>
                intro w H5 e5 s5 d5
                have r5 := pTree_ok h5
                rw [m4] at s5
                have el5 : H5 l = some (.lst vs) := by
                  have := s5 l (.lst vs) (by rw [mask_ne (Ne.symm al)]; exact el)
                  rwa [mask_ne (Ne.symm al)] at this
                have s6 : Same (mask l (mask a H')) (mask l (mask a H5)) := mask_mono s5
                repeat lcg_off
                refine c_app el5 (by have := r5.lt; omega) ?_
                rw [hD]
                have m6 : mask l (mask a (upd H5 l (.lst (vs ++ [w])))) = mask l (mask a H5) := by rw [mask_upd_ne (Ne.symm al), mask_upd]
                refine ⟨found ++ [u], vs ++ [w], j2, rfl, by rw [upd_ne al]; exact e5, upd_same, ?_, ?_, by have := r5.lt; omega, r5.le, by have := r5.lt; omega, by have := r5.lt; simp; omega, hR⟩
                · rw [m6]; exact sm.trans s6
                · rw [m6]
                  exact dpAll_append (dpAll_same s6 dv) (dp_mask_lst (xs := vs) (by rw [mask_ne (Ne.symm al)]; exact el5) u w d5)
          · rw [if_neg h32]
            rw [if_neg h32, if_pos (hc2.resolve_left h32)] at q
            exact RaisedS.of (q.after sma) ea
        have out : z[i']? ≠ some 32 → ¬ found.length < 2 → tSeq (tDrop (tMeth (He.ga K "Scanner") "need" (spNeed K) [] E (tVar 0) (tCons (tC (.str ")")) tNil))) (tRet (tCB (rTupQ K) (tCons (tVar 1) tNil))) { nx := fun _ H' => Q .non H', rt := Q } [some (.ref a), some (.ref l)] H' := fun h32 h2 => by
          rw [if_neg h32, if_neg h2] at q
          repeat lcg_off
          refine c_mth ea (by rfl) ?_
          repeat lcg_off
          refine ⟨a, dx, z, i', 41, rfl, ea, hz, ?_⟩
          by_cases h41 : z[i']? = some 41
          · rw [if_pos h41]
            rw [if_pos h41] at q
            have el4 : (upd H' a (scO K dx z (i' + 1))) l = some (.lst vs) := by rw [upd_ne (Ne.symm al)]; exact el
            repeat lcg_off
            refine c_tupL (SqL.of el4) fun p H5 N5 => ?_
            have e5 : (upd H' a (scO K dx z (i' + 1))) a = some (scO K dx z (i' + 1)) := upd_same
            have N6 := N5.masked e5
            have m6 : mask a (upd H' a (scO K dx z (i' + 1))) = mask a H' := mask_upd
            refine q _ _ (N5.same _ _ e5) (sma.trans (m6 ▸ N6.same)) ?_
            rw [Tr.data]
            refine .tup (.inl (.inl N6.at_)) (dpAll_same ?_ dv)
            exact Same.trans mask_same (m6 ▸ N6.same)
          · rw [if_neg h41]
            rw [if_neg h41] at q
            exact RaisedS.of (q.after sma) ea
        repeat lcg_off
        refine ite_d (fun c1 => ?_) (fun c1 => ?_)
        · refine ite_t ?_
          exact ⟨_, fun σ' H'' h => ⟨k, Nat.lt_succ_self k, h⟩, turn _ rfl (.inr (by omega))⟩
        · repeat lcg_off
          refine c_mth ea (by rfl) ?_
          repeat lcg_off
          refine ⟨a, dx, z, i', 32, rfl, ea, hz, ?_⟩
          repeat lcg_off
          refine ite_d (fun c2 => ?_) (fun c2 => ?_)
          · exact ⟨_, fun σ' H'' h => ⟨k, Nat.lt_succ_self k, h⟩, turn _ rfl (.inl c2)⟩
          · exact out c2 (by omega)
  · rw [if_neg hc] at q
    rw [decide_eq_false hc]
    refine ite_t ?_
    repeat lcg_off
    refine c_mth e (by rfl) ?_
    repeat lcg_off
    refine ⟨a, dx, z, i, rfl, e, hz, ?_⟩
    by_cases h45 : z[i]? = some 45
    · rw [if_pos h45] at q ⊢
      exact q _ _ upd_same mask_upd_same (Tr.data.eq_1 _ ▸ .str _)
    · rw [if_neg h45] at q ⊢
      by_cases hr : runAt z i = []
      · rw [if_pos hr] at q ⊢
        exact RaisedS.of q e
      · rw [if_neg hr] at q ⊢
        exact q _ _ upd_same mask_upd_same (Tr.data.eq_1 _ ▸ .str _)
end
end TD

end
section
open TD L2
/-- what stands at an address -/
local macro_rules | `(tactic| lcg_sub) => `(tactic| first | assumption | exact upd_same | exact New.at_ (by assumption) | (refine New.same (by assumption) _ _ ?_; lcg_sub) | (refine (show Same _ _ from by assumption) _ _ ?_; lcg_sub) | (refine Eq.trans (upd_ne (by first | assumption | exact Ne.symm (by assumption))) ?_; lcg_sub))
/-- a list, a tuple to be read -/
local macro_rules | `(tactic| lcg_src) => `(tactic| first | assumption | exact SqL.of (by lcg_sub) | exact SqT.of (by lcg_sub) | (refine Same.seq (New.same (by assumption)) ?_; lcg_src) | (refine Same.seq (by assumption) ?_; lcg_src) | (refine sameT (New.same (by assumption)) ?_; lcg_src) | (refine sameT (by assumption) ?_; lcg_src))
/-- data at a value -/
local macro_rules | `(tactic| kp_flats) => `(tactic| first | assumption | exact Dp.str _ | exact Dp.int _ | exact Dp.non | exact Dp.bl _ | (refine dp_same (New.same (by assumption)) ?_; kp_flats) | (refine dp_same (by assumption) ?_; kp_flats))
/-- one step of a reading -/
local macro_rules | `(tactic| lcg_off) => `(tactic| first
  | with_reducible refine Stp.go ?_
  | ((with_reducible show tVar _ _ _ _); refine c_var (by rfl) ?_)
  | ((with_reducible show rIxL _ _ _ _ _); refine c_ixL (by lcg_src) (by rfl) ?_)
  | ((with_reducible show rIxT _ _ _ _ _); refine c_ixT (by lcg_src) (by rfl) ?_)
  | ((with_reducible show rSetL _ _ _ _ _); refine c_setL (by lcg_sub) (by rfl) ?_)
  | ((with_reducible show rLenQ _ _ _ _); first | (refine c_lenL (by lcg_src) ?_) | (refine c_lenT (by lcg_src) ?_))
  | ((with_reducible show rSlL _ _ _ _ _ _); refine c_slL (by lcg_src) ?_)
  | ((with_reducible show rListQ _ _ _ _); first | (refine c_listL (by lcg_src) ?_) | (refine c_listT (by lcg_src) ?_))
  | ((with_reducible show rI _ _ _ _ _ _); refine c_IC (by first | assumption | decide | omega) ?_)
  | ((with_reducible show rIsi _ _ _ _); refine c_isi (by kp_flats) (by first | assumption | decide +kernel) ?_)
  | ((with_reducible show rIx _ _ _ _ _); refine c_ix (by first | exact .inl ⟨by lcg_src, by first | assumption | rfl⟩ | exact .inr ⟨by lcg_src, by first | assumption | rfl⟩) ?_)
  | ((with_reducible show NewW _ _ _ _); refine newW ?_)
  | ((with_reducible show rCat _ _ _ _); refine c_cat (by lcg_sub) (by lcg_sub) (le_line (by first | decide | (simp only [List.length_append, List.length_cons, List.length_nil]; omega))) ?_)
  | ((with_reducible show aAddS _ _ _ _); refine c_adds (le_line (by first | decide +kernel | assumption)) ?_)
  | ((with_reducible show rIn _ false _ _ _ _); refine c_inL (by lcg_src) (by rfl) (by rfl) ?_)
  | ((with_reducible show rIn _ true _ _ _ _); refine c_niL (by lcg_src) (by rfl) (by rfl) ?_))
/-- one step, with the new object's names -/
local macro_rules | `(tactic| k_offL) => `(tactic| first | lcg_off | ((with_reducible show ∀ _ _, New _ _ _ _ → _); intro _ _ _))
/-- an error that is held -/
local macro_rules | `(tactic| one_item) => `(tactic| first | assumption | (refine ErrV.same ?_ (New.same (by assumption)); one_item) | (refine ErrV.same ?_ (by assumption); one_item))
/-- nothing was changed -/
local macro_rules | `(tactic| one_place) => `(tactic| first | assumption | exact fun _ _ h => h | exact New.same (by assumption) | (refine Same.trans ?_ (New.same (by assumption)); one_place) | (refine Same.trans ?_ (by assumption); one_place))
/-- what an expression makes, as data -/
local macro_rules | `(tactic| one_sign) => `(tactic| first | exact EvD.str | exact EvD.int | exact EvA.nil | exact EvD.neg | (apply EvA.cons; (focus one_sign); one_sign) | (apply EvD.tup; (focus one_sign); (first | decide | (simp only [List.length_append, List.length_cons, List.length_nil]; omega))) | (apply EvD.var; (focus rfl); kp_flats) | (apply EvL.var; (focus rfl); (focus lcg_sub); assumption) | (apply EvL.lst; (focus one_sign); (first | decide | (simp only [List.length_append, List.length_cons, List.length_nil]; omega))) | (apply EvL.cat; (focus one_sign); (focus one_sign); (first | decide | (simp only [List.length_append, List.length_cons, List.length_nil]; omega))) | (apply EvD.tupOf; one_sign) | (apply EvD.rep; (focus one_sign); (focus simp); (focus decide); (focus decide); decide) | (apply EvL.rep; (focus one_sign); (focus decide); decide) | (apply EvD.adds; (focus one_sign); (focus one_sign); decide +kernel) | exact EvD.non | exact EvD.bl | (apply EvD.ofL; one_sign))
/-- one step, but not into a new list, a new tuple -/
local macro_rules | `(tactic| k_asm) => `(tactic| (fail_if_success (with_reducible show tLst _ _ _ _)); (fail_if_success (with_reducible show tTup _ _ _ _)); (fail_if_success (with_reducible show tOp rCat _ _ _ _ _)); lcg_off)
namespace TD
open PySem PySem.Spec L2 PySem.Calls PySem.TDX
open PyProof.Rows hiding St
/-! ### parse_tree -/
inductive PR where
  | ok (t : Tr)
  | bad (j : Nat)
  | big (m : Nat)
def parseR (z : List Nat) : PR := match pTree z (2 * z.length + 2) 0 with
  | (none, j) => .bad j
  | (some t, j) => if j < z.length then .bad j else if 400 < t.ends then .big 400 else if 40 < t.lev then .big 40 else .ok t
def spParse (K : PySem.W.Frag) (n : Nat) : Sp := fun vs H Q E => ∃ z : List Nat, vs = [.str (S z)] ∧ z.length ≤ 100000 ∧ opens z 0 ≤ n ∧ (match parseR z with
  | .bad j => Raised K "BadText" "at" (.int j) H E
  | .big m => Raised K "TooLarge" "most" (.int m) H E
  | .ok t => ∀ v H', Same H H' → Dp K H' v t.data → Q v H')
theorem Tr.okB_mono {w w' : Nat} (h : w ≤ w') (t : Tr) : t.okB w = true → t.okB w' = true := by
  refine Tr.ind (P := fun t => t.okB w = true → t.okB w' = true) (fun n h => by rw [Tr.okB] at h ⊢; exact h) (fun ts ih h1 => ?_) t
  obtain ⟨h2, h3, h4⟩ := Tr.okB_node h1
  rw [Tr.okB]
  simp only [Bool.and_eq_true, decide_eq_true_eq]
  exact ⟨⟨h2, by omega⟩, Tr.okAll_of fun t m => ih t m (h4 t m)⟩
theorem pure_parse_tree {K : PySem.W.Frag} {n : Nat} {vs : List V} {H : Hp} {Q : VK} {E : XK} (h : spParse K n vs H Q E) : t_parse_tree K (spInit K) (spEnd K) (spScTree K n) (spWithin K n) E { nx := fun _ H' => Q .non H', rt := Q } (start ns_parse_tree vs) H := by
  obtain ⟨z, rfl, hz, ho, q⟩ := h
  unfold t_parse_tree
  repeat lcg_off
  intro a dx na nd ne
  refine ⟨a, dx, z, rfl, upd_same, rfl, ?_⟩
  rw [upd_upd]
  generalize hH1 : upd (upd H dx (.own a)) a (scO K dx z 0) = H1
  have e1 : H1 a = some (scO K dx z 0) := by rw [← hH1]; exact upd_same
  have s1 : Same H (mask a H1) := fun b o hb => by
    have h1 := ne_of_none hb na
    rw [mask_ne h1, ← hH1, upd_ne h1, upd_ne (ne_of_none hb nd)]
    exact hb
  repeat lcg_off
  refine c_mth e1 (by rfl) ?_
  repeat lcg_off
  refine ⟨a, dx, z, 0, 2 * z.length + 2, rfl, e1, hz, Nat.zero_le _, ho, by omega, ?_⟩
  unfold parseR at q
  cases hp : pTree z (2 * z.length + 2) 0 with
  | mk o j =>
    rw [hp] at q
    cases o with
    | none => exact fun d H' N => q d H' ⟨free_back s1 N.free, s1.trans (N.same.trans mask_same), by
        have := N.at_
        rwa [mask_ne (fun e => by rw [e, mask_at] at this; cases this)] at this⟩
    | some t =>
      intro v H2 e2 s2 d2
      have r := pTree_ok hp
      have sH : Same H H2 := s1.trans (s2.trans mask_same)
      repeat lcg_off
      refine c_mth e2 (by rfl) ?_
      repeat lcg_off
      refine ⟨a, dx, z, j, rfl, e2, hz, ?_⟩
      by_cases hj : j < z.length
      · rw [if_pos hj]
        simp only [hj, if_true] at q
        exact q.after sH
      · rw [if_neg hj]
        simp only [hj, if_false] at q
        repeat lcg_off
        refine ⟨v, t, rfl, dp_same mask_same d2, by have := r.lev; omega, Tr.okB_mono hz t r.ok, ?_⟩
        by_cases h4 : 400 < t.ends
        · rw [if_pos h4]
          simp only [h4, if_true] at q
          exact q.after sH
        · rw [if_neg h4]
          simp only [h4, if_false] at q
          by_cases h5 : 40 < t.lev
          · rw [if_pos h5]
            simp only [h5, if_true] at q
            exact q.after sH
          · rw [if_neg h5]
            simp only [h5, if_false] at q
            exact fun H' s => q v H' (sH.trans s) (dp_same (mask_same.trans s) d2)
end TD

end
section
open TD L2
/-- what stands at an address -/
local macro_rules | `(tactic| lcg_sub) => `(tactic| first | assumption | exact upd_same | exact New.at_ (by assumption) | (refine New.same (by assumption) _ _ ?_; lcg_sub) | (refine (show Same _ _ from by assumption) _ _ ?_; lcg_sub) | (refine Eq.trans (upd_ne (by first | assumption | exact Ne.symm (by assumption))) ?_; lcg_sub))
/-- a list, a tuple to be read -/
local macro_rules | `(tactic| lcg_src) => `(tactic| first | assumption | exact SqL.of (by lcg_sub) | exact SqT.of (by lcg_sub) | (refine Same.seq (New.same (by assumption)) ?_; lcg_src) | (refine Same.seq (by assumption) ?_; lcg_src) | (refine sameT (New.same (by assumption)) ?_; lcg_src) | (refine sameT (by assumption) ?_; lcg_src))
/-- data at a value -/
local macro_rules | `(tactic| kp_flats) => `(tactic| first | assumption | exact Dp.str _ | exact Dp.int _ | exact Dp.non | exact Dp.bl _ | (refine dp_same (New.same (by assumption)) ?_; kp_flats) | (refine dp_same (by assumption) ?_; kp_flats))
/-- one step of a reading -/
local macro_rules | `(tactic| lcg_off) => `(tactic| first
  | with_reducible refine Stp.go ?_
  | ((with_reducible show tVar _ _ _ _); refine c_var (by rfl) ?_)
  | ((with_reducible show rIxL _ _ _ _ _); refine c_ixL (by lcg_src) (by rfl) ?_)
  | ((with_reducible show rIxT _ _ _ _ _); refine c_ixT (by lcg_src) (by rfl) ?_)
  | ((with_reducible show rSetL _ _ _ _ _); refine c_setL (by lcg_sub) (by rfl) ?_)
  | ((with_reducible show rLenQ _ _ _ _); first | (refine c_lenL (by lcg_src) ?_) | (refine c_lenT (by lcg_src) ?_))
  | ((with_reducible show rSlL _ _ _ _ _ _); refine c_slL (by lcg_src) ?_)
  | ((with_reducible show rListQ _ _ _ _); first | (refine c_listL (by lcg_src) ?_) | (refine c_listT (by lcg_src) ?_))
  | ((with_reducible show rI _ _ _ _ _ _); refine c_IC (by first | assumption | decide | omega) ?_)
  | ((with_reducible show rIsi _ _ _ _); refine c_isi (by kp_flats) (by first | assumption | decide +kernel) ?_)
  | ((with_reducible show rIx _ _ _ _ _); refine c_ix (by first | exact .inl ⟨by lcg_src, by first | assumption | rfl⟩ | exact .inr ⟨by lcg_src, by first | assumption | rfl⟩) ?_)
  | ((with_reducible show NewW _ _ _ _); refine newW ?_)
  | ((with_reducible show rCat _ _ _ _); refine c_cat (by lcg_sub) (by lcg_sub) (le_line (by first | decide | (simp only [List.length_append, List.length_cons, List.length_nil]; omega))) ?_)
  | ((with_reducible show aAddS _ _ _ _); refine c_adds (le_line (by first | decide +kernel | assumption)) ?_)
  | ((with_reducible show rIn _ false _ _ _ _); refine c_inL (by lcg_src) (by rfl) (by rfl) ?_)
  | ((with_reducible show rIn _ true _ _ _ _); refine c_niL (by lcg_src) (by rfl) (by rfl) ?_))
/-- one step, with the new object's names -/
local macro_rules | `(tactic| k_offL) => `(tactic| first | lcg_off | ((with_reducible show ∀ _ _, New _ _ _ _ → _); intro _ _ _))
/-- an error that is held -/
local macro_rules | `(tactic| one_item) => `(tactic| first | assumption | (refine ErrV.same ?_ (New.same (by assumption)); one_item) | (refine ErrV.same ?_ (by assumption); one_item))
/-- nothing was changed -/
local macro_rules | `(tactic| one_place) => `(tactic| first | assumption | exact fun _ _ h => h | exact New.same (by assumption) | (refine Same.trans ?_ (New.same (by assumption)); one_place) | (refine Same.trans ?_ (by assumption); one_place))
/-- what an expression makes, as data -/
local macro_rules | `(tactic| one_sign) => `(tactic| first | exact EvD.str | exact EvD.int | exact EvA.nil | exact EvD.neg | (apply EvA.cons; (focus one_sign); one_sign) | (apply EvD.tup; (focus one_sign); (first | decide | (simp only [List.length_append, List.length_cons, List.length_nil]; omega))) | (apply EvD.var; (focus rfl); kp_flats) | (apply EvL.var; (focus rfl); (focus lcg_sub); assumption) | (apply EvL.lst; (focus one_sign); (first | decide | (simp only [List.length_append, List.length_cons, List.length_nil]; omega))) | (apply EvL.cat; (focus one_sign); (focus one_sign); (first | decide | (simp only [List.length_append, List.length_cons, List.length_nil]; omega))) | (apply EvD.tupOf; one_sign) | (apply EvD.rep; (focus one_sign); (focus simp); (focus decide); (focus decide); decide) | (apply EvL.rep; (focus one_sign); (focus decide); decide) | (apply EvD.adds; (focus one_sign); (focus one_sign); decide +kernel) | exact EvD.non | exact EvD.bl | (apply EvD.ofL; one_sign))
/-- one step, but not into a new list, a new tuple -/
local macro_rules | `(tactic| k_asm) => `(tactic| (fail_if_success (with_reducible show tLst _ _ _ _)); (fail_if_success (with_reducible show tTup _ _ _ _)); (fail_if_success (with_reducible show tOp rCat _ _ _ _ _)); lcg_off)
namespace TD
open PySem PySem.Spec L2 PySem.Calls
open PyProof.Rows hiding St
/-! ### with the bag: what the heap without it holds -/
section
variable {K : PySem.W.Frag} {D : Ends} {σ : L2.St} {H : Hp} {Q : VK} {ta : TA} {i j l : Nat} {u v w : V} {g : TG} {gs : TGs} {vs : List V} {QG : L2.St → Hp → Prop}
instance : Stp (tPar3 i j l ta D σ H) (ta σ H fun vs H1 => ∃ u v w, vs = [u, v, w] ∧ D.nx (((σ.set i (some u)).set j (some v)).set l (some w)) H1) := ⟨id⟩
instance {P : V → V → V → Prop} : Stp (∃ a b c, [u, v, w] = [a, b, c] ∧ P a b c) (P u v w) := ⟨fun h => ⟨u, v, w, rfl, h⟩⟩
instance : Stp (gNil [] σ H QG) (QG σ H) := ⟨fun h => ⟨rfl, h⟩⟩
instance : Stp (gCons g gs (v :: vs) σ H QG) (g v σ H fun σ' H' => gs vs σ' H' QG) := ⟨fun h => ⟨v, vs, rfl, h⟩⟩
theorem c_gTup {n : Nat} {a : Addr} {xs : List V} (s : SqT K H a xs) (hl : xs.length = n) (h : gs xs σ H QG) : gTup K n gs (.ref a) σ H QG := ⟨a, xs, rfl, s, hl, h⟩
variable {b L : Addr} {G G1 : Hp} {p : Addr} {o : HO}
/-- a new object beside the bag -/
theorem BagV.next {H1 : Hp} (B : BagV K H b L G) (n : New H H1 p o) : BagV K H1 b L (mask b H1) ∧ New G (mask b H1) p o := ⟨B.keep n.same, B.new n⟩
theorem BagV.at (B : BagV K H b L G) {a : Addr} {o : HO} (h : G a = some o) : H a = some o := B.view _ _ h
theorem BagV.sq (B : BagV K H b L G) {a : Addr} {xs : List V} (h : SqL K G a xs) : SqL K H a xs := B.view.seq h
theorem BagV.sqT (B : BagV K H b L G) {a : Addr} {xs : List V} (h : SqT K G a xs) : SqT K H a xs := sameT B.view h
theorem BagV.dp (B : BagV K H b L G) {v : V} {d : PyData} (h : Dp K G v d) : Dp K H v d := dp_same B.view h
end
theorem mask_upd_ne' {a b : Addr} {H : Hp} {o : HO} (h : b ≠ a) : mask a (upd H b o) = upd (mask a H) b o := by
  funext c
  by_cases e : c = a
  · subst e; rw [mask_at, upd_ne (Ne.symm h), mask_at]
  · rw [mask_ne e]
    by_cases e2 : c = b
    · subst e2; rw [upd_same, upd_same]
    · rw [upd_ne e2, upd_ne e2, mask_ne e]
/-- one of some things: a list's items, a text's signs -/
def spOf (K : PySem.W.Frag) : Sp := fun vs H Q _ => ∃ (b L : Addr) (x : V) (G : Hp), vs = [.ref b, x] ∧ BagV K H b L G ∧
  ((∃ p xs, x = .ref p ∧ (SqL K G p xs ∨ SqT K G p xs) ∧ xs ≠ [] ∧ xs.length ≤ 100000 ∧ ∀ y ∈ xs, ∀ H', BagV K H' b L G → Q y H') ∨
    ∃ z, x = .str (S z) ∧ z ≠ [] ∧ z.length ≤ 100000 ∧ ∀ c ∈ z, ∀ H', BagV K H' b L G → Q (.str (S [c])) H')
/-- a comprehension over a range whose block draws from the bag; R tells an item in the heap without the bag and the new list -/
theorem lcB {K : PySem.W.Frag} {te : TE} {vs : List Nat} {σ : L2.St} {H1 : Hp} {Q : VK} {k n : Nat} {lo : Int} {b L : Addr} {G : Hp} (B : BagV K H1 b L G) (R : Nat → V → Hp → Prop) (mono : ∀ i y H H', Same H H' → R i y H → R i y H') (hn : n ≤ sizeLine) (hw : ∀ x, wipe ((wipe σ vs).set k (some x)) vs = wipe σ vs)
    (hs : ∀ (i : Nat) (D : Addr) (acc : List V) (H G' : Hp) (Q' : VK), i < n → BagV K H b L G' → Same G G' → G' D = some (.lst acc) → (∀ y H4 G4, BagV K H4 b L G4 → Same G' G4 → R i y (mask D G4) → Q' y H4) → te ((wipe σ vs).set k (some (.int (lo + i)))) H Q')
    (hd : ∀ D H' G' ys, BagV K H' b L G' → New G G' D (.lst ys) → ys.length = n → (∀ (i : Nat) (y : V), ys[i]? = some y → R i y (mask D G')) → Q (.ref D) H') : LcW (Itr lo n) (gName k) tYes te vs Q σ H1 := by
  intro D hD
  have gD : G D = none := by
    cases e : G D with
    | none => rfl
    | some o => have := B.view _ _ e; rw [hD] at this; cases this
  obtain ⟨l0, hb0, ns0, pos0, big0, salt0, rfl, hL0, _⟩ := B.ex
  have bD : D ≠ b := fun e => by rw [e, hb0] at hD; cases hD
  have LD : L ≠ D := fun e => by rw [e, gD] at hL0; cases hL0
  refine lc_range (fun i H => ∃ acc G', BagV K H b L G' ∧ Same G G' ∧ G' D = some (.lst acc) ∧ acc.length = i ∧ ∀ j y, acc[j]? = some y → R j y (mask D G')) ?_ (fun i H hi p => ?_) fun H p => ?_
  · have N := new_upd (o := .lst []) hD
    obtain ⟨B1, N1⟩ := B.next N
    exact ⟨[], _, B1, N1.same, N1.at_, rfl, fun j y h => by simp at h⟩
  · obtain ⟨acc, G', B', sG, aD, rfl, hR⟩ := p
    refine ⟨hw _, hs _ D acc H G' _ hi B' sG aD fun y H4 G4 B4 s4 r => ?_⟩
    have a4 := s4 _ _ aD
    refine ⟨acc, B4.at a4, Nat.lt_of_lt_of_le hi hn, acc ++ [y], upd G4 D (.lst (acc ++ [y])), ?_, ?_, upd_same, by simp, fun j z h => ?_⟩
    · obtain ⟨e4, l4, hb4, ns4, pos4, big4, salt4, rfl, hL4, h4⟩ := B4
      exact ⟨by rw [mask_upd_ne' bD, e4], _, by rw [upd_ne (Ne.symm bD)]; exact hb4, ns4, pos4, big4, salt4, rfl, by rw [upd_ne LD]; exact hL4, h4⟩
    · exact fun c o hc => by
        rw [upd_ne (fun e => by rw [e, gD] at hc; cases hc)]
        exact s4 _ _ (sG _ _ hc)
    · rw [mask_upd]
      by_cases hj : j < acc.length
      · rw [List.getElem?_append_left hj] at h
        exact mono _ _ _ _ (mask_mono s4) (hR j z h)
      · have e : j = acc.length := by
          have := (List.getElem?_eq_some_iff.mp h).1
          simp at this; omega
        subst e
        rw [List.getElem?_append_right (Nat.le_refl _), Nat.sub_self] at h
        cases h
        exact r
  · obtain ⟨acc, G', B', sG, aD, hl, hR⟩ := p
    exact hd D H G' acc B' ⟨gD, sG, aD⟩ hl hR
theorem collect {α : Type} {K : PySem.W.Frag} {G : Hp} {P : α → Prop} {f : α → PyData} {ys : List V} (h : ∀ (i : Nat) (y : V), ys[i]? = some y → ∃ t, P t ∧ Dp K G y (f t)) : ∃ ts : List α, DpAll K G ys (ts.map f) ∧ ts.length = ys.length ∧ ∀ t ∈ ts, P t := by
  induction ys with
  | nil => exact ⟨[], .nil, rfl, fun t h => absurd h (by simp)⟩
  | cons y r ih =>
    obtain ⟨t, p, d⟩ := h 0 y rfl
    obtain ⟨ts, a, l, q⟩ := ih fun i y hy => h (i + 1) y (by simpa using hy)
    refine ⟨t :: ts, .cons d a, by simp [l], fun u hu => ?_⟩
    rcases List.mem_cons.mp hu with e | e
    · exact e ▸ p
    · exact q u e
end TD

end
section
open TD L2
/-- what stands at an address -/
local macro_rules | `(tactic| lcg_sub) => `(tactic| first | assumption | exact upd_same | exact New.at_ (by assumption) | (refine New.same (by assumption) _ _ ?_; lcg_sub) | (refine (show Same _ _ from by assumption) _ _ ?_; lcg_sub) | (refine Eq.trans (upd_ne (by first | assumption | exact Ne.symm (by assumption))) ?_; lcg_sub))
/-- a list, a tuple to be read -/
local macro_rules | `(tactic| lcg_src) => `(tactic| first | assumption | exact SqL.of (by lcg_sub) | exact SqT.of (by lcg_sub) | (refine Same.seq (New.same (by assumption)) ?_; lcg_src) | (refine Same.seq (by assumption) ?_; lcg_src) | (refine sameT (New.same (by assumption)) ?_; lcg_src) | (refine sameT (by assumption) ?_; lcg_src))
/-- data at a value -/
local macro_rules | `(tactic| kp_flats) => `(tactic| first | assumption | exact Dp.str _ | exact Dp.int _ | exact Dp.non | exact Dp.bl _ | (refine dp_same (New.same (by assumption)) ?_; kp_flats) | (refine dp_same (by assumption) ?_; kp_flats))
/-- one step of a reading -/
local macro_rules | `(tactic| lcg_off) => `(tactic| first
  | with_reducible refine Stp.go ?_
  | ((with_reducible show tVar _ _ _ _); refine c_var (by rfl) ?_)
  | ((with_reducible show rIxL _ _ _ _ _); refine c_ixL (by lcg_src) (by rfl) ?_)
  | ((with_reducible show rIxT _ _ _ _ _); refine c_ixT (by lcg_src) (by rfl) ?_)
  | ((with_reducible show rSetL _ _ _ _ _); refine c_setL (by lcg_sub) (by rfl) ?_)
  | ((with_reducible show rLenQ _ _ _ _); first | (refine c_lenL (by lcg_src) ?_) | (refine c_lenT (by lcg_src) ?_))
  | ((with_reducible show rSlL _ _ _ _ _ _); refine c_slL (by lcg_src) ?_)
  | ((with_reducible show rListQ _ _ _ _); first | (refine c_listL (by lcg_src) ?_) | (refine c_listT (by lcg_src) ?_))
  | ((with_reducible show rI _ _ _ _ _ _); refine c_IC (by first | assumption | decide | omega) ?_)
  | ((with_reducible show rIsi _ _ _ _); refine c_isi (by kp_flats) (by first | assumption | decide +kernel) ?_)
  | ((with_reducible show rIx _ _ _ _ _); refine c_ix (by first | exact .inl ⟨by lcg_src, by first | assumption | rfl⟩ | exact .inr ⟨by lcg_src, by first | assumption | rfl⟩) ?_)
  | ((with_reducible show NewW _ _ _ _); refine newW ?_)
  | ((with_reducible show rCat _ _ _ _); refine c_cat (by lcg_sub) (by lcg_sub) (le_line (by first | decide | (simp only [List.length_append, List.length_cons, List.length_nil]; omega))) ?_)
  | ((with_reducible show aAddS _ _ _ _); refine c_adds (le_line (by first | decide +kernel | assumption)) ?_)
  | ((with_reducible show rIn _ false _ _ _ _); refine c_inL (by lcg_src) (by rfl) (by rfl) ?_)
  | ((with_reducible show rIn _ true _ _ _ _); refine c_niL (by lcg_src) (by rfl) (by rfl) ?_))
/-- one step, with the new object's names -/
local macro_rules | `(tactic| k_offL) => `(tactic| first | lcg_off | ((with_reducible show ∀ _ _, New _ _ _ _ → _); intro _ _ _))
/-- an error that is held -/
local macro_rules | `(tactic| one_item) => `(tactic| first | assumption | (refine ErrV.same ?_ (New.same (by assumption)); one_item) | (refine ErrV.same ?_ (by assumption); one_item))
/-- nothing was changed -/
local macro_rules | `(tactic| one_place) => `(tactic| first | assumption | exact fun _ _ h => h | exact New.same (by assumption) | (refine Same.trans ?_ (New.same (by assumption)); one_place) | (refine Same.trans ?_ (by assumption); one_place))
/-- what an expression makes, as data -/
local macro_rules | `(tactic| one_sign) => `(tactic| first | exact EvD.str | exact EvD.int | exact EvA.nil | exact EvD.neg | (apply EvA.cons; (focus one_sign); one_sign) | (apply EvD.tup; (focus one_sign); (first | decide | (simp only [List.length_append, List.length_cons, List.length_nil]; omega))) | (apply EvD.var; (focus rfl); kp_flats) | (apply EvL.var; (focus rfl); (focus lcg_sub); assumption) | (apply EvL.lst; (focus one_sign); (first | decide | (simp only [List.length_append, List.length_cons, List.length_nil]; omega))) | (apply EvL.cat; (focus one_sign); (focus one_sign); (first | decide | (simp only [List.length_append, List.length_cons, List.length_nil]; omega))) | (apply EvD.tupOf; one_sign) | (apply EvD.rep; (focus one_sign); (focus simp); (focus decide); (focus decide); decide) | (apply EvL.rep; (focus one_sign); (focus decide); decide) | (apply EvD.adds; (focus one_sign); (focus one_sign); decide +kernel) | exact EvD.non | exact EvD.bl | (apply EvD.ofL; one_sign))
/-- one step, but not into a new list, a new tuple -/
local macro_rules | `(tactic| k_asm) => `(tactic| (fail_if_success (with_reducible show tLst _ _ _ _)); (fail_if_success (with_reducible show tTup _ _ _ _)); (fail_if_success (with_reducible show tOp rCat _ _ _ _ _)); lcg_off)
namespace TD
open PySem PySem.Spec L2 PySem.Calls PySem.TDX
open PyProof.Rows hiding St
section
variable {K : PySem.W.Frag} {vs : List V} {H : Hp} {Q : VK} {E : XK}
theorem atI_mem {xs : List V} {r : Int} (h0 : 0 ≤ r) (h1 : r < xs.length) : ∃ y, y ∈ xs ∧ atI xs r = some y := by
  have : r.toNat < xs.length := by omega
  refine ⟨xs[r.toNat], List.getElem_mem this, ?_⟩
  have := atI_nat (List.getElem?_eq_getElem this)
  rwa [Int.toNat_of_nonneg h0] at this
theorem pure_l_of (h : spOf K vs H Q E) : t_l_of K (spPull K) { nx := fun _ H' => Q .non H', rt := Q } (start ns_l_of vs) H := by
  obtain ⟨b, L, x, G, rfl, B, h⟩ := h
  unfold t_l_of
  rcases h with ⟨p, xs, rfl, hs, hne, hl, q⟩ | ⟨z, rfl, hne, hl, q⟩
  · have hs' : SqL K H p xs ∨ SqT K H p xs := hs.imp B.sq B.sqT
    have lp : 0 < xs.length := by cases xs with | nil => exact absurd rfl hne | cons => simp
    repeat lcg_off
    refine .inl ⟨p, xs, rfl, hs', ?_⟩
    repeat lcg_off
    refine ⟨b, _, _, G, rfl, B, by omega, by omega, fun r H' r0 r1 B' => ?_⟩
    obtain ⟨y, hy, ea⟩ := atI_mem r0 r1
    exact .inl (c_ix (hs.elim (fun h => .inl ⟨B'.sq h, ea⟩) fun h => .inr ⟨B'.sqT h, ea⟩) (q y hy H' B'))
  · have lp : 0 < z.length := by cases z with | nil => exact absurd rfl hne | cons => simp
    repeat lcg_off
    refine .inr (c_lenS (le_line hl) ?_)
    repeat lcg_off
    refine ⟨b, _, _, G, rfl, B, by omega, by omega, fun r H' r0 r1 B' => ?_⟩
    obtain ⟨r, rfl⟩ := Int.eq_ofNat_of_zero_le r0
    have hr : r < z.length := by omega
    exact .inr (c_ixS (le_line hl) (List.getElem?_eq_getElem hr) (q _ (List.getElem_mem hr) H' B'))
/-- an owner's name -/
def okOwner (n : List Nat) : Prop := n = [45] ∨ (1 ≤ n.length ∧ n.length ≤ 6 ∧ ∀ c ∈ n, c ∈ lowers)
def spNames (K : PySem.W.Frag) : Sp := fun vs H Q _ => ∃ (b L : Addr) (k : Nat) (G : Hp), vs = [.ref b, .int k] ∧ BagV K H b L G ∧ k ≤ 1000 ∧
  ∀ (p : Addr) (H' G' : Hp) (ns : List (List Nat)), BagV K H' b L G' → New G G' p (.lst (ns.map fun n => .str (S n))) → ns.length = k → (∀ n ∈ ns, 1 ≤ n.length ∧ n.length ≤ 6 ∧ ∀ c ∈ n, c ∈ lowers) → Q (.ref p) H'
theorem pure_l_names (h : spNames K vs H Q E) : t_l_names K (spOf K) (spPull K) { nx := fun _ H' => Q .non H', rt := Q } (start ns_l_names vs) H := by
  obtain ⟨b, L, k, GG, rfl, BB, hk, qq⟩ := h
  unfold t_l_names
  repeat lcg_off
  intro p0 H0 N0
  obtain ⟨B, M0⟩ := BB.next N0
  have q : ∀ (p : Addr) (H' G' : Hp) (ns : List (List Nat)), BagV K H' b L G' → New (mask b H0) G' p (.lst (ns.map fun n => .str (S n))) → ns.length = k → (∀ n ∈ ns, 1 ≤ n.length ∧ n.length ≤ 6 ∧ ∀ c ∈ n, c ∈ lowers) → Q (.ref p) H' := fun p H' G' ns B' N' => qq p H' G' ns B' (N'.after M0.same)
  refine c_gTup (SqT.of N0.at_) rfl ?_
  generalize mask b H0 = G at B q
  repeat lcg_off
  refine ⟨b, _, 6, G, rfl, B, by decide, by decide, fun r H1 r0 r1 B1 => ?_⟩
  obtain ⟨r, rfl⟩ := Int.eq_ofNat_of_zero_le r0
  repeat lcg_off
  refine forR r rfl (by omega) (fun i σ H' => BagV K H' b L G ∧ ∃ (z : List Nat) (x : Option V), z.length ≤ i ∧ (∀ c ∈ z, c ∈ lowers) ∧ σ = [some (.ref b), some (.int k), some (.str (S lowers)), some (.str (S z)), x, none, none, none]) ?_ ?_ ?_
  · exact ⟨B1, [], _, Nat.le_refl _, fun c h => absurd h (by simp), rfl⟩
  · rintro i σ H2 hi ⟨B2, z, x, hz, hc, rfl⟩
    repeat lcg_off
    refine ⟨b, _, _, G, rfl, B2, .inr ⟨lowers, rfl, by decide, by decide, fun c hc2 H3 B3 => ?_⟩⟩
    refine c_adds (by rw [S_len, S_len]; exact le_line (by simp; omega)) ?_
    repeat lcg_off
    refine ⟨B3, z ++ [c], _, by simp; omega, fun d hd => ?_, by rw [S_cat]; rfl⟩
    rcases List.mem_append.mp hd with h | h
    · exact hc d h
    · rw [List.mem_singleton.mp h]; exact hc2
  · rintro σ H2 ⟨B2, z, x, hz, hc, rfl⟩
    repeat lcg_off
    refine c_lenS (le_line (by omega)) ?_
    repeat lcg_off
    refine ⟨b, _, _, G, rfl, B2, by omega, by omega, fun s H3 s0 s1 B3 => ?_⟩
    obtain ⟨s, rfl⟩ := Int.eq_ofNat_of_zero_le s0
    repeat lcg_off
    refine ⟨b, _, _, G, rfl, B3, by omega, by omega, fun f H4 f0 f1 B4 => ?_⟩
    obtain ⟨f, rfl⟩ := Int.eq_ofNat_of_zero_le f0
    repeat lcg_off
    intro p5 H5 N5
    obtain ⟨B5, N5'⟩ := B4.next N5
    repeat lcg_off
    refine ⟨b, _, _, _, rfl, B5, .inl ⟨p5, _, rfl, .inl (SqL.of N5'.at_), by simp, by simp, fun y hy H6 B6 => ?_⟩⟩
    obtain ⟨st, rfl, st0, st1⟩ : ∃ st : Nat, y = .int st ∧ 1 ≤ st ∧ st ≤ 9 := by
      simp only [List.mem_cons, List.mem_nil_iff, or_false] at hy
      rcases hy with rfl | rfl | rfl | rfl | rfl
      · exact ⟨1, rfl, by decide, by decide⟩
      · exact ⟨3, rfl, by decide, by decide⟩
      · exact ⟨5, rfl, by decide, by decide⟩
      · exact ⟨7, rfl, by decide, by decide⟩
      · exact ⟨9, rfl, by decide, by decide⟩
    repeat lcg_off
    intro p6 H66 N66
    obtain ⟨B66, M66⟩ := B6.next N66
    refine c_gTup (SqT.of N66.at_) rfl ?_
    repeat lcg_off
    refine ⟨_, rfl, by omega, by omega, ?_⟩
    rw [Int.toNat_natCast]
    refine lcR1 (fun i => .str (S (z.take s ++ [lowers.getD ((f + st * i) % 26) 0] ++ z.drop s))) (le_line (by omega)) (fun x => rfl) (fun i H7 Q7 hi s7 q7 => ?_) (fun p H7 N7 => ?_)
    · repeat lcg_off
      refine c_slS (by rw [S_len]; exact le_line (by omega)) ?_
      rw [cut_to]
      repeat lcg_off
      have hm : (f + st * i) % 26 < 26 := Nat.mod_lt _ (by decide)
      refine c_IC (.inl ⟨by omega, by omega⟩) ?_
      repeat lcg_off
      rw [show ((f : Int) + (st : Int) * (i : Int)) % 26 = (((f + st * i) % 26 : Nat) : Int) by push_cast; rfl]
      refine c_ixS (le_line (by decide)) (List.getElem?_eq_getElem (show (f + st * i) % 26 < lowers.length from hm)) ?_
      repeat lcg_off
      refine c_adds (by rw [S_len, S_len]; exact le_line (by simp; omega)) ?_
      repeat lcg_off
      refine c_slS (by rw [S_len]; exact le_line (by omega)) ?_
      rw [cut_from]
      refine c_adds (by rw [S_cat, S_len, S_len]; exact le_line (by simp; omega)) ?_
      rw [S_cat, S_cat]
      have eg : lowers.getD ((f + st * i) % 26) 0 = lowers[(f + st * i) % 26]'hm := by simp [List.getD, List.getElem?_eq_getElem (show (f + st * i) % 26 < lowers.length from hm)]
      rw [← eg]
      exact q7 _ (fun _ _ h => h)
    · obtain ⟨B7, N7'⟩ := B66.next N7
      have e7 : ((List.range k).map fun i => V.str (S (z.take s ++ [lowers.getD ((f + st * i) % 26) 0] ++ z.drop s))) = ((List.range k).map fun i => z.take s ++ [lowers.getD ((f + st * i) % 26) 0] ++ z.drop s).map fun n => V.str (S n) := by rw [List.map_map]; rfl
      rw [e7] at N7'
      refine q p H7 _ _ B7 (N7'.after (N5'.same.trans M66.same)) (by simp) (fun n hn => ?_)
      obtain ⟨i, -, rfl⟩ := List.mem_map.mp hn
      have hm : (f + st * i) % 26 < lowers.length := Nat.mod_lt _ (by decide)
      refine ⟨by simp only [List.length_append, List.length_cons, List.length_nil]; omega, ?_, fun c hc2 => ?_⟩
      · simp only [List.length_append, List.length_take, List.length_drop, List.length_cons, List.length_nil]; omega
      · rcases List.mem_append.mp hc2 with h | h
        · rcases List.mem_append.mp h with h | h
          · exact hc c (List.mem_of_mem_take h)
          · rw [List.mem_singleton.mp h]
            simp only [List.getD, List.getElem?_eq_getElem hm, Option.getD_some]
            exact List.getElem_mem hm
        · exact hc c (List.mem_of_mem_drop h)
/-- a list of owners' names, at p -/
def spOwners (K : PySem.W.Frag) : Sp := fun vs H Q _ => ∃ (b L : Addr) (G : Hp), vs = [.ref b] ∧ BagV K H b L G ∧
  ∀ (p : Addr) (H' G' : Hp) (ns : List (List Nat)), BagV K H' b L G' → New G G' p (.lst (ns.map fun n => .str (S n))) → 2 ≤ ns.length → ns.length ≤ 4 → (∀ n ∈ ns, okOwner n) → Q (.ref p) H'
theorem pure_l_owners (h : spOwners K vs H Q E) : t_l_owners K (spNames K) (spOf K) (spPull K) { nx := fun _ H' => Q .non H', rt := Q } (start ns_l_owners vs) H := by
  obtain ⟨b, L, G, rfl, B, q⟩ := h
  unfold t_l_owners
  repeat lcg_off
  intro p1 H1 N1
  obtain ⟨B1, M1⟩ := B.next N1
  repeat lcg_off
  intro p2 H2 N2
  obtain ⟨B2, M2⟩ := B1.next N2
  repeat lcg_off
  intro p3 H3 N3
  obtain ⟨B3, M3⟩ := B2.next N3
  have s3 : Same G (mask b H3) := M1.same.trans (M2.same.trans M3.same)
  repeat lcg_off
  refine ⟨b, _, _, _, rfl, B3, .inl ⟨p3, _, rfl, .inl (SqL.of M3.at_), by simp, by simp, fun y hy H4 B4 => ?_⟩⟩
  obtain ⟨l, n0, rfl, e4, hn0, hl0⟩ : ∃ (l : Addr) (n0 : List (List Nat)), y = .ref l ∧ mask b H3 l = some (.lst (n0.map fun n => .str (S n))) ∧ (∀ n ∈ n0, okOwner n) ∧ n0.length ≤ 1 := by
    simp only [List.mem_cons, List.mem_nil_iff, or_false] at hy
    rcases hy with rfl | rfl
    · exact ⟨p1, [[45]], rfl, M3.same _ _ (M2.same _ _ M1.at_), fun n h => .inl (List.mem_singleton.mp h), by simp⟩
    · exact ⟨p2, [], rfl, M3.same _ _ M2.at_, fun n h => absurd h (by simp), by simp⟩
  repeat lcg_off
  refine ⟨b, _, _, _, rfl, B4, by decide, by decide, fun r H5 r0 r1 B5 => ?_⟩
  obtain ⟨r, rfl⟩ := Int.eq_ofNat_of_zero_le r0
  repeat lcg_off
  rw [show (2 : Int) + (r : Int) = ((2 + r : Nat) : Int) by push_cast; rfl]
  refine ⟨b, _, 2 + r, _, rfl, B5, by omega, fun p6 H6 G6 ns B6 M6 hl hn => ?_⟩
  refine c_cat (B6.at (M6.same _ _ e4)) (B6.at M6.at_) (le_line (by simp; omega)) fun p7 H7 N7 => ?_
  obtain ⟨B7, M7⟩ := B6.next N7
  rw [← List.map_append] at M7
  refine q p7 H7 _ (n0 ++ ns) B7 (M7.after (s3.trans M6.same)) (by simp; omega) (by simp; omega) fun n h => ?_
  rcases List.mem_append.mp h with h | h
  · exact hn0 n h
  · exact .inr (hn n h)
end
mutual
/-- a tree of d levels at most, of rows of 2 to w, over names with P -/
def Tr.fits (P : List Nat → Prop) (w : Nat) : Nat → Tr → Prop
  | _, .leaf n => P n
  | d, .node ts => 1 ≤ d ∧ 2 ≤ ts.length ∧ ts.length ≤ w ∧ Tr.fitsAll P w (d - 1) ts
def Tr.fitsAll (P : List Nat → Prop) (w : Nat) : Nat → List Tr → Prop
  | _, [] => True
  | d, t :: r => Tr.fits P w d t ∧ Tr.fitsAll P w d r
end
theorem fitsAll_of {P : List Nat → Prop} {w d : Nat} : ∀ {ts : List Tr}, (∀ t ∈ ts, Tr.fits P w d t) → Tr.fitsAll P w d ts
  | [], _ => True.intro
  | t :: r, h => ⟨h t List.mem_cons_self, fitsAll_of fun s m => h s (List.mem_cons_of_mem _ m)⟩
theorem fitsAll_mem {P : List Nat → Prop} {w d : Nat} : ∀ {ts : List Tr} {t : Tr}, Tr.fitsAll P w d ts → t ∈ ts → Tr.fits P w d t
  | s :: r, t, h, m => by
    rcases List.mem_cons.mp m with e | e
    · exact e ▸ h.1
    · exact fitsAll_mem h.2 e
/-- _law_tree -/
def spLTree (K : PySem.W.Frag) (n : Nat) : Sp := fun vs H Q _ => ∃ (b L p : Addr) (w : Nat) (G : Hp) (ns : List (List Nat)) (d : Nat), d ≤ n ∧ vs = [.ref b, .ref p, .int d, .int w] ∧ BagV K H b L G ∧ G p = some (.lst (ns.map fun n => .str (S n))) ∧ ns ≠ [] ∧ ns.length ≤ 100000 ∧ 2 ≤ w ∧ w ≤ 1000 ∧
  ∀ (t : Tr) (v : V) (H' G' : Hp), BagV K H' b L G' → Same G G' → Dp K G' v t.data → t.fits (· ∈ ns) w d → Q v H'
theorem pure_l_tree {K : PySem.W.Frag} {n : Nat} {vs : List V} {H : Hp} {Q : VK} {E : XK} (h : spLTree K n vs H Q E) : t_l_tree K (spOf K) (spPull K) (spP (spLTree K) n) { nx := fun _ H' => Q .non H', rt := Q } (start ns_l_tree vs) H := by
  obtain ⟨b, L, p, w, G, ns, d, hdn, rfl, B, hp, hne, hl, w2, w3, q⟩ := h
  unfold t_l_tree
  have leaf : ∀ H1, BagV K H1 b L G → spOf K ([.ref b, .ref p] ++ []) H1 Q E0 := fun H1 B1 => by
    refine ⟨b, _, _, G, rfl, B1, .inl ⟨p, _, rfl, .inl (SqL.of hp), by simpa using hne, by simpa using hl, fun y hy H2 B2 => ?_⟩⟩
    obtain ⟨n, hn, rfl⟩ := List.mem_map.mp hy
    exact q (.leaf n) _ H2 G B2 (fun _ _ h => h) (Tr.data.eq_1 n ▸ .str _) hn
  repeat lcg_off
  refine ite_d (fun c => ?_) (fun c => ?_)
  · refine ite_t ?_
    repeat lcg_off
    exact leaf H B
  have hd : d ≠ 0 := fun h => c (by rw [h]; rfl)
  repeat lcg_off
  refine ⟨b, _, _, G, rfl, B, by decide, by decide, fun r H1 r0 r1 B1 => ?_⟩
  repeat lcg_off
  refine ite_d (fun c => ?_) (fun c => ?_)
  · repeat lcg_off
    exact leaf H1 B1
  repeat lcg_off
  refine ⟨b, _, _, G, rfl, B1, by omega, by omega, fun r H2 r0 r1 B2 => ?_⟩
  obtain ⟨r, rfl⟩ := Int.eq_ofNat_of_zero_le r0
  repeat lcg_off
  refine ⟨_, rfl, by omega, by omega, ?_⟩
  rw [show ((2 : Int) + (r : Int)).toNat = 2 + r by omega]
  obtain ⟨d, rfl⟩ : ∃ k, d = k + 1 := ⟨d - 1, by omega⟩
  cases n with
  | zero => omega
  | succ n =>
  refine lcB B2 (fun _ y H => ∃ t : Tr, t.fits (· ∈ ns) w d ∧ Dp K H y t.data) (fun _ _ _ _ s ⟨t, h1, h2⟩ => ⟨t, h1, dp_same s h2⟩) (le_line (by omega)) (fun x => rfl) (fun i D acc H3 G3 Q3 hi B3 s3 aD q3 => ?_) (fun D H3 G3 ys B3 N3 hys hR => ?_)
  · repeat lcg_off
    rw [show ((d + 1 : Nat) : Int) - 1 = (d : Int) by push_cast; omega]
    refine ⟨b, L, p, w, G3, ns, d, by omega, rfl, B3, s3 _ _ hp, hne, hl, w2, w3, fun t v H4 G4 B4 s4 d4 f4 => ?_⟩
    exact q3 v H4 G4 B4 s4 ⟨t, f4, dp_mask_lst (xs := acc) (s4 _ _ aD) t v d4⟩
  · repeat lcg_off
    obtain ⟨ts, ha, hts, hf⟩ := collect hR
    refine c_tupL (SqL.of (B3.at N3.at_)) fun p4 H4 N4 => ?_
    obtain ⟨B4, N4'⟩ := B3.next N4
    refine q (.node ts) _ H4 _ B4 (N3.same.trans N4'.same) ?_ ?_
    · rw [Tr.data, Tr.dataAll_map]
      exact .tup (.inl (.inl N4'.at_)) (dpAll_same (mask_same.trans N4'.same) ha)
    · exact ⟨by omega, by omega, by omega, fitsAll_of hf⟩
abbrev drawnPairs : List (Nat × Nat) := [(2, 8), (3, 4), (6, 2), (3, 3), (1, 60), (2, 3)]
/-- _law_drawn -/
def spDrawn (K : PySem.W.Frag) : Sp := fun vs H Q _ => ∃ (b L p : Addr) (G : Hp) (ns : List (List Nat)), vs = [.ref b, .ref p] ∧ BagV K H b L G ∧ G p = some (.lst (ns.map fun n => .str (S n))) ∧ ns ≠ [] ∧ ns.length ≤ 100000 ∧
  ∀ (t : Tr) (v : V) (H' G' : Hp) (d w : Nat), (d, w) ∈ drawnPairs → BagV K H' b L G' → Same G G' → Dp K G' v t.data → t.fits (· ∈ ns) w d → Q v H'
theorem pure_l_drawn {K : PySem.W.Frag} {vs : List V} {H : Hp} {Q : VK} {E : XK} (h : spDrawn K vs H Q E) : t_l_drawn K (spOf K) (spLTree K 6) { nx := fun _ H' => Q .non H', rt := Q } (start ns_l_drawn vs) H := by
  obtain ⟨b, L, p, G, ns, rfl, B, hp, hne, hl, q⟩ := h
  unfold t_l_drawn
  repeat lcg_off
  intro p1 H1 N1
  obtain ⟨B1, M1⟩ := B.next N1
  repeat lcg_off
  intro p2 H2 N2
  obtain ⟨B2, M2⟩ := B1.next N2
  repeat lcg_off
  intro p3 H3 N3
  obtain ⟨B3, M3⟩ := B2.next N3
  repeat lcg_off
  intro p4 H4 N4
  obtain ⟨B4, M4⟩ := B3.next N4
  repeat lcg_off
  intro p5 H5 N5
  obtain ⟨B5, M5⟩ := B4.next N5
  repeat lcg_off
  intro p6 H6 N6
  obtain ⟨B6, M6⟩ := B5.next N6
  repeat lcg_off
  intro p7 H7 N7
  obtain ⟨B7, M7⟩ := B6.next N7
  repeat lcg_off
  have s56 : Same (mask b H5) (mask b H7) := M6.same.trans M7.same
  have s46 : Same (mask b H4) (mask b H7) := M5.same.trans s56
  have s36 : Same (mask b H3) (mask b H7) := M4.same.trans s46
  have s26 : Same (mask b H2) (mask b H7) := M3.same.trans s36
  have s16 : Same (mask b H1) (mask b H7) := M2.same.trans s26
  have sG : Same G (mask b H7) := M1.same.trans s16
  refine ⟨b, _, _, _, rfl, B7, .inl ⟨p7, _, rfl, .inl (SqL.of M7.at_), by simp, by simp, fun y hy H8 B8 => ?_⟩⟩
  obtain ⟨l, d, w, rfl, hl2, hdw, hd6, hw2, hw3⟩ : ∃ (l : Addr) (d w : Nat), y = .ref l ∧ mask b H7 l = some (.tup [.int d, .int w]) ∧ (d, w) ∈ drawnPairs ∧ d ≤ 6 ∧ 2 ≤ w ∧ w ≤ 1000 := by
    simp only [List.mem_cons, List.mem_nil_iff, or_false] at hy
    rcases hy with rfl | rfl | rfl | rfl | rfl | rfl
    · exact ⟨p1, 2, 8, rfl, s16 _ _ M1.at_, by decide, by decide, by decide, by decide⟩
    · exact ⟨p2, 3, 4, rfl, s26 _ _ M2.at_, by decide, by decide, by decide, by decide⟩
    · exact ⟨p3, 6, 2, rfl, s36 _ _ M3.at_, by decide, by decide, by decide, by decide⟩
    · exact ⟨p4, 3, 3, rfl, s46 _ _ M4.at_, by decide, by decide, by decide, by decide⟩
    · exact ⟨p5, 1, 60, rfl, s56 _ _ M5.at_, by decide, by decide, by decide, by decide⟩
    · exact ⟨p6, 2, 3, rfl, M7.same _ _ M6.at_, by decide, by decide, by decide, by decide⟩
  refine c_gTup (SqT.of (B8.at hl2)) rfl ?_
  repeat lcg_off
  exact ⟨b, L, p, w, _, ns, d, hd6, rfl, B8, sG _ _ hp, hne, hl, hw2, hw3, fun t v H' G' B' s' d' f' => q t v H' G' d w hdw B' (sG.trans s') d' f'⟩
end TD

end
section
open TD L2
/-- what stands at an address -/
local macro_rules | `(tactic| lcg_sub) => `(tactic| first | assumption | exact upd_same | exact New.at_ (by assumption) | (refine New.same (by assumption) _ _ ?_; lcg_sub) | (refine (show Same _ _ from by assumption) _ _ ?_; lcg_sub) | (refine Eq.trans (upd_ne (by first | assumption | exact Ne.symm (by assumption))) ?_; lcg_sub))
/-- a list, a tuple to be read -/
local macro_rules | `(tactic| lcg_src) => `(tactic| first | assumption | exact SqL.of (by lcg_sub) | exact SqT.of (by lcg_sub) | (refine Same.seq (New.same (by assumption)) ?_; lcg_src) | (refine Same.seq (by assumption) ?_; lcg_src) | (refine sameT (New.same (by assumption)) ?_; lcg_src) | (refine sameT (by assumption) ?_; lcg_src))
/-- data at a value -/
local macro_rules | `(tactic| kp_flats) => `(tactic| first | assumption | exact Dp.str _ | exact Dp.int _ | exact Dp.non | exact Dp.bl _ | (refine dp_same (New.same (by assumption)) ?_; kp_flats) | (refine dp_same (by assumption) ?_; kp_flats))
/-- one step of a reading -/
local macro_rules | `(tactic| lcg_off) => `(tactic| first
  | with_reducible refine Stp.go ?_
  | ((with_reducible show tVar _ _ _ _); refine c_var (by rfl) ?_)
  | ((with_reducible show rIxL _ _ _ _ _); refine c_ixL (by lcg_src) (by rfl) ?_)
  | ((with_reducible show rIxT _ _ _ _ _); refine c_ixT (by lcg_src) (by rfl) ?_)
  | ((with_reducible show rSetL _ _ _ _ _); refine c_setL (by lcg_sub) (by rfl) ?_)
  | ((with_reducible show rLenQ _ _ _ _); first | (refine c_lenL (by lcg_src) ?_) | (refine c_lenT (by lcg_src) ?_))
  | ((with_reducible show rSlL _ _ _ _ _ _); refine c_slL (by lcg_src) ?_)
  | ((with_reducible show rListQ _ _ _ _); first | (refine c_listL (by lcg_src) ?_) | (refine c_listT (by lcg_src) ?_))
  | ((with_reducible show rI _ _ _ _ _ _); refine c_IC (by first | assumption | decide | omega) ?_)
  | ((with_reducible show rIsi _ _ _ _); refine c_isi (by kp_flats) (by first | assumption | decide +kernel) ?_)
  | ((with_reducible show rIx _ _ _ _ _); refine c_ix (by first | exact .inl ⟨by lcg_src, by first | assumption | rfl⟩ | exact .inr ⟨by lcg_src, by first | assumption | rfl⟩) ?_)
  | ((with_reducible show NewW _ _ _ _); refine newW ?_)
  | ((with_reducible show rCat _ _ _ _); refine c_cat (by lcg_sub) (by lcg_sub) (le_line (by first | decide | (simp only [List.length_append, List.length_cons, List.length_nil]; omega))) ?_)
  | ((with_reducible show aAddS _ _ _ _); refine c_adds (le_line (by first | decide +kernel | assumption)) ?_)
  | ((with_reducible show rIn _ false _ _ _ _); refine c_inL (by lcg_src) (by rfl) (by rfl) ?_)
  | ((with_reducible show rIn _ true _ _ _ _); refine c_niL (by lcg_src) (by rfl) (by rfl) ?_))
/-- one step, with the new object's names -/
local macro_rules | `(tactic| k_offL) => `(tactic| first | lcg_off | ((with_reducible show ∀ _ _, New _ _ _ _ → _); intro _ _ _))
/-- an error that is held -/
local macro_rules | `(tactic| one_item) => `(tactic| first | assumption | (refine ErrV.same ?_ (New.same (by assumption)); one_item) | (refine ErrV.same ?_ (by assumption); one_item))
/-- nothing was changed -/
local macro_rules | `(tactic| one_place) => `(tactic| first | assumption | exact fun _ _ h => h | exact New.same (by assumption) | (refine Same.trans ?_ (New.same (by assumption)); one_place) | (refine Same.trans ?_ (by assumption); one_place))
/-- what an expression makes, as data -/
local macro_rules | `(tactic| one_sign) => `(tactic| first | exact EvD.str | exact EvD.int | exact EvA.nil | exact EvD.neg | (apply EvA.cons; (focus one_sign); one_sign) | (apply EvD.tup; (focus one_sign); (first | decide | (simp only [List.length_append, List.length_cons, List.length_nil]; omega))) | (apply EvD.var; (focus rfl); kp_flats) | (apply EvL.var; (focus rfl); (focus lcg_sub); assumption) | (apply EvL.lst; (focus one_sign); (first | decide | (simp only [List.length_append, List.length_cons, List.length_nil]; omega))) | (apply EvL.cat; (focus one_sign); (focus one_sign); (first | decide | (simp only [List.length_append, List.length_cons, List.length_nil]; omega))) | (apply EvD.tupOf; one_sign) | (apply EvD.rep; (focus one_sign); (focus simp); (focus decide); (focus decide); decide) | (apply EvL.rep; (focus one_sign); (focus decide); decide) | (apply EvD.adds; (focus one_sign); (focus one_sign); decide +kernel) | exact EvD.non | exact EvD.bl | (apply EvD.ofL; one_sign))
/-- one step, but not into a new list, a new tuple -/
local macro_rules | `(tactic| k_asm) => `(tactic| (fail_if_success (with_reducible show tLst _ _ _ _)); (fail_if_success (with_reducible show tTup _ _ _ _)); (fail_if_success (with_reducible show tOp rCat _ _ _ _ _)); lcg_off)
namespace TD
open PySem PySem.Spec L2 PySem.Calls
open PyProof.Rows hiding St
/-! ### lists of Booleans as data -/
theorem dpAll_bools {K : PySem.W.Frag} {H : Hp} : ∀ bs : List Bool, DpAll K H (bs.map V.bl) (bs.map PyData.bool)
  | [] => .nil
  | b :: bs => .cons (.bl b) (dpAll_bools bs)
theorem likeAll_bools : ∀ bs : List Bool, likeAll (bs.map PyData.bool) (bs.map PyData.bool) = true
  | [] => by simp [likeAll]
  | b :: bs => by
    simp only [List.map_cons, likeAll, likeAll_bools bs, Bool.and_true]
    cases b <;> decide +kernel
theorem okD_bools (bs : List Bool) (h : bs.length ≤ 100000) (n : Nat) : okD (n + 1) (.list (bs.map PyData.bool)) = true := by
  simp only [okD, Bool.and_eq_true, decide_eq_true_eq, List.length_map, List.all_eq_true]
  refine ⟨h, fun x hx => ?_⟩
  obtain ⟨b, -, rfl⟩ := List.mem_map.mp hx
  cases n <;> rfl
/-- _law_like of two lists of the same Booleans -/
theorem like_bools {K : PySem.W.Frag} {H : Hp} {Q : VK} {E : XK} {n : Nat} {p r : Addr} {xs ys : List V} (bs : List Bool) (hl : bs.length ≤ 100000) (hx : xs = bs.map V.bl) (hy : ys = bs.map V.bl) (h1 : H p = some (.lst xs)) (h2 : H r = some (.lst ys))
    (q : ∀ H', Same H H' → Q (.bl true) H') : spLike K (n + 1) [.ref p, .ref r] H Q E := by
  subst hx hy
  refine ⟨_, _, _, _, rfl, .lst (SqL.of h1) (dpAll_bools bs), .lst (SqL.of h2) (dpAll_bools bs), okD_bools bs hl n, okD_bools bs hl n, ?_⟩
  rw [likeD, likeAll_bools]; exact q
end TD

end
section
open TD L2
/-- what stands at an address -/
local macro_rules | `(tactic| lcg_sub) => `(tactic| first | assumption | exact upd_same | exact New.at_ (by assumption) | (refine New.same (by assumption) _ _ ?_; lcg_sub) | (refine (show Same _ _ from by assumption) _ _ ?_; lcg_sub) | (refine Eq.trans (upd_ne (by first | assumption | exact Ne.symm (by assumption))) ?_; lcg_sub))
/-- a list, a tuple to be read -/
local macro_rules | `(tactic| lcg_src) => `(tactic| first | assumption | exact SqL.of (by lcg_sub) | exact SqT.of (by lcg_sub) | (refine Same.seq (New.same (by assumption)) ?_; lcg_src) | (refine Same.seq (by assumption) ?_; lcg_src) | (refine sameT (New.same (by assumption)) ?_; lcg_src) | (refine sameT (by assumption) ?_; lcg_src))
/-- data at a value -/
local macro_rules | `(tactic| kp_flats) => `(tactic| first | assumption | exact Dp.str _ | exact Dp.int _ | exact Dp.non | exact Dp.bl _ | (refine dp_same (New.same (by assumption)) ?_; kp_flats) | (refine dp_same (by assumption) ?_; kp_flats))
/-- one step of a reading -/
local macro_rules | `(tactic| lcg_off) => `(tactic| first
  | with_reducible refine Stp.go ?_
  | ((with_reducible show tVar _ _ _ _); refine c_var (by rfl) ?_)
  | ((with_reducible show rIxL _ _ _ _ _); refine c_ixL (by lcg_src) (by rfl) ?_)
  | ((with_reducible show rIxT _ _ _ _ _); refine c_ixT (by lcg_src) (by rfl) ?_)
  | ((with_reducible show rSetL _ _ _ _ _); refine c_setL (by lcg_sub) (by rfl) ?_)
  | ((with_reducible show rLenQ _ _ _ _); first | (refine c_lenL (by lcg_src) ?_) | (refine c_lenT (by lcg_src) ?_))
  | ((with_reducible show rSlL _ _ _ _ _ _); refine c_slL (by lcg_src) ?_)
  | ((with_reducible show rListQ _ _ _ _); first | (refine c_listL (by lcg_src) ?_) | (refine c_listT (by lcg_src) ?_))
  | ((with_reducible show rI _ _ _ _ _ _); refine c_IC (by first | assumption | decide | omega) ?_)
  | ((with_reducible show rIsi _ _ _ _); refine c_isi (by kp_flats) (by first | assumption | decide +kernel) ?_)
  | ((with_reducible show rIx _ _ _ _ _); refine c_ix (by first | exact .inl ⟨by lcg_src, by first | assumption | rfl⟩ | exact .inr ⟨by lcg_src, by first | assumption | rfl⟩) ?_)
  | ((with_reducible show NewW _ _ _ _); refine newW ?_)
  | ((with_reducible show rCat _ _ _ _); refine c_cat (by lcg_sub) (by lcg_sub) (le_line (by first | decide | (simp only [List.length_append, List.length_cons, List.length_nil]; omega))) ?_)
  | ((with_reducible show aAddS _ _ _ _); refine c_adds (le_line (by first | decide +kernel | assumption)) ?_)
  | ((with_reducible show rIn _ false _ _ _ _); refine c_inL (by lcg_src) (by rfl) (by rfl) ?_)
  | ((with_reducible show rIn _ true _ _ _ _); refine c_niL (by lcg_src) (by rfl) (by rfl) ?_))
/-- one step, with the new object's names -/
local macro_rules | `(tactic| k_offL) => `(tactic| first | lcg_off | ((with_reducible show ∀ _ _, New _ _ _ _ → _); intro _ _ _))
/-- an error that is held -/
local macro_rules | `(tactic| one_item) => `(tactic| first | assumption | (refine ErrV.same ?_ (New.same (by assumption)); one_item) | (refine ErrV.same ?_ (by assumption); one_item))
/-- nothing was changed -/
local macro_rules | `(tactic| one_place) => `(tactic| first | assumption | exact fun _ _ h => h | exact New.same (by assumption) | (refine Same.trans ?_ (New.same (by assumption)); one_place) | (refine Same.trans ?_ (by assumption); one_place))
/-- what an expression makes, as data -/
local macro_rules | `(tactic| one_sign) => `(tactic| first | exact EvD.str | exact EvD.int | exact EvA.nil | exact EvD.neg | (apply EvA.cons; (focus one_sign); one_sign) | (apply EvD.tup; (focus one_sign); (first | decide | (simp only [List.length_append, List.length_cons, List.length_nil]; omega))) | (apply EvD.var; (focus rfl); kp_flats) | (apply EvL.var; (focus rfl); (focus lcg_sub); assumption) | (apply EvL.lst; (focus one_sign); (first | decide | (simp only [List.length_append, List.length_cons, List.length_nil]; omega))) | (apply EvL.cat; (focus one_sign); (focus one_sign); (first | decide | (simp only [List.length_append, List.length_cons, List.length_nil]; omega))) | (apply EvD.tupOf; one_sign) | (apply EvD.rep; (focus one_sign); (focus simp); (focus decide); (focus decide); decide) | (apply EvL.rep; (focus one_sign); (focus decide); decide) | (apply EvD.adds; (focus one_sign); (focus one_sign); decide +kernel) | exact EvD.non | exact EvD.bl | (apply EvD.ofL; one_sign))
/-- one step, but not into a new list, a new tuple -/
local macro_rules | `(tactic| k_asm) => `(tactic| (fail_if_success (with_reducible show tLst _ _ _ _)); (fail_if_success (with_reducible show tTup _ _ _ _)); (fail_if_success (with_reducible show tOp rCat _ _ _ _ _)); lcg_off)
namespace TD
open PySem PySem.Spec L2 PySem.Calls PySem.TDX
open PyProof.Rows hiding St
section
variable {K : PySem.W.Frag} {n : Nat} {vs : List V} {H : Hp} {Q : VK} {E : XK}
theorem pure_l_levels (h : spLev K n vs H Q E) : t_l_levels K (spP (spLev K) n) { nx := fun _ H' => Q .non H', rt := Q } (start ns_l_levels vs) H := by
  obtain ⟨v, t, rfl, hd, hn, ho, q⟩ := h
  unfold t_l_levels
  cases t with
  | leaf l =>
    have k := ty_leafT (n := l)
    repeat lcg_off
    refine ite_f ?_
    repeat lcg_off
    exact q _ (fun _ _ h => h)
  | node ts =>
    have k := ty_nodeT (ts := ts)
    obtain ⟨p, xs, rfl, hs, ha⟩ := dp_node hd
    obtain ⟨h2, h3, h4⟩ := Tr.okB_node ho
    have hl := dpAll_len ha
    rw [Tr.dataAll_len] at hl
    cases n with
    | zero => rw [Tr.lev] at hn; omega
    | succ n =>
    repeat lcg_off
    refine ite_t ?_
    repeat lcg_off
    refine ⟨_, rfl, ⟨_, hs⟩, ?_⟩
    refine lcTy hs (ts.map fun t => .int t.lev) (by rw [List.length_map]; omega) (le_line (by omega)) (fun x => rfl) (fun i x y H2 Q2 hx hy s2 q2 => ?_) (fun D H2 N2 => ?_)
    · obtain ⟨t, ht, dt⟩ := dp_tr_at ha hx
      rw [List.getElem?_map, ht] at hy
      cases hy
      have hm := List.mem_of_getElem? ht
      repeat lcg_off
      exact ⟨_, t, rfl, dp_same s2 dt, lev_node hn hm, h4 t hm, q2⟩
    · repeat lcg_off
      refine ⟨D, ts.map fun t => (t.lev : Int), rfl, by rw [List.map_map]; exact SqL.of N2.at_, by rw [List.length_map]; omega, fun m hm ge => ?_⟩
      obtain ⟨u, hu, eu⟩ := Tr.levAll_mem (ts := ts) (by intro e; subst e; simp at h2)
      have g1 := ge _ (List.mem_map.mpr ⟨u, hu, rfl⟩)
      obtain ⟨t, ht, rfl⟩ := List.mem_map.mp hm
      have g2 := Tr.lev_le ht
      repeat lcg_off
      have : (1 : Int) + t.lev = ((Tr.node ts).lev : Nat) := by rw [Tr.lev]; omega
      rw [this]; exact q _ N2.same
theorem pure_l_tree_text (h : spFmt K n vs H Q E) : t_l_tree_text K (spP (spFmt K) n) { nx := fun _ H' => Q .non H', rt := Q } (start ns_l_tree_text vs) H := by
  obtain ⟨v, t, rfl, hd, hn, ho, he, q⟩ := h
  unfold t_l_tree_text
  cases t with
  | leaf l =>
    have k := ty_leafT (n := l)
    obtain rfl := dp_leaf hd
    repeat lcg_off
    refine ite_f ?_
    repeat lcg_off
    exact q _ (fun _ _ h => h)
  | node ts =>
    have k := ty_nodeT (ts := ts)
    obtain ⟨p, xs, rfl, hs, ha⟩ := dp_node hd
    obtain ⟨h2, h3, h4⟩ := Tr.okB_node ho
    have hl := dpAll_len ha
    rw [Tr.dataAll_len] at hl
    have tl := Tr.text_len _ ho
    have tj : (Tr.node ts).text.length = (TL.joinL [32] (Tr.textAll ts)).length + 2 := by rw [Tr.text]; simp
    have jl := Tr.joinL_len (Tr.textAll ts) (by cases ts with | nil => simp at h2 | cons a r => simp [Tr.textAll])
    rw [sum_le_join] at jl
    cases n with
    | zero => rw [Tr.lev] at hn; omega
    | succ n =>
    repeat lcg_off
    refine ite_t ?_
    repeat lcg_off
    refine ⟨_, rfl, ⟨_, hs⟩, ?_⟩
    refine lcTy hs (ts.map fun t => .str (S t.text)) (by rw [List.length_map]; omega) (le_line (by omega)) (fun x => rfl) (fun i x y H2 Q2 hx hy s2 q2 => ?_) (fun D H2 N2 => ?_)
    · obtain ⟨t, ht, dt⟩ := dp_tr_at ha hx
      rw [List.getElem?_map, ht] at hy
      cases hy
      have hm := List.mem_of_getElem? ht
      have e1 := ends_mem hm
      rw [Tr.ends] at he
      repeat lcg_off
      exact ⟨_, t, rfl, dp_same s2 dt, lev_node hn hm, h4 t hm, by omega, q2⟩
    · have eD : (ts.map fun t => V.str (S t.text)) = ((Tr.textAll ts).map S).map V.str := by rw [Tr.textAll_map, List.map_map, List.map_map]; rfl
      rw [eD] at N2
      refine c_join ((Tr.textAll ts).map S) (.inl (SqL.of N2.at_)) ?_ ?_
      · have e1 : (((Tr.textAll ts).map S).map (·.length)).sum = ((Tr.textAll ts).map fun y => y.length).sum := by rw [List.map_map]; exact congrArg List.sum (List.map_congr_left fun y _ => S_len y)
        have e2 : ((Tr.textAll ts).map S).length = ts.length := by rw [List.length_map, Tr.textAll_map, List.length_map]
        rw [e1, e2, show (" " : Str).length = 1 from rfl]
        omega
      · rw [show (" " : Str) = S [32] from rfl, join_S, show ("(" : Str) = S [40] from rfl]
        refine c_adds (by rw [S_len, S_len]; exact le_line (by simp; omega)) ?_
        rw [S_cat]
        repeat lcg_off
        rw [show (")" : Str) = S [41] from rfl]
        refine c_adds (by rw [S_len, S_len]; exact le_line (by simp; omega)) ?_
        have e4 : S ([40] ++ TL.joinL [32] (Tr.textAll ts)) ++ S [41] = S (Tr.node ts).text := by rw [S_cat, Tr.text]; rfl
        rw [e4]; exact q _ N2.same
/-- _law_letters_at: how long the name is that begins there -/
def spLetters (K : PySem.W.Frag) : Sp := fun vs H Q _ => ∃ (z : List Nat) (i : Nat), vs = [.str (S z), .int i, .str (S lowers), .int 6] ∧ z.length ≤ 100000 ∧ Q (.int (runAt z i).length) H
theorem pure_l_letters_at (h : spLetters K vs H Q E) : t_l_letters_at K { nx := fun _ H' => Q .non H', rt := Q } (start ns_l_letters_at vs) H := by
  obtain ⟨z, i, rfl, hz, q⟩ := h
  unfold t_l_letters_at
  repeat lcg_off
  refine ⟨fun m σ H' => ∃ r, m = (runAt z i).length - r ∧ r ≤ (runAt z i).length ∧ σ = [some (.str (S z)), some (.int i), some (.str (S lowers)), some (.int 6), some (.int (r : Nat))] ∧ H' = H, ⟨_, 0, rfl, Nat.zero_le _, rfl, rfl⟩, ?_⟩
  rintro m σ H' ⟨r, rfl, hr, rfl, rfl⟩
  have st := run_step hr
  have stop : ¬ r < (runAt z i).length → tRet (tVar 4) { nx := fun _ H' => Q .non H', rt := Q } [some (.str (S z)), some (.int i), some (.str (S lowers)), some (.int 6), some (.int (r : Nat))] H' := fun hge => by
    have er : r = (runAt z i).length := by omega
    repeat lcg_off
    rw [er]; exact q
  repeat lcg_off
  refine ite_d (fun c1 => ?_) (fun c1 => ?_)
  · repeat lcg_off
    refine c_lenS (le_line hz) ?_
    repeat lcg_off
    refine ite_d (fun c2 => ?_) (fun c2 => ?_)
    · repeat lcg_off
      have hlt : i + r < z.length := by omega
      rw [show (i : Int) + (r : Int) = ((i + r : Nat) : Int) by push_cast; rfl]
      refine c_ixS (le_line hz) (List.getElem?_eq_getElem hlt) ?_
      repeat lcg_off
      refine c_inS ?_
      repeat lcg_off
      refine ite_d (fun c3 => ?_) (fun c3 => ?_)
      · have lt := st.mpr ⟨hlt, by omega, _, List.getElem?_eq_getElem hlt, c3⟩
        refine ⟨fun σ' H'' => σ' = [some (.str (S z)), some (.int i), some (.str (S lowers)), some (.int 6), some (.int ((r + 1 : Nat) : Int))] ∧ H'' = H', fun σ' H'' ⟨h1, h2⟩ => ⟨_, by omega, r + 1, rfl, by omega, h1, h2⟩, ?_⟩
        repeat lcg_off
        exact ⟨by push_cast; rfl, rfl⟩
      · refine stop fun lt => ?_
        obtain ⟨_, _, c, hc, hp⟩ := st.mp lt
        rw [List.getElem?_eq_getElem hlt] at hc
        exact c3 (Option.some.inj hc ▸ hp)
    · refine ite_f ?_
      refine stop fun lt => ?_
      have := (st.mp lt).1
      omega
  · refine ite_f ?_
    refine stop fun lt => ?_
    have := (st.mp lt).2.1
    omega
/-- _law_bent_text -/
def spBent (K : PySem.W.Frag) : Sp := fun vs H Q _ => ∃ (b L : Addr) (z : List Nat) (G : Hp), vs = [.ref b, .str (S z)] ∧ BagV K H b L G ∧ z.length ≤ 50000 ∧
  ∀ (z' : List Nat) (H' G' : Hp), BagV K H' b L G' → Same G G' → z'.length ≤ z.length + 6 → opens z' 0 ≤ opens z 0 + 1 → Q (.str (S z')) H'
theorem opens0 (z : List Nat) : opens z 0 = z.count 40 := rfl
theorem pure_l_bent_text (h : spBent K vs H Q E) : t_l_bent_text K (spOf K) (spPull K) { nx := fun _ H' => Q .non H', rt := Q } (start ns_l_bent_text vs) H := by
  obtain ⟨b, L, z, G, rfl, B, hz, q⟩ := h
  unfold t_l_bent_text
  repeat lcg_off
  refine c_lenS (le_line (by omega)) ?_
  repeat lcg_off
  refine ⟨b, _, _, _, rfl, B, by omega, by omega, fun r H1 r0 r1 B1 => ?_⟩
  obtain ⟨r, rfl⟩ := Int.eq_ofNat_of_zero_le r0
  repeat lcg_off
  intro p2 H2 N2
  obtain ⟨B2, M2⟩ := B1.next N2
  repeat lcg_off
  refine ⟨b, _, _, _, rfl, B2, .inl ⟨p2, _, rfl, .inl (SqL.of M2.at_), by simp, by simp, fun y hy H3 B3 => ?_⟩⟩
  obtain ⟨l, rfl, hl1, hl2⟩ : ∃ l : List Nat, y = .str (S l) ∧ l.length ≤ 6 ∧ l.count 40 ≤ 1 := by
    simp only [List.mem_cons, List.mem_nil_iff, or_false] at hy
    rcases hy with rfl | rfl | rfl | rfl | rfl | rfl | rfl | rfl | rfl | rfl | rfl | rfl | rfl | rfl | rfl
    · exact ⟨[], rfl, by decide, by decide⟩
    · exact ⟨[32], rfl, by decide, by decide⟩
    · exact ⟨[40], rfl, by decide, by decide⟩
    · exact ⟨[41], rfl, by decide, by decide⟩
    · exact ⟨[97], rfl, by decide, by decide⟩
    · exact ⟨[45], rfl, by decide, by decide⟩
    · exact ⟨[65], rfl, by decide, by decide⟩
    · exact ⟨[48], rfl, by decide, by decide⟩
    · exact ⟨[44], rfl, by decide, by decide⟩
    · exact ⟨[91], rfl, by decide, by decide⟩
    · exact ⟨[93], rfl, by decide, by decide⟩
    · exact ⟨[44, 32], rfl, by decide, by decide⟩
    · exact ⟨[57], rfl, by decide, by decide⟩
    · exact ⟨[98, 32, 99], rfl, by decide, by decide⟩
    · exact ⟨[101, 118, 101, 114, 121, 40], rfl, by decide, by decide⟩
  repeat lcg_off
  refine c_slS (by rw [S_len]; exact le_line (by omega)) ?_
  rw [cut_to]
  repeat lcg_off
  refine c_adds (by rw [S_len, S_len]; exact le_line (by simp; omega)) ?_
  rw [S_cat]
  repeat lcg_off
  refine ⟨b, _, _, _, rfl, B3, by decide, by decide, fun e H4 e0 e1 B4 => ?_⟩
  obtain ⟨e, rfl⟩ := Int.eq_ofNat_of_zero_le e0
  repeat lcg_off
  rw [show (r : Int) + (e : Int) = ((r + e : Nat) : Int) by push_cast; rfl]
  refine c_slS (by rw [S_len]; exact le_line (by omega)) ?_
  rw [cut_from]
  refine c_adds (by rw [S_len, S_len]; exact le_line (by simp; omega)) ?_
  rw [S_cat]
  refine q _ H4 _ B4 M2.same ?_ ?_
  · simp only [List.length_append, List.length_take, List.length_drop]; omega
  · rw [opens0, opens0, List.count_append, List.count_append]
    have h1 : z.count 40 = (z.take r).count 40 + (z.drop r).count 40 := by rw [← List.count_append, List.take_append_drop]
    have h2 : (z.drop (r + e)).count 40 ≤ (z.drop r).count 40 := by rw [← List.drop_drop]; exact (List.drop_sublist _ _).count_le 40
    omega
/-- _law_ends: as many rows as ends -/
def spEndsL (K : PySem.W.Frag) (n : Nat) : Sp := fun vs H Q _ => ∃ (v : V) (t : Tr) (f s : Int), vs = [v, .int f, .int s] ∧ Dp K H v t.data ∧ t.lev ≤ n ∧ t.okB 100000 = true ∧ t.ends ≤ 50000 ∧ ∀ p H' xs, Same H H' → H' p = some (.lst xs) → xs.length = t.ends → Q (.ref p) H'
theorem endsAll_take (ts : List Tr) (i : Nat) (t : Tr) (h : ts[i]? = some t) : Tr.endsAll (ts.take (i + 1)) = Tr.endsAll (ts.take i) + t.ends := by
  rw [Tr.endsAll_sum, Tr.endsAll_sum, List.take_add_one, h, List.map_append, List.sum_append]
  simp
theorem endsAll_le (ts : List Tr) (i : Nat) : Tr.endsAll (ts.take i) ≤ Tr.endsAll ts := by
  rw [Tr.endsAll_sum, Tr.endsAll_sum, ← List.take_append_drop i ts, List.map_append, List.sum_append, List.take_append_drop]
  omega
theorem pure_l_ends (h : spEndsL K n vs H Q E) : t_l_ends K (spP (spEndsL K) n) { nx := fun _ H' => Q .non H', rt := Q } (start ns_l_ends vs) H := by
  obtain ⟨v, t, f, s, rfl, hd, hn, ho, he, q⟩ := h
  unfold t_l_ends
  cases t with
  | leaf l =>
    have k := ty_leafT (n := l)
    repeat lcg_off
    refine ite_t ?_
    repeat lcg_off
    intro p1 H1 N1
    repeat lcg_off
    intro p2 H2 N2
    exact q p2 H2 _ (N1.same.trans N2.same) N2.at_ rfl
  | node ts =>
    have k := ty_nodeT (ts := ts)
    obtain ⟨p, xs, rfl, hs, ha⟩ := dp_node hd
    obtain ⟨h2, h3, h4⟩ := Tr.okB_node ho
    have hl := dpAll_len ha
    rw [Tr.dataAll_len] at hl
    rw [Tr.ends] at he
    cases n with
    | zero => rw [Tr.lev] at hn; omega
    | succ n =>
    repeat lcg_off
    refine ite_f ?_
    repeat lcg_off
    intro p1 H1 N1
    repeat lcg_off
    refine ⟨p, xs, rfl, .inr (sameT N1.same hs), ?_⟩
    repeat lcg_off
    refine forR xs.length rfl (by omega) (fun i σ H' => ∃ (l : Addr) (ys : List V) (x : Option V), Same H H' ∧ H' l = some (.lst ys) ∧ ys.length = Tr.endsAll (ts.take i) ∧ σ = [some (.ref p), some (.int f), some (.int s), some (.ref l), x]) ?_ ?_ ?_
    · exact ⟨p1, [], _, N1.same, N1.at_, rfl, rfl⟩
    · rintro i σ H2 hi ⟨l, ys, x, s2, el, hy, rfl⟩
      obtain ⟨u, du, eu, dpu, hix⟩ := atI_sq (.inr hs) ha (i := i) (by rw [Tr.dataAll_len]; omega) s2
      obtain ⟨t, ht, rfl⟩ : ∃ t, ts[i]? = some t ∧ du = t.data := by
        rw [Tr.dataAll_map, List.getElem?_map] at eu
        cases h : ts[i]? with
        | none => rw [h] at eu; cases eu
        | some t => rw [h] at eu; exact ⟨t, rfl, (Option.some.inj eu).symm⟩
      have hm := List.mem_of_getElem? ht
      have hx : SqT K H2 p xs ∧ atI xs (i : Int) = some u := by
        rcases hix with h | h
        · obtain ⟨v', e'⟩ : ∃ v', xs[i]? = some v' := ⟨xs[i], by simp [hi]⟩
          exact ⟨sameT s2 hs, h.2⟩
        · exact h
      repeat lcg_off
      refine c_ixT hx.1 hx.2 ?_
      repeat lcg_off
      refine c_IC (.inr ⟨by omega, by omega⟩) ?_
      repeat lcg_off
      refine ⟨p, xs, rfl, .inr hx.1, ?_⟩
      repeat lcg_off
      refine c_IC (.inr ⟨by omega, by omega⟩) ?_
      repeat lcg_off
      have e1 := ends_mem hm
      have e2 := endsAll_take ts i t ht
      have e3 := endsAll_le ts (i + 1)
      refine ⟨u, t, _, _, rfl, dpu, lev_node hn hm, h4 t hm, by omega, fun p3 H3 zs s3 e3' hz => ?_⟩
      refine c_cat (s3 _ _ el) e3' (le_line (by omega)) fun p4 H4 N4 => ?_
      exact ⟨p4, _, _, s2.trans (s3.trans N4.same), N4.at_, by rw [List.length_append]; omega, rfl⟩
    · rintro σ H2 ⟨l, ys, x, s2, el, hy, rfl⟩
      repeat lcg_off
      refine q l H2 ys s2 el ?_
      rw [hy, Tr.ends, List.take_of_length_le (by omega)]
end
end TD

end
section
open TD L2
/-- what stands at an address -/
local macro_rules | `(tactic| lcg_sub) => `(tactic| first | assumption | exact upd_same | exact New.at_ (by assumption) | (refine New.same (by assumption) _ _ ?_; lcg_sub) | (refine (show Same _ _ from by assumption) _ _ ?_; lcg_sub) | (refine Eq.trans (upd_ne (by first | assumption | exact Ne.symm (by assumption))) ?_; lcg_sub))
/-- a list, a tuple to be read -/
local macro_rules | `(tactic| lcg_src) => `(tactic| first | assumption | exact SqL.of (by lcg_sub) | exact SqT.of (by lcg_sub) | (refine Same.seq (New.same (by assumption)) ?_; lcg_src) | (refine Same.seq (by assumption) ?_; lcg_src) | (refine sameT (New.same (by assumption)) ?_; lcg_src) | (refine sameT (by assumption) ?_; lcg_src))
/-- data at a value -/
local macro_rules | `(tactic| kp_flats) => `(tactic| first | assumption | exact Dp.str _ | exact Dp.int _ | exact Dp.non | exact Dp.bl _ | (refine dp_same (New.same (by assumption)) ?_; kp_flats) | (refine dp_same (by assumption) ?_; kp_flats))
/-- one step of a reading -/
local macro_rules | `(tactic| lcg_off) => `(tactic| first
  | with_reducible refine Stp.go ?_
  | ((with_reducible show tVar _ _ _ _); refine c_var (by rfl) ?_)
  | ((with_reducible show rIxL _ _ _ _ _); refine c_ixL (by lcg_src) (by rfl) ?_)
  | ((with_reducible show rIxT _ _ _ _ _); refine c_ixT (by lcg_src) (by rfl) ?_)
  | ((with_reducible show rSetL _ _ _ _ _); refine c_setL (by lcg_sub) (by rfl) ?_)
  | ((with_reducible show rLenQ _ _ _ _); first | (refine c_lenL (by lcg_src) ?_) | (refine c_lenT (by lcg_src) ?_))
  | ((with_reducible show rSlL _ _ _ _ _ _); refine c_slL (by lcg_src) ?_)
  | ((with_reducible show rListQ _ _ _ _); first | (refine c_listL (by lcg_src) ?_) | (refine c_listT (by lcg_src) ?_))
  | ((with_reducible show rI _ _ _ _ _ _); refine c_IC (by first | assumption | decide | omega) ?_)
  | ((with_reducible show rIsi _ _ _ _); refine c_isi (by kp_flats) (by first | assumption | decide +kernel) ?_)
  | ((with_reducible show rIx _ _ _ _ _); refine c_ix (by first | exact .inl ⟨by lcg_src, by first | assumption | rfl⟩ | exact .inr ⟨by lcg_src, by first | assumption | rfl⟩) ?_)
  | ((with_reducible show NewW _ _ _ _); refine newW ?_)
  | ((with_reducible show rCat _ _ _ _); refine c_cat (by lcg_sub) (by lcg_sub) (le_line (by first | decide | (simp only [List.length_append, List.length_cons, List.length_nil]; omega))) ?_)
  | ((with_reducible show aAddS _ _ _ _); refine c_adds (le_line (by first | decide +kernel | assumption)) ?_)
  | ((with_reducible show rIn _ false _ _ _ _); refine c_inL (by lcg_src) (by rfl) (by rfl) ?_)
  | ((with_reducible show rIn _ true _ _ _ _); refine c_niL (by lcg_src) (by rfl) (by rfl) ?_))
/-- one step, with the new object's names -/
local macro_rules | `(tactic| k_offL) => `(tactic| first | lcg_off | ((with_reducible show ∀ _ _, New _ _ _ _ → _); intro _ _ _))
/-- an error that is held -/
local macro_rules | `(tactic| one_item) => `(tactic| first | assumption | (refine ErrV.same ?_ (New.same (by assumption)); one_item) | (refine ErrV.same ?_ (by assumption); one_item))
/-- nothing was changed -/
local macro_rules | `(tactic| one_place) => `(tactic| first | assumption | exact fun _ _ h => h | exact New.same (by assumption) | (refine Same.trans ?_ (New.same (by assumption)); one_place) | (refine Same.trans ?_ (by assumption); one_place))
/-- what an expression makes, as data -/
local macro_rules | `(tactic| one_sign) => `(tactic| first | exact EvD.str | exact EvD.int | exact EvA.nil | exact EvD.neg | (apply EvA.cons; (focus one_sign); one_sign) | (apply EvD.tup; (focus one_sign); (first | decide | (simp only [List.length_append, List.length_cons, List.length_nil]; omega))) | (apply EvD.var; (focus rfl); kp_flats) | (apply EvL.var; (focus rfl); (focus lcg_sub); assumption) | (apply EvL.lst; (focus one_sign); (first | decide | (simp only [List.length_append, List.length_cons, List.length_nil]; omega))) | (apply EvL.cat; (focus one_sign); (focus one_sign); (first | decide | (simp only [List.length_append, List.length_cons, List.length_nil]; omega))) | (apply EvD.tupOf; one_sign) | (apply EvD.rep; (focus one_sign); (focus simp); (focus decide); (focus decide); decide) | (apply EvL.rep; (focus one_sign); (focus decide); decide) | (apply EvD.adds; (focus one_sign); (focus one_sign); decide +kernel) | exact EvD.non | exact EvD.bl | (apply EvD.ofL; one_sign))
/-- one step, but not into a new list, a new tuple -/
local macro_rules | `(tactic| k_asm) => `(tactic| (fail_if_success (with_reducible show tLst _ _ _ _)); (fail_if_success (with_reducible show tTup _ _ _ _)); (fail_if_success (with_reducible show tOp rCat _ _ _ _ _)); lcg_off)
namespace TD
open PySem PySem.Spec L2 PySem.Calls PySem.TDX
open PyProof.Rows hiding St
/-! ### _law_tree_at, _law_tree_due -/
/-- what the reader's result is as a value -/
def TrV (K : PySem.W.Frag) (H : Hp) (x : V) : Option Tr → Prop
  | none => x = .non
  | some t => Dp K H x t.data
theorem TrV.same {K : PySem.W.Frag} {H H' : Hp} {x : V} {o : Option Tr} (h : TrV K H x o) (s : Same H H') : TrV K H' x o := by
  cases o with
  | none => exact h
  | some t => exact dp_same s h
theorem TrV.non {K : PySem.W.Frag} {H : Hp} {x : V} {o : Option Tr} (h : TrV K H x o) : decide (x = .non) = o.isNone := by
  cases o with
  | none => rw [show x = .non from h]; rfl
  | some t =>
    refine decide_eq_false fun e => ?_
    subst e
    cases t with
    | leaf n => cases dp_leaf h
    | node ts => obtain ⟨p, vs, e, _⟩ := dp_node h; cases e
theorem dpLeaf {K : PySem.W.Frag} {H : Hp} (n : List Nat) : Dp K H (.str (S n)) (Tr.leaf n).data := by rw [Tr.data]; exact .str _
/-- a row goes on with a tree at p -/
def contR (z : List Nat) (k : Nat) (found : List Tr) (p : Nat) : Option Tr × Nat := match pTree z k p with
  | (none, j) => (none, j)
  | (some t, j) => pRow z k (found ++ [t]) j
def spTreeAt (K : PySem.W.Frag) (n : Nat) : Sp := fun vs H Q _ => ∃ (z : List Nat) (i m : Nat), vs = [.str (S z), .int i] ∧ z.length ≤ 100000 ∧ i ≤ z.length ∧ opens z i ≤ n ∧ 2 * (z.length - i) + 2 ≤ m ∧
  ∀ x p H', Same H H' → H' p = some (.tup [x, .int (pTree z m i).2]) → TrV K H' x (pTree z m i).1 → Q (.ref p) H'
/-- between two turns -/
def RowL (K : PySem.W.Frag) (l : Addr) (z : List Nat) (H : Hp) (i : Nat) (R : Option Tr × Nat) (k : Nat) (σ : L2.St) (H' : Hp) : Prop := ∃ (found : List Tr) (ys : List V) (p : Nat) (x1 x2 : Option V), σ = [some (.str (S z)), some (.int (p : Nat)), x1, some (.ref l), x2] ∧ H' l = some (.lst ys) ∧ Same H (mask l H') ∧
  DpAll K (mask l H') ys (Tr.dataAll found) ∧ i + 1 ≤ p ∧ p ≤ z.length ∧ 2 * (z.length - p) + 2 ≤ k ∧ found.length ≤ p ∧ contR z k found p = R
section
variable {K : PySem.W.Frag} {n : Nat} {vs : List V} {H : Hp} {Q : VK} {E : XK}
theorem c_sign {z : List Nat} {i : Nat} {lo hi : Int} (hz : z.length ≤ 100000) (h1 : lo = i) (h2 : hi = ((i + 1 : Nat) : Int)) (q : Q (.str (S ((z.drop i).take 1))) H) : rSlS (.str (S z)) (some lo) (some hi) H Q := by
  refine c_slS (by rw [S_len]; exact le_line hz) ?_
  subst h1 h2
  rw [cut_mid, Nat.add_sub_cancel_left]
  exact q
theorem pure_l_tree_at (h : spTreeAt K n vs H Q E) : t_l_tree_at K (spLetters K) (spP (spTreeAt K) n) { nx := fun _ H' => Q .non H', rt := Q } (start ns_l_tree_at vs) H := by
  obtain ⟨z, i, m, rfl, hz, hi, ho, hm, q⟩ := h
  obtain ⟨m, rfl⟩ : ∃ k, m = k + 1 := ⟨m - 1, by omega⟩
  generalize hR : pTree z (m + 1) i = R at q
  rw [pTree] at hR
  unfold t_l_tree_at
  repeat lcg_off
  refine c_sign (i := i) hz rfl (by push_cast; rfl) ?_
  repeat lcg_off
  rw [show ("-" : Str) = S [45] from rfl, decS, take1]
  by_cases h45 : z[i]? = some 45
  · have h40 : z[i]? ≠ some 40 := by rw [h45]; decide
    rw [if_neg h40, if_pos h45] at hR
    subst hR
    rw [decide_eq_true h45]
    refine ite_t ?_
    repeat lcg_off
    intro p H1 N1
    exact q _ p H1 N1.same (by rw [N1.at_]; rfl) (dpLeaf [45])
  rw [decide_eq_false h45]
  refine ite_f ?_
  repeat lcg_off
  refine c_sign (i := i) hz rfl (by push_cast; rfl) ?_
  repeat lcg_off
  rw [show ("(" : Str) = S [40] from rfl, decS, take1]
  by_cases h40' : z[i]? ≠ some 40
  · have h40 : ¬ z[i]? = some 40 := h40'
    rw [if_neg h40, if_neg h45] at hR
    rw [decide_eq_false h40]
    refine ite_t ?_
    repeat lcg_off
    refine ⟨z, i, rfl, hz, ?_⟩
    repeat lcg_off
    refine ite_d (fun c => ?_) (fun c => ?_)
    · have hr : runAt z i ≠ [] := fun e => by rw [e] at c; simp at c
      rw [if_neg hr] at hR
      subst hR
      repeat lcg_off
      refine c_slS (by rw [S_len]; exact le_line hz) ?_
      rw [show (i : Int) + ((runAt z i).length : Int) = ((i + (runAt z i).length : Nat) : Int) by push_cast; rfl, cut_mid, Nat.add_sub_cancel_left, run_text]
      repeat lcg_off
      intro p H1 N1
      exact q _ p H1 N1.same (by rw [N1.at_]; rfl) (dpLeaf _)
    · have hr : runAt z i = [] := List.length_eq_zero_iff.mp (by omega)
      rw [if_pos hr] at hR
      subst hR
      repeat lcg_off
      intro p H1 N1
      refine q _ p H1 N1.same (by rw [N1.at_, hr]; simp) rfl
  have h40 : z[i]? = some 40 := Decidable.not_not.mp h40'
  rw [if_pos h40] at hR
  rw [decide_eq_true h40]
  refine ite_f ?_
  have hi2 := get_lt h40
  have o1 := opens_open h40
  repeat lcg_off
  intro l H1 N1
  repeat lcg_off
  replace hR : contR z m [] (i + 1) = R := by
    rw [← hR]; unfold contR
    cases pTree z m (i + 1) with
    | mk o j => cases o <;> rfl
  refine ⟨RowL K l z H i R, ⟨m, [], [], i + 1, none, none, ?_, N1.at_, fun b o hb => ?_, .nil, Nat.le_refl _, by omega, by omega, Nat.zero_le _, hR⟩, ?_⟩
  · push_cast; rfl
  · rw [mask_ne (ne_of_none hb N1.free)]; exact N1.same _ _ hb
  rintro k σ H' ⟨found, ys, p, x1, x2, rfl, el, sm, dv, hp1, hp2, hk, hf, hR2⟩
  have hl := dpAll_len dv
  rw [Tr.dataAll_len] at hl
  have op := opens_le z hp1
  repeat lcg_off
  refine ite_t ?_
  cases n with
  | zero => omega
  | succ n =>
  refine ⟨_, fun σ' H'' h => h, ?_⟩
  repeat lcg_off
  refine ⟨z, p, k, rfl, hz, hp2, by omega, hk, fun x a H2 s2 e2 v2 => ?_⟩
  have el2 := s2 _ _ el
  refine c_gTup (SqT.of e2) rfl ?_
  repeat lcg_off
  rw [v2.non]
  unfold contR at hR2
  cases h5 : pTree z k p with
  | mk o j =>
    rw [h5] at hR2 e2 v2
    cases o with
    | none =>
      refine ite_t ?_
      repeat lcg_off
      intro a3 H3 N3
      subst hR2
      exact q _ a3 H3 ((sm.trans mask_same).trans (s2.trans N3.same)) N3.at_ rfl
    | some t =>
      have r := pTree_ok h5
      refine ite_f ?_
      repeat lcg_off
      refine c_tyL (SqL.of el2) ?_
      repeat lcg_off
      refine c_app el2 (by have := r.lt; have := r.le; omega) ?_
      obtain ⟨k, rfl⟩ : ∃ k', k = k' + 1 := ⟨k - 1, by omega⟩
      dsimp only at hR2
      rw [pRow] at hR2
      generalize hH3 : upd H2 l (.lst (ys ++ [x])) = H3
      have e3 : H3 l = some (.lst (ys ++ [x])) := by rw [← hH3]; exact upd_same
      have m3 : mask l H3 = mask l H2 := by rw [← hH3, mask_upd]
      have s23 : Same (mask l H') (mask l H3) := m3 ▸ mask_mono s2
      have sH3 : Same H H3 := sm.trans (s23.trans mask_same)
      have dv3 : DpAll K (mask l H3) (ys ++ [x]) (Tr.dataAll (found ++ [t])) := dpAll_append (dpAll_same s23 dv) (m3 ▸ dp_mask_lst el2 t x v2)
      have fl : (found ++ [t]).length = found.length + 1 := by simp
      repeat lcg_off
      refine c_sign (i := j) hz rfl (by push_cast; rfl) ?_
      repeat lcg_off
      rw [show (")" : Str) = S [41] from rfl, decS, take1]
      -- behind the test of the bracket
      have rest : ¬ (z[j]? = some 41 ∧ 1 < (found ++ [t]).length) → tSeq (tIfS (tTest (tOp rNe (tSl rSlS (tVar 0) (tPart (tVar 1)) (tPart (tOp aAdd (tVar 1) (tC (.int 1))))) (tC (.str " ")))) (tRet (tTup (tCons (tC .non) (tCons (tVar 1) tNil)))) tNext)
          (tAsg (tOp aAdd (tVar 1) (tC (.int 1))) (gName 1)) { nx := fun σ' H'' => ∃ m', m' < k + 1 ∧ RowL K l z H i R m' σ' H'', rt := Q, ct := fun σ' H'' => ∃ m', m' < k + 1 ∧ RowL K l z H i R m' σ' H'', bk := fun _ H' => Q .non H' } [some (.str (S z)), some (.int (j : Nat)), x1, some (.ref l), some x] H3 := fun hno => by
        repeat lcg_off
        refine c_sign (i := j) hz rfl (by push_cast; rfl) ?_
        repeat lcg_off
        rw [show (" " : Str) = S [32] from rfl, decS, take1]
        by_cases h32 : z[j]? = some 32
        · rw [if_pos h32] at hR2
          rw [decide_eq_true h32]
          refine ite_f ?_
          repeat lcg_off
          have g := get_lt h32
          exact ⟨k, Nat.lt_succ_self k, found ++ [t], ys ++ [x], j + 1, _, _, by push_cast; rfl, e3, sm.trans s23, dv3, by have := r.lt; omega, by omega, by have := r.lt; omega, by have := r.lt; omega, hR2⟩
        · rw [if_neg h32] at hR2
          rw [decide_eq_false h32]
          refine ite_t ?_
          have e : R = (none, j) := by
            rw [← hR2]
            by_cases h2 : (found ++ [t]).length < 2
            · rw [if_pos h2]
            · rw [if_neg h2, if_neg (fun h => hno ⟨h, by omega⟩)]
          subst e
          repeat lcg_off
          intro a4 H4 N4
          exact q _ a4 H4 (sH3.trans N4.same) N4.at_ rfl
      by_cases h41 : z[j]? = some 41
      · rw [decide_eq_true h41]
        refine ite_t ?_
        repeat lcg_off
        refine ite_d (fun c => ?_) (fun c => ?_)
        · have h32 : ¬ z[j]? = some 32 := by rw [h41]; decide
          have l1 : 1 < (found ++ [t]).length := by
            have : (ys ++ [x]).length = ys.length + 1 := by simp
            omega
          rw [if_neg h32, if_neg (by omega), if_pos h41] at hR2
          subst hR2
          repeat lcg_off
          refine c_tupL (SqL.of e3) fun p4 H4 N4 => ?_
          repeat lcg_off
          intro a5 H5 N5
          refine q _ a5 H5 (sH3.trans (N4.same.trans N5.same)) (by rw [N5.at_]; push_cast; rfl) ?_
          show Dp K H5 (.ref p4) (Tr.node (found ++ [t])).data
          rw [Tr.data]
          exact .tup (.inl (.inl (N5.same _ _ N4.at_))) (dpAll_same (mask_same.trans (N4.same.trans N5.same)) dv3)
        · refine rest fun h => c ?_
          have : (ys ++ [x]).length = ys.length + 1 := by simp
          omega
      · rw [decide_eq_false h41]
        refine ite_f ?_
        exact rest fun h => h41 h.1
/-- the tuple that is due -/
def DueV (K : PySem.W.Frag) (H : Hp) (x w : V) : PR → Prop
  | .bad j => x = .str "BadText" ∧ w = .int j
  | .big m => x = .str "TooLarge" ∧ w = .int m
  | .ok t => x = .str "value" ∧ Dp K H w t.data
def spDue (K : PySem.W.Frag) (n : Nat) : Sp := fun vs H Q _ => ∃ z : List Nat, vs = [.str (S z)] ∧ z.length ≤ 50000 ∧ opens z 0 ≤ n ∧ ∀ x w p H', Same H H' → H' p = some (.tup [x, w]) → DueV K H' x w (parseR z) → Q (.ref p) H'
theorem pure_l_tree_due (h : spDue K n vs H Q E) : t_l_tree_due K (spEndsL K n) (spLev K n) (spTreeAt K n) { nx := fun _ H' => Q .non H', rt := Q } (start ns_l_tree_due vs) H := by
  obtain ⟨z, rfl, hz, ho, q⟩ := h
  unfold t_l_tree_due
  repeat lcg_off
  refine ⟨z, 0, 2 * z.length + 2, rfl, by omega, Nat.zero_le _, ho, by omega, fun x a H1 s1 e1 v1 => ?_⟩
  refine c_gTup (SqT.of e1) rfl ?_
  repeat lcg_off
  rw [v1.non]
  unfold parseR at q
  cases hp : pTree z (2 * z.length + 2) 0 with
  | mk o j =>
    rw [hp] at q v1
    cases o with
    | none =>
      refine ite_t ?_
      refine ite_t ?_
      repeat lcg_off
      intro p2 H2 N2
      exact q _ _ p2 H2 (s1.trans N2.same) N2.at_ ⟨rfl, rfl⟩
    | some t =>
      have r := pTree_ok hp
      have hd : Dp K H1 x t.data := v1
      refine ite_f ?_
      repeat lcg_off
      refine c_lenS (le_line (by omega)) ?_
      repeat lcg_off
      by_cases hj : j < z.length
      · simp only [hj, if_true] at q
        rw [decide_eq_true (by omega)]
        refine ite_t ?_
        repeat lcg_off
        intro p2 H2 N2
        exact q _ _ p2 H2 (s1.trans N2.same) N2.at_ ⟨rfl, rfl⟩
      · simp only [hj, if_false] at q
        rw [decide_eq_false (by omega)]
        refine ite_f ?_
        have hl : t.lev ≤ n := by have := r.lev; omega
        have hok := Tr.okB_mono (w' := 100000) (by omega) t r.ok
        repeat lcg_off
        refine ⟨x, t, 0, 1, rfl, hd, hl, hok, by have := r.en; have := r.le; omega, fun p2 H2 xs s2 e2 l2 => ?_⟩
        refine ⟨p2, xs, rfl, .inl (SqL.of e2), ?_⟩
        repeat lcg_off
        refine ite_d (fun c => ?_) (fun c => ?_)
        · have h4 : 400 < t.ends := by omega
          simp only [h4, if_true] at q
          repeat lcg_off
          intro p3 H3 N3
          exact q _ _ p3 H3 (s1.trans (s2.trans N3.same)) N3.at_ ⟨rfl, rfl⟩
        · have h4 : ¬ 400 < t.ends := by omega
          simp only [h4, if_false] at q
          repeat lcg_off
          refine ⟨x, t, rfl, dp_same s2 hd, hl, hok, fun H3 s3 => ?_⟩
          repeat lcg_off
          refine ite_d (fun c => ?_) (fun c => ?_)
          · have h5 : 40 < t.lev := by omega
            simp only [h5, if_true] at q
            repeat lcg_off
            intro p4 H4 N4
            exact q _ _ p4 H4 (s1.trans (s2.trans (s3.trans N4.same))) N4.at_ ⟨rfl, rfl⟩
          · have h5 : ¬ 40 < t.lev := by omega
            simp only [h5, if_false] at q
            repeat lcg_off
            intro p4 H4 N4
            exact q _ _ p4 H4 (s1.trans (s2.trans (s3.trans N4.same))) N4.at_ ⟨rfl, dp_same (s2.trans (s3.trans N4.same)) hd⟩
end
end TD

end
section
open TD L2
/-- what stands at an address -/
local macro_rules | `(tactic| lcg_sub) => `(tactic| first | assumption | exact upd_same | exact New.at_ (by assumption) | (refine New.same (by assumption) _ _ ?_; lcg_sub) | (refine (show Same _ _ from by assumption) _ _ ?_; lcg_sub) | (refine Eq.trans (upd_ne (by first | assumption | exact Ne.symm (by assumption))) ?_; lcg_sub))
/-- a list, a tuple to be read -/
local macro_rules | `(tactic| lcg_src) => `(tactic| first | assumption | exact SqL.of (by lcg_sub) | exact SqT.of (by lcg_sub) | (refine Same.seq (New.same (by assumption)) ?_; lcg_src) | (refine Same.seq (by assumption) ?_; lcg_src) | (refine sameT (New.same (by assumption)) ?_; lcg_src) | (refine sameT (by assumption) ?_; lcg_src))
/-- data at a value -/
local macro_rules | `(tactic| kp_flats) => `(tactic| first | assumption | exact Dp.str _ | exact Dp.int _ | exact Dp.non | exact Dp.bl _ | (refine dp_same (New.same (by assumption)) ?_; kp_flats) | (refine dp_same (by assumption) ?_; kp_flats))
/-- one step of a reading -/
local macro_rules | `(tactic| lcg_off) => `(tactic| first
  | with_reducible refine Stp.go ?_
  | ((with_reducible show tVar _ _ _ _); refine c_var (by rfl) ?_)
  | ((with_reducible show rIxL _ _ _ _ _); refine c_ixL (by lcg_src) (by rfl) ?_)
  | ((with_reducible show rIxT _ _ _ _ _); refine c_ixT (by lcg_src) (by rfl) ?_)
  | ((with_reducible show rSetL _ _ _ _ _); refine c_setL (by lcg_sub) (by rfl) ?_)
  | ((with_reducible show rLenQ _ _ _ _); first | (refine c_lenL (by lcg_src) ?_) | (refine c_lenT (by lcg_src) ?_))
  | ((with_reducible show rSlL _ _ _ _ _ _); refine c_slL (by lcg_src) ?_)
  | ((with_reducible show rListQ _ _ _ _); first | (refine c_listL (by lcg_src) ?_) | (refine c_listT (by lcg_src) ?_))
  | ((with_reducible show rI _ _ _ _ _ _); refine c_IC (by first | assumption | decide | omega) ?_)
  | ((with_reducible show rIsi _ _ _ _); refine c_isi (by kp_flats) (by first | assumption | decide +kernel) ?_)
  | ((with_reducible show rIx _ _ _ _ _); refine c_ix (by first | exact .inl ⟨by lcg_src, by first | assumption | rfl⟩ | exact .inr ⟨by lcg_src, by first | assumption | rfl⟩) ?_)
  | ((with_reducible show NewW _ _ _ _); refine newW ?_)
  | ((with_reducible show rCat _ _ _ _); refine c_cat (by lcg_sub) (by lcg_sub) (le_line (by first | decide | (simp only [List.length_append, List.length_cons, List.length_nil]; omega))) ?_)
  | ((with_reducible show aAddS _ _ _ _); refine c_adds (le_line (by first | decide +kernel | assumption)) ?_)
  | ((with_reducible show rIn _ false _ _ _ _); refine c_inL (by lcg_src) (by rfl) (by rfl) ?_)
  | ((with_reducible show rIn _ true _ _ _ _); refine c_niL (by lcg_src) (by rfl) (by rfl) ?_))
/-- one step, with the new object's names -/
local macro_rules | `(tactic| k_offL) => `(tactic| first | lcg_off | ((with_reducible show ∀ _ _, New _ _ _ _ → _); intro _ _ _))
/-- an error that is held -/
local macro_rules | `(tactic| one_item) => `(tactic| first | assumption | (refine ErrV.same ?_ (New.same (by assumption)); one_item) | (refine ErrV.same ?_ (by assumption); one_item))
/-- nothing was changed -/
local macro_rules | `(tactic| one_place) => `(tactic| first | assumption | exact fun _ _ h => h | exact New.same (by assumption) | (refine Same.trans ?_ (New.same (by assumption)); one_place) | (refine Same.trans ?_ (by assumption); one_place))
/-- what an expression makes, as data -/
local macro_rules | `(tactic| one_sign) => `(tactic| first | exact EvD.str | exact EvD.int | exact EvA.nil | exact EvD.neg | (apply EvA.cons; (focus one_sign); one_sign) | (apply EvD.tup; (focus one_sign); (first | decide | (simp only [List.length_append, List.length_cons, List.length_nil]; omega))) | (apply EvD.var; (focus rfl); kp_flats) | (apply EvL.var; (focus rfl); (focus lcg_sub); assumption) | (apply EvL.lst; (focus one_sign); (first | decide | (simp only [List.length_append, List.length_cons, List.length_nil]; omega))) | (apply EvL.cat; (focus one_sign); (focus one_sign); (first | decide | (simp only [List.length_append, List.length_cons, List.length_nil]; omega))) | (apply EvD.tupOf; one_sign) | (apply EvD.rep; (focus one_sign); (focus simp); (focus decide); (focus decide); decide) | (apply EvL.rep; (focus one_sign); (focus decide); decide) | (apply EvD.adds; (focus one_sign); (focus one_sign); decide +kernel) | exact EvD.non | exact EvD.bl | (apply EvD.ofL; one_sign))
/-- one step, but not into a new list, a new tuple -/
local macro_rules | `(tactic| k_asm) => `(tactic| (fail_if_success (with_reducible show tLst _ _ _ _)); (fail_if_success (with_reducible show tTup _ _ _ _)); (fail_if_success (with_reducible show tOp rCat _ _ _ _ _)); lcg_off)
namespace TD
open PySem PySem.Spec L2 PySem.Calls
open PyProof.Rows hiding St
/-! ### what is written is read again -/
mutual
/-- names that can be read -/
def Tr.named : Tr → Prop
  | .leaf n => okOwner n
  | .node ts => 2 ≤ ts.length ∧ Tr.namedAll ts
def Tr.namedAll : List Tr → Prop
  | [] => True
  | t :: r => Tr.named t ∧ Tr.namedAll r
end
/-- no name goes on -/
def Stops (rest : List Nat) : Prop := ∀ c r, rest = c :: r → c ∉ lowers
theorem tw_all {p : Nat → Bool} : ∀ {n r : List Nat}, (∀ c ∈ n, p c = true) → (∀ c s, r = c :: s → p c = false) → (n ++ r).takeWhile p = n
  | [], [], _, _ => rfl
  | [], c :: s, _, h => by simp [List.takeWhile_cons, h c s rfl]
  | a :: n, r, h, hr => by
    rw [List.cons_append, List.takeWhile_cons, h a List.mem_cons_self, if_pos rfl, tw_all (fun c m => h c (List.mem_cons_of_mem _ m)) hr]
theorem drop_at {z : List Nat} {i c : Nat} {r : List Nat} (h : z.drop i = c :: r) : z[i]? = some c ∧ z.drop (i + 1) = r := by
  have h1 : z[i]? = (z.drop i)[0]? := by rw [List.getElem?_drop]; rfl
  rw [h] at h1
  exact ⟨h1, by rw [← List.drop_drop, h]; rfl⟩
theorem drop_app {z a r : List Nat} {i : Nat} (h : z.drop i = a ++ r) : z.drop (i + a.length) = r := by
  rw [← List.drop_drop, h, List.drop_left]
def rowT (ts : List Tr) : List Nat := ts.flatMap fun t => 32 :: t.text
theorem joinL_row (t : Tr) : ∀ ts : List Tr, TL.joinL [32] (Tr.textAll (t :: ts)) = t.text ++ rowT ts := by
  intro ts
  induction ts generalizing t with
  | nil => simp [Tr.textAll, TL.joinL, rowT]
  | cons u r ih =>
    have := ih u
    simp only [Tr.textAll, TL.joinL, rowT, List.flatMap_cons] at this ⊢
    rw [this]; simp
theorem len_of {z a r : List Nat} {i : Nat} (h : z.drop i = a ++ r) (ha : a ≠ []) : i + a.length ≤ z.length := by
  have := congrArg List.length h
  rw [List.length_drop, List.length_append] at this
  have : 0 < a.length := by cases a with | nil => exact absurd rfl ha | cons => simp
  omega
theorem text_ne (t : Tr) (h : t.named) : t.text ≠ [] := by
  cases t with
  | leaf n =>
    rw [Tr.text]
    rcases h with rfl | ⟨h, _⟩
    · simp
    · intro e; rw [e] at h; simp at h
  | node ts => rw [Tr.text]; simp
theorem stops_row (ts : List Tr) (rest : List Nat) : Stops (rowT ts ++ 41 :: rest) := fun c r h => by
  cases ts with
  | nil => simp [rowT] at h; rw [← h.1]; decide
  | cons t ts => simp [rowT] at h; rw [← h.1]; decide
theorem row_read {z : List Nat} : ∀ (ts found : List Tr) (i m : Nat) (rest : List Nat), (∀ t ∈ ts, ∀ i m rest, t.named → z.drop i = t.text ++ rest → Stops rest → 2 * (z.length - i) + 2 ≤ m → pTree z m i = (some t, i + t.text.length)) → Tr.namedAll ts → 2 ≤ (found ++ ts).length →
    z.drop i = rowT ts ++ 41 :: rest → 2 * (z.length - i) + 1 ≤ m → pRow z m found i = (some (.node (found ++ ts)), i + (rowT ts).length + 1)
  | [], found, i, m, rest, _, _, h2, hd, hm => by
    obtain ⟨m, rfl⟩ : ∃ k, m = k + 1 := ⟨m - 1, by omega⟩
    rw [List.append_nil] at h2 ⊢
    have h41 := (drop_at (show z.drop i = 41 :: rest by simpa [rowT] using hd)).1
    rw [pRow, if_neg (by rw [h41]; decide), if_neg (by omega), if_pos h41]
    simp [rowT]
  | t :: ts, found, i, m, rest, ih, hn, h2, hd, hm => by
    obtain ⟨m, rfl⟩ : ∃ k, m = k + 1 := ⟨m - 1, by omega⟩
    have e : rowT (t :: ts) ++ 41 :: rest = 32 :: (t.text ++ (rowT ts ++ 41 :: rest)) := by simp [rowT]
    rw [e] at hd
    obtain ⟨h32, hd1⟩ := drop_at hd
    have g := get_lt h32
    rw [pRow, if_pos h32, ih t List.mem_cons_self (i + 1) m _ hn.1 hd1 (stops_row ts rest) (by omega)]
    have hd2 := drop_app hd1
    have hl := len_of hd1 (text_ne t hn.1)
    have hp : 0 < t.text.length := by
      cases h : t.text with
      | nil => exact absurd h (text_ne t hn.1)
      | cons => simp
    show pRow z m (found ++ [t]) _ = _
    rw [row_read ts (found ++ [t]) _ m rest (fun s hs => ih s (List.mem_cons_of_mem _ hs)) hn.2 (by simpa using h2) hd2 (by omega)]
    simp [rowT]; omega
theorem text_read {z : List Nat} (t : Tr) : ∀ (i m : Nat) (rest : List Nat), t.named → z.drop i = t.text ++ rest → Stops rest → 2 * (z.length - i) + 2 ≤ m → pTree z m i = (some t, i + t.text.length) := by
  refine Tr.ind (P := fun t => ∀ (i m : Nat) (rest : List Nat), t.named → z.drop i = t.text ++ rest → Stops rest → 2 * (z.length - i) + 2 ≤ m → pTree z m i = (some t, i + t.text.length)) (fun n i m rest hn hd hs hm => ?_) (fun ts ih i m rest hn hd hs hm => ?_) t
  · obtain ⟨m, rfl⟩ : ∃ k, m = k + 1 := ⟨m - 1, by omega⟩
    rw [Tr.text] at hd ⊢
    rcases hn with rfl | ⟨h1, h6, hc⟩
    · have h45 := (drop_at hd).1
      rw [pTree, if_neg (by rw [h45]; decide), if_pos h45]; rfl
    · obtain ⟨c, r, rfl⟩ : ∃ c r, n = c :: r := by cases n with | nil => simp at h1 | cons c r => exact ⟨c, r, rfl⟩
      have hcc := (drop_at hd).1
      have hlow := hc c List.mem_cons_self
      have n40 : c ≠ 40 := fun e => by rw [e] at hlow; exact absurd hlow (by decide)
      have n45 : c ≠ 45 := fun e => by rw [e] at hlow; exact absurd hlow (by decide)
      have hr : runAt z i = c :: r := by
        unfold runAt
        rw [hd, List.take_append, List.take_of_length_le h6]
        refine tw_all (fun d hd => by simpa using hc d hd) fun d s e => ?_
        have : rest = d :: rest.tail := by
          cases rest with
          | nil => simp at e
          | cons a b =>
            cases h : 6 - (c :: r).length with
            | zero => rw [h] at e; simp at e
            | succ k => rw [h] at e; simp at e; rw [e.1]; rfl
        simpa using hs d _ this
      rw [pTree, if_neg (by rw [hcc]; intro e; exact n40 (Option.some.inj e)), if_neg (by rw [hcc]; intro e; exact n45 (Option.some.inj e)), if_neg (by rw [hr]; simp), hr]
  · obtain ⟨m, rfl⟩ : ∃ k, m = k + 1 := ⟨m - 1, by omega⟩
    obtain ⟨h2, hall⟩ := hn
    cases ts with
    | nil => simp at h2
    | cons t ts =>
      rw [Tr.text, joinL_row] at hd
      have e : 40 :: (t.text ++ rowT ts ++ [41]) ++ rest = 40 :: (t.text ++ (rowT ts ++ 41 :: rest)) := by simp
      rw [e] at hd
      obtain ⟨h40, hd1⟩ := drop_at hd
      have g := get_lt h40
      rw [pTree, if_pos h40, ih t List.mem_cons_self (i + 1) m _ hall.1 hd1 (stops_row ts rest) (by omega)]
      have hd2 := drop_app hd1
      have hl := len_of hd1 (text_ne t hall.1)
      have hp : 0 < t.text.length := by
        cases h : t.text with
        | nil => exact absurd h (text_ne t hall.1)
        | cons => simp
      show pRow z m [t] _ = _
      rw [row_read ts [t] _ m rest (fun s hs => ih s (List.mem_cons_of_mem _ hs)) hall.2 (by simpa using h2) hd2 (by omega), Tr.text, joinL_row]
      simp; omega
theorem parse_text {t : Tr} (hn : t.named) (h1 : t.ends ≤ 400) (h2 : t.lev ≤ 40) : parseR t.text = .ok t := by
  have := text_read (z := t.text) t 0 (2 * t.text.length + 2) [] hn (by simp) (fun c r h => by cases h) (by omega)
  unfold parseR
  rw [this]
  simp only [Nat.zero_add]
  rw [if_neg (by omega), if_neg (by omega), if_neg (by omega)]
end TD

end
section
open TD L2
/-- what stands at an address -/
local macro_rules | `(tactic| lcg_sub) => `(tactic| first | assumption | exact upd_same | exact New.at_ (by assumption) | (refine New.same (by assumption) _ _ ?_; lcg_sub) | (refine (show Same _ _ from by assumption) _ _ ?_; lcg_sub) | (refine Eq.trans (upd_ne (by first | assumption | exact Ne.symm (by assumption))) ?_; lcg_sub))
/-- a list, a tuple to be read -/
local macro_rules | `(tactic| lcg_src) => `(tactic| first | assumption | exact SqL.of (by lcg_sub) | exact SqT.of (by lcg_sub) | (refine Same.seq (New.same (by assumption)) ?_; lcg_src) | (refine Same.seq (by assumption) ?_; lcg_src) | (refine sameT (New.same (by assumption)) ?_; lcg_src) | (refine sameT (by assumption) ?_; lcg_src))
/-- data at a value -/
local macro_rules | `(tactic| kp_flats) => `(tactic| first | assumption | exact Dp.str _ | exact Dp.int _ | exact Dp.non | exact Dp.bl _ | (refine dp_same (New.same (by assumption)) ?_; kp_flats) | (refine dp_same (by assumption) ?_; kp_flats))
/-- one step of a reading -/
local macro_rules | `(tactic| lcg_off) => `(tactic| first
  | with_reducible refine Stp.go ?_
  | ((with_reducible show tVar _ _ _ _); refine c_var (by rfl) ?_)
  | ((with_reducible show rIxL _ _ _ _ _); refine c_ixL (by lcg_src) (by rfl) ?_)
  | ((with_reducible show rIxT _ _ _ _ _); refine c_ixT (by lcg_src) (by rfl) ?_)
  | ((with_reducible show rSetL _ _ _ _ _); refine c_setL (by lcg_sub) (by rfl) ?_)
  | ((with_reducible show rLenQ _ _ _ _); first | (refine c_lenL (by lcg_src) ?_) | (refine c_lenT (by lcg_src) ?_))
  | ((with_reducible show rSlL _ _ _ _ _ _); refine c_slL (by lcg_src) ?_)
  | ((with_reducible show rListQ _ _ _ _); first | (refine c_listL (by lcg_src) ?_) | (refine c_listT (by lcg_src) ?_))
  | ((with_reducible show rI _ _ _ _ _ _); refine c_IC (by first | assumption | decide | omega) ?_)
  | ((with_reducible show rIsi _ _ _ _); refine c_isi (by kp_flats) (by first | assumption | decide +kernel) ?_)
  | ((with_reducible show rIx _ _ _ _ _); refine c_ix (by first | exact .inl ⟨by lcg_src, by first | assumption | rfl⟩ | exact .inr ⟨by lcg_src, by first | assumption | rfl⟩) ?_)
  | ((with_reducible show NewW _ _ _ _); refine newW ?_)
  | ((with_reducible show rCat _ _ _ _); refine c_cat (by lcg_sub) (by lcg_sub) (le_line (by first | decide | (simp only [List.length_append, List.length_cons, List.length_nil]; omega))) ?_)
  | ((with_reducible show aAddS _ _ _ _); refine c_adds (le_line (by first | decide +kernel | assumption)) ?_)
  | ((with_reducible show rIn _ false _ _ _ _); refine c_inL (by lcg_src) (by rfl) (by rfl) ?_)
  | ((with_reducible show rIn _ true _ _ _ _); refine c_niL (by lcg_src) (by rfl) (by rfl) ?_))
/-- one step, with the new object's names -/
local macro_rules | `(tactic| k_offL) => `(tactic| first | lcg_off | ((with_reducible show ∀ _ _, New _ _ _ _ → _); intro _ _ _))
/-- an error that is held -/
local macro_rules | `(tactic| one_item) => `(tactic| first | assumption | (refine ErrV.same ?_ (New.same (by assumption)); one_item) | (refine ErrV.same ?_ (by assumption); one_item))
/-- nothing was changed -/
local macro_rules | `(tactic| one_place) => `(tactic| first | assumption | exact fun _ _ h => h | exact New.same (by assumption) | (refine Same.trans ?_ (New.same (by assumption)); one_place) | (refine Same.trans ?_ (by assumption); one_place))
/-- what an expression makes, as data -/
local macro_rules | `(tactic| one_sign) => `(tactic| first | exact EvD.str | exact EvD.int | exact EvA.nil | exact EvD.neg | (apply EvA.cons; (focus one_sign); one_sign) | (apply EvD.tup; (focus one_sign); (first | decide | (simp only [List.length_append, List.length_cons, List.length_nil]; omega))) | (apply EvD.var; (focus rfl); kp_flats) | (apply EvL.var; (focus rfl); (focus lcg_sub); assumption) | (apply EvL.lst; (focus one_sign); (first | decide | (simp only [List.length_append, List.length_cons, List.length_nil]; omega))) | (apply EvL.cat; (focus one_sign); (focus one_sign); (first | decide | (simp only [List.length_append, List.length_cons, List.length_nil]; omega))) | (apply EvD.tupOf; one_sign) | (apply EvD.rep; (focus one_sign); (focus simp); (focus decide); (focus decide); decide) | (apply EvL.rep; (focus one_sign); (focus decide); decide) | (apply EvD.adds; (focus one_sign); (focus one_sign); decide +kernel) | exact EvD.non | exact EvD.bl | (apply EvD.ofL; one_sign))
/-- one step, but not into a new list, a new tuple -/
local macro_rules | `(tactic| k_asm) => `(tactic| (fail_if_success (with_reducible show tLst _ _ _ _)); (fail_if_success (with_reducible show tTup _ _ _ _)); (fail_if_success (with_reducible show tOp rCat _ _ _ _ _)); lcg_off)
namespace TD
open PySem PySem.Spec L2 PySem.Calls
open PyProof.Rows hiding St
/-! ### drawn trees -/
theorem fits_named {w : Nat} (t : Tr) : ∀ d, t.fits okOwner w d → t.named := by
  refine Tr.ind (P := fun t => ∀ d, t.fits okOwner w d → t.named) (fun n d h => by cases d <;> exact h) (fun ts ih d h => ?_) t
  have h' : 1 ≤ d ∧ 2 ≤ ts.length ∧ ts.length ≤ w ∧ Tr.fitsAll okOwner w (d - 1) ts := by cases d <;> exact h
  refine ⟨h'.2.1, ?_⟩
  have := h'.2.2.2
  clear h h'
  induction ts with
  | nil => exact True.intro
  | cons t r ih2 => exact ⟨ih t List.mem_cons_self _ this.1, ih2 (fun s m => ih s (List.mem_cons_of_mem _ m)) this.2⟩
theorem fits_mono {P P' : List Nat → Prop} (hp : ∀ n, P n → P' n) {w : Nat} (t : Tr) : ∀ d, t.fits P w d → t.fits P' w d := by
  refine Tr.ind (P := fun t => ∀ d, t.fits P w d → t.fits P' w d) (fun n d h => by cases d <;> exact hp n h) (fun ts ih d h => ?_) t
  have h' : 1 ≤ d ∧ 2 ≤ ts.length ∧ ts.length ≤ w ∧ Tr.fitsAll P w (d - 1) ts := by cases d <;> exact h
  have : 1 ≤ d ∧ 2 ≤ ts.length ∧ ts.length ≤ w ∧ Tr.fitsAll P' w (d - 1) ts := ⟨h'.1, h'.2.1, h'.2.2.1, fitsAll_of fun t m => ih t m _ (fitsAll_mem h'.2.2.2 m)⟩
  cases d <;> exact this
theorem okOwner_256 {n : List Nat} (h : okOwner n) : 1 ≤ n.length ∧ n.length ≤ 6 ∧ n.all (· < 256) = true := by
  rcases h with rfl | ⟨h1, h2, h3⟩
  · decide
  · exact ⟨h1, h2, List.all_eq_true.mpr fun c hc => by simpa using low_256 c (h3 c hc)⟩
theorem fits_bounds {w : Nat} (hw : 1 ≤ w) (t : Tr) : ∀ d, t.fits okOwner w d → t.okB w = true ∧ t.lev ≤ d ∧ t.ends ≤ w ^ d := by
  refine Tr.ind (P := fun t => ∀ d, t.fits okOwner w d → t.okB w = true ∧ t.lev ≤ d ∧ t.ends ≤ w ^ d) (fun n d h => ?_) (fun ts ih d h => ?_) t
  · have h' : okOwner n := by cases d <;> exact h
    obtain ⟨h1, h2, h3⟩ := okOwner_256 h'
    refine ⟨by rw [Tr.okB]; simp only [Bool.and_eq_true, decide_eq_true_eq]; exact ⟨⟨h1, h2⟩, h3⟩, by rw [Tr.lev]; omega, ?_⟩
    rw [Tr.ends]; exact Nat.one_le_pow _ _ hw
  · have h' : 1 ≤ d ∧ 2 ≤ ts.length ∧ ts.length ≤ w ∧ Tr.fitsAll okOwner w (d - 1) ts := by cases d <;> exact h
    obtain ⟨h1, h2, h3, h4⟩ := h'
    have hs := fun s m => ih s m _ (fitsAll_mem h4 m)
    refine ⟨?_, ?_, ?_⟩
    · rw [Tr.okB]; simp only [Bool.and_eq_true, decide_eq_true_eq]; exact ⟨⟨h2, h3⟩, Tr.okAll_of fun s m => (hs s m).1⟩
    · rw [Tr.lev]
      obtain ⟨u, hu, e⟩ := Tr.levAll_mem (ts := ts) (by intro e; subst e; simp at h2)
      have := (hs u hu).2.1
      omega
    · rw [Tr.ends]
      have key : ∀ l : List Tr, (∀ s ∈ l, s.ends ≤ w ^ (d - 1)) → Tr.endsAll l ≤ l.length * w ^ (d - 1) := by
        intro l
        induction l with
        | nil => intro _; simp [Tr.endsAll]
        | cons a r ih2 =>
          intro hh
          have := hh a List.mem_cons_self
          have := ih2 fun s m => hh s (List.mem_cons_of_mem _ m)
          rw [Tr.endsAll, List.length_cons, Nat.add_mul, Nat.one_mul]; omega
      have k := key ts fun s m => (hs s m).2.2
      refine Nat.le_trans k (Nat.le_trans (Nat.mul_le_mul_right _ h3) ?_)
      obtain ⟨e, rfl⟩ : ∃ e, d = e + 1 := ⟨d - 1, by omega⟩
      rw [Nat.add_sub_cancel, Nat.pow_succ, Nat.mul_comm]; exact Nat.le_refl _
theorem low_ne40 : 40 ∉ lowers := by decide
theorem count_text (t : Tr) : t.named → t.text.count 40 + 1 ≤ t.ends := by
  refine Tr.ind (P := fun t => t.named → t.text.count 40 + 1 ≤ t.ends) (fun n h => ?_) (fun ts ih h => ?_) t
  · rw [Tr.text, Tr.ends]
    have : n.count 40 = 0 := by
      rcases h with rfl | ⟨_, _, h⟩
      · decide
      · exact List.count_eq_zero.mpr fun m => low_ne40 (h 40 m)
    omega
  · obtain ⟨h2, hall⟩ := h
    cases ts with
    | nil => simp at h2
    | cons t ts =>
      rw [Tr.text, joinL_row, Tr.ends, Tr.endsAll]
      have h1 := ih t List.mem_cons_self hall.1
      have key : ∀ l : List Tr, Tr.namedAll l → (∀ s ∈ l, s.named → s.text.count 40 + 1 ≤ s.ends) → (rowT l).count 40 + l.length ≤ Tr.endsAll l := by
        intro l
        induction l with
        | nil => intro _ _; simp [rowT, Tr.endsAll]
        | cons a r ih2 =>
          intro hn hh
          have e1 := hh a List.mem_cons_self hn.1
          have e2 := ih2 hn.2 fun s m => hh s (List.mem_cons_of_mem _ m)
          simp only [rowT, List.flatMap_cons, List.count_append, List.count_cons, List.length_cons, Tr.endsAll] at e2 ⊢
          simp; omega
      have k := key ts hall.2 fun s m => ih s (List.mem_cons_of_mem _ m)
      have l : 1 ≤ ts.length := by simpa using h2
      simp only [List.count_cons, List.count_append]
      simp; omega
/-! ### data is like itself -/
theorem okD_tree {w : Nat} (hw : w ≤ 100000) (t : Tr) : ∀ n, t.lev ≤ n → t.okB w = true → okD n t.data = true := by
  refine Tr.ind (P := fun t => ∀ n, t.lev ≤ n → t.okB w = true → okD n t.data = true) (fun l n _ h => ?_) (fun ts ih n hn h => ?_) t
  · have h3 := (Tr.okB_leaf h).2.2
    have : (PyData.str (S l)).canLay0 = true := by
      rw [PyData.canLay0]
      show (l.toArray.all fun c => decide (c < 0x110000)) = true
      rw [← Array.all_toList]
      refine List.all_eq_true.mpr fun c hc => ?_
      have := List.all_eq_true.mp h3 c hc
      simp only [decide_eq_true_eq] at this ⊢
      omega
    rw [Tr.data]; cases n <;> exact this
  · obtain ⟨h2, h3, h4⟩ := Tr.okB_node h
    cases n with
    | zero => rw [Tr.lev] at hn; omega
    | succ n =>
      rw [Tr.data, okD, Tr.dataAll_map]
      simp only [Bool.and_eq_true, decide_eq_true_eq, List.length_map, List.all_eq_true]
      refine ⟨by omega, fun d hd => ?_⟩
      obtain ⟨s, hs, rfl⟩ := List.mem_map.mp hd
      have := Tr.lev_le hs
      rw [Tr.lev] at hn
      exact ih s hs n (by omega) (h4 s hs)
mutual
theorem likeD_refl : ∀ (n : Nat) (d : PyData), okD n d = true → likeD d d = true
  | _, .none, _ => by simp [likeD, isBoo, PyData.eqv]
  | _, .bool b, _ => by cases b <;> decide +kernel
  | _, .int i, _ => by simp [likeD, isBoo, PyData.eqv]
  | _, .str x, _ => by simp [likeD, isBoo, PyData.eqv]
  | 0, .list _, h => by simp [okD] at h
  | 0, .tuple _, h => by simp [okD] at h
  | n + 1, .list xs, h => by
    simp only [okD, Bool.and_eq_true] at h
    rw [likeD]; exact likeAll_refl n xs h.2
  | n + 1, .tuple xs, h => by
    simp only [okD, Bool.and_eq_true] at h
    rw [likeD]; exact likeAll_refl n xs h.2
  | n, .dict _, h => by cases n <;> simp [okD] at h
theorem likeAll_refl : ∀ (n : Nat) (ds : List PyData), ds.all (okD n) = true → likeAll ds ds = true
  | _, [], _ => by simp [likeAll]
  | n, d :: ds, h => by
    simp only [List.all_cons, Bool.and_eq_true] at h
    simp only [likeAll, likeD_refl n d h.1, likeAll_refl n ds h.2, Bool.and_self]
end
end TD

end
section
open TD L2
/-- what stands at an address -/
local macro_rules | `(tactic| lcg_sub) => `(tactic| first | assumption | exact upd_same | exact New.at_ (by assumption) | (refine New.same (by assumption) _ _ ?_; lcg_sub) | (refine (show Same _ _ from by assumption) _ _ ?_; lcg_sub) | (refine Eq.trans (upd_ne (by first | assumption | exact Ne.symm (by assumption))) ?_; lcg_sub))
/-- a list, a tuple to be read -/
local macro_rules | `(tactic| lcg_src) => `(tactic| first | assumption | exact SqL.of (by lcg_sub) | exact SqT.of (by lcg_sub) | (refine Same.seq (New.same (by assumption)) ?_; lcg_src) | (refine Same.seq (by assumption) ?_; lcg_src) | (refine sameT (New.same (by assumption)) ?_; lcg_src) | (refine sameT (by assumption) ?_; lcg_src))
/-- data at a value -/
local macro_rules | `(tactic| kp_flats) => `(tactic| first | assumption | exact Dp.str _ | exact Dp.int _ | exact Dp.non | exact Dp.bl _ | (refine dp_same (New.same (by assumption)) ?_; kp_flats) | (refine dp_same (by assumption) ?_; kp_flats))
/-- one step of a reading -/
local macro_rules | `(tactic| lcg_off) => `(tactic| first
  | with_reducible refine Stp.go ?_
  | ((with_reducible show tVar _ _ _ _); refine c_var (by rfl) ?_)
  | ((with_reducible show rIxL _ _ _ _ _); refine c_ixL (by lcg_src) (by rfl) ?_)
  | ((with_reducible show rIxT _ _ _ _ _); refine c_ixT (by lcg_src) (by rfl) ?_)
  | ((with_reducible show rSetL _ _ _ _ _); refine c_setL (by lcg_sub) (by rfl) ?_)
  | ((with_reducible show rLenQ _ _ _ _); first | (refine c_lenL (by lcg_src) ?_) | (refine c_lenT (by lcg_src) ?_))
  | ((with_reducible show rSlL _ _ _ _ _ _); refine c_slL (by lcg_src) ?_)
  | ((with_reducible show rListQ _ _ _ _); first | (refine c_listL (by lcg_src) ?_) | (refine c_listT (by lcg_src) ?_))
  | ((with_reducible show rI _ _ _ _ _ _); refine c_IC (by first | assumption | decide | omega) ?_)
  | ((with_reducible show rIsi _ _ _ _); refine c_isi (by kp_flats) (by first | assumption | decide +kernel) ?_)
  | ((with_reducible show rIx _ _ _ _ _); refine c_ix (by first | exact .inl ⟨by lcg_src, by first | assumption | rfl⟩ | exact .inr ⟨by lcg_src, by first | assumption | rfl⟩) ?_)
  | ((with_reducible show NewW _ _ _ _); refine newW ?_)
  | ((with_reducible show rCat _ _ _ _); refine c_cat (by lcg_sub) (by lcg_sub) (le_line (by first | decide | (simp only [List.length_append, List.length_cons, List.length_nil]; omega))) ?_)
  | ((with_reducible show aAddS _ _ _ _); refine c_adds (le_line (by first | decide +kernel | assumption)) ?_)
  | ((with_reducible show rIn _ false _ _ _ _); refine c_inL (by lcg_src) (by rfl) (by rfl) ?_)
  | ((with_reducible show rIn _ true _ _ _ _); refine c_niL (by lcg_src) (by rfl) (by rfl) ?_))
/-- one step, with the new object's names -/
local macro_rules | `(tactic| k_offL) => `(tactic| first | lcg_off | ((with_reducible show ∀ _ _, New _ _ _ _ → _); intro _ _ _))
/-- an error that is held -/
local macro_rules | `(tactic| one_item) => `(tactic| first | assumption | (refine ErrV.same ?_ (New.same (by assumption)); one_item) | (refine ErrV.same ?_ (by assumption); one_item))
/-- nothing was changed -/
local macro_rules | `(tactic| one_place) => `(tactic| first | assumption | exact fun _ _ h => h | exact New.same (by assumption) | (refine Same.trans ?_ (New.same (by assumption)); one_place) | (refine Same.trans ?_ (by assumption); one_place))
/-- what an expression makes, as data -/
local macro_rules | `(tactic| one_sign) => `(tactic| first | exact EvD.str | exact EvD.int | exact EvA.nil | exact EvD.neg | (apply EvA.cons; (focus one_sign); one_sign) | (apply EvD.tup; (focus one_sign); (first | decide | (simp only [List.length_append, List.length_cons, List.length_nil]; omega))) | (apply EvD.var; (focus rfl); kp_flats) | (apply EvL.var; (focus rfl); (focus lcg_sub); assumption) | (apply EvL.lst; (focus one_sign); (first | decide | (simp only [List.length_append, List.length_cons, List.length_nil]; omega))) | (apply EvL.cat; (focus one_sign); (focus one_sign); (first | decide | (simp only [List.length_append, List.length_cons, List.length_nil]; omega))) | (apply EvD.tupOf; one_sign) | (apply EvD.rep; (focus one_sign); (focus simp); (focus decide); (focus decide); decide) | (apply EvL.rep; (focus one_sign); (focus decide); decide) | (apply EvD.adds; (focus one_sign); (focus one_sign); decide +kernel) | exact EvD.non | exact EvD.bl | (apply EvD.ofL; one_sign))
/-- one step, but not into a new list, a new tuple -/
local macro_rules | `(tactic| k_asm) => `(tactic| (fail_if_success (with_reducible show tLst _ _ _ _)); (fail_if_success (with_reducible show tTup _ _ _ _)); (fail_if_success (with_reducible show tOp rCat _ _ _ _ _)); lcg_off)
namespace TD
open PySem PySem.Spec L2 PySem.Calls PySem.TDX
open PyProof.Rows hiding St
theorem lay_str {l : List Nat} (h : ∀ c ∈ l, c < 256) : (PyData.str (S l)).canLay0 = true := by
  rw [PyData.canLay0]
  show (l.toArray.all fun c => decide (c < 0x110000)) = true
  rw [← Array.all_toList]
  refine List.all_eq_true.mpr fun c hc => ?_
  have := h c hc
  simp only [decide_eq_true_eq]
  omega
theorem text_256 {w : Nat} (t : Tr) : t.okB w = true → ∀ c ∈ t.text, c < 256 := by
  refine Tr.ind (P := fun t => t.okB w = true → ∀ c ∈ t.text, c < 256) (fun n h c hc => ?_) (fun ts ih h c hc => ?_) t
  · have := List.all_eq_true.mp (Tr.okB_leaf h).2.2 c (by rw [Tr.text] at hc; exact hc)
    simpa using this
  · obtain ⟨h2, h3, h4⟩ := Tr.okB_node h
    cases ts with
    | nil => simp at h2
    | cons t ts =>
      rw [Tr.text, joinL_row] at hc
      simp only [List.mem_cons, List.mem_append, List.mem_nil_iff, or_false, rowT, List.mem_flatMap] at hc
      rcases hc with rfl | (hc | ⟨s, hs, rfl | hc⟩) | rfl
      · decide
      · exact ih t List.mem_cons_self (h4 t List.mem_cons_self) c hc
      · decide
      · exact ih s (List.mem_cons_of_mem _ hs) (h4 s (List.mem_cons_of_mem _ hs)) c hc
      · decide
end TD

end
section
open TD L2
/-- what stands at an address -/
local macro_rules | `(tactic| lcg_sub) => `(tactic| first | assumption | exact upd_same | exact New.at_ (by assumption) | (refine New.same (by assumption) _ _ ?_; lcg_sub) | (refine (show Same _ _ from by assumption) _ _ ?_; lcg_sub) | (refine Eq.trans (upd_ne (by first | assumption | exact Ne.symm (by assumption))) ?_; lcg_sub))
/-- a list, a tuple to be read -/
local macro_rules | `(tactic| lcg_src) => `(tactic| first | assumption | exact SqL.of (by lcg_sub) | exact SqT.of (by lcg_sub) | (refine Same.seq (New.same (by assumption)) ?_; lcg_src) | (refine Same.seq (by assumption) ?_; lcg_src) | (refine sameT (New.same (by assumption)) ?_; lcg_src) | (refine sameT (by assumption) ?_; lcg_src))
/-- data at a value -/
local macro_rules | `(tactic| kp_flats) => `(tactic| first | assumption | exact Dp.str _ | exact Dp.int _ | exact Dp.non | exact Dp.bl _ | (refine dp_same (New.same (by assumption)) ?_; kp_flats) | (refine dp_same (by assumption) ?_; kp_flats))
/-- one step of a reading -/
local macro_rules | `(tactic| lcg_off) => `(tactic| first
  | with_reducible refine Stp.go ?_
  | ((with_reducible show tVar _ _ _ _); refine c_var (by rfl) ?_)
  | ((with_reducible show rIxL _ _ _ _ _); refine c_ixL (by lcg_src) (by rfl) ?_)
  | ((with_reducible show rIxT _ _ _ _ _); refine c_ixT (by lcg_src) (by rfl) ?_)
  | ((with_reducible show rSetL _ _ _ _ _); refine c_setL (by lcg_sub) (by rfl) ?_)
  | ((with_reducible show rLenQ _ _ _ _); first | (refine c_lenL (by lcg_src) ?_) | (refine c_lenT (by lcg_src) ?_))
  | ((with_reducible show rSlL _ _ _ _ _ _); refine c_slL (by lcg_src) ?_)
  | ((with_reducible show rListQ _ _ _ _); first | (refine c_listL (by lcg_src) ?_) | (refine c_listT (by lcg_src) ?_))
  | ((with_reducible show rI _ _ _ _ _ _); refine c_IC (by first | assumption | decide | omega) ?_)
  | ((with_reducible show rIsi _ _ _ _); refine c_isi (by kp_flats) (by first | assumption | decide +kernel) ?_)
  | ((with_reducible show rIx _ _ _ _ _); refine c_ix (by first | exact .inl ⟨by lcg_src, by first | assumption | rfl⟩ | exact .inr ⟨by lcg_src, by first | assumption | rfl⟩) ?_)
  | ((with_reducible show NewW _ _ _ _); refine newW ?_)
  | ((with_reducible show rCat _ _ _ _); refine c_cat (by lcg_sub) (by lcg_sub) (le_line (by first | decide | (simp only [List.length_append, List.length_cons, List.length_nil]; omega))) ?_)
  | ((with_reducible show aAddS _ _ _ _); refine c_adds (le_line (by first | decide +kernel | assumption)) ?_)
  | ((with_reducible show rIn _ false _ _ _ _); refine c_inL (by lcg_src) (by rfl) (by rfl) ?_)
  | ((with_reducible show rIn _ true _ _ _ _); refine c_niL (by lcg_src) (by rfl) (by rfl) ?_))
/-- one step, with the new object's names -/
local macro_rules | `(tactic| k_offL) => `(tactic| first | lcg_off | ((with_reducible show ∀ _ _, New _ _ _ _ → _); intro _ _ _))
/-- an error that is held -/
local macro_rules | `(tactic| one_item) => `(tactic| first | assumption | (refine ErrV.same ?_ (New.same (by assumption)); one_item) | (refine ErrV.same ?_ (by assumption); one_item))
/-- nothing was changed -/
local macro_rules | `(tactic| one_place) => `(tactic| first | assumption | exact fun _ _ h => h | exact New.same (by assumption) | (refine Same.trans ?_ (New.same (by assumption)); one_place) | (refine Same.trans ?_ (by assumption); one_place))
/-- what an expression makes, as data -/
local macro_rules | `(tactic| one_sign) => `(tactic| first | exact EvD.str | exact EvD.int | exact EvA.nil | exact EvD.neg | (apply EvA.cons; (focus one_sign); one_sign) | (apply EvD.tup; (focus one_sign); (first | decide | (simp only [List.length_append, List.length_cons, List.length_nil]; omega))) | (apply EvD.var; (focus rfl); kp_flats) | (apply EvL.var; (focus rfl); (focus lcg_sub); assumption) | (apply EvL.lst; (focus one_sign); (first | decide | (simp only [List.length_append, List.length_cons, List.length_nil]; omega))) | (apply EvL.cat; (focus one_sign); (focus one_sign); (first | decide | (simp only [List.length_append, List.length_cons, List.length_nil]; omega))) | (apply EvD.tupOf; one_sign) | (apply EvD.rep; (focus one_sign); (focus simp); (focus decide); (focus decide); decide) | (apply EvL.rep; (focus one_sign); (focus decide); decide) | (apply EvD.adds; (focus one_sign); (focus one_sign); decide +kernel) | exact EvD.non | exact EvD.bl | (apply EvD.ofL; one_sign))
/-- one step, but not into a new list, a new tuple -/
local macro_rules | `(tactic| k_asm) => `(tactic| (fail_if_success (with_reducible show tLst _ _ _ _)); (fail_if_success (with_reducible show tTup _ _ _ _)); (fail_if_success (with_reducible show tOp rCat _ _ _ _ _)); lcg_off)
namespace TD
open PySem PySem.Spec L2 PySem.Calls
open PyProof.Rows hiding St
/-! ### drawn formulas, in plain Lean -/
abbrev abN : List (List Nat) := [[97], [98], [45]]
abbrev axN : List (List Nat) := [[97], [120], [45]]
namespace Fm
mutual
/-- a formula of d levels at most over names with P, as the laws draw them -/
def fits (P : List Nat → Prop) : Nat → Fm → Prop
  | _, name n => P n
  | _, tree t => t.fits (· ∈ abN) 3 2
  | d, every a b f => 2 ≤ d ∧ a < 20 ∧ 1 ≤ b ∧ b ≤ 9 ∧ fits P (d - 1) f
  | d, ahead a f => 2 ≤ d ∧ a < 10 ^ 29 ∧ fits P (d - 1) f
  | d, paint a b o f => 2 ≤ d ∧ a < b ∧ b ≤ 6 ∧ o ∈ axN ∧ fits P (d - 1) f
  | d, gather f => 2 ≤ d ∧ fits P (d - 1) f
  | d, weave fs => 2 ≤ d ∧ 2 ≤ fs.length ∧ fs.length ≤ 3 ∧ fitsAll P (d - 1) fs
def fitsAll (P : List Nat → Prop) : Nat → List Fm → Prop
  | _, [] => True
  | d, f :: r => fits P d f ∧ fitsAll P d r
end
theorem fitsAll_of {P : List Nat → Prop} {d : Nat} : ∀ {fs : List Fm}, (∀ f ∈ fs, fits P d f) → fitsAll P d fs
  | [], _ => True.intro
  | f :: r, h => ⟨h f List.mem_cons_self, fitsAll_of fun g m => h g (List.mem_cons_of_mem _ m)⟩
theorem fitsAll_mem {P : List Nat → Prop} {d : Nat} : ∀ {fs : List Fm} {f : Fm}, fitsAll P d fs → f ∈ fs → fits P d f
  | g :: r, f, h, m => by
    rcases List.mem_cons.mp m with e | e
    · exact e ▸ h.1
    · exact fitsAll_mem h.2 e
/-- what fits says of the parts, of the head -/
theorem fits_parts {P : List Nat → Prop} {d : Nat} {f : Fm} (h : fits P d f) : ∀ g ∈ f.parts, 2 ≤ d ∧ fits P (d - 1) g := by
  cases f with
  | name _ => simp [parts]
  | tree _ => simp [parts]
  | every a b f => simp [parts]; exact ⟨h.1, h.2.2.2.2⟩
  | ahead a f => simp [parts]; exact ⟨h.1, h.2.2⟩
  | paint a b o f => simp [parts]; exact ⟨h.1, h.2.2.2.2⟩
  | gather f => simp [parts]; exact ⟨h.1, h.2⟩
  | weave fs => exact fun g hg => ⟨h.1, fitsAll_mem h.2.2.2 hg⟩
theorem fits_mono {P P' : List Nat → Prop} (hp : ∀ n, P n → P' n) (f : Fm) : ∀ d, fits P d f → fits P' d f := by
  refine ind (P := fun f => ∀ d, fits P d f → fits P' d f) (fun f ih d h => ?_) f
  have hq := fits_parts h
  cases f with
  | name n => exact hp n h
  | tree _ => exact h
  | every a b f => exact ⟨h.1, h.2.1, h.2.2.1, h.2.2.2.1, ih f (by simp [parts]) _ h.2.2.2.2⟩
  | ahead a f => exact ⟨h.1, h.2.1, ih f (by simp [parts]) _ h.2.2⟩
  | paint a b o f => exact ⟨h.1, h.2.1, h.2.2.1, h.2.2.2.1, ih f (by simp [parts]) _ h.2.2.2.2⟩
  | gather f => exact ⟨h.1, ih f (by simp [parts]) _ h.2⟩
  | weave fs => exact ⟨h.1, h.2.1, h.2.2.1, fitsAll_of fun g hg => ih g hg _ (fitsAll_mem h.2.2.2 hg)⟩
theorem fits_deep {P : List Nat → Prop} (f : Fm) : ∀ d, 1 ≤ d → fits P d f → f.deep ≤ d := by
  refine ind (P := fun f => ∀ d, 1 ≤ d → fits P d f → f.deep ≤ d) (fun f ih d hd h => ?_) f
  rw [deep_eq]
  have hq := fits_parts h
  have : deepAll f.parts ≤ d - 1 := deepAll_lt.mpr fun g hg => ih g hg _ (by have := (hq g hg).1; omega) (hq g hg).2
  omega
end Fm
/-- names of 1 to 6 small letters -/
def okName (n : List Nat) : Prop := 1 ≤ n.length ∧ n.length ≤ 6 ∧ ∀ c ∈ n, c ∈ lowers
theorem isNameD_of {n : List Nat} (h : okName n) : isNameD (.str (S n)) = true := by
  rw [isNameD, S_len, S_tl]
  simp only [Bool.and_eq_true, decide_eq_true_eq, List.all_eq_true]
  exact ⟨h.1, h.2.1, h.2.2⟩
theorem isOwnerD_of {n : List Nat} (h : okOwner n) : isOwnerD (.str (S n)) = true := by
  rw [isOwnerD, Bool.or_eq_true]
  rcases h with rfl | h
  · exact .inl (decide_eq_true rfl)
  · exact .inr (isNameD_of h)
theorem hasForm_tree {w : Nat} (t : Tr) : ∀ d, t.fits okOwner w d → hasFormD t.data = true := by
  refine Tr.ind (P := fun t => ∀ d, t.fits okOwner w d → hasFormD t.data = true) (fun n d h => ?_) (fun ts ih d h => ?_) t
  · rw [Tr.data, hasFormD]; exact isOwnerD_of h
  · obtain ⟨_, h2, _, h4⟩ := h
    rw [Tr.data, hasFormD, hasFormAll_all, Tr.dataAll_len]
    simp only [Bool.and_eq_true, decide_eq_true_eq, List.all_eq_true]
    refine ⟨h2, fun x hx => ?_⟩
    rw [Tr.dataAll_map] at hx
    obtain ⟨s, hs, rfl⟩ := List.mem_map.mp hx
    exact ih s hs _ (TD.fitsAll_mem h4 hs)
theorem toTr_tree (t : Tr) : toTr t.data = t := by
  refine Tr.ind (P := fun t => toTr t.data = t) (fun n => by rw [Tr.data, toTr, S_tl]) (fun ts ih => ?_) t
  rw [Tr.data, toTr]
  congr 1
  induction ts with
  | nil => rfl
  | cons a r ih2 => rw [Tr.dataAll, toTrs, ih a List.mem_cons_self, ih2 fun s m => ih s (List.mem_cons_of_mem _ m)]
theorem isTree_of {w d : Nat} (t : Tr) (h : t.fits okOwner w d) (h1 : t.ends ≤ 400) (h2 : t.lev ≤ 40) : isTreeD t.data = true := by
  rw [isTreeD, hasForm_tree t d h, toTr_tree]
  simp [h1, h2]
theorem okP_tree {w : Nat} (hw : w ≤ 100000) (t : Tr) : ∀ n, t.lev ≤ n → t.okB w = true → okP n t.data = true := by
  refine Tr.ind (P := fun t => ∀ n, t.lev ≤ n → t.okB w = true → okP n t.data = true) (fun l n _ h => ?_) (fun ts ih n hn h => ?_) t
  · have q := Tr.okB_leaf h
    have : okP n (.str (S l)) = ((PyData.str (S l)).canLay0 && decide ((S l).length ≤ 100000)) := by cases n <;> rfl
    rw [Tr.data, this, lay_str (fun c hc => by have := List.all_eq_true.mp q.2.2 c hc; simpa using this), S_len]
    simp; omega
  · obtain ⟨h2, h3, h4⟩ := Tr.okB_node h
    cases n with
    | zero => rw [Tr.lev] at hn; omega
    | succ n =>
      rw [Tr.data, okP, Tr.dataAll_len]
      simp only [Bool.and_eq_true, decide_eq_true_eq, List.all_eq_true]
      refine ⟨by omega, fun x hx => ?_⟩
      rw [Tr.dataAll_map] at hx
      obtain ⟨s, hs, rfl⟩ := List.mem_map.mp hx
      exact ih s hs n (by rw [Tr.lev] at hn; have := Tr.lev_le hs; omega) (h4 s hs)
theorem abN_owner : ∀ n ∈ abN, okOwner n := by
  intro n h
  simp only [abN, List.mem_cons, List.mem_nil_iff, or_false] at h
  rcases h with rfl | rfl | rfl
  · exact .inr ⟨by decide, by decide, by decide⟩
  · exact .inr ⟨by decide, by decide, by decide⟩
  · exact .inl rfl
theorem axN_owner : ∀ n ∈ axN, okOwner n := by
  intro n h
  simp only [axN, List.mem_cons, List.mem_nil_iff, or_false] at h
  rcases h with rfl | rfl | rfl
  · exact .inr ⟨by decide, by decide, by decide⟩
  · exact .inr ⟨by decide, by decide, by decide⟩
  · exact .inl rfl
theorem drawn_tree {t : Tr} (h : t.fits (· ∈ abN) 3 2) : t.okB 3 = true ∧ t.lev ≤ 2 ∧ t.ends ≤ 9 ∧ isTreeD t.data = true ∧ t.named := by
  have h' := fits_mono abN_owner t 2 h
  obtain ⟨a, b, c⟩ := fits_bounds (by decide) t 2 h'
  exact ⟨a, b, c, isTree_of t h' (by omega) (by omega), fits_named t 2 h'⟩
namespace Fm
theorem fits_lets {P : List Nat → Prop} (hP : ∀ n, P n → okName n) (f : Fm) : ∀ d, fits P d f → f.lets = true := by
  refine ind (P := fun f => ∀ d, fits P d f → f.lets = true) (fun f ih d h => ?_) f
  rw [lets_eq, Bool.and_eq_true, List.all_eq_true]
  refine ⟨?_, fun g hg => ih g hg _ (fits_parts h g hg).2⟩
  cases f with
  | name n => exact isNameD_of (hP n h)
  | tree t => exact (drawn_tree h).2.2.2.1
  | every a b f => exact decide_eq_true h.2.2.1
  | ahead a f => rfl
  | paint a b o f => rw [lets1, decide_eq_true h.2.1, isOwnerD_of (axN_owner o h.2.2.2.1)]; rfl
  | gather f => rfl
  | weave fs => exact decide_eq_true ⟨h.2.1, by have := h.2.2.1; omega⟩
theorem okP_str {n : Nat} {l : List Nat} (h : ∀ c ∈ l, c < 256) (h2 : l.length ≤ 100000) : okP n (.str (S l)) = true := by
  have : okP n (.str (S l)) = ((PyData.str (S l)).canLay0 && decide ((S l).length ≤ 100000)) := by cases n <;> rfl
  rw [this, lay_str h, S_len]
  simp [h2]
theorem okP_int {n : Nat} {i : Int} : okP n (.int i) = true := by cases n <;> rfl
theorem fits_okP {P : List Nat → Prop} (hP : ∀ n, P n → okName n) (f : Fm) : ∀ d, fits P d f → okP (f.deep + 3) f.data = true := by
  refine ind (P := fun f => ∀ d, fits P d f → okP (f.deep + 3) f.data = true) (fun f ih d h => ?_) f
  rw [data_eq, okP, Bool.and_eq_true, decide_eq_true_eq, List.all_eq_true]
  have hl : f.head.length ≤ 5 := by cases f <;> simp [head]
  have hp : f.parts.length ≤ 3 := by
    cases f with
    | weave fs => exact h.2.2.1
    | _ => simp [parts]
  refine ⟨by simp only [List.length_append, List.length_map]; omega, fun x hx => ?_⟩
  rcases List.mem_append.mp hx with hx | hx
  · have low : ∀ n, okOwner n → okP (f.deep + 2) (.str (S n)) = true := fun n hn => by
      refine okP_str (fun c hc => ?_) ?_
      · have := (okOwner_256 hn).2.2
        simpa using List.all_eq_true.mp this c hc
      · have := (okOwner_256 hn).2.1; omega
    have wd : ∀ n : List Nat, (n.all (· < 256) && decide (n.length ≤ 100)) = true → okP (f.deep + 2) (.str (S n)) = true := fun n hn => by
      simp only [Bool.and_eq_true, decide_eq_true_eq, List.all_eq_true] at hn
      exact okP_str hn.1 (by omega)
    cases f with
    | name n =>
      simp only [head, List.mem_cons, List.mem_nil_iff, or_false] at hx
      rcases hx with rfl | rfl
      · exact wd [110, 97, 109, 101] (by decide)
      · exact low n (.inr (hP n h))
    | tree t =>
      simp only [head, List.mem_cons, List.mem_nil_iff, or_false] at hx
      rcases hx with rfl | rfl
      · exact wd [116, 114, 101, 101] (by decide)
      · have := drawn_tree h
        exact okP_tree (by decide) t _ (by simp only [deep]; omega) this.1
    | every a b f =>
      simp only [head, List.mem_cons, List.mem_nil_iff, or_false] at hx
      rcases hx with rfl | rfl | rfl
      · exact wd [101, 118, 101, 114, 121] (by decide)
      · exact okP_int
      · exact okP_int
    | ahead a f =>
      simp only [head, List.mem_cons, List.mem_nil_iff, or_false] at hx
      rcases hx with rfl | rfl
      · exact wd [97, 104, 101, 97, 100] (by decide)
      · exact okP_int
    | paint a b o f =>
      simp only [head, List.mem_cons, List.mem_nil_iff, or_false] at hx
      rcases hx with rfl | rfl | rfl | rfl
      · exact wd [112, 97, 105, 110, 116] (by decide)
      · exact okP_int
      · exact okP_int
      · exact low o (axN_owner o h.2.2.2.1)
    | gather f =>
      simp only [head, List.mem_cons, List.mem_nil_iff, or_false] at hx
      rw [hx]
      exact wd [103, 97, 116, 104, 101, 114] (by decide)
    | weave fs =>
      simp only [head, List.mem_cons, List.mem_nil_iff, or_false] at hx
      rw [hx]
      exact wd [119, 101, 97, 118, 101] (by decide)
  · obtain ⟨g, hg, rfl⟩ := List.mem_map.mp hx
    exact okP_mono (by have := deep_parts hg; omega) (ih g hg _ (fits_parts h g hg).2)
end Fm
/-! ### data without lists -/
mutual
def noL : PyData → Bool
  | .list _ => false
  | .dict _ => false
  | .tuple ds => noLs ds
  | _ => true
def noLs : List PyData → Bool
  | [] => true
  | d :: r => noL d && noLs r
end
theorem noLs_all : ∀ ds : List PyData, noLs ds = ds.all noL
  | [] => rfl
  | d :: r => by rw [noLs, noLs_all r, List.all_cons]
section
variable {K : PySem.W.Frag} {H : Hp} {l : Addr} {xs : List V}
mutual
theorem dp_noL (h : H l = some (.lst xs)) : ∀ {v : V} {d : PyData}, noL d = true → Dp K H v d → Dp K (mask l H) v d
  | _, _, _, .non => .non
  | _, _, _, .bl b => .bl b
  | _, _, _, .int i => .int i
  | _, _, _, .str x => .str x
  | _, _, n, .lst _ _ => by simp [noL] at n
  | _, _, n, .tup s a => .tup (sqT_mask h s) (dpAll_noL h (by rw [noL] at n; exact n) a)
theorem dpAll_noL (h : H l = some (.lst xs)) : ∀ {vs : List V} {ds : List PyData}, noLs ds = true → DpAll K H vs ds → DpAll K (mask l H) vs ds
  | _, _, _, .nil => .nil
  | _, _, n, .cons d a => by
    rw [noLs, Bool.and_eq_true] at n
    exact .cons (dp_noL h n.1 d) (dpAll_noL h n.2 a)
end
end
theorem noL_tree (t : Tr) : noL t.data = true := by
  refine Tr.ind (P := fun t => noL t.data = true) (fun n => by rw [Tr.data]; rfl) (fun ts ih => ?_) t
  rw [Tr.data, noL, noLs_all, List.all_eq_true]
  intro x hx
  rw [Tr.dataAll_map] at hx
  obtain ⟨s, hs, rfl⟩ := List.mem_map.mp hx
  exact ih s hs
theorem noL_fm (f : Fm) : noL f.data = true := by
  refine Fm.ind (P := fun f => noL f.data = true) (fun f ih => ?_) f
  rw [Fm.data_eq, noL, noLs_all, List.all_eq_true]
  intro x hx
  rcases List.mem_append.mp hx with hx | hx
  · have ht : ∀ t : Tr, f = .tree t → x = .str "tree" ∨ x = t.data := fun t e => by subst e; simpa [Fm.head] using hx
    cases f with
    | tree t =>
      rcases ht t rfl with rfl | rfl
      · rfl
      · exact noL_tree t
    | name n => simp only [Fm.head, List.mem_cons, List.mem_nil_iff, or_false] at hx; rcases hx with rfl | rfl <;> rfl
    | every a b f => simp only [Fm.head, List.mem_cons, List.mem_nil_iff, or_false] at hx; rcases hx with rfl | rfl | rfl <;> rfl
    | ahead a f => simp only [Fm.head, List.mem_cons, List.mem_nil_iff, or_false] at hx; rcases hx with rfl | rfl <;> rfl
    | paint a b o f => simp only [Fm.head, List.mem_cons, List.mem_nil_iff, or_false] at hx; rcases hx with rfl | rfl | rfl | rfl <;> rfl
    | gather f => simp only [Fm.head, List.mem_cons, List.mem_nil_iff, or_false] at hx; rw [hx]; rfl
    | weave fs => simp only [Fm.head, List.mem_cons, List.mem_nil_iff, or_false] at hx; rw [hx]; rfl
  · obtain ⟨g, hg, rfl⟩ := List.mem_map.mp hx
    exact ih g hg
end TD

end
section
open TD L2
/-- what stands at an address -/
local macro_rules | `(tactic| lcg_sub) => `(tactic| first | assumption | exact upd_same | exact New.at_ (by assumption) | (refine New.same (by assumption) _ _ ?_; lcg_sub) | (refine (show Same _ _ from by assumption) _ _ ?_; lcg_sub) | (refine Eq.trans (upd_ne (by first | assumption | exact Ne.symm (by assumption))) ?_; lcg_sub))
/-- a list, a tuple to be read -/
local macro_rules | `(tactic| lcg_src) => `(tactic| first | assumption | exact SqL.of (by lcg_sub) | exact SqT.of (by lcg_sub) | (refine Same.seq (New.same (by assumption)) ?_; lcg_src) | (refine Same.seq (by assumption) ?_; lcg_src) | (refine sameT (New.same (by assumption)) ?_; lcg_src) | (refine sameT (by assumption) ?_; lcg_src))
/-- data at a value -/
local macro_rules | `(tactic| kp_flats) => `(tactic| first | assumption | exact Dp.str _ | exact Dp.int _ | exact Dp.non | exact Dp.bl _ | (refine dp_same (New.same (by assumption)) ?_; kp_flats) | (refine dp_same (by assumption) ?_; kp_flats))
/-- one step of a reading -/
local macro_rules | `(tactic| lcg_off) => `(tactic| first
  | with_reducible refine Stp.go ?_
  | ((with_reducible show tVar _ _ _ _); refine c_var (by rfl) ?_)
  | ((with_reducible show rIxL _ _ _ _ _); refine c_ixL (by lcg_src) (by rfl) ?_)
  | ((with_reducible show rIxT _ _ _ _ _); refine c_ixT (by lcg_src) (by rfl) ?_)
  | ((with_reducible show rSetL _ _ _ _ _); refine c_setL (by lcg_sub) (by rfl) ?_)
  | ((with_reducible show rLenQ _ _ _ _); first | (refine c_lenL (by lcg_src) ?_) | (refine c_lenT (by lcg_src) ?_))
  | ((with_reducible show rSlL _ _ _ _ _ _); refine c_slL (by lcg_src) ?_)
  | ((with_reducible show rListQ _ _ _ _); first | (refine c_listL (by lcg_src) ?_) | (refine c_listT (by lcg_src) ?_))
  | ((with_reducible show rI _ _ _ _ _ _); refine c_IC (by first | assumption | decide | omega) ?_)
  | ((with_reducible show rIsi _ _ _ _); refine c_isi (by kp_flats) (by first | assumption | decide +kernel) ?_)
  | ((with_reducible show rIx _ _ _ _ _); refine c_ix (by first | exact .inl ⟨by lcg_src, by first | assumption | rfl⟩ | exact .inr ⟨by lcg_src, by first | assumption | rfl⟩) ?_)
  | ((with_reducible show NewW _ _ _ _); refine newW ?_)
  | ((with_reducible show rCat _ _ _ _); refine c_cat (by lcg_sub) (by lcg_sub) (le_line (by first | decide | (simp only [List.length_append, List.length_cons, List.length_nil]; omega))) ?_)
  | ((with_reducible show aAddS _ _ _ _); refine c_adds (le_line (by first | decide +kernel | assumption)) ?_)
  | ((with_reducible show rIn _ false _ _ _ _); refine c_inL (by lcg_src) (by rfl) (by rfl) ?_)
  | ((with_reducible show rIn _ true _ _ _ _); refine c_niL (by lcg_src) (by rfl) (by rfl) ?_))
/-- one step, with the new object's names -/
local macro_rules | `(tactic| k_offL) => `(tactic| first | lcg_off | ((with_reducible show ∀ _ _, New _ _ _ _ → _); intro _ _ _))
/-- an error that is held -/
local macro_rules | `(tactic| one_item) => `(tactic| first | assumption | (refine ErrV.same ?_ (New.same (by assumption)); one_item) | (refine ErrV.same ?_ (by assumption); one_item))
/-- nothing was changed -/
local macro_rules | `(tactic| one_place) => `(tactic| first | assumption | exact fun _ _ h => h | exact New.same (by assumption) | (refine Same.trans ?_ (New.same (by assumption)); one_place) | (refine Same.trans ?_ (by assumption); one_place))
/-- what an expression makes, as data -/
local macro_rules | `(tactic| one_sign) => `(tactic| first | exact EvD.str | exact EvD.int | exact EvA.nil | exact EvD.neg | (apply EvA.cons; (focus one_sign); one_sign) | (apply EvD.tup; (focus one_sign); (first | decide | (simp only [List.length_append, List.length_cons, List.length_nil]; omega))) | (apply EvD.var; (focus rfl); kp_flats) | (apply EvL.var; (focus rfl); (focus lcg_sub); assumption) | (apply EvL.lst; (focus one_sign); (first | decide | (simp only [List.length_append, List.length_cons, List.length_nil]; omega))) | (apply EvL.cat; (focus one_sign); (focus one_sign); (first | decide | (simp only [List.length_append, List.length_cons, List.length_nil]; omega))) | (apply EvD.tupOf; one_sign) | (apply EvD.rep; (focus one_sign); (focus simp); (focus decide); (focus decide); decide) | (apply EvL.rep; (focus one_sign); (focus decide); decide) | (apply EvD.adds; (focus one_sign); (focus one_sign); decide +kernel) | exact EvD.non | exact EvD.bl | (apply EvD.ofL; one_sign))
/-- one step, but not into a new list, a new tuple -/
local macro_rules | `(tactic| k_asm) => `(tactic| (fail_if_success (with_reducible show tLst _ _ _ _)); (fail_if_success (with_reducible show tTup _ _ _ _)); (fail_if_success (with_reducible show tOp rCat _ _ _ _ _)); lcg_off)
namespace TD
open PySem PySem.Spec L2 PySem.Calls
open PyProof.Rows hiding St
/-! ### expressions that only make data -/
/-- how a heap is looked at: whole, or without the bag -/
structure View where
  P : Hp → Prop
  M : Hp → Hp
  keep : ∀ {H H'}, P H → Same H H' → P H'
  mono : ∀ {H H'}, Same H H' → Same (M H) (M H')
  sub : ∀ {H}, Same (M H) H
  new : ∀ {H H' p o}, P H → New H H' p o → New (M H) (M H') p o
def vAll : View := ⟨fun _ => True, fun H => H, fun _ _ => True.intro, fun s => s, fun _ _ h => h, fun _ n => n⟩
def vBag (b : Addr) : View := ⟨fun H => ∃ u, H b = some u, mask b, fun ⟨u, h⟩ s => ⟨u, s _ _ h⟩, fun s => mask_mono s, mask_same, fun ⟨_, h⟩ n => n.masked h⟩
theorem BagV.vw {K : PySem.W.Frag} {H : Hp} {b L : Addr} {G : Hp} (B : BagV K H b L G) : (vBag b).P H := by
  obtain ⟨_, l, h, _⟩ := B
  exact ⟨_, h⟩
def EvD (W : View) (K : PySem.W.Frag) (G : Hp) (σ : L2.St) (te : TE) (d : PyData) : Prop := ∀ H Q, W.P H → Same G (W.M H) → (∀ v H', Same H H' → Dp K (W.M H') v d → Q v H') → te σ H Q
def EvA (W : View) (K : PySem.W.Frag) (G : Hp) (σ : L2.St) (ta : TA) (ds : List PyData) : Prop := ∀ H QA, W.P H → Same G (W.M H) → (∀ vs H', Same H H' → DpAll K (W.M H') vs ds → QA vs H') → ta σ H QA
/-- a new list -/
def EvL (W : View) (K : PySem.W.Frag) (G : Hp) (σ : L2.St) (te : TE) (ds : List PyData) : Prop := ∀ H Q, W.P H → Same G (W.M H) → (∀ p vs H', Same H H' → W.M H' p = some (.lst vs) → DpAll K (W.M H') vs ds → Q (.ref p) H') → te σ H Q
theorem dpAll_app {K : PySem.W.Frag} {H : Hp} : ∀ {vs ws : List V} {ds es : List PyData}, DpAll K H vs ds → DpAll K H ws es → DpAll K H (vs ++ ws) (ds ++ es)
  | _, _, _, _, .nil, h => h
  | _, _, _, _, .cons a t, h => .cons a (dpAll_app t h)
theorem dpAll_rep {K : PySem.W.Frag} {H : Hp} {vs : List V} {ds : List PyData} (h : DpAll K H vs ds) : ∀ n, DpAll K H (List.replicate n vs).flatten (List.replicate n ds).flatten
  | 0 => .nil
  | n + 1 => by
    rw [List.replicate_succ, List.replicate_succ, List.flatten_cons, List.flatten_cons]
    exact dpAll_app h (dpAll_rep h n)
theorem dpAll_strs {K : PySem.W.Frag} {H : Hp} : ∀ {ys : List Str} {vs : List V}, DpAll K H vs (ys.map PyData.str) → vs = ys.map V.str
  | [], _, .nil => rfl
  | y :: r, _, .cons h t => by
    cases h
    rw [dpAll_strs t, List.map_cons]
theorem dpAll_strs' {K : PySem.W.Frag} {H : Hp} : ∀ {ys : List Str}, DpAll K H (ys.map V.str) (ys.map PyData.str)
  | [] => .nil
  | y :: r => .cons (.str y) dpAll_strs'
section
variable {W : View} {K : PySem.W.Frag} {G : Hp} {σ : L2.St} {te tf : TE} {ta tr : TA} {ds es : List PyData} {d : PyData} {k : Nat} {v : V}
theorem EvD.str {x : Str} : EvD W K G σ (tC (.str x)) (.str x) := fun H Q _ _ q => q _ H (fun _ _ h => h) (.str x)
theorem EvD.int {i : Int} : EvD W K G σ (tC (.int i)) (.int i) := fun H Q _ _ q => q _ H (fun _ _ h => h) (.int i)
theorem EvD.non : EvD W K G σ (tC .non) .none := fun H Q _ _ q => q _ H (fun _ _ h => h) .non
theorem EvD.bl {b : Bool} : EvD W K G σ (tC (.bl b)) (.bool b) := fun H Q _ _ q => q _ H (fun _ _ h => h) (.bl b)
theorem EvD.var (h : σ[k]? = some (some v)) (a : Dp K G v d) : EvD W K G σ (tVar k) d := fun H Q _ s q => ⟨v, h, q v H (fun _ _ h => h) (dp_same s a)⟩
theorem EvD.tup (h : EvA W K G σ ta ds) (hl : ds.length ≤ 100000) : EvD W K G σ (tTup ta) (.tuple ds) := fun H Q p s q => h H _ p s fun vs H1 s1 a => by
  have e := dpAll_len a
  refine ⟨le_line (by omega), fun c hc => ?_⟩
  have N := new_upd (o := .tup vs) hc
  have N' := W.new (W.keep p s1) N
  exact q _ _ (s1.trans N.same) (.tup (SqT.of N'.at_) (dpAll_same N'.same a))
theorem EvL.lst (h : EvA W K G σ ta ds) (hl : ds.length ≤ 100000) : EvL W K G σ (tLst ta) ds := fun H Q p s q => h H _ p s fun vs H1 s1 a => by
  have e := dpAll_len a
  refine ⟨le_line (by omega), fun c hc => ?_⟩
  have N := new_upd (o := .lst vs) hc
  have N' := W.new (W.keep p s1) N
  exact q _ _ _ (s1.trans N.same) N'.at_ (dpAll_same N'.same a)
theorem EvD.ofL (h : EvL W K G σ te ds) : EvD W K G σ te (.list ds) := fun H Q p s q => h H _ p s fun c vs H1 s1 e a => q _ _ s1 (.lst (SqL.of e) a)
theorem EvL.var {p : Addr} {vs : List V} (h : σ[k]? = some (some (.ref p))) (e : G p = some (.lst vs)) (a : DpAll K G vs ds) : EvL W K G σ (tVar k) ds := fun H Q _ s q => ⟨_, h, q p vs H (fun _ _ h => h) (s _ _ e) (dpAll_same s a)⟩
theorem EvA.nil : EvA W K G σ tNil [] := fun H QA _ _ q => q [] H (fun _ _ h => h) .nil
theorem EvA.cons (h : EvD W K G σ te d) (t : EvA W K G σ ta ds) : EvA W K G σ (tCons te ta) (d :: ds) := fun H QA p s q => h H _ p s fun v H1 s1 a =>
  t H1 _ (W.keep p s1) (s.trans (W.mono s1)) fun vs H2 s2 b => q _ _ (s1.trans s2) (.cons (dp_same (W.mono s2) a) b)
theorem EvL.cat (h : EvL W K G σ te ds) (t : EvL W K G σ tf es) (hl : ds.length + es.length ≤ 100000) : EvL W K G σ (tOp rCat te tf) (ds ++ es) := fun H Q p s q => h H _ p s fun l vs H1 s1 e1 a1 =>
  t H1 _ (W.keep p s1) (s.trans (W.mono s1)) fun m ws H2 s2 e2 a2 => by
    have l1 := dpAll_len a1; have l2 := dpAll_len a2
    refine c_cat (W.sub _ _ (W.mono s2 _ _ e1)) (W.sub _ _ e2) (le_line (by omega)) fun c H3 N => ?_
    have N' := W.new (W.keep (W.keep p s1) s2) N
    exact q _ _ _ (s1.trans (s2.trans N.same)) N'.at_ (dpAll_same N'.same (dpAll_app (dpAll_same (W.mono s2) a1) a2))
theorem EvD.tupOf (h : EvL W K G σ te ds) : EvD W K G σ (tCB (rTupQ K) (tCons te tNil)) (.tuple ds) := fun H Q p s q => h H _ p s fun l vs H1 s1 e a => by
  refine c_tupL (SqL.of (W.sub _ _ e)) fun c H2 N => ?_
  have N' := W.new (W.keep p s1) N
  exact q _ _ (s1.trans N.same) (.tup (SqT.of N'.at_) (dpAll_same N'.same a))
theorem EvD.rep {n : Nat} (h : EvD W K G σ te (.tuple ds)) (h0 : ds ≠ []) (h1 : ds.length ≤ 1000) (h2 : 2 ≤ n) (h3 : n ≤ 1000) : EvD W K G σ (tOp (rRepT K) te (tC (.int (n : Nat)))) (.tuple (List.replicate n ds).flatten) := fun H Q p s q => h H _ p s fun v H1 s1 a => by
  cases a with
  | @tup l vs _ hs a =>
    have e := dpAll_len a
    refine ⟨l, n, vs, rfl, rfl, sameT W.sub hs, fun z => h0 (by subst z; cases a; rfl), by omega, by omega, by omega, fun c hc => ?_⟩
    have N := new_upd (o := .tup (List.replicate n vs).flatten) hc
    have N' := W.new (W.keep p s1) N
    exact q _ _ (s1.trans N.same) (.tup (SqT.of N'.at_) (dpAll_rep (dpAll_same N'.same a) n))
theorem EvL.rep {n : Nat} (h : EvL W K G σ te ds) (hz : ds.length * n ≤ 100000) (hn : n ≤ 100000) : EvL W K G σ (tOp rRep te (tC (.int (n : Nat)))) (List.replicate n ds).flatten := fun H Q p s q => h H _ p s fun l vs H1 s1 e a => by
  have el := dpAll_len a
  refine ⟨l, n, vs, rfl, rfl, W.sub _ _ e, by omega, by omega, by rw [Int.toNat_natCast, el]; exact le_line hz, fun c hc => ?_⟩
  have N := new_upd (o := .lst (List.replicate n vs).flatten) hc
  have N' := W.new (W.keep p s1) N
  exact q _ _ _ (s1.trans N.same) N'.at_ (dpAll_rep (dpAll_same N'.same a) n)
theorem EvD.adds {x y : Str} (h : EvD W K G σ te (.str x)) (t : EvD W K G σ tf (.str y)) (hz : x.length + y.length ≤ 100000) : EvD W K G σ (tOp aAddS te tf) (.str (x ++ y)) := fun H Q p s q => h H _ p s fun v H1 s1 a =>
  t H1 _ (W.keep p s1) (s.trans (W.mono s1)) fun u H2 s2 b => by
    cases a; cases b
    exact c_adds (le_line hz) (q _ _ (s1.trans s2) (.str _))
/-- data from a view's heap -/
theorem View.dp {H : Hp} (h : Dp K (W.M H) v d) : Dp K H v d := dp_same W.sub h
end
/-! ### comprehensions over a text -/
section
variable {K : PySem.W.Frag} {te : TE} {vs : List Nat} {σ : L2.St} {H1 : Hp} {Q : VK} {k : Nat}
theorem lcStr {x : Str} (ys : List V) (hl : ys.length = x.cps.size) (hn : x.cps.size ≤ sizeLine) (hw : ∀ x, wipe ((wipe σ vs).set k (some x)) vs = wipe σ vs)
    (hs : ∀ (i c : Nat) (y : V) (H : Hp) (Q' : VK), x.cps[i]? = some c → ys[i]? = some y → Same H1 H → (∀ H4, Same H H4 → Q' y H4) → te ((wipe σ vs).set k (some (.str (S [c])))) H Q')
    (hd : ∀ D H', New H1 H' D (.lst ys) → Q (.ref D) H') : LcW (Its x) (gName k) tYes te vs Q σ H1 := by
  intro D hD
  refine ⟨fun i m H => m + i = x.cps.size ∧ ∃ acc, LcI (fun i acc _ => acc = ys.take i) H1 D i acc H, ⟨x.cps.size, rfl, [], LcI.init hD rfl⟩, fun i m H p => ?_⟩
  obtain ⟨hm, acc, p⟩ := p
  by_cases hi : i < x.cps.size
  · refine .inr ⟨hi, fun H' => ∃ acc, LcI (fun i acc _ => acc = ys.take i) H1 D (i + 1) acc H', fun H' h => ⟨m - 1, by omega, by omega, h⟩, ?_⟩
    rintro v H' ⟨rfl, c, hc, rfl⟩
    refine LcB.step (te := te) (g := gName k) (tt := tYes) (vs := vs) (σ := σ) (H1 := H1) (Z := fun i acc _ => acc = ys.take i) (i := i) (x := .str ⟨#[c]⟩) (fun D acc H Q' N hD p q1 q2 => ⟨hw _, ?_⟩) (Nat.lt_of_lt_of_le hi hn) hD ⟨acc, p⟩
    have hy : ys[i]? = some (ys[i]'(by omega)) := by simp [show i < ys.length by omega]
    refine hs i c _ H Q' hc hy p.same fun H4 s => q1 _ _ s ?_
    show acc ++ [_] = ys.take (i + 1)
    rw [show acc = ys.take i from p.z, List.take_add_one, hy]; rfl
  · refine .inl ⟨Nat.le_of_not_lt hi, ?_⟩
    have e : i = x.cps.size := by omega
    have := p.z
    subst e
    have ea : acc = ys := by rw [show acc = ys.take x.cps.size from this, ← hl, List.take_length]
    exact hd D H (ea ▸ p.new hD)
end
end TD

end
section
open TD L2
/-- what stands at an address -/
local macro_rules | `(tactic| lcg_sub) => `(tactic| first | assumption | exact upd_same | exact New.at_ (by assumption) | (refine New.same (by assumption) _ _ ?_; lcg_sub) | (refine (show Same _ _ from by assumption) _ _ ?_; lcg_sub) | (refine Eq.trans (upd_ne (by first | assumption | exact Ne.symm (by assumption))) ?_; lcg_sub))
/-- a list, a tuple to be read -/
local macro_rules | `(tactic| lcg_src) => `(tactic| first | assumption | exact SqL.of (by lcg_sub) | exact SqT.of (by lcg_sub) | (refine Same.seq (New.same (by assumption)) ?_; lcg_src) | (refine Same.seq (by assumption) ?_; lcg_src) | (refine sameT (New.same (by assumption)) ?_; lcg_src) | (refine sameT (by assumption) ?_; lcg_src))
/-- data at a value -/
local macro_rules | `(tactic| kp_flats) => `(tactic| first | assumption | exact Dp.str _ | exact Dp.int _ | exact Dp.non | exact Dp.bl _ | (refine dp_same (New.same (by assumption)) ?_; kp_flats) | (refine dp_same (by assumption) ?_; kp_flats))
/-- one step of a reading -/
local macro_rules | `(tactic| lcg_off) => `(tactic| first
  | with_reducible refine Stp.go ?_
  | ((with_reducible show tVar _ _ _ _); refine c_var (by rfl) ?_)
  | ((with_reducible show rIxL _ _ _ _ _); refine c_ixL (by lcg_src) (by rfl) ?_)
  | ((with_reducible show rIxT _ _ _ _ _); refine c_ixT (by lcg_src) (by rfl) ?_)
  | ((with_reducible show rSetL _ _ _ _ _); refine c_setL (by lcg_sub) (by rfl) ?_)
  | ((with_reducible show rLenQ _ _ _ _); first | (refine c_lenL (by lcg_src) ?_) | (refine c_lenT (by lcg_src) ?_))
  | ((with_reducible show rSlL _ _ _ _ _ _); refine c_slL (by lcg_src) ?_)
  | ((with_reducible show rListQ _ _ _ _); first | (refine c_listL (by lcg_src) ?_) | (refine c_listT (by lcg_src) ?_))
  | ((with_reducible show rI _ _ _ _ _ _); refine c_IC (by first | assumption | decide | omega) ?_)
  | ((with_reducible show rIsi _ _ _ _); refine c_isi (by kp_flats) (by first | assumption | decide +kernel) ?_)
  | ((with_reducible show rIx _ _ _ _ _); refine c_ix (by first | exact .inl ⟨by lcg_src, by first | assumption | rfl⟩ | exact .inr ⟨by lcg_src, by first | assumption | rfl⟩) ?_)
  | ((with_reducible show NewW _ _ _ _); refine newW ?_)
  | ((with_reducible show rCat _ _ _ _); refine c_cat (by lcg_sub) (by lcg_sub) (le_line (by first | decide | (simp only [List.length_append, List.length_cons, List.length_nil]; omega))) ?_)
  | ((with_reducible show aAddS _ _ _ _); refine c_adds (le_line (by first | decide +kernel | assumption)) ?_)
  | ((with_reducible show rIn _ false _ _ _ _); refine c_inL (by lcg_src) (by rfl) (by rfl) ?_)
  | ((with_reducible show rIn _ true _ _ _ _); refine c_niL (by lcg_src) (by rfl) (by rfl) ?_))
/-- one step, with the new object's names -/
local macro_rules | `(tactic| k_offL) => `(tactic| first | lcg_off | ((with_reducible show ∀ _ _, New _ _ _ _ → _); intro _ _ _))
/-- an error that is held -/
local macro_rules | `(tactic| one_item) => `(tactic| first | assumption | (refine ErrV.same ?_ (New.same (by assumption)); one_item) | (refine ErrV.same ?_ (by assumption); one_item))
/-- nothing was changed -/
local macro_rules | `(tactic| one_place) => `(tactic| first | assumption | exact fun _ _ h => h | exact New.same (by assumption) | (refine Same.trans ?_ (New.same (by assumption)); one_place) | (refine Same.trans ?_ (by assumption); one_place))
/-- what an expression makes, as data -/
local macro_rules | `(tactic| one_sign) => `(tactic| first | exact EvD.str | exact EvD.int | exact EvA.nil | exact EvD.neg | (apply EvA.cons; (focus one_sign); one_sign) | (apply EvD.tup; (focus one_sign); (first | decide | (simp only [List.length_append, List.length_cons, List.length_nil]; omega))) | (apply EvD.var; (focus rfl); kp_flats) | (apply EvL.var; (focus rfl); (focus lcg_sub); assumption) | (apply EvL.lst; (focus one_sign); (first | decide | (simp only [List.length_append, List.length_cons, List.length_nil]; omega))) | (apply EvL.cat; (focus one_sign); (focus one_sign); (first | decide | (simp only [List.length_append, List.length_cons, List.length_nil]; omega))) | (apply EvD.tupOf; one_sign) | (apply EvD.rep; (focus one_sign); (focus simp); (focus decide); (focus decide); decide) | (apply EvL.rep; (focus one_sign); (focus decide); decide) | (apply EvD.adds; (focus one_sign); (focus one_sign); decide +kernel) | exact EvD.non | exact EvD.bl | (apply EvD.ofL; one_sign))
/-- one step, but not into a new list, a new tuple -/
local macro_rules | `(tactic| k_asm) => `(tactic| (fail_if_success (with_reducible show tLst _ _ _ _)); (fail_if_success (with_reducible show tTup _ _ _ _)); (fail_if_success (with_reducible show tOp rCat _ _ _ _ _)); lcg_off)
namespace TD
open PySem PySem.Spec L2 PySem.Calls PySem.TDX
open PyProof.Rows hiding St
/-! ### is_name .. check_formula -/
instance {r r' : R2} {ta tb tc : TE} {σ : L2.St} {H : Hp} {Q : VK} : Stp (tChain r r' ta tb tc σ H Q) (ta σ H fun x H1 => tb σ H1 fun y H2 => r x y H2 fun z H3 => ∃ k, z = .bl k ∧ (if k = true then tc σ H3 fun w' H4 => r' y w' H4 Q else Q (.bl false) H3)) := ⟨id⟩
/-- a test of data of depth n at most -/
def spDat (f : PyData → Bool) (K : PySem.W.Frag) (n : Nat) : Sp := fun vs H Q _ => ∃ (v : V) (d : PyData), vs = [v] ∧ Dp K H v d ∧ okP n d = true ∧ ∀ H', Same H H' → Q (.bl (f d)) H'
abbrev spIsName (K : PySem.W.Frag) : Sp := spDat isNameD K 62
abbrev spIsOwner (K : PySem.W.Frag) : Sp := spDat isOwnerD K 62
abbrev spIsTree (K : PySem.W.Frag) : Sp := spDat isTreeD K 60
abbrev spForm (K : PySem.W.Frag) : Nat → Sp := spDat hasFormD K
/-- is_number -/
def spIsNum (K : PySem.W.Frag) : Sp := fun vs H Q _ => ∃ (v : V) (d : PyData) (m : Int), vs = [v, .int m] ∧ Dp K H v d ∧ okP 62 d = true ∧ ∀ H', Same H H' → Q (.bl (isNumD m d)) H'
theorem okP_seq {n : Nat} {ds : List PyData} (h : okP n (.tuple ds) = true) : ∃ m, n = m + 1 ∧ ds.length ≤ 100000 ∧ ∀ d ∈ ds, okP m d = true := by
  cases n with
  | zero => simp [okP] at h
  | succ m =>
    simp only [okP, Bool.and_eq_true, decide_eq_true_eq, List.all_eq_true] at h
    exact ⟨m, rfl, h.1, h.2⟩
theorem okP_shaped {d : PyData} {n : Nat} (hn : n ≤ 64) (h : okP n d = true) : SeqAt.shaped d = true := okD_shaped hn (okP_okD h)
theorem all_bl {α : Type} (ds : List α) (f : α → Bool) : ((ds.map f).all id) = ds.all f := by rw [List.all_map]; rfl
section
variable {K : PySem.W.Frag} {n : Nat} {vs : List V} {H : Hp} {Q : VK} {E : XK}
theorem pure_is_name (h : spIsName K vs H Q E) : t_is_name K { nx := fun _ H' => Q .non H', rt := Q } (start ns_is_name vs) H := by
  obtain ⟨v, d, rfl, hd, ok, q⟩ := h
  have k := kit_str d
  unfold t_is_name
  repeat lcg_off
  cases d with
  | str x =>
    obtain ⟨l, rfl⟩ : ∃ l, x = S l := ⟨_, S_eq x⟩
    cases hd
    have hz : l.length ≤ 100000 := by simp only [okP, Bool.and_eq_true, decide_eq_true_eq, S_len] at ok; exact ok.2
    have e : isNameD (.str (S l)) = (decide (1 ≤ l.length) && (decide (l.length ≤ 6) && l.all fun c => decide (c ∈ lowers))) := by rw [isNameD, S_len]
    rw [e] at q
    refine ite_t ?_
    repeat lcg_off
    refine c_lenS (le_line hz) ?_
    repeat lcg_off
    refine ite_d (fun c1 => ?_) (fun c1 => ?_)
    · repeat lcg_off
      refine ite_d (fun c2 => ?_) (fun c2 => ?_)
      · repeat lcg_off
        refine ⟨S l, rfl, ?_⟩
        refine lcStr (l.map fun c => .bl (decide (c ∈ lowers))) (by rw [List.length_map]; exact (S_len l).symm) (by rw [show (S l).cps.size = l.length from S_len l]; exact le_line hz) (fun x => rfl) (fun i c y H2 Q2 hc hy s2 q2 => ?_) (fun D H2 N2 => ?_)
        · have hc' : l[i]? = some c := by
            have : (S l).cps.toList[i]? = some c := by rw [Array.getElem?_toList]; exact hc
            exact this
          rw [List.getElem?_map, hc'] at hy
          cases hy
          repeat lcg_off
          exact c_inS (q2 _ (fun _ _ h => h))
        · repeat lcg_off
          refine ⟨D, l.map fun c => decide (c ∈ lowers), rfl, by rw [List.map_map]; exact SqL.of N2.at_, ?_⟩
          rw [all_bl]
          have h1 : 1 ≤ l.length := by omega
          have h2 : l.length ≤ 6 := by omega
          simpa [h1, h2] using q _ N2.same
      · repeat lcg_off
        have h2 : ¬ l.length ≤ 6 := by omega
        simpa [h2] using q _ (fun _ _ h => h)
    · repeat lcg_off
      have h1 : ¬ 1 ≤ l.length := by omega
      simpa [h1] using q _ (fun _ _ h => h)
  | _ => exact ite_f (q _ fun _ _ h => h)
theorem pure_is_owner (h : spIsOwner K vs H Q E) : t_is_owner K (spIsName K) { nx := fun _ H' => Q .non H', rt := Q } (start ns_is_owner vs) H := by
  obtain ⟨v, d, rfl, hd, ok, q⟩ := h
  unfold t_is_owner
  repeat lcg_off
  refine ⟨d, _, hd, .str _, okP_shaped (by decide) ok, by decide +kernel, ?_⟩
  have e := eqv_owner d
  repeat lcg_off
  refine ite_b (fun c => ?_) (fun c => ?_)
  · have c' : PyData.eqv d (.str (S [45])) = true := c
    rw [c', Bool.true_or] at e
    rw [← e] at q
    exact q _ (fun _ _ h => h)
  · have c' : PyData.eqv d (.str (S [45])) = false := c
    rw [c', Bool.false_or] at e
    repeat lcg_off
    exact ⟨_, d, rfl, hd, ok, fun H' s => e ▸ q H' s⟩
theorem pure_has_form (h : spForm K n vs H Q E) (hn : n ≤ 62) : t_has_form K (spP (spForm K) n) (spIsOwner K) { nx := fun _ H' => Q .non H', rt := Q } (start ns_has_form vs) H := by
  obtain ⟨v, d, rfl, hd, ok, q⟩ := h
  have k := kit_tup d
  unfold t_has_form
  repeat lcg_off
  cases d with
  | tuple ds =>
    obtain ⟨m, rfl, hz, hm⟩ := okP_seq ok
    refine ite_t ?_
    cases hd with
    | @tup p xs _ hs ha =>
    have hl := dpAll_len ha
    rw [hasFormD, hasFormAll_all] at q
    repeat lcg_off
    refine ite_d (fun c => ?_) (fun c => ?_)
    · repeat lcg_off
      refine ⟨_, rfl, ⟨_, hs⟩, ?_⟩
      refine lcTy hs (ds.map fun d => .bl (hasFormD d)) (by rw [List.length_map]; omega) (le_line (by omega)) (fun x => rfl) (fun i x y H2 Q2 hx hy s2 q2 => ?_) (fun D H2 N2 => ?_)
      · have hi := (List.getElem?_eq_some_iff.mp hx).1
        have e : ds[i]? = some (ds[i]'(by omega)) := by simp [show i < ds.length by omega]
        obtain ⟨y', hy', dy⟩ := dpAll_get ha e
        rw [hx] at hy'; cases hy'
        rw [List.getElem?_map, e] at hy
        cases hy
        repeat lcg_off
        exact ⟨_, _, rfl, dp_same s2 dy, hm _ (List.mem_of_getElem? e), q2⟩
      · repeat lcg_off
        refine ⟨D, ds.map hasFormD, rfl, by rw [List.map_map]; exact SqL.of N2.at_, ?_⟩
        rw [all_bl]
        have h2 : 2 ≤ ds.length := by omega
        simpa [h2] using q _ N2.same
    · repeat lcg_off
      have h2 : ¬ 2 ≤ ds.length := by omega
      simpa [h2] using q _ (fun _ _ h => h)
  | str x =>
    refine ite_f ?_
    repeat lcg_off
    exact ⟨v, _, rfl, hd, okP_mono hn ok, fun H' s => by have := q H' s; rwa [hasFormD] at this⟩
  | int x =>
    refine ite_f ?_
    repeat lcg_off
    exact ⟨v, _, rfl, hd, okP_mono hn ok, fun H' s => q H' s⟩
  | list x =>
    refine ite_f ?_
    repeat lcg_off
    exact ⟨v, _, rfl, hd, okP_mono hn ok, fun H' s => q H' s⟩
  | none => cases n <;> simp [okP] at ok
  | bool b => cases n <;> simp [okP] at ok
  | dict b => cases n <;> simp [okP] at ok
theorem pure_is_number (h : spIsNum K vs H Q E) : t_is_number K { nx := fun _ H' => Q .non H', rt := Q } (start ns_is_number vs) H := by
  obtain ⟨v, d, m, rfl, hd, ok, q⟩ := h
  unfold t_is_number
  repeat lcg_off
  cases d with
  | int i =>
    cases hd
    refine c_isi (r := true) (Dp.int i) (by simp only [tyN]; decide +kernel) ?_
    refine ⟨_, rfl, ?_⟩
    refine ite_t ?_
    repeat lcg_off
    exact q _ (fun _ _ h => h)
  | str x =>
    refine c_isi (r := false) hd (by simp only [tyN]; decide +kernel) ?_
    refine ⟨_, rfl, ?_⟩
    exact ite_f (q _ (fun _ _ h => h))
  | list x =>
    refine c_isi (r := false) hd (by simp only [tyN]; decide +kernel) ?_
    refine ⟨_, rfl, ?_⟩
    exact ite_f (q _ (fun _ _ h => h))
  | tuple x =>
    refine c_isi (r := false) hd (by simp only [tyN]; decide +kernel) ?_
    refine ⟨_, rfl, ?_⟩
    exact ite_f (q _ (fun _ _ h => h))
  | none => simp [okP] at ok
  | bool b => simp [okP] at ok
  | dict b => simp [okP] at ok
theorem pure_is_tree (h : spIsTree K vs H Q E) : t_is_tree K (spEnds K 60) (spForm K 60) (spLev K 60) { nx := fun _ H' => Q .non H', rt := Q } (start ns_is_tree vs) H := by
  obtain ⟨v, d, rfl, hd, ok, q⟩ := h
  unfold t_is_tree
  repeat lcg_off
  refine ⟨v, d, rfl, hd, ok, fun H1 s1 => ?_⟩
  repeat lcg_off
  cases hf : hasFormD d with
  | false =>
    have e : isTreeD d = false := by rw [isTreeD, hf]; rfl
    exact ite_f (e ▸ q _ s1)
  | true =>
    obtain ⟨e1, e2, e3⟩ := toTr_ok hf ok
    refine ite_t ?_
    repeat lcg_off
    refine ⟨v, toTr d, rfl, by rw [e1]; exact dp_same s1 hd, e3, e2, fun H2 s2 => ?_⟩
    repeat lcg_off
    have eT : isTreeD d = (decide ((toTr d).ends ≤ 400) && decide ((toTr d).lev ≤ 40)) := by rw [isTreeD, hf]; rfl
    rw [eT] at q
    refine ite_d (fun c => ?_) (fun c => ?_)
    · repeat lcg_off
      refine ⟨v, toTr d, rfl, by rw [e1]; exact dp_same (s1.trans s2) hd, e3, e2, fun H3 s3 => ?_⟩
      repeat lcg_off
      have h1 : (toTr d).ends ≤ 400 := by omega
      have := q H3 (s1.trans (s2.trans s3))
      rw [decide_eq_true h1, Bool.true_and] at this
      have e4 : decide (((toTr d).lev : Int) ≤ 40) = decide ((toTr d).lev ≤ 40) := by
        by_cases h : (toTr d).lev ≤ 40
        · rw [decide_eq_true h]; exact decide_eq_true (by omega)
        · rw [decide_eq_false h]; exact decide_eq_false (by omega)
      exact e4 ▸ this
    · repeat lcg_off
      have h1 : ¬ (toTr d).ends ≤ 400 := by omega
      have := q H2 (s1.trans s2)
      rwa [decide_eq_false h1, Bool.false_and] at this
/-- parts_of -/
def spParts (K : PySem.W.Frag) : Sp := fun vs H Q _ => ∃ (v : V) (d : PyData), vs = [v] ∧ Dp K H v d ∧ okP 60 d = true ∧ wordy d = true ∧ (partsD d = none → ∀ H', Same H H' → Q .non H') ∧
  ∀ ps, partsD d = some ps → ∀ (p : Addr) (ws : List V) (H' : Hp), New H H' p (.lst ws) → DpAll K H' ws ps → Q (.ref p) H'
theorem isNumD_int {m : Int} {d : PyData} (h : isNumD m d = true) : ∃ i, d = .int i := by
  cases d with
  | int i => exact ⟨i, rfl⟩
  | _ => exact Bool.noConfusion (show false = true from h)
theorem New.later {H H1 H2 : Hp} {p : Addr} {o : HO} (n : New H H1 p o) (s : Same H1 H2) : New H H2 p o := ⟨n.free, n.same.trans s, s _ _ n.at_⟩
theorem c_star21 {a : Addr} {x0 : V} {xr : List V} {t : TGs} {σ : L2.St} {QG : L2.St → Hp → Prop} (hs : SqT K H a (x0 :: xr)) (q : ∀ p H1, New H H1 p (.lst xr) → t [x0, .ref p] σ H1 QG) : gStar K 2 1 t (.ref a) σ H QG := by
  refine ⟨a, x0 :: xr, rfl, .inl hs, by simp, fun p H1 n => ?_⟩
  have e1 : ((x0 :: xr).drop 1).take ((x0 :: xr).length + 1 - 2) = xr := by
    rw [List.drop_succ_cons, List.drop_zero]
    exact List.take_of_length_le (by simp)
  have e2 : ((x0 :: xr).drop 1).drop ((x0 :: xr).length + 1 - 2) = [] := by
    rw [List.drop_succ_cons, List.drop_zero]
    exact List.drop_eq_nil_of_le (by simp)
  rw [e1] at n
  rw [e2]
  exact q p H1 n
theorem pw_name (l : List PyData) : partsW "name" l = pOne isNameD l := by unfold partsW; rw [if_pos rfl]
theorem pw_tree (l : List PyData) : partsW "tree" l = pOne isTreeD l := by unfold partsW; rw [if_neg (by decide), if_pos rfl]
theorem pw_every (l : List PyData) : partsW "every" l = pEvery l := by unfold partsW; rw [if_neg (by decide), if_neg (by decide), if_pos rfl]
theorem pw_ahead (l : List PyData) : partsW "ahead" l = pAhead l := by unfold partsW; rw [if_neg (by decide), if_neg (by decide), if_neg (by decide), if_pos rfl]
theorem pw_paint (l : List PyData) : partsW "paint" l = pPaint l := by unfold partsW; rw [if_neg (by decide), if_neg (by decide), if_neg (by decide), if_neg (by decide), if_pos rfl]
theorem pw_gather (l : List PyData) : partsW "gather" l = pGather l := by unfold partsW; rw [if_neg (by decide), if_neg (by decide), if_neg (by decide), if_neg (by decide), if_neg (by decide), if_pos rfl]
theorem pw_weave (l : List PyData) : partsW "weave" l = if 2 ≤ l.length ∧ l.length ≤ 9 then some l else none := by unfold partsW; rw [if_neg (by decide), if_neg (by decide), if_neg (by decide), if_neg (by decide), if_neg (by decide), if_neg (by decide), if_pos rfl]
theorem pure_parts_of (h : spParts K vs H Q E) : t_parts_of K (spIsName K) (spIsNum K) (spIsOwner K) (spIsTree K) { nx := fun _ H' => Q .non H', rt := Q } (start ns_parts_of vs) H := by
  obtain ⟨v, d, rfl, hd, ok, wd, q0, q1⟩ := h
  unfold t_parts_of
  have k := kit_tup d
  repeat lcg_off
  have non : isTup d = false → ∀ (b : Bool), b = isTup d → (∃ D : Ends, True) := fun _ _ _ => ⟨⟨fun _ _ => True, fun _ _ => True, fun _ _ => True, fun _ _ => True⟩, True.intro⟩
  cases hd with
  | @tup p xs ds hs ha =>
    obtain ⟨m, em, hz, hm⟩ := okP_seq ok
    obtain rfl : m = 59 := by omega
    have hl := dpAll_len ha
    refine ite_f ?_
    repeat lcg_off
    refine ite_d (fun c => ?_) (fun c => ?_)
    · repeat lcg_off
      refine q0 ?_ _ (fun _ _ h => h)
      cases ds with
      | nil => rfl
      | cons a r => cases r with
        | nil => cases a <;> rfl
        | cons b r => simp at hl; omega
    · repeat lcg_off
      obtain ⟨d0, d1, rest, rfl⟩ : ∃ d0 d1 rest, ds = d0 :: d1 :: rest := by
        cases ds with
        | nil => simp at hl; subst hl; simp at c
        | cons a r => cases r with
          | nil => simp at hl; rw [hl] at c; simp at c
          | cons b r => exact ⟨a, b, r, rfl⟩
      cases d0 with
      | str w =>
        cases ha with
        | cons h0 ha =>
        cases h0
        cases ha with
        | @cons x1 vr _ _ h1 ha =>
        have m1 : okP 59 d1 = true := hm _ (by simp)
        have mr : ∀ d ∈ rest, okP 59 d = true := fun d h => hm _ (by simp [h])
        clear hm hl c k non
        have q0 : partsW w (d1 :: rest) = none → ∀ H', Same H H' → Q .non H' := q0
        have q1 : ∀ ps, partsW w (d1 :: rest) = some ps → ∀ (p : Addr) (ws : List V) (H' : Hp), New H H' p (.lst ws) → DpAll K H' ws ps → Q (.ref p) H' := q1
        refine c_star21 hs fun pr H1 N1 => ?_
        have s1 := N1.same
        have d1' := dp_same s1 h1
        have a' := dpAll_same s1 ha
        have lr := dpAll_len a'
        repeat lcg_off
        refine ite_d (fun e => ?_) (fun e => ?_)
        · subst e
          rw [pw_name] at q0 q1
          repeat lcg_off
          refine ite_d (fun c => ?_) (fun c => ?_)
          · obtain rfl : vr = [] := by have c' := c; injection c' with c'; simp at c'; exact List.length_eq_zero_iff.mp (by omega)
            cases a'
            repeat lcg_off
            refine ⟨_, d1, rfl, d1', okP_mono (by decide) m1, fun H2 s2 => ?_⟩
            repeat lcg_off
            refine ite_b (fun e => ?_) (fun e => ?_)
            · repeat lcg_off
              exact fun p H3 N3 => q1 [] (by simp only [pOne, e, if_true]) p [] H3 (N3.after (s1.trans s2)) .nil
            · repeat lcg_off
              exact q0 (by simp only [pOne, e, Bool.false_eq_true, if_false]) H2 (s1.trans s2)
          · refine ite_f ?_
            repeat lcg_off
            refine q0 ?_ _ s1
            cases rest with
            | nil => cases a'; simp at c
            | cons _ _ => rfl
        repeat lcg_off
        refine ite_d (fun e => ?_) (fun e => ?_)
        · subst e
          rw [pw_tree] at q0 q1
          repeat lcg_off
          refine ite_d (fun c => ?_) (fun c => ?_)
          · obtain rfl : vr = [] := by have c' := c; injection c' with c'; simp at c'; exact List.length_eq_zero_iff.mp (by omega)
            cases a'
            repeat lcg_off
            refine ⟨_, d1, rfl, d1', okP_mono (by decide) m1, fun H2 s2 => ?_⟩
            repeat lcg_off
            refine ite_b (fun e => ?_) (fun e => ?_)
            · repeat lcg_off
              exact fun p H3 N3 => q1 [] (by simp only [pOne, e, if_true]) p [] H3 (N3.after (s1.trans s2)) .nil
            · repeat lcg_off
              exact q0 (by simp only [pOne, e, Bool.false_eq_true, if_false]) H2 (s1.trans s2)
          · refine ite_f ?_
            repeat lcg_off
            refine q0 ?_ _ s1
            cases rest with
            | nil => cases a'; simp at c
            | cons _ _ => rfl
        repeat lcg_off
        refine ite_d (fun e => ?_) (fun e => ?_)
        · subst e
          rw [pw_every] at q0 q1
          repeat lcg_off
          refine ite_d (fun c => ?_) (fun c => ?_)
          · obtain ⟨x2, x3, rfl⟩ : ∃ x2 x3, vr = [x2, x3] := by
              have : vr.length = 2 := by have := c; injection this with this; simp at this; omega
              match vr, this with
              | [a, b], _ => exact ⟨a, b, rfl⟩
            cases a' with
            | @cons _ _ d2 _ h2 a' =>
            cases a' with
            | @cons _ _ d3 _ h3 a' =>
            cases a'
            have m2 := mr d2 (by simp)
            repeat lcg_off
            refine ⟨_, d1, 0, rfl, d1', okP_mono (by decide) m1, fun H2 s2 => ?_⟩
            repeat lcg_off
            refine ite_b (fun e1 => ?_) (fun e1 => ?_)
            · repeat lcg_off
              refine ⟨_, d2, 1, rfl, dp_same s2 h2, okP_mono (by decide) m2, fun H3 s3 => ?_⟩
              repeat lcg_off
              refine ite_b (fun e2 => ?_) (fun e2 => ?_)
              · repeat lcg_off
                exact fun p H4 N4 => q1 [d3] (by simp only [pEvery, e1, e2, Bool.and_self, if_true]) p _ H4 (N4.after (s1.trans (s2.trans s3))) (.cons (dp_same (s2.trans (s3.trans N4.same)) h3) .nil)
              · repeat lcg_off
                exact q0 (by simp only [pEvery, e1, e2, Bool.and_false, Bool.false_eq_true, if_false]) _ (s1.trans (s2.trans s3))
            · refine ite_f ?_
              repeat lcg_off
              exact q0 (by simp only [pEvery, e1, Bool.false_and, Bool.false_eq_true, if_false]) _ (s1.trans s2)
          · refine ite_f ?_
            repeat lcg_off
            refine q0 ?_ _ s1
            match rest, lr with
            | [], _ => rfl
            | [_], _ => rfl
            | [_, _], lr => exact absurd (by rw [List.length_cons, lr]; rfl) c
            | _ :: _ :: _ :: _, _ => rfl
        repeat lcg_off
        refine ite_d (fun e => ?_) (fun e => ?_)
        · subst e
          rw [pw_ahead] at q0 q1
          repeat lcg_off
          refine ite_d (fun c => ?_) (fun c => ?_)
          · obtain ⟨x2, rfl⟩ : ∃ x2, vr = [x2] := by
              have : vr.length = 1 := by have := c; injection this with this; simp at this; omega
              match vr, this with
              | [a], _ => exact ⟨a, rfl⟩
            cases a' with
            | @cons _ _ d2 _ h2 a' =>
            cases a'
            repeat lcg_off
            refine ⟨_, d1, 0, rfl, d1', okP_mono (by decide) m1, fun H2 s2 => ?_⟩
            repeat lcg_off
            refine ite_b (fun e1 => ?_) (fun e1 => ?_)
            · repeat lcg_off
              exact fun p H4 N4 => q1 [d2] (by simp only [pAhead, e1, if_true]) p _ H4 (N4.after (s1.trans s2)) (.cons (dp_same (s2.trans N4.same) h2) .nil)
            · repeat lcg_off
              exact q0 (by simp only [pAhead, e1, Bool.false_eq_true, if_false]) _ (s1.trans s2)
          · refine ite_f ?_
            repeat lcg_off
            refine q0 ?_ _ s1
            match rest, lr with
            | [], _ => rfl
            | [_], lr => exact absurd (by rw [List.length_cons, lr]; rfl) c
            | _ :: _ :: _, _ => rfl
        repeat lcg_off
        refine ite_d (fun e => ?_) (fun e => ?_)
        · subst e
          rw [pw_paint] at q0 q1
          repeat lcg_off
          refine ite_d (fun c => ?_) (fun c => ?_)
          · obtain ⟨x2, x3, x4, rfl⟩ : ∃ x2 x3 x4, vr = [x2, x3, x4] := by
              have : vr.length = 3 := by have := c; injection this with this; simp at this; omega
              match vr, this with
              | [a, b, f], _ => exact ⟨a, b, f, rfl⟩
            cases a' with
            | @cons _ _ d2 _ h2 a' =>
            cases a' with
            | @cons _ _ d3 _ h3 a' =>
            cases a' with
            | @cons _ _ d4 _ h4 a' =>
            cases a'
            have m2 := mr d2 (by simp)
            have m3 := mr d3 (by simp)
            repeat lcg_off
            refine ⟨_, d1, 0, rfl, d1', okP_mono (by decide) m1, fun H2 s2 => ?_⟩
            repeat lcg_off
            refine ite_b (fun e1 => ?_) (fun e1 => ?_)
            · repeat lcg_off
              refine ⟨_, d2, 1, rfl, dp_same s2 h2, okP_mono (by decide) m2, fun H3 s3 => ?_⟩
              repeat lcg_off
              refine ite_b (fun e2 => ?_) (fun e2 => ?_)
              · repeat lcg_off
                obtain ⟨i, rfl⟩ := isNumD_int e1
                obtain ⟨j, rfl⟩ := isNumD_int e2
                cases d1'
                cases h2
                repeat lcg_off
                refine ite_d (fun c3 => ?_) (fun c3 => ?_)
                · repeat lcg_off
                  refine ⟨_, d3, rfl, dp_same (s2.trans s3) h3, okP_mono (by decide) m3, fun H4 s4 => ?_⟩
                  repeat lcg_off
                  refine ite_b (fun e4 => ?_) (fun e4 => ?_)
                  · repeat lcg_off
                    exact fun p H5 N5 => q1 [d4] (by simp only [pPaint, e1, e2, e4, ltD, decide_eq_true c3, Bool.and_self, if_true]) p _ H5 (N5.after (s1.trans (s2.trans (s3.trans s4)))) (.cons (dp_same (s2.trans (s3.trans (s4.trans N5.same))) h4) .nil)
                  · repeat lcg_off
                    exact q0 (by simp only [pPaint, e4, Bool.and_false, Bool.false_eq_true, if_false]) _ (s1.trans (s2.trans (s3.trans s4)))
                · refine ite_f ?_
                  repeat lcg_off
                  exact q0 (by simp only [pPaint, ltD, decide_eq_false c3, Bool.and_false, Bool.false_and, Bool.false_eq_true, if_false]) _ (s1.trans (s2.trans s3))
              · refine ite_f ?_
                repeat lcg_off
                exact q0 (by simp only [pPaint, e2, Bool.and_false, Bool.false_and, Bool.false_eq_true, if_false]) _ (s1.trans (s2.trans s3))
            · repeat lcg_off
              refine ite_f ?_
              repeat lcg_off
              refine ite_f ?_
              repeat lcg_off
              exact q0 (by simp only [pPaint, e1, Bool.false_and, Bool.false_eq_true, if_false]) _ (s1.trans s2)
          · repeat lcg_off
            refine ite_f ?_
            repeat lcg_off
            refine ite_f ?_
            repeat lcg_off
            refine q0 ?_ _ s1
            match rest, lr with
            | [], _ => rfl
            | [_], _ => rfl
            | [_, _], _ => rfl
            | [_, _, _], lr => exact absurd (by rw [List.length_cons, lr]; rfl) c
            | _ :: _ :: _ :: _ :: _, _ => rfl
        repeat lcg_off
        refine ite_d (fun e => ?_) (fun e => ?_)
        · subst e
          rw [pw_gather] at q0 q1
          repeat lcg_off
          refine ite_d (fun c => ?_) (fun c => ?_)
          · obtain rfl : vr = [] := by have c' := c; injection c' with c'; simp at c'; exact List.length_eq_zero_iff.mp (by omega)
            cases a'
            repeat lcg_off
            exact q1 [d1] rfl pr _ H1 N1 (.cons d1' .nil)
          · repeat lcg_off
            refine q0 ?_ _ s1
            cases rest with
            | nil => cases a'; simp at c
            | cons _ _ => rfl
        repeat lcg_off
        refine ite_d (fun e => ?_) (fun e => ?_)
        · subst e
          rw [pw_weave] at q0 q1
          repeat lcg_off
          refine ite_d (fun c => ?_) (fun c => ?_)
          · repeat lcg_off
            refine ite_d (fun c2 => ?_) (fun c2 => ?_)
            · repeat lcg_off
              exact q1 (d1 :: rest) (if_pos (by simp at c c2 ⊢; omega)) pr _ H1 N1 (.cons d1' a')
            · repeat lcg_off
              exact q0 (if_neg (by simp at c c2 ⊢; omega)) _ s1
          · repeat lcg_off
            refine ite_f ?_
            repeat lcg_off
            exact q0 (if_neg (by simp at c ⊢; omega)) _ s1
        repeat lcg_off
        refine q0 ?_ _ s1
        unfold partsW
        rename_i e1 e2 e3 e4 e5 e6 e7
        rw [if_neg ‹¬w = "name"›, if_neg ‹¬w = "tree"›, if_neg ‹¬w = "every"›, if_neg ‹¬w = "ahead"›, if_neg ‹¬w = "paint"›, if_neg ‹¬w = "gather"›, if_neg ‹¬w = "weave"›]
      | _ => simp [wordy] at wd
  | _ =>
    refine ite_t ?_
    repeat lcg_off
    exact q0 rfl _ (fun _ _ h => h)
end
end TD

end
section
open TD L2
/-- what stands at an address -/
local macro_rules | `(tactic| lcg_sub) => `(tactic| first | assumption | exact upd_same | exact New.at_ (by assumption) | (refine New.same (by assumption) _ _ ?_; lcg_sub) | (refine (show Same _ _ from by assumption) _ _ ?_; lcg_sub) | (refine Eq.trans (upd_ne (by first | assumption | exact Ne.symm (by assumption))) ?_; lcg_sub))
/-- a list, a tuple to be read -/
local macro_rules | `(tactic| lcg_src) => `(tactic| first | assumption | exact SqL.of (by lcg_sub) | exact SqT.of (by lcg_sub) | (refine Same.seq (New.same (by assumption)) ?_; lcg_src) | (refine Same.seq (by assumption) ?_; lcg_src) | (refine sameT (New.same (by assumption)) ?_; lcg_src) | (refine sameT (by assumption) ?_; lcg_src))
/-- data at a value -/
local macro_rules | `(tactic| kp_flats) => `(tactic| first | assumption | exact Dp.str _ | exact Dp.int _ | exact Dp.non | exact Dp.bl _ | (refine dp_same (New.same (by assumption)) ?_; kp_flats) | (refine dp_same (by assumption) ?_; kp_flats))
/-- one step of a reading -/
local macro_rules | `(tactic| lcg_off) => `(tactic| first
  | with_reducible refine Stp.go ?_
  | ((with_reducible show tVar _ _ _ _); refine c_var (by rfl) ?_)
  | ((with_reducible show rIxL _ _ _ _ _); refine c_ixL (by lcg_src) (by rfl) ?_)
  | ((with_reducible show rIxT _ _ _ _ _); refine c_ixT (by lcg_src) (by rfl) ?_)
  | ((with_reducible show rSetL _ _ _ _ _); refine c_setL (by lcg_sub) (by rfl) ?_)
  | ((with_reducible show rLenQ _ _ _ _); first | (refine c_lenL (by lcg_src) ?_) | (refine c_lenT (by lcg_src) ?_))
  | ((with_reducible show rSlL _ _ _ _ _ _); refine c_slL (by lcg_src) ?_)
  | ((with_reducible show rListQ _ _ _ _); first | (refine c_listL (by lcg_src) ?_) | (refine c_listT (by lcg_src) ?_))
  | ((with_reducible show rI _ _ _ _ _ _); refine c_IC (by first | assumption | decide | omega) ?_)
  | ((with_reducible show rIsi _ _ _ _); refine c_isi (by kp_flats) (by first | assumption | decide +kernel) ?_)
  | ((with_reducible show rIx _ _ _ _ _); refine c_ix (by first | exact .inl ⟨by lcg_src, by first | assumption | rfl⟩ | exact .inr ⟨by lcg_src, by first | assumption | rfl⟩) ?_)
  | ((with_reducible show NewW _ _ _ _); refine newW ?_)
  | ((with_reducible show rCat _ _ _ _); refine c_cat (by lcg_sub) (by lcg_sub) (le_line (by first | decide | (simp only [List.length_append, List.length_cons, List.length_nil]; omega))) ?_)
  | ((with_reducible show aAddS _ _ _ _); refine c_adds (le_line (by first | decide +kernel | assumption)) ?_)
  | ((with_reducible show rIn _ false _ _ _ _); refine c_inL (by lcg_src) (by rfl) (by rfl) ?_)
  | ((with_reducible show rIn _ true _ _ _ _); refine c_niL (by lcg_src) (by rfl) (by rfl) ?_))
/-- one step, with the new object's names -/
local macro_rules | `(tactic| k_offL) => `(tactic| first | lcg_off | ((with_reducible show ∀ _ _, New _ _ _ _ → _); intro _ _ _))
/-- an error that is held -/
local macro_rules | `(tactic| one_item) => `(tactic| first | assumption | (refine ErrV.same ?_ (New.same (by assumption)); one_item) | (refine ErrV.same ?_ (by assumption); one_item))
/-- nothing was changed -/
local macro_rules | `(tactic| one_place) => `(tactic| first | assumption | exact fun _ _ h => h | exact New.same (by assumption) | (refine Same.trans ?_ (New.same (by assumption)); one_place) | (refine Same.trans ?_ (by assumption); one_place))
/-- what an expression makes, as data -/
local macro_rules | `(tactic| one_sign) => `(tactic| first | exact EvD.str | exact EvD.int | exact EvA.nil | exact EvD.neg | (apply EvA.cons; (focus one_sign); one_sign) | (apply EvD.tup; (focus one_sign); (first | decide | (simp only [List.length_append, List.length_cons, List.length_nil]; omega))) | (apply EvD.var; (focus rfl); kp_flats) | (apply EvL.var; (focus rfl); (focus lcg_sub); assumption) | (apply EvL.lst; (focus one_sign); (first | decide | (simp only [List.length_append, List.length_cons, List.length_nil]; omega))) | (apply EvL.cat; (focus one_sign); (focus one_sign); (first | decide | (simp only [List.length_append, List.length_cons, List.length_nil]; omega))) | (apply EvD.tupOf; one_sign) | (apply EvD.rep; (focus one_sign); (focus simp); (focus decide); (focus decide); decide) | (apply EvL.rep; (focus one_sign); (focus decide); decide) | (apply EvD.adds; (focus one_sign); (focus one_sign); decide +kernel) | exact EvD.non | exact EvD.bl | (apply EvD.ofL; one_sign))
/-- one step, but not into a new list, a new tuple -/
local macro_rules | `(tactic| k_asm) => `(tactic| (fail_if_success (with_reducible show tLst _ _ _ _)); (fail_if_success (with_reducible show tTup _ _ _ _)); (fail_if_success (with_reducible show tOp rCat _ _ _ _ _)); lcg_off)
namespace TD
open PySem PySem.Spec L2 PySem.Calls PySem.TDX
open PyProof.Rows hiding St
/-! ### the law's formulas -/
/-- a class with a step of at most m -/
def spClass (K : PySem.W.Frag) : Sp := fun vs H Q _ => ∃ (b L : Addr) (m : Int) (G : Hp), vs = [.ref b, .int m] ∧ BagV K H b L G ∧ 1 ≤ m ∧ m ≤ 10 ^ 9 ∧
  ∀ (p : Addr) (a s : Nat) (H' G' : Hp), BagV K H' b L G' → New G G' p (.tup [.int a, .int s]) → a < s → (s : Int) ≤ m → Q (.ref p) H'
theorem pure_l_class {K : PySem.W.Frag} {vs : List V} {H : Hp} {Q : VK} {E : XK} (h : spClass K vs H Q E) : t_l_class K (spPull K) { nx := fun _ H' => Q .non H', rt := Q } (start ns_l_class vs) H := by
  obtain ⟨b, L, m, G, rfl, B, m1, m2, q⟩ := h
  unfold t_l_class
  repeat lcg_off
  refine ⟨b, _, _, G, rfl, B, by omega, by omega, fun r H1 r0 r1 B1 => ?_⟩
  obtain ⟨r, rfl⟩ := Int.eq_ofNat_of_zero_le r0
  repeat lcg_off
  rw [show (1 : Int) + (r : Int) = ((r + 1 : Nat) : Int) by push_cast; omega]
  refine ⟨b, _, _, G, rfl, B1, by omega, by omega, fun a H2 a0 a1 B2 => ?_⟩
  obtain ⟨a, rfl⟩ := Int.eq_ofNat_of_zero_le a0
  repeat lcg_off
  intro p H3 N3
  obtain ⟨B3, M3⟩ := B2.next N3
  exact q p a (r + 1) H3 _ B3 M3 (by omega) (by omega)
theorem cpow29 : CPow 10 29 := ⟨by decide, by decide, by decide⟩
/-- _law_formula -/
def spLForm (K : PySem.W.Frag) (n : Nat) : Sp := fun vs H Q _ => ∃ (b L p : Addr) (G : Hp) (ns : List (List Nat)) (d : Nat), 1 ≤ d ∧ d ≤ n ∧ vs = [.ref b, .ref p, .int d] ∧ BagV K H b L G ∧ G p = some (.lst (ns.map fun n => .str (S n))) ∧ ns ≠ [] ∧ ns.length ≤ 1000 ∧
  ∀ (f : Fm) (v : V) (H' G' : Hp), BagV K H' b L G' → Same G G' → Dp K G' v f.data → f.fits (· ∈ ns) d → Q v H'
theorem pure_l_formula {K : PySem.W.Frag} {n : Nat} {vs : List V} {H : Hp} {Q : VK} {E : XK} (h : spLForm K n vs H Q E) : t_l_formula K (spClass K) (spP (spLForm K) n) (spOf K) (spPull K) (spLTree K 2) { nx := fun _ H' => Q .non H', rt := Q } (start ns_l_formula vs) H := by
  obtain ⟨b, L, p, G, ns, d, d1, hdn, rfl, B, hp, hne, hl, q⟩ := h
  unfold t_l_formula
  -- behind the way's drawing
  have key : ∀ (w : Nat) (H1 : Hp), BagV K H1 b L G → w < 8 → (2 ≤ d ∨ w < 2) → ∀ rest : TS, ∀ D : Ends, ∀ σ : L2.St, (∀ H1, BagV K H1 b L G → rest D σ H1) → rest D σ H1 := fun w H1 B1 _ _ rest D σ h => h H1 B1
  repeat lcg_off
  have go : ∀ (r : Int) (H1 : Hp), BagV K H1 b L G → 0 ≤ r → (d = 1 → r < 2) → r < 8 → ∀ (R : V → Hp → Prop), (∀ w : Nat, (w : Int) = r → R (.int w) H1) → R (.int r) H1 := fun r H1 _ r0 _ _ R h => by
    obtain ⟨w, rfl⟩ := Int.eq_ofNat_of_zero_le r0
    exact h w rfl
  have first : ∀ (R : V → Hp → Prop), (∀ (w : Nat) (H1 : Hp), BagV K H1 b L G → (d = 1 → w < 2) → w < 8 → R (.int w) H1) →
      (if decide ((1 : Int) < (d : Int)) = true then (tCall (spPull K) [] E0 (tCons (tVar 0) (tCons (tC (.int 8)) tNil))) [some (.ref b), some (.ref p), some (.int d), none, none, none, none, none, none] H R else (tCall (spPull K) [] E0 (tCons (tVar 0) (tCons (tC (.int 2)) tNil))) [some (.ref b), some (.ref p), some (.int d), none, none, none, none, none, none] H R) := fun R hR => by
    refine ite_d (fun c => ?_) (fun c => ?_)
    · repeat lcg_off
      refine ⟨b, _, _, G, rfl, B, by decide, by decide, fun r H1 r0 r1 B1 => ?_⟩
      obtain ⟨w, rfl⟩ := Int.eq_ofNat_of_zero_le r0
      exact hR w H1 B1 (fun e => by omega) (by omega)
    · repeat lcg_off
      refine ⟨b, _, _, G, rfl, B, by decide, by decide, fun r H1 r0 r1 B1 => ?_⟩
      obtain ⟨w, rfl⟩ := Int.eq_ofNat_of_zero_le r0
      exact hR w H1 B1 (fun e => by omega) (by omega)
  refine first _ fun w H1 B1 w1 w8 => ?_
  clear first go key
  repeat lcg_off
  refine ite_d (fun c => ?_) (fun c0 => ?_)
  · -- name
    repeat lcg_off
    refine ⟨b, _, _, G, rfl, B1, .inl ⟨p, _, rfl, .inl (SqL.of hp), by simpa using hne, by simp; omega, fun y hy H2 B2 => ?_⟩⟩
    obtain ⟨n, hn, rfl⟩ := List.mem_map.mp hy
    repeat lcg_off
    intro c3 H3 N3
    obtain ⟨B3, M3⟩ := B2.next N3
    refine q (.name n) _ H3 _ B3 M3.same ?_ hn
    rw [Fm.data]
    exact .tup (SqT.of M3.at_) (.cons (.str _) (.cons (.str _) .nil))
  repeat lcg_off
  refine ite_d (fun c => ?_) (fun c => ?_)
  · -- tree
    repeat lcg_off
    intro c2 H2 N2
    obtain ⟨B2, M2⟩ := B1.next N2
    repeat lcg_off
    refine ⟨b, L, c2, 3, _, abN, 2, by decide, rfl, B2, M2.at_, by simp, by simp, by decide, by decide, fun t v H3 G3 B3 s3 d3 f3 => ?_⟩
    repeat lcg_off
    intro c4 H4 N4
    obtain ⟨B4, M4⟩ := B3.next N4
    refine q (.tree t) _ H4 _ B4 (M2.same.trans (s3.trans M4.same)) ?_ f3
    rw [Fm.data]
    exact .tup (SqT.of M4.at_) (.cons (.str _) (.cons (dp_same M4.same d3) .nil))
  have hw0 : w ≠ 0 := fun e => by subst e; exact c0 rfl
  have hw1 : w ≠ 1 := fun e => by subst e; exact c rfl
  have hd2 : 2 ≤ d := by
    rcases Nat.lt_or_ge 1 d with h | h
    · exact h
    · have := w1 (by omega); omega
  obtain ⟨d, rfl⟩ : ∃ k, d = k + 1 := ⟨d - 1, by omega⟩
  cases n with
  | zero => omega
  | succ n =>
  repeat lcg_off
  rw [show ((d + 1 : Nat) : Int) - 1 = (d : Int) by push_cast; omega]
  refine ⟨b, L, p, G, ns, d, by omega, by omega, rfl, B1, hp, hne, hl, fun f v H2 G2 B2 s2 d2 f2 => ?_⟩
  have hp2 := s2 _ _ hp
  repeat lcg_off
  refine ite_d (fun c => ?_) (fun c => ?_)
  · -- every
    repeat lcg_off
    refine ⟨b, _, _, _, rfl, B2, by decide, by decide, fun a H3 a0 a1 B3 => ?_⟩
    obtain ⟨a, rfl⟩ := Int.eq_ofNat_of_zero_le a0
    repeat lcg_off
    refine ⟨b, _, _, _, rfl, B3, by decide, by decide, fun s H4 r0 r1 B4 => ?_⟩
    obtain ⟨s, rfl⟩ := Int.eq_ofNat_of_zero_le r0
    repeat lcg_off
    intro c5 H5 N5
    obtain ⟨B5, M5⟩ := B4.next N5
    refine q (.every a (s + 1) f) _ H5 _ B5 (s2.trans M5.same) ?_ ⟨hd2, by omega, by omega, by omega, f2⟩
    rw [Fm.data]
    have e := M5.at_
    rw [show (1 : Int) + (s : Int) = ((s + 1 : Nat) : Int) by push_cast; omega] at e
    exact .tup (SqT.of e) (.cons (.str _) (.cons (.int _) (.cons (.int _) (.cons (dp_same M5.same d2) .nil))))
  repeat lcg_off
  refine ite_d (fun c => ?_) (fun c => ?_)
  · -- ahead
    repeat lcg_off
    refine c_IC cpow29 ?_
    repeat lcg_off
    intro c3 H3 N3
    obtain ⟨B3, M3⟩ := B2.next N3
    repeat lcg_off
    refine ⟨b, _, _, _, rfl, B3, .inl ⟨c3, _, rfl, .inl (SqL.of M3.at_), by simp, by simp, fun y hy H4 B4 => ?_⟩⟩
    have hy' : ∃ m : Int, y = .int m ∧ 0 < m ∧ m ≤ 10 ^ 29 := by
      simp only [List.mem_cons, List.mem_nil_iff, or_false] at hy
      rcases hy with rfl | rfl
      · exact ⟨9, rfl, by decide, by decide⟩
      · exact ⟨_, rfl, by decide, by decide⟩
    obtain ⟨m, rfl, m0, m1⟩ := hy'
    repeat lcg_off
    refine ⟨b, _, _, _, rfl, B4, m0, by omega, fun a H5 a0 a1 B5 => ?_⟩
    obtain ⟨a, rfl⟩ := Int.eq_ofNat_of_zero_le a0
    repeat lcg_off
    intro c6 H6 N6
    obtain ⟨B6, M6⟩ := B5.next N6
    refine q (.ahead a f) _ H6 _ B6 (s2.trans (M3.same.trans M6.same)) ?_ ⟨hd2, by omega, f2⟩
    rw [Fm.data]
    exact .tup (SqT.of M6.at_) (.cons (.str _) (.cons (.int _) (.cons (dp_same (M3.same.trans M6.same) d2) .nil)))
  repeat lcg_off
  refine ite_d (fun c => ?_) (fun c => ?_)
  · -- paint
    repeat lcg_off
    refine ⟨b, L, 6, _, rfl, B2, by decide, by decide, fun c3 a s H3 G3 B3 M3 has hs => ?_⟩
    refine c_gTup (SqT.of (B3.at M3.at_)) rfl ?_
    repeat lcg_off
    intro c4 H4 N4
    obtain ⟨B4, M4⟩ := B3.next N4
    repeat lcg_off
    refine ⟨b, _, _, _, rfl, B4, .inl ⟨c4, _, rfl, .inl (SqL.of M4.at_), by simp, by simp, fun y hy H5 B5 => ?_⟩⟩
    have hy' : ∃ o ∈ axN, y = .str (S o) := by
      simp only [List.mem_cons, List.mem_nil_iff, or_false] at hy
      rcases hy with rfl | rfl | rfl
      · exact ⟨[97], by decide, rfl⟩
      · exact ⟨[120], by decide, rfl⟩
      · exact ⟨[45], by decide, rfl⟩
    obtain ⟨o, ho, rfl⟩ := hy'
    repeat lcg_off
    intro c6 H6 N6
    obtain ⟨B6, M6⟩ := B5.next N6
    refine q (.paint a s o f) _ H6 _ B6 (s2.trans (M3.same.trans (M4.same.trans M6.same))) ?_ ⟨hd2, has, by omega, ho, f2⟩
    rw [Fm.data]
    exact .tup (SqT.of M6.at_) (.cons (.str _) (.cons (.int _) (.cons (.int _) (.cons (.str _) (.cons (dp_same (M3.same.trans (M4.same.trans M6.same)) d2) .nil)))))
  repeat lcg_off
  refine ite_d (fun c => ?_) (fun c => ?_)
  · -- gather
    repeat lcg_off
    intro c3 H3 N3
    obtain ⟨B3, M3⟩ := B2.next N3
    refine q (.gather f) _ H3 _ B3 (s2.trans M3.same) ?_ ⟨hd2, f2⟩
    rw [Fm.data]
    exact .tup (SqT.of M3.at_) (.cons (.str _) (.cons (dp_same M3.same d2) .nil))
  repeat lcg_off
  intro c3 H3 N3
  obtain ⟨B3, M3⟩ := B2.next N3
  repeat lcg_off
  refine ⟨b, _, _, _, rfl, B3, .inl ⟨c3, _, rfl, .inl (SqL.of M3.at_), by simp, by simp, fun y hy H4 B4 => ?_⟩⟩
  have hy' : ∃ m : Nat, y = .int m ∧ 1 ≤ m ∧ m ≤ 2 := by
    simp only [List.mem_cons, List.mem_nil_iff, or_false] at hy
    rcases hy with rfl | rfl | rfl
    · exact ⟨1, rfl, by decide, by decide⟩
    · exact ⟨1, rfl, by decide, by decide⟩
    · exact ⟨2, rfl, by decide, by decide⟩
  obtain ⟨m, rfl, m0, m1⟩ := hy'
  repeat lcg_off
  refine ⟨_, rfl, by omega, by omega, ?_⟩
  rw [Int.toNat_natCast]
  refine lcB B4 (fun _ y H => ∃ f : Fm, f.fits (· ∈ ns) d ∧ Dp K H y f.data) (fun _ _ _ _ s ⟨t, h1, h2⟩ => ⟨t, h1, dp_same s h2⟩) (le_line (by omega)) (fun x => rfl) (fun i D acc H5 G5 Q5 hi B5 s5 aD q5 => ?_) (fun D H5 G5 ys B5 N5 hys hR => ?_)
  · repeat lcg_off
    rw [show ((d + 1 : Nat) : Int) - 1 = (d : Int) by push_cast; omega]
    refine ⟨b, L, p, G5, ns, d, by omega, by omega, rfl, B5, s5 _ _ (M3.same _ _ hp2), hne, hl, fun g v H6 G6 B6 s6 d6 f6 => ?_⟩
    exact q5 v H6 G6 B6 s6 ⟨g, f6, dp_noL (xs := acc) (s6 _ _ aD) (noL_fm g) d6⟩
  · repeat lcg_off
    obtain ⟨fs, ha, hfs, hf⟩ := collect hR
    intro c6 H6 N6
    obtain ⟨B6, M6⟩ := B5.next N6
    repeat lcg_off
    refine c_cat (B6.at M6.at_) (B6.at (M6.same _ _ N5.at_)) (le_line (by simp; omega)) fun c7 H7 N7 => ?_
    obtain ⟨B7, M7⟩ := B6.next N7
    refine c_tupL (SqL.of (B7.at M7.at_)) fun c8 H8 N8 => ?_
    obtain ⟨B8, M8⟩ := B7.next N8
    refine q (.weave (f :: fs)) _ H8 _ B8 (s2.trans (M3.same.trans (N5.same.trans (M6.same.trans (M7.same.trans M8.same))))) ?_ ⟨hd2, by simp; omega, by simp; omega, f2, Fm.fitsAll_of hf⟩
    rw [Fm.data, Fm.dataAll_map]
    refine .tup (SqT.of M8.at_) (.cons (.str _) (.cons (dp_same (M3.same.trans (N5.same.trans (M6.same.trans (M7.same.trans M8.same)))) d2) ?_))
    exact dpAll_same (mask_same.trans (M6.same.trans (M7.same.trans M8.same))) ha
/-- _law_inner -/
def spInner (K : PySem.W.Frag) : Sp := fun vs H Q _ => ∃ (v : V) (f : Fm), vs = [v] ∧ Dp K H v f.data ∧ f.parts.length ≤ 1000 ∧
  ∀ (p : Addr) (ws : List V) (H' : Hp), New H H' p (.lst ws) → DpAll K H' ws (f.parts.map Fm.data) → Q (.ref p) H'
def headN : Fm → Nat
  | .name _ => 9
  | .tree _ => 9
  | .every .. => 3
  | .ahead .. => 2
  | .paint .. => 4
  | .gather _ => 1
  | .weave _ => 1
theorem headN_drop (f : Fm) : (f.head ++ f.parts.map Fm.data).drop (headN f) = f.parts.map Fm.data := by cases f <;> rfl
theorem dpAll_drop {K : PySem.W.Frag} {H : Hp} : ∀ {vs : List V} {ds : List PyData} (n : Nat), DpAll K H vs ds → DpAll K H (vs.drop n) (ds.drop n)
  | _, _, 0, h => h
  | _, _, n + 1, .nil => .nil
  | _, _, n + 1, .cons _ t => dpAll_drop n t
theorem cut_dropV (xs : List V) (n : Nat) : cutV xs (some (n : Int)) none = xs.drop n := by
  unfold cutV
  rw [HT.sIx_nat]
  show ((xs.drop (min n xs.length)).take (xs.length - min n xs.length)) = xs.drop n
  rw [List.take_of_length_le (by rw [List.length_drop]; omega)]
  by_cases h : n ≤ xs.length
  · rw [show min n xs.length = n by omega]
  · rw [show min n xs.length = xs.length by omega, List.drop_eq_nil_of_le (by omega), List.drop_eq_nil_of_le (by omega)]
theorem c_slA {K : PySem.W.Frag} {H : Hp} {Q : VK} {a : Addr} {xs : List V} {lo hi : Option Int} (hs : SqT K H a xs) (q : ∀ p H', Same H H' → SqT K H' p (cutV xs lo hi) → Q (.ref p) H') : rSlA K (.ref a) lo hi H Q := by
  refine ⟨a, xs, rfl, hs, fun h => ?_, fun _ p n => ?_⟩
  · refine q a H (fun _ _ h => h) ?_
    have : cutV xs lo hi = xs := by
      unfold cutV
      rw [h.1, h.2]
      simp
    rw [this]; exact hs
  · have N := new_upd (o := .tup (cutV xs lo hi)) n
    exact q p _ N.same (SqT.of N.at_)
/-- {"a": 1, ..} of written texts and values -/
def dS (l : List (Str × V)) : List (TE × TE) := l.map fun p => (tC (.str p.1), tC p.2)
abbrev dKs (l : List (Str × V)) : List (Key × V) := l.map fun p => (Sum.inr p.1, p.2)
theorem pairs_c {σ : L2.St} {H : Hp} : ∀ (l : List (Str × V)) (R : List (V × V) → Hp → Prop), R (l.map fun p => (.str p.1, p.2)) H → tPairs (dS l) σ H R
  | [], R, h => h
  | p :: r, R, h => pairs_c r (fun ps H' => R ((.str p.1, p.2) :: ps) H') h
theorem c_disp {σ : L2.St} {H : Hp} {Q : VK} (l : List (Str × V)) (hl : l.length ≤ 15) (q : ∀ p H1, New H H1 p (.dK (mergeK [] (dKs l))) → Q (.ref p) H1) : tDisp (dS l) σ H Q := fun p hp => by
  refine pairs_c l _ ⟨upd_same, dKs l, by rw [List.map_map]; rfl, by rw [List.length_map]; exact hl, ?_⟩
  rw [upd_upd]
  exact q p _ (new_upd hp)
theorem c_dget {H : Hp} {P : V → Prop} {a : Addr} {kvs : List (Key × V)} {w : Str} {v : V} (e : H a = some (.dK kvs)) (h : valV kvs (.inr w) = some v) (q : P v) : ∃ b u, V.ref a = .ref b ∧ DGet H b (.str w) (some u) ∧ P u := ⟨a, v, rfl, h ▸ DGet.k (k := Sum.inr w) e, q⟩
instance {td ty : TE} {σ : L2.St} {H : Hp} {Q : VK} : Stp (tDGet td ty σ H Q) (td σ H fun x H1 => ty σ H1 fun y H2 => ∃ a v, x = .ref a ∧ DGet H2 a y (some v) ∧ Q v H2) := ⟨id⟩
abbrev headsL : List (Str × V) := [("name", .int 9), ("tree", .int 9), ("every", .int 3), ("ahead", .int 2), ("paint", .int 4), ("gather", .int 1), ("weave", .int 1)]
def wordF : Fm → Str
  | .name _ => "name"
  | .tree _ => "tree"
  | .every .. => "every"
  | .ahead .. => "ahead"
  | .paint .. => "paint"
  | .gather _ => "gather"
  | .weave _ => "weave"
theorem headsL_at (f : Fm) : valV (mergeK [] (dKs headsL)) (.inr (wordF f)) = some (.int (headN f : Nat)) := by cases f <;> (simp only [wordF, headN]; decide +kernel)
theorem dp_fm {K : PySem.W.Frag} {H : Hp} {v : V} {f : Fm} (h : Dp K H v f.data) : ∃ p r, v = .ref p ∧ SqT K H p (.str (wordF f) :: r) ∧ DpAll K H (.str (wordF f) :: r) (f.head ++ f.parts.map Fm.data) := by
  rw [Fm.data_eq] at h
  cases h with
  | @tup p xs _ s a =>
    have : ∃ r, xs = .str (wordF f) :: r := by
      cases f <;> (simp only [Fm.head, List.cons_append] at a; cases a with | cons h t => cases h; exact ⟨_, rfl⟩)
    obtain ⟨r, rfl⟩ := this
    exact ⟨p, r, rfl, s, a⟩
theorem atI_zero {x : V} {r : List V} : atI (x :: r) 0 = some x := by
  unfold atI ixN
  rw [if_pos (by omega), if_pos (by simp)]
  rfl
theorem pure_l_inner {K : PySem.W.Frag} {vs : List V} {H : Hp} {Q : VK} {E : XK} (h : spInner K vs H Q E) : t_l_inner K { nx := fun _ H' => Q .non H', rt := Q } (start ns_l_inner vs) H := by
  obtain ⟨v, f, rfl, hd, hl, q⟩ := h
  unfold t_l_inner
  obtain ⟨p, r, rfl, hs, ha⟩ := dp_fm hd
  repeat lcg_off
  refine c_disp headsL (by decide) fun c1 H1 N1 => ?_
  have hs1 := sameT N1.same hs
  repeat lcg_off
  refine c_ixT hs1 atI_zero ?_
  refine c_dget N1.at_ (headsL_at f) ?_
  repeat lcg_off
  refine c_slA hs1 fun c2 H2 s2 t2 => ?_
  rw [cut_dropV] at t2
  refine c_listT t2 fun c3 H3 N3 => ?_
  refine q c3 _ H3 (N3.after (N1.same.trans s2)) ?_
  have := dpAll_drop (headN f) (dpAll_same (N1.same.trans (s2.trans N3.same)) ha)
  rwa [headN_drop] at this
end TD

end
section
open TD L2
/-- what stands at an address -/
local macro_rules | `(tactic| lcg_sub) => `(tactic| first | assumption | exact upd_same | exact New.at_ (by assumption) | (refine New.same (by assumption) _ _ ?_; lcg_sub) | (refine (show Same _ _ from by assumption) _ _ ?_; lcg_sub) | (refine Eq.trans (upd_ne (by first | assumption | exact Ne.symm (by assumption))) ?_; lcg_sub))
/-- a list, a tuple to be read -/
local macro_rules | `(tactic| lcg_src) => `(tactic| first | assumption | exact SqL.of (by lcg_sub) | exact SqT.of (by lcg_sub) | (refine Same.seq (New.same (by assumption)) ?_; lcg_src) | (refine Same.seq (by assumption) ?_; lcg_src) | (refine sameT (New.same (by assumption)) ?_; lcg_src) | (refine sameT (by assumption) ?_; lcg_src))
/-- data at a value -/
local macro_rules | `(tactic| kp_flats) => `(tactic| first | assumption | exact Dp.str _ | exact Dp.int _ | exact Dp.non | exact Dp.bl _ | (refine dp_same (New.same (by assumption)) ?_; kp_flats) | (refine dp_same (by assumption) ?_; kp_flats))
/-- one step of a reading -/
local macro_rules | `(tactic| lcg_off) => `(tactic| first
  | with_reducible refine Stp.go ?_
  | ((with_reducible show tVar _ _ _ _); refine c_var (by rfl) ?_)
  | ((with_reducible show rIxL _ _ _ _ _); refine c_ixL (by lcg_src) (by rfl) ?_)
  | ((with_reducible show rIxT _ _ _ _ _); refine c_ixT (by lcg_src) (by rfl) ?_)
  | ((with_reducible show rSetL _ _ _ _ _); refine c_setL (by lcg_sub) (by rfl) ?_)
  | ((with_reducible show rLenQ _ _ _ _); first | (refine c_lenL (by lcg_src) ?_) | (refine c_lenT (by lcg_src) ?_))
  | ((with_reducible show rSlL _ _ _ _ _ _); refine c_slL (by lcg_src) ?_)
  | ((with_reducible show rListQ _ _ _ _); first | (refine c_listL (by lcg_src) ?_) | (refine c_listT (by lcg_src) ?_))
  | ((with_reducible show rI _ _ _ _ _ _); refine c_IC (by first | assumption | decide | omega) ?_)
  | ((with_reducible show rIsi _ _ _ _); refine c_isi (by kp_flats) (by first | assumption | decide +kernel) ?_)
  | ((with_reducible show rIx _ _ _ _ _); refine c_ix (by first | exact .inl ⟨by lcg_src, by first | assumption | rfl⟩ | exact .inr ⟨by lcg_src, by first | assumption | rfl⟩) ?_)
  | ((with_reducible show NewW _ _ _ _); refine newW ?_)
  | ((with_reducible show rCat _ _ _ _); refine c_cat (by lcg_sub) (by lcg_sub) (le_line (by first | decide | (simp only [List.length_append, List.length_cons, List.length_nil]; omega))) ?_)
  | ((with_reducible show aAddS _ _ _ _); refine c_adds (le_line (by first | decide +kernel | assumption)) ?_)
  | ((with_reducible show rIn _ false _ _ _ _); refine c_inL (by lcg_src) (by rfl) (by rfl) ?_)
  | ((with_reducible show rIn _ true _ _ _ _); refine c_niL (by lcg_src) (by rfl) (by rfl) ?_))
/-- one step, with the new object's names -/
local macro_rules | `(tactic| k_offL) => `(tactic| first | lcg_off | ((with_reducible show ∀ _ _, New _ _ _ _ → _); intro _ _ _))
/-- an error that is held -/
local macro_rules | `(tactic| one_item) => `(tactic| first | assumption | (refine ErrV.same ?_ (New.same (by assumption)); one_item) | (refine ErrV.same ?_ (by assumption); one_item))
/-- nothing was changed -/
local macro_rules | `(tactic| one_place) => `(tactic| first | assumption | exact fun _ _ h => h | exact New.same (by assumption) | (refine Same.trans ?_ (New.same (by assumption)); one_place) | (refine Same.trans ?_ (by assumption); one_place))
/-- what an expression makes, as data -/
local macro_rules | `(tactic| one_sign) => `(tactic| first | exact EvD.str | exact EvD.int | exact EvA.nil | exact EvD.neg | (apply EvA.cons; (focus one_sign); one_sign) | (apply EvD.tup; (focus one_sign); (first | decide | (simp only [List.length_append, List.length_cons, List.length_nil]; omega))) | (apply EvD.var; (focus rfl); kp_flats) | (apply EvL.var; (focus rfl); (focus lcg_sub); assumption) | (apply EvL.lst; (focus one_sign); (first | decide | (simp only [List.length_append, List.length_cons, List.length_nil]; omega))) | (apply EvL.cat; (focus one_sign); (focus one_sign); (first | decide | (simp only [List.length_append, List.length_cons, List.length_nil]; omega))) | (apply EvD.tupOf; one_sign) | (apply EvD.rep; (focus one_sign); (focus simp); (focus decide); (focus decide); decide) | (apply EvL.rep; (focus one_sign); (focus decide); decide) | (apply EvD.adds; (focus one_sign); (focus one_sign); decide +kernel) | exact EvD.non | exact EvD.bl | (apply EvD.ofL; one_sign))
/-- one step, but not into a new list, a new tuple -/
local macro_rules | `(tactic| k_asm) => `(tactic| (fail_if_success (with_reducible show tLst _ _ _ _)); (fail_if_success (with_reducible show tTup _ _ _ _)); (fail_if_success (with_reducible show tOp rCat _ _ _ _ _)); lcg_off)
namespace TD
open PySem PySem.Spec L2 PySem.Calls PySem.TDX
open PyProof.Rows hiding St
/-! ### is_formula, check_formula -/
/-- tuples that are asked for their parts begin with a text -/
def wordyF : Nat → PyData → Bool
  | 0, d => wordy d
  | n + 1, d => wordy d && (match partsD d with
    | some ps => ps.all (wordyF n)
    | none => true)
theorem wordyF_wordy {n : Nat} {d : PyData} (h : wordyF n d = true) : wordy d = true := by
  cases n with
  | zero => exact h
  | succ n => exact (Bool.and_eq_true_iff.mp h).1
theorem wordyF_parts {n : Nat} {d : PyData} {ps : List PyData} (h : wordyF (n + 1) d = true) (e : partsD d = some ps) : ∀ p ∈ ps, wordyF n p = true := by
  have h2 := (Bool.and_eq_true_iff.mp h).2
  rw [e] at h2
  exact fun p hp => List.all_eq_true.mp h2 p hp
theorem pOne_sub {f : PyData → Bool} {l ps : List PyData} (h : pOne f l = some ps) : ps = [] := by
  unfold pOne at h
  split at h
  · split at h
    · exact (Option.some.inj h).symm
    · cases h
  · cases h
theorem partsD_sub {d : PyData} {ps : List PyData} (h : partsD d = some ps) : ∃ w rest, d = .tuple (.str w :: rest) ∧ ps.length ≤ rest.length ∧ ∀ p ∈ ps, p ∈ rest := by
  unfold partsD at h
  split at h
  · rename_i w d rest
    refine ⟨w, d :: rest, rfl, ?_⟩
    unfold partsW at h
    by_cases h1 : w = "name"
    · rw [if_pos h1] at h; rw [pOne_sub h]; exact ⟨Nat.zero_le _, fun p hp => absurd hp (by simp)⟩
    rw [if_neg h1] at h
    by_cases h2 : w = "tree"
    · rw [if_pos h2] at h; rw [pOne_sub h]; exact ⟨Nat.zero_le _, fun p hp => absurd hp (by simp)⟩
    rw [if_neg h2] at h
    by_cases h3 : w = "every"
    · rw [if_pos h3] at h
      unfold pEvery at h
      split at h
      · split at h
        · cases h; rename_i e _; rw [e]; exact ⟨by simp, by simp⟩
        · cases h
      · cases h
    rw [if_neg h3] at h
    by_cases h4 : w = "ahead"
    · rw [if_pos h4] at h
      unfold pAhead at h
      split at h
      · split at h
        · cases h; rename_i e _; rw [e]; exact ⟨by simp, by simp⟩
        · cases h
      · cases h
    rw [if_neg h4] at h
    by_cases h5 : w = "paint"
    · rw [if_pos h5] at h
      unfold pPaint at h
      split at h
      · split at h
        · cases h; rename_i e _; rw [e]; exact ⟨by simp, by simp⟩
        · cases h
      · cases h
    rw [if_neg h5] at h
    by_cases h6 : w = "gather"
    · rw [if_pos h6] at h
      unfold pGather at h
      split at h
      · cases h; rename_i e; rw [e]; exact ⟨by simp, by simp⟩
      · cases h
    rw [if_neg h6] at h
    by_cases h7 : w = "weave"
    · rw [if_pos h7] at h
      split at h
      · cases h; exact ⟨Nat.le_refl _, fun p hp => hp⟩
      · cases h
    · rw [if_neg h7] at h; cases h
  · cases h
theorem okP_parts {n : Nat} {d : PyData} {ps : List PyData} (o : okP n d = true) (h : partsD d = some ps) : ps.length ≤ 100000 ∧ ∀ p ∈ ps, okP n p = true := by
  obtain ⟨w, rest, rfl, hl, hs⟩ := partsD_sub h
  obtain ⟨m, rfl, hz, hm⟩ := okP_seq o
  simp at hz
  exact ⟨by omega, fun p hp => okP_mono (by omega) (hm p (List.mem_cons_of_mem _ (hs p hp)))⟩
section
variable {K : PySem.W.Frag} {n : Nat} {vs : List V} {H : Hp} {Q : VK} {E : XK}
def spIsFm (K : PySem.W.Frag) (n : Nat) : Sp := fun vs H Q _ => ∃ (v : V) (d : PyData) (k : Nat), k ≤ n ∧ vs = [v, .int k] ∧ Dp K H v d ∧ okP 60 d = true ∧ wordyF k d = true ∧ ∀ H', Same H H' → Q (.bl (isFmD k d)) H'
theorem pure_is_formula (h : spIsFm K n vs H Q E) : t_is_formula K (spP (spIsFm K) n) (spParts K) { nx := fun _ H' => Q .non H', rt := Q } (start ns_is_formula vs) H := by
  obtain ⟨v, d, k, hk, rfl, hd, ok, wd, q⟩ := h
  unfold t_is_formula
  repeat lcg_off
  refine ⟨v, d, rfl, hd, ok, wordyF_wordy wd, fun e H1 s1 => ?_, fun ps e p ws H1 N1 a => ?_⟩
  · repeat lcg_off
    have e0 : isFmD k d = false := by
      cases k with
      | zero => rfl
      | succ k => rw [isFmD, e]
    rw [e0] at q
    refine ite_d (fun c => ?_) (fun c => ?_)
    · repeat lcg_off
      exact ite_f (q _ s1)
    · repeat lcg_off
      exact q _ s1
  · repeat lcg_off
    have s1 := N1.same
    refine ite_d (fun c => ?_) (fun c => ?_)
    · obtain ⟨k, rfl⟩ : ∃ j, k = j + 1 := ⟨k - 1, by omega⟩
      rw [isFmD, e] at q
      obtain ⟨hz, hm⟩ := okP_parts ok e
      have hw := wordyF_parts wd e
      have hl := dpAll_len a
      cases n with
      | zero => omega
      | succ n =>
      repeat lcg_off
      refine ite_t ?_
      repeat lcg_off
      refine ⟨_, rfl, ⟨_, SqL.of N1.at_⟩, ?_⟩
      refine lcLy (SqL.of N1.at_) (ps.map fun d => .bl (isFmD k d)) (by rw [List.length_map]; omega) (le_line (by omega)) (fun x => rfl) (fun i x y H2 Q2 hx hy s2 q2 => ?_) (fun D H2 N2 => ?_)
      · have hi := (List.getElem?_eq_some_iff.mp hx).1
        have e : ps[i]? = some (ps[i]'(by omega)) := by simp [show i < ps.length by omega]
        obtain ⟨y', hy', dy⟩ := dpAll_get a e
        rw [hx] at hy'; cases hy'
        rw [List.getElem?_map, e] at hy
        cases hy
        have hm' := List.mem_of_getElem? e
        repeat lcg_off
        exact ⟨_, _, k, by omega, by rw [show ((k + 1 : Nat) : Int) - 1 = (k : Int) by omega]; rfl, dp_same s2 dy, hm _ hm', hw _ hm', q2⟩
      · repeat lcg_off
        refine ⟨D, ps.map (isFmD k), rfl, by rw [List.map_map]; exact SqL.of N2.at_, ?_⟩
        rw [all_bl]
        exact q _ (s1.trans N2.same)
    · obtain rfl : k = 0 := by omega
      repeat lcg_off
      exact q _ s1
/-- check_formula -/
def spCheck (K : PySem.W.Frag) : Sp := fun vs H Q E => ∃ (v : V) (d : PyData), vs = [v] ∧ Dp K H v d ∧ okP 60 d = true ∧ wordyF 8 d = true ∧ (isFmD 8 d = true → ∀ H', Same H H' → Q .non H') ∧
  (isFmD 8 d = false → ∀ x H', New H H' x (.xd [("word", .str "BadFormula")]) → E (.ref (He.ga K "BadFormula")) (some x) H')
theorem pure_check_formula (T : ErrC K (He.ga K "BadFormula") ["word"]) (h : spCheck K vs H Q E) : t_check_formula K (spIsFm K 8) E { nx := fun _ H' => Q .non H', rt := Q } (start ns_check_formula vs) H := by
  obtain ⟨v, d, rfl, hd, ok, wd, q1, q0⟩ := h
  unfold t_check_formula
  repeat lcg_off
  refine ⟨v, d, 8, by omega, rfl, hd, ok, wd, fun H1 s1 => ?_⟩
  repeat lcg_off
  cases e : isFmD 8 d with
  | true =>
    refine ite_f ?_
    repeat lcg_off
    exact q1 e _ s1
  | false =>
    refine ite_t ?_
    repeat lcg_off
    exact c_xm0 T fun x H' N => q0 e x H' (N.after s1)
end
end TD

end
section
open TD L2
/-- what stands at an address -/
local macro_rules | `(tactic| lcg_sub) => `(tactic| first | assumption | exact upd_same | exact New.at_ (by assumption) | (refine New.same (by assumption) _ _ ?_; lcg_sub) | (refine (show Same _ _ from by assumption) _ _ ?_; lcg_sub) | (refine Eq.trans (upd_ne (by first | assumption | exact Ne.symm (by assumption))) ?_; lcg_sub))
/-- a list, a tuple to be read -/
local macro_rules | `(tactic| lcg_src) => `(tactic| first | assumption | exact SqL.of (by lcg_sub) | exact SqT.of (by lcg_sub) | (refine Same.seq (New.same (by assumption)) ?_; lcg_src) | (refine Same.seq (by assumption) ?_; lcg_src) | (refine sameT (New.same (by assumption)) ?_; lcg_src) | (refine sameT (by assumption) ?_; lcg_src))
/-- data at a value -/
local macro_rules | `(tactic| kp_flats) => `(tactic| first | assumption | exact Dp.str _ | exact Dp.int _ | exact Dp.non | exact Dp.bl _ | (refine dp_same (New.same (by assumption)) ?_; kp_flats) | (refine dp_same (by assumption) ?_; kp_flats))
/-- one step of a reading -/
local macro_rules | `(tactic| lcg_off) => `(tactic| first
  | with_reducible refine Stp.go ?_
  | ((with_reducible show tVar _ _ _ _); refine c_var (by rfl) ?_)
  | ((with_reducible show rIxL _ _ _ _ _); refine c_ixL (by lcg_src) (by rfl) ?_)
  | ((with_reducible show rIxT _ _ _ _ _); refine c_ixT (by lcg_src) (by rfl) ?_)
  | ((with_reducible show rSetL _ _ _ _ _); refine c_setL (by lcg_sub) (by rfl) ?_)
  | ((with_reducible show rLenQ _ _ _ _); first | (refine c_lenL (by lcg_src) ?_) | (refine c_lenT (by lcg_src) ?_))
  | ((with_reducible show rSlL _ _ _ _ _ _); refine c_slL (by lcg_src) ?_)
  | ((with_reducible show rListQ _ _ _ _); first | (refine c_listL (by lcg_src) ?_) | (refine c_listT (by lcg_src) ?_))
  | ((with_reducible show rI _ _ _ _ _ _); refine c_IC (by first | assumption | decide | omega) ?_)
  | ((with_reducible show rIsi _ _ _ _); refine c_isi (by kp_flats) (by first | assumption | decide +kernel) ?_)
  | ((with_reducible show rIx _ _ _ _ _); refine c_ix (by first | exact .inl ⟨by lcg_src, by first | assumption | rfl⟩ | exact .inr ⟨by lcg_src, by first | assumption | rfl⟩) ?_)
  | ((with_reducible show NewW _ _ _ _); refine newW ?_)
  | ((with_reducible show rCat _ _ _ _); refine c_cat (by lcg_sub) (by lcg_sub) (le_line (by first | decide | (simp only [List.length_append, List.length_cons, List.length_nil]; omega))) ?_)
  | ((with_reducible show aAddS _ _ _ _); refine c_adds (le_line (by first | decide +kernel | assumption)) ?_)
  | ((with_reducible show rIn _ false _ _ _ _); refine c_inL (by lcg_src) (by rfl) (by rfl) ?_)
  | ((with_reducible show rIn _ true _ _ _ _); refine c_niL (by lcg_src) (by rfl) (by rfl) ?_))
/-- one step, with the new object's names -/
local macro_rules | `(tactic| k_offL) => `(tactic| first | lcg_off | ((with_reducible show ∀ _ _, New _ _ _ _ → _); intro _ _ _))
/-- an error that is held -/
local macro_rules | `(tactic| one_item) => `(tactic| first | assumption | (refine ErrV.same ?_ (New.same (by assumption)); one_item) | (refine ErrV.same ?_ (by assumption); one_item))
/-- nothing was changed -/
local macro_rules | `(tactic| one_place) => `(tactic| first | assumption | exact fun _ _ h => h | exact New.same (by assumption) | (refine Same.trans ?_ (New.same (by assumption)); one_place) | (refine Same.trans ?_ (by assumption); one_place))
/-- what an expression makes, as data -/
local macro_rules | `(tactic| one_sign) => `(tactic| first | exact EvD.str | exact EvD.int | exact EvA.nil | exact EvD.neg | (apply EvA.cons; (focus one_sign); one_sign) | (apply EvD.tup; (focus one_sign); (first | decide | (simp only [List.length_append, List.length_cons, List.length_nil]; omega))) | (apply EvD.var; (focus rfl); kp_flats) | (apply EvL.var; (focus rfl); (focus lcg_sub); assumption) | (apply EvL.lst; (focus one_sign); (first | decide | (simp only [List.length_append, List.length_cons, List.length_nil]; omega))) | (apply EvL.cat; (focus one_sign); (focus one_sign); (first | decide | (simp only [List.length_append, List.length_cons, List.length_nil]; omega))) | (apply EvD.tupOf; one_sign) | (apply EvD.rep; (focus one_sign); (focus simp); (focus decide); (focus decide); decide) | (apply EvL.rep; (focus one_sign); (focus decide); decide) | (apply EvD.adds; (focus one_sign); (focus one_sign); decide +kernel) | exact EvD.non | exact EvD.bl | (apply EvD.ofL; one_sign))
/-- one step, but not into a new list, a new tuple -/
local macro_rules | `(tactic| k_asm) => `(tactic| (fail_if_success (with_reducible show tLst _ _ _ _)); (fail_if_success (with_reducible show tTup _ _ _ _)); (fail_if_success (with_reducible show tOp rCat _ _ _ _ _)); lcg_off)
namespace TD
open PySem PySem.Spec L2 PySem.Calls PySem.TDX
open PyProof.Rows hiding St
/-! ### wrong formulas -/
def badF (d : PyData) : Prop := ∀ n, isFmD n d = false
def wy (d : PyData) : Prop := ∀ n, wordyF n d = true
theorem bad_none {d : PyData} (h : partsD d = none) : badF d := fun n => by cases n with | zero => rfl | succ n => rw [isFmD, h]
theorem bad_part {d p : PyData} {ps : List PyData} (h : partsD d = some ps) (m : p ∈ ps) (b : badF p) : badF d := fun n => by
  cases n with
  | zero => rfl
  | succ n =>
    rw [isFmD, h]
    cases e : ps.all (isFmD n) with
    | false => exact e
    | true => have := List.all_eq_true.mp e p m; rw [b n] at this; cases this
theorem wy_none {d : PyData} (h : partsD d = none) (w : wordy d = true) : wy d := fun n => by cases n with | zero => exact w | succ n => rw [wordyF, h, w]; rfl
theorem wy_parts {d : PyData} {ps : List PyData} (h : partsD d = some ps) (w : wordy d = true) (a : ∀ p ∈ ps, wy p) : wy d := fun n => by
  cases n with
  | zero => exact w
  | succ n =>
    rw [wordyF, h, w, Bool.true_and]
    exact List.all_eq_true.mpr fun p hp => a p hp n
theorem parts_gen (f : Fm) {ps : List PyData} (h : ps.length = f.parts.length) : partsD (.tuple (f.head ++ ps)) = if f.lets1 = true then some ps else none := by
  cases f with
  | name n => obtain rfl : ps = [] := List.length_eq_zero_iff.mp h; exact Fm.parts_data (.name n)
  | tree t => obtain rfl : ps = [] := List.length_eq_zero_iff.mp h; exact Fm.parts_data (.tree t)
  | gather f =>
    obtain ⟨x, rfl⟩ : ∃ x, ps = [x] := List.length_eq_one_iff.mp h
    exact pw_gather [x]
  | ahead a f =>
    obtain ⟨x, rfl⟩ : ∃ x, ps = [x] := List.length_eq_one_iff.mp h
    refine (pw_ahead [.int a, x]).trans ?_
    have h : isNumD 0 (.int a) = true := by simp only [isNumD, decide_eq_true_eq]; omega
    simp only [pAhead, h, Fm.lets1]
  | every a b f =>
    obtain ⟨x, rfl⟩ : ∃ x, ps = [x] := List.length_eq_one_iff.mp h
    refine (pw_every [.int a, .int b, x]).trans ?_
    have h : (isNumD 0 (.int a) && isNumD 1 (.int b)) = decide (1 ≤ b) := by
      simp only [isNumD]
      by_cases hb : 1 ≤ b
      · simp [hb]; omega
      · simp [hb]; omega
    show (if (isNumD 0 (.int a) && isNumD 1 (.int b)) = true then some [x] else none) = _
    rw [h]
    rfl
  | paint a b o f =>
    obtain ⟨x, rfl⟩ : ∃ x, ps = [x] := List.length_eq_one_iff.mp h
    refine (pw_paint [.int a, .int b, .str (S o), x]).trans ?_
    have h : (isNumD 0 (.int a) && isNumD 1 (.int b) && ltD (.int a) (.int b) && isOwnerD (.str (S o))) = (decide (a < b) && isOwnerD (.str (S o))) := by
      simp only [isNumD, ltD]
      by_cases hb : a < b
      · have h1 : (1 : Int) ≤ b := by omega
        have h2 : (0 : Int) ≤ a := by omega
        have h3 : (a : Int) < b := by omega
        simp [hb, h1, h2, h3]
      · have h3 : ¬ (a : Int) < b := by omega
        simp [hb, h3]
    show (if (isNumD 0 (.int a) && isNumD 1 (.int b) && ltD (.int a) (.int b) && isOwnerD (.str (S o))) = true then some [x] else none) = _
    rw [h]
    rfl
  | weave fs =>
    cases ps with
    | nil =>
      have : fs = [] := List.length_eq_zero_iff.mp h.symm
      subst this; rfl
    | cons x r =>
      refine (pw_weave (x :: r)).trans ?_
      have h' : (x :: r).length = fs.length := h
      simp only [Fm.lets1, decide_eq_true_eq, h']
theorem wy_fm (f : Fm) : wy f.data := by
  refine Fm.ind (P := fun f => wy f.data) (fun f ih => ?_) f
  have hw : wordy f.data = true := by cases f <;> rfl
  have e := Fm.parts_data f
  by_cases h : f.lets1 = true
  · rw [if_pos h] at e
    refine wy_parts e hw fun p hp => ?_
    obtain ⟨g, hg, rfl⟩ := List.mem_map.mp hp
    exact ih g hg
  · rw [if_neg h] at e
    exact wy_none e hw
/-- a part is replaced -/
theorem set_part (f : Fm) (hl : f.lets1 = true) {k : Nat} {d : PyData} (hk : k < f.parts.length) (b : badF d) (w : wy d) :
    badF (.tuple (f.head ++ (f.parts.map Fm.data).set k d)) ∧ wy (.tuple (f.head ++ (f.parts.map Fm.data).set k d)) := by
  have e := parts_gen f (ps := (f.parts.map Fm.data).set k d) (by simp)
  rw [if_pos hl] at e
  refine ⟨bad_part e (List.mem_iff_getElem?.mpr ⟨k, by rw [List.getElem?_set_self (by simpa using hk)]⟩) b, wy_parts e ?_ fun p hp => ?_⟩
  · cases f <;> (first | rfl | simp [Fm.parts] at hk)
  · rcases List.mem_or_eq_of_mem_set hp with h | h
    · obtain ⟨g, _, rfl⟩ := List.mem_map.mp h
      exact wy_fm g
    · exact h ▸ w
section
variable {K : PySem.W.Frag} {vs : List V} {H : Hp} {Q : VK} {E : XK}
theorem dpAll_take : ∀ {vs : List V} {ds : List PyData} (n : Nat), DpAll K H vs ds → DpAll K H (vs.take n) (ds.take n)
  | _, _, 0, _ => .nil
  | _, _, n + 1, .nil => .nil
  | _, _, n + 1, .cons h t => .cons h (dpAll_take n t)
theorem cut_takeV (xs : List V) (n : Nat) : cutV xs none (some (n : Int)) = xs.take n := by
  unfold cutV
  rw [HT.sIx_nat]
  show ((xs.drop 0).take (min n xs.length - 0)) = xs.take n
  rw [List.drop_zero, Nat.sub_zero]
  by_cases h : n ≤ xs.length
  · rw [show min n xs.length = n by omega]
  · rw [show min n xs.length = xs.length by omega, List.take_of_length_le (Nat.le_refl _), List.take_of_length_le (by omega)]
theorem c_catA {a b : Addr} {xs ys : List V} (ha : SqT K H a xs) (hb : SqT K H b ys) (hz : xs.length + ys.length ≤ 100000) (q : ∀ p H', Same H H' → SqT K H' p (xs ++ ys) → Q (.ref p) H') : rCatA K (.ref a) (.ref b) H Q := by
  refine ⟨a, b, xs, ys, rfl, rfl, ha, hb, le_line hz, fun e => ?_, fun _ e => ?_, fun _ _ p n => ?_⟩
  · subst e; exact q b H (fun _ _ h => h) hb
  · subst e; exact q a H (fun _ _ h => h) (by rw [List.append_nil]; exact ha)
  · have N := new_upd (o := .tup (xs ++ ys)) n
    exact q p _ N.same (SqT.of N.at_)
theorem list_set {α : Type} (hd ps : List α) (k : Nat) (d : α) (h : k < ps.length) : (hd ++ ps).take (hd.length + k) ++ [d] ++ (hd ++ ps).drop (hd.length + k + 1) = hd ++ ps.set k d := by
  rw [List.take_append, List.drop_append, List.take_of_length_le (by omega), List.drop_eq_nil_of_le (by omega), show hd.length + k - hd.length = k by omega, show hd.length + k + 1 - hd.length = k + 1 by omega, List.nil_append, List.append_assoc, List.append_assoc, List.set_eq_take_append_cons_drop, if_pos h]
  rfl
/-- _law_with -/
def spWith (K : PySem.W.Frag) (n : Nat) : Sp := fun vs H Q _ => ∃ (b L : Addr) (G : Hp) (v vo : V) (f : Fm) (o : PyData) (d : Nat), d ≤ n ∧ f.fits okName d ∧ 1 ≤ d ∧ d ≤ 8 ∧ vs = [.ref b, v, vo] ∧ BagV K H b L G ∧ Dp K G v f.data ∧ Dp K G vo o ∧ badF o ∧ wy o ∧ okP 50 o = true ∧
  ∀ (r : PyData) (w : V) (H' G' : Hp), BagV K H' b L G' → Same G G' → Dp K G' w r → badF r → wy r → okP (50 + d) r = true → Q w H'
theorem pure_l_with {n : Nat} (h : spWith K n vs H Q E) : t_l_with K (spInner K) (spPull K) (spP (spWith K) n) { nx := fun _ H' => Q .non H', rt := Q } (start ns_l_with vs) H := by
  obtain ⟨b, L, G, v, vo, f, o, d, hdn, hf, d1, d8, rfl, B, hd, ho, bo, wo, oo, q⟩ := h
  have odd : ∀ H' G', BagV K H' b L G' → Same G G' → Q vo H' := fun H' G' B' s => q o vo H' G' B' s (dp_same s ho) bo wo (okP_mono (by omega) oo)
  have hparts := Fm.fits_parts hf
  have hl3 : f.parts.length ≤ 3 := by
    cases f with
    | weave fs => exact hf.2.2.1
    | _ => simp [Fm.parts]
  unfold t_l_with
  repeat lcg_off
  refine ⟨v, f, rfl, B.dp hd, by omega, fun p1 ws H1 N1 a1 => ?_⟩
  obtain ⟨B1, M1⟩ := B.next N1
  obtain ⟨lb, hb1, _⟩ := B1.ex
  have A1 := dpAll_noL (K := K) hb1 (by rw [noLs_all, List.all_eq_true]; intro x hx; obtain ⟨g, _, rfl⟩ := List.mem_map.mp hx; exact noL_fm g) a1
  have lw := dpAll_len a1
  rw [List.length_map] at lw
  repeat lcg_off
  intro p2 H2 N2
  obtain ⟨B2, M2⟩ := B1.next N2
  have okp : ∀ g ∈ f.parts, okP 20 g.data = true := fun g hg => by
    have hg' := hparts g hg
    have := Fm.fits_deep g (d - 1) (by omega) hg'.2
    exact okP_mono (by omega) (Fm.fits_okP (fun _ h => h) g _ hg'.2)
  refine ⟨.list (f.parts.map Fm.data), .list [], .lst (SqL.of (N2.same _ _ N1.at_)) (dpAll_same N2.same a1), .lst (SqL.of N2.at_) .nil, okP_shaped (n := 21) (by decide) ?_, by decide +kernel, ?_⟩
  · rw [okP, Bool.and_eq_true, decide_eq_true_eq, List.all_eq_true]
    refine ⟨by rw [List.length_map]; omega, fun x hx => ?_⟩
    obtain ⟨g, hg, rfl⟩ := List.mem_map.mp hx
    exact okp g hg
  repeat lcg_off
  cases hps : f.parts with
  | nil =>
    rw [show PyData.eqv (.list (([] : List Fm).map Fm.data)) (.list []) = true by decide +kernel]
    refine ite_t (ite_t ?_)
    repeat lcg_off
    exact odd H2 _ B2 (M1.same.trans M2.same)
  | cons g0 gr =>
    rw [show PyData.eqv (.list ((g0 :: gr).map Fm.data)) (.list []) = false by simp [PyData.eqv, PyData.eqvAll]]
    refine ite_f ?_
    repeat lcg_off
    refine ⟨b, _, _, _, rfl, B2, by decide, by decide, fun r H3 r0 r1 B3 => ?_⟩
    repeat lcg_off
    refine ite_d (fun c => ?_) (fun c => ?_)
    · repeat lcg_off
      exact odd H3 _ B3 (M1.same.trans M2.same)
    have e1 := B3.at (M2.same _ _ M1.at_)
    repeat lcg_off
    have hp1 : 1 ≤ f.parts.length := by rw [hps]; simp
    refine ⟨b, _, _, _, rfl, B3, by omega, by omega, fun k H4 k0 k1 B4 => ?_⟩
    obtain ⟨k, rfl⟩ := Int.eq_ofNat_of_zero_le k0
    have e4 := B4.at (M2.same _ _ M1.at_)
    obtain ⟨pf, rx, rfl, hs, ha⟩ := dp_fm hd
    have s2 : Same G (mask b H2) := M1.same.trans M2.same
    have lx := dpAll_len ha
    rw [List.length_append, List.length_map] at lx
    have hs4 := B4.sqT (sameT s2 hs)
    have lr : rx.length + 1 = f.head.length + f.parts.length := lx
    have hh : f.head.length ≤ 5 := by cases f <;> simp [Fm.head]
    repeat lcg_off
    have hk : k < f.parts.length := by omega
    rw [show ((((V.str (wordF f) :: rx).length : Nat) : Int) - (ws.length : Int) + (k : Int)) = ((f.head.length + k : Nat) : Int) by rw [lx]; omega]
    refine c_slA hs4 fun p5 H5 s5 t5 => ?_
    rw [cut_takeV] at t5
    have B5 := B4.keep s5
    have e5 := s5 _ _ e4
    repeat lcg_off
    refine c_ixL (SqL.of e5) (atI_nat (List.getElem?_eq_getElem (show k < ws.length by omega))) ?_
    repeat lcg_off
    have hk' : (f.parts.map Fm.data)[k]? = some (f.parts[k]'hk).data := by rw [List.getElem?_map, List.getElem?_eq_getElem hk]; rfl
    obtain ⟨y, hy, dy⟩ := dpAll_get A1 hk'
    rw [List.getElem?_eq_getElem (show k < ws.length by omega)] at hy
    cases hy
    have hg' := hparts _ (List.getElem_mem hk)
    have s5' : Same (mask b H2) (mask b H5) := B4.eq ▸ mask_mono s5
    cases n with
    | zero => omega
    | succ n =>
    refine ⟨b, L, _, _, vo, f.parts[k]'hk, o, d - 1, by omega, hg'.2, by omega, by omega, rfl, B5, dp_same (M2.same.trans s5') dy, dp_same (s2.trans s5') ho, bo, wo, oo, fun r w H6 G6 B6 s6 d6 b6 w6 o6 => ?_⟩
    repeat lcg_off
    intro p7 H7 N7
    obtain ⟨B7, M7⟩ := B6.next N7
    obtain ⟨lb5, hb5, _⟩ := B5.ex
    have t6 : SqT K G6 p5 ((V.str (wordF f) :: rx).take (f.head.length + k)) := sameT s6 (sqT_mask hb5 t5)
    refine c_catA (B7.sqT (sameT M7.same t6)) (SqT.of (B7.at M7.at_)) (by simp only [List.length_take, List.length_cons, List.length_nil]; omega) fun p8 H8 s8 t8 => ?_
    have B8 := B7.keep s8
    have hs8 : SqT K H8 pf (V.str (wordF f) :: rx) := B8.sqT (sameT (M7.same.trans (mask_mono s8)) (sameT s6 (sameT s5' (sameT s2 hs))))
    repeat lcg_off
    refine c_slA hs8 fun p9 H9 s9 t9 => ?_
    rw [show ((f.head.length + k : Nat) : Int) + 1 = ((f.head.length + k + 1 : Nat) : Int) by push_cast; rfl, cut_dropV] at t9
    refine c_catA (sameT s9 t8) t9 (by simp only [List.length_append, List.length_take, List.length_drop, List.length_cons, List.length_nil]; omega) fun p10 H10 s10 t10 => ?_
    have B10 := (B8.keep s9).keep s10
    obtain ⟨lb10, hb10, _⟩ := B10.ex
    have sG10 : Same G6 (mask b H10) := M7.same.trans ((mask_mono s8).trans ((mask_mono s9).trans (mask_mono s10)))
    have sA : Same G (mask b H10) := s2.trans (s5'.trans (s6.trans sG10))
    obtain ⟨b', w'⟩ := set_part f (by have := Fm.fits_lets (fun _ h => h) f d hf; rw [Fm.lets_eq, Bool.and_eq_true] at this; exact this.1) hk b6 w6
    have ha' := dpAll_same sA ha
    have hall := dpAll_app (dpAll_app (dpAll_take (f.head.length + k) ha') (.cons (dp_same sG10 d6) .nil)) (dpAll_drop (f.head.length + k + 1) ha')
    rw [list_set f.head (f.parts.map Fm.data) k r (by simpa using hk)] at hall
    refine q _ _ H10 _ B10 sA (.tup (sqT_mask hb10 t10) hall) b' w' ?_
    have hd0 := Fm.fits_deep f d d1 hf
    have of := Fm.fits_okP (fun _ h => h) f d hf
    rw [Fm.data_eq, okP, Bool.and_eq_true, decide_eq_true_eq, List.all_eq_true] at of
    rw [show 50 + d = (49 + d) + 1 by omega, okP, Bool.and_eq_true, decide_eq_true_eq, List.all_eq_true]
    refine ⟨by simpa using of.1, fun x hx => ?_⟩
    rcases List.mem_append.mp hx with hx | hx
    · exact okP_mono (by omega) (of.2 x (List.mem_append_left _ hx))
    · rcases List.mem_or_eq_of_mem_set hx with h | h
      · exact okP_mono (by omega) (of.2 x (List.mem_append_right _ h))
      · rw [h]; exact okP_mono (by omega) o6
end
end TD

end
section
open TD L2
/-- what stands at an address -/
local macro_rules | `(tactic| lcg_sub) => `(tactic| first | assumption | exact upd_same | exact New.at_ (by assumption) | (refine New.same (by assumption) _ _ ?_; lcg_sub) | (refine (show Same _ _ from by assumption) _ _ ?_; lcg_sub) | (refine Eq.trans (upd_ne (by first | assumption | exact Ne.symm (by assumption))) ?_; lcg_sub))
/-- a list, a tuple to be read -/
local macro_rules | `(tactic| lcg_src) => `(tactic| first | assumption | exact SqL.of (by lcg_sub) | exact SqT.of (by lcg_sub) | (refine Same.seq (New.same (by assumption)) ?_; lcg_src) | (refine Same.seq (by assumption) ?_; lcg_src) | (refine sameT (New.same (by assumption)) ?_; lcg_src) | (refine sameT (by assumption) ?_; lcg_src))
/-- data at a value -/
local macro_rules | `(tactic| kp_flats) => `(tactic| first | assumption | exact Dp.str _ | exact Dp.int _ | exact Dp.non | exact Dp.bl _ | (refine dp_same (New.same (by assumption)) ?_; kp_flats) | (refine dp_same (by assumption) ?_; kp_flats))
/-- one step of a reading -/
local macro_rules | `(tactic| lcg_off) => `(tactic| first
  | with_reducible refine Stp.go ?_
  | ((with_reducible show tVar _ _ _ _); refine c_var (by rfl) ?_)
  | ((with_reducible show rIxL _ _ _ _ _); refine c_ixL (by lcg_src) (by rfl) ?_)
  | ((with_reducible show rIxT _ _ _ _ _); refine c_ixT (by lcg_src) (by rfl) ?_)
  | ((with_reducible show rSetL _ _ _ _ _); refine c_setL (by lcg_sub) (by rfl) ?_)
  | ((with_reducible show rLenQ _ _ _ _); first | (refine c_lenL (by lcg_src) ?_) | (refine c_lenT (by lcg_src) ?_))
  | ((with_reducible show rSlL _ _ _ _ _ _); refine c_slL (by lcg_src) ?_)
  | ((with_reducible show rListQ _ _ _ _); first | (refine c_listL (by lcg_src) ?_) | (refine c_listT (by lcg_src) ?_))
  | ((with_reducible show rI _ _ _ _ _ _); refine c_IC (by first | assumption | decide | omega) ?_)
  | ((with_reducible show rIsi _ _ _ _); refine c_isi (by kp_flats) (by first | assumption | decide +kernel) ?_)
  | ((with_reducible show rIx _ _ _ _ _); refine c_ix (by first | exact .inl ⟨by lcg_src, by first | assumption | rfl⟩ | exact .inr ⟨by lcg_src, by first | assumption | rfl⟩) ?_)
  | ((with_reducible show NewW _ _ _ _); refine newW ?_)
  | ((with_reducible show rCat _ _ _ _); refine c_cat (by lcg_sub) (by lcg_sub) (le_line (by first | decide | (simp only [List.length_append, List.length_cons, List.length_nil]; omega))) ?_)
  | ((with_reducible show aAddS _ _ _ _); refine c_adds (le_line (by first | decide +kernel | assumption)) ?_)
  | ((with_reducible show rIn _ false _ _ _ _); refine c_inL (by lcg_src) (by rfl) (by rfl) ?_)
  | ((with_reducible show rIn _ true _ _ _ _); refine c_niL (by lcg_src) (by rfl) (by rfl) ?_))
/-- one step, with the new object's names -/
local macro_rules | `(tactic| k_offL) => `(tactic| first | lcg_off | ((with_reducible show ∀ _ _, New _ _ _ _ → _); intro _ _ _))
/-- an error that is held -/
local macro_rules | `(tactic| one_item) => `(tactic| first | assumption | (refine ErrV.same ?_ (New.same (by assumption)); one_item) | (refine ErrV.same ?_ (by assumption); one_item))
/-- nothing was changed -/
local macro_rules | `(tactic| one_place) => `(tactic| first | assumption | exact fun _ _ h => h | exact New.same (by assumption) | (refine Same.trans ?_ (New.same (by assumption)); one_place) | (refine Same.trans ?_ (by assumption); one_place))
/-- what an expression makes, as data -/
local macro_rules | `(tactic| one_sign) => `(tactic| first | exact EvD.str | exact EvD.int | exact EvA.nil | exact EvD.neg | (apply EvA.cons; (focus one_sign); one_sign) | (apply EvD.tup; (focus one_sign); (first | decide | (simp only [List.length_append, List.length_cons, List.length_nil]; omega))) | (apply EvD.var; (focus rfl); kp_flats) | (apply EvL.var; (focus rfl); (focus lcg_sub); assumption) | (apply EvL.lst; (focus one_sign); (first | decide | (simp only [List.length_append, List.length_cons, List.length_nil]; omega))) | (apply EvL.cat; (focus one_sign); (focus one_sign); (first | decide | (simp only [List.length_append, List.length_cons, List.length_nil]; omega))) | (apply EvD.tupOf; one_sign) | (apply EvD.rep; (focus one_sign); (focus simp); (focus decide); (focus decide); decide) | (apply EvL.rep; (focus one_sign); (focus decide); decide) | (apply EvD.adds; (focus one_sign); (focus one_sign); decide +kernel) | exact EvD.non | exact EvD.bl | (apply EvD.ofL; one_sign))
/-- one step, but not into a new list, a new tuple -/
local macro_rules | `(tactic| k_asm) => `(tactic| (fail_if_success (with_reducible show tLst _ _ _ _)); (fail_if_success (with_reducible show tTup _ _ _ _)); (fail_if_success (with_reducible show tOp rCat _ _ _ _ _)); lcg_off)
namespace TD
open PySem PySem.Spec L2 PySem.Calls PySem.TDX
open PyProof.Rows hiding St
/-! ### laws with lambdas: tables, errors that _law_try catches -/
abbrev lamT (K : PySem.W.Frag) : List (Addr × Str) := [(lawP K, lamQ)]
theorem fld_at : fieldOf "BadText" = some "at" := by decide +kernel
theorem fld_most : fieldOf "TooLarge" = some "most" := by decide +kernel
theorem errX1 {K : PySem.W.Frag} {x f : Str} {y : V} {d : Addr} {H : Hp} (T : ErrC K (He.ga K x) ["word", f]) (X : XfC K (He.ga K x)) (hf : fieldOf x = some f) (hw : (("word" : Str) == f) = false) (h : H d = some (.xd [(f, y), ("word", .str x)])) : ErrX K (.ref (He.ga K x)) (some d) H x y := by
  refine ⟨_, d, _, rfl, rfl, h, X, T.no _ (by simp), ?_, ?_⟩
  · simp only [List.lookup, hw]; rfl
  · rw [hf]; exact ⟨by simp [List.lookup], T.no _ (by simp)⟩
section
variable {K : PySem.W.Frag} {H : Hp}
theorem tabs_mask {b : Addr} {l : List V} (h : LamX.Tabs (lamT K) H) (hb : H b = some (.lst l)) : LamX.Tabs (lamT K) (mask b H) := by
  intro p hp
  obtain ⟨ps, h1, h2, h3⟩ := h p hp
  refine ⟨ps, by rw [mask_ne (fun e => by rw [e, hb] at h1; cases h1)]; exact h1, h2, fun pos cv hc => ?_⟩
  obtain ⟨c, e, hcc⟩ := h3 pos cv hc
  exact ⟨c, e, by rw [mask_ne (fun e => by rw [e, hb] at hcc; cases hcc)]; exact hcc⟩
theorem BagV.extN {H1 G : Hp} {b L : Addr} (B : BagV K H b L G) (e : LamX.ExtN H H1) : BagV K H1 b L (mask b H1) := by
  obtain ⟨eG, l, hb, ns, pos, big, salt, rfl, hL, h⟩ := B
  have Lb : L ≠ b := fun e => by rw [← eG, e, mask_at] at hL; cases hL
  refine ⟨rfl, _, e b _ hb (fun ps h => by cases h), ns, pos, big, salt, rfl, ?_, h⟩
  rw [mask_ne Lb]
  refine e L _ ?_ (fun ps h => by cases h)
  rw [← eG, mask_ne Lb] at hL
  exact hL
end
/-- an error that _law_try catches, as a test -/
def errTB (K : PySem.W.Frag) (x : Str) (ns : List Str) : Bool := errB K x ns && (xfB K (He.ga K x) && decide (PySem.W.exmAny K (.ref (He.ga K x)) [.ref (He.ga K "TurnError"), .ref (He.ga K "TurnMissing")] = some true))
theorem errTB_b {K : PySem.W.Frag} {x : Str} {ns : List Str} (h : errTB K x ns = true) : errB K x ns = true := (Bool.and_eq_true_iff.mp h).1
theorem errTB_x {K : PySem.W.Frag} {x : Str} {ns : List Str} (h : errTB K x ns = true) : XfC K (He.ga K x) ∧ PySem.W.exmAny K (.ref (He.ga K x)) [.ref (He.ga K "TurnError"), .ref (He.ga K "TurnMissing")] = some true := by
  obtain ⟨_, h⟩ := Bool.and_eq_true_iff.mp h
  obtain ⟨h1, h2⟩ := Bool.and_eq_true_iff.mp h
  exact ⟨xfB_ok h1, of_decide_eq_true h2⟩
/-- what is known of such an error's class -/
structure EfC (K : PySem.W.Frag) (x : Str) (ns : List Str) : Prop where
  c : ErrC K (He.ga K x) ns
  xf : XfC K (He.ga K x)
  m : PySem.W.exmAny K (.ref (He.ga K x)) [.ref (He.ga K "TurnError"), .ref (He.ga K "TurnMissing")] = some true
theorem efC_of {K : PySem.W.Frag} {x : Str} {ns : List Str} (h : errTB K x ns = true) : EfC K x ns := ⟨errB_c (errTB_b h), (errTB_x h).1, (errTB_x h).2⟩
theorem EfC.x1 {K : PySem.W.Frag} {x f : Str} {y : V} {d : Addr} {H : Hp} (T : EfC K x ["word", f]) (hf : fieldOf x = some f) (hw : (("word" : Str) == f) = false) (h : H d = some (.xd [(f, y), ("word", .str x)])) : ErrX K (.ref (He.ga K x)) (some d) H x y := errX1 T.c T.xf hf hw h
theorem EfC.x0 {K : PySem.W.Frag} {x : Str} {d : Addr} {H : Hp} (T : EfC K x ["word"]) (hf : fieldOf x = none) (h : H d = some (.xd [("word", .str x)])) : ErrX K (.ref (He.ga K x)) (some d) H x .non := by
  refine ⟨_, d, _, rfl, rfl, h, T.xf, T.c.no _ (by simp), ?_, ?_⟩
  · simp only [List.lookup]; rfl
  · rw [hf]
/-! ### all but the tables stays -/
section
variable {K : PySem.W.Frag} {H H' : Hp} (e : LamX.ExtN H H')
include e
theorem sqL_ext {a : Addr} {xs : List V} (h : SqL K H a xs) : SqL K H' a xs := by
  rcases h with (h | ⟨o, h⟩) | h
  · exact .inl (.inl (e _ _ h fun ps z => by cases z))
  · exact .inl (.inr ⟨o, e _ _ h fun ps z => by cases z⟩)
  · exact .inr h
theorem sqT_ext {a : Addr} {xs : List V} (h : SqT K H a xs) : SqT K H' a xs := by
  rcases h with (h | ⟨o, h⟩) | h
  · exact .inl (.inl (e _ _ h fun ps z => by cases z))
  · exact .inl (.inr ⟨o, e _ _ h fun ps z => by cases z⟩)
  · exact .inr h
mutual
theorem dp_ext : ∀ {v : V} {d : PyData}, Dp K H v d → Dp K H' v d
  | _, _, .non => .non
  | _, _, .bl b => .bl b
  | _, _, .int i => .int i
  | _, _, .str x => .str x
  | _, _, .lst h a => .lst (sqL_ext e h) (dpAll_ext a)
  | _, _, .tup h a => .tup (sqT_ext e h) (dpAll_ext a)
theorem dpAll_ext : ∀ {vs : List V} {ds : List PyData}, DpAll K H vs ds → DpAll K H' vs ds
  | _, _, .nil => .nil
  | _, _, .cons h t => .cons (dp_ext h) (dpAll_ext t)
end
end
theorem extN_bag {K : PySem.W.Frag} {H H1 G : Hp} {b L : Addr} (B : BagV K H b L G) (e : LamX.ExtN H H1) : LamX.ExtN G (mask b H1) := fun a o h n => by
  rw [mask_ne (B.ne h)]
  exact e _ _ (B.at h) n
theorem tabs_bag {K : PySem.W.Frag} {H G : Hp} {b L : Addr} (B : BagV K H b L G) (h : LamX.Tabs (lamT K) G) : LamX.Tabs (lamT K) H := h.ext B.view
theorem tabs_bag' {K : PySem.W.Frag} {H G : Hp} {b L : Addr} (B : BagV K H b L G) (h : LamX.Tabs (lamT K) H) : LamX.Tabs (lamT K) G := by
  obtain ⟨e, l, hb, _⟩ := B
  exact e ▸ tabs_mask h hb
end TD

end
section
open TD L2
/-- what stands at an address -/
local macro_rules | `(tactic| lcg_sub) => `(tactic| first | assumption | exact upd_same | exact New.at_ (by assumption) | (refine New.same (by assumption) _ _ ?_; lcg_sub) | (refine (show Same _ _ from by assumption) _ _ ?_; lcg_sub) | (refine Eq.trans (upd_ne (by first | assumption | exact Ne.symm (by assumption))) ?_; lcg_sub))
/-- a list, a tuple to be read -/
local macro_rules | `(tactic| lcg_src) => `(tactic| first | assumption | exact SqL.of (by lcg_sub) | exact SqT.of (by lcg_sub) | (refine Same.seq (New.same (by assumption)) ?_; lcg_src) | (refine Same.seq (by assumption) ?_; lcg_src) | (refine sameT (New.same (by assumption)) ?_; lcg_src) | (refine sameT (by assumption) ?_; lcg_src))
/-- data at a value -/
local macro_rules | `(tactic| kp_flats) => `(tactic| first | assumption | exact Dp.str _ | exact Dp.int _ | exact Dp.non | exact Dp.bl _ | (refine dp_same (New.same (by assumption)) ?_; kp_flats) | (refine dp_same (by assumption) ?_; kp_flats))
/-- one step of a reading -/
local macro_rules | `(tactic| lcg_off) => `(tactic| first
  | with_reducible refine Stp.go ?_
  | ((with_reducible show tVar _ _ _ _); refine c_var (by rfl) ?_)
  | ((with_reducible show rIxL _ _ _ _ _); refine c_ixL (by lcg_src) (by rfl) ?_)
  | ((with_reducible show rIxT _ _ _ _ _); refine c_ixT (by lcg_src) (by rfl) ?_)
  | ((with_reducible show rSetL _ _ _ _ _); refine c_setL (by lcg_sub) (by rfl) ?_)
  | ((with_reducible show rLenQ _ _ _ _); first | (refine c_lenL (by lcg_src) ?_) | (refine c_lenT (by lcg_src) ?_))
  | ((with_reducible show rSlL _ _ _ _ _ _); refine c_slL (by lcg_src) ?_)
  | ((with_reducible show rListQ _ _ _ _); first | (refine c_listL (by lcg_src) ?_) | (refine c_listT (by lcg_src) ?_))
  | ((with_reducible show rI _ _ _ _ _ _); refine c_IC (by first | assumption | decide | omega) ?_)
  | ((with_reducible show rIsi _ _ _ _); refine c_isi (by kp_flats) (by first | assumption | decide +kernel) ?_)
  | ((with_reducible show rIx _ _ _ _ _); refine c_ix (by first | exact .inl ⟨by lcg_src, by first | assumption | rfl⟩ | exact .inr ⟨by lcg_src, by first | assumption | rfl⟩) ?_)
  | ((with_reducible show NewW _ _ _ _); refine newW ?_)
  | ((with_reducible show rCat _ _ _ _); refine c_cat (by lcg_sub) (by lcg_sub) (le_line (by first | decide | (simp only [List.length_append, List.length_cons, List.length_nil]; omega))) ?_)
  | ((with_reducible show aAddS _ _ _ _); refine c_adds (le_line (by first | decide +kernel | assumption)) ?_)
  | ((with_reducible show rIn _ false _ _ _ _); refine c_inL (by lcg_src) (by rfl) (by rfl) ?_)
  | ((with_reducible show rIn _ true _ _ _ _); refine c_niL (by lcg_src) (by rfl) (by rfl) ?_))
/-- one step, with the new object's names -/
local macro_rules | `(tactic| k_offL) => `(tactic| first | lcg_off | ((with_reducible show ∀ _ _, New _ _ _ _ → _); intro _ _ _))
/-- an error that is held -/
local macro_rules | `(tactic| one_item) => `(tactic| first | assumption | (refine ErrV.same ?_ (New.same (by assumption)); one_item) | (refine ErrV.same ?_ (by assumption); one_item))
/-- nothing was changed -/
local macro_rules | `(tactic| one_place) => `(tactic| first | assumption | exact fun _ _ h => h | exact New.same (by assumption) | (refine Same.trans ?_ (New.same (by assumption)); one_place) | (refine Same.trans ?_ (by assumption); one_place))
/-- what an expression makes, as data -/
local macro_rules | `(tactic| one_sign) => `(tactic| first | exact EvD.str | exact EvD.int | exact EvA.nil | exact EvD.neg | (apply EvA.cons; (focus one_sign); one_sign) | (apply EvD.tup; (focus one_sign); (first | decide | (simp only [List.length_append, List.length_cons, List.length_nil]; omega))) | (apply EvD.var; (focus rfl); kp_flats) | (apply EvL.var; (focus rfl); (focus lcg_sub); assumption) | (apply EvL.lst; (focus one_sign); (first | decide | (simp only [List.length_append, List.length_cons, List.length_nil]; omega))) | (apply EvL.cat; (focus one_sign); (focus one_sign); (first | decide | (simp only [List.length_append, List.length_cons, List.length_nil]; omega))) | (apply EvD.tupOf; one_sign) | (apply EvD.rep; (focus one_sign); (focus simp); (focus decide); (focus decide); decide) | (apply EvL.rep; (focus one_sign); (focus decide); decide) | (apply EvD.adds; (focus one_sign); (focus one_sign); decide +kernel) | exact EvD.non | exact EvD.bl | (apply EvD.ofL; one_sign))
/-- one step, but not into a new list, a new tuple -/
local macro_rules | `(tactic| k_asm) => `(tactic| (fail_if_success (with_reducible show tLst _ _ _ _)); (fail_if_success (with_reducible show tTup _ _ _ _)); (fail_if_success (with_reducible show tOp rCat _ _ _ _ _)); lcg_off)
namespace TD
open PySem PySem.Spec L2 PySem.Calls PySem.TDX
open PyProof.Rows hiding St
def nestF : Nat → Fm
  | 0 => .name [120]
  | k + 1 => .gather (nestF k)
theorem x_name : okName [120] := ⟨by decide, by decide, by decide⟩
theorem nest_fits : ∀ k, (nestF k).fits okName (k + 1)
  | 0 => x_name
  | k + 1 => ⟨by omega, nest_fits k⟩
theorem nest_deep : ∀ k, (nestF k).deep = k + 1
  | 0 => rfl
  | k + 1 => by rw [nestF, Fm.deep, nest_deep k]
theorem nest_okP (k : Nat) (h : k ≤ 40) : okP 60 (nestF k).data = true := okP_mono (by rw [nest_deep]; omega) (Fm.fits_okP (fun _ h => h) _ _ (nest_fits k))
section
variable {K : PySem.W.Frag} {vs : List V} {H : Hp} {Q : VK} {E : XK}
def spNest (K : PySem.W.Frag) : Sp := fun vs H Q _ => ∃ n : Nat, vs = [.int (n + 1 : Nat)] ∧ n ≤ 100 ∧ ∀ v H', Same H H' → Dp K H' v (nestF n).data → Q v H'
theorem pure_l_nest (h : spNest K vs H Q E) : t_l_nest K { nx := fun _ H' => Q .non H', rt := Q } (start ns_l_nest vs) H := by
  obtain ⟨n, rfl, hn, q⟩ := h
  unfold t_l_nest
  repeat lcg_off
  intro p H1 N1
  repeat lcg_off
  rw [show (((n + 1 : Nat) : Int) - 1) = (n : Int) by push_cast; omega]
  refine forR n rfl (by omega) (fun i σ H' => ∃ (v : V) (x : Option V), Same H H' ∧ Dp K H' v (nestF i).data ∧ σ = [some (.int (n + 1 : Nat)), some v, x]) ?_ ?_ ?_
  · exact ⟨_, _, N1.same, .tup (SqT.of N1.at_) (.cons (.str _) (.cons (.str _) .nil)), rfl⟩
  · rintro i σ H2 hi ⟨v, x, s2, d2, rfl⟩
    repeat lcg_off
    intro p3 H3 N3
    repeat lcg_off
    refine ⟨_, _, s2.trans N3.same, ?_, rfl⟩
    rw [nestF, Fm.data]
    exact .tup (SqT.of N3.at_) (.cons (.str _) (.cons (dp_same N3.same d2) .nil))
  · rintro σ H2 ⟨v, x, s2, d2, rfl⟩
    repeat lcg_off
    exact q v H2 s2 d2
def spEvalBad (K : PySem.W.Frag) : Sp := fun vs H _ E => ∃ (v w : V) (d : PyData), vs = [v, w] ∧ Dp K H v d ∧ okP 60 d = true ∧ wordyF 8 d = true ∧ isFmD 8 d = false ∧ ∀ x H', New H H' x (.xd [("word", .str "BadFormula")]) → E (.ref (He.ga K "BadFormula")) (some x) H'
theorem pure_eval57 (h : spEvalBad K vs H Q E) : t_eval57 K (spCheck K) E { nx := fun _ H' => Q .non H', rt := Q } (start ns_eval57 vs) H := by
  obtain ⟨v, w, d, rfl, hd, ok, wd, hb, q⟩ := h
  unfold t_eval57
  repeat lcg_off
  exact ⟨v, d, rfl, hd, ok, wd, fun e => Bool.noConfusion (hb.symm.trans e), fun _ => q⟩
end
/-! ### the written wrong ones -/
def chainD : Nat → PyData
  | 0 => .str "a"
  | k + 1 => .tuple [chainD k, .str "b"]
abbrev innD : PyData := .tuple [.str "name", .str "x"]
def badB : Nat → PyData → Bool
  | 0, d => (partsD d).isNone
  | n + 1, d => match partsD d with
    | none => true
    | some ps => ps.any (badB n)
def wyB : Nat → PyData → Bool
  | 0, d => wordy d && (partsD d).isNone
  | n + 1, d => wordy d && match partsD d with
    | none => true
    | some ps => ps.all (wyB n)
theorem badB_ok : ∀ (n : Nat) (d : PyData), badB n d = true → badF d
  | 0, d, h => bad_none (Option.isNone_iff_eq_none.mp h)
  | n + 1, d, h => by
    rw [badB] at h
    cases e : partsD d with
    | none => exact bad_none e
    | some ps =>
      rw [e] at h
      obtain ⟨p, hp, hb⟩ := List.any_eq_true.mp h
      exact bad_part e hp (badB_ok n p hb)
theorem wyB_ok : ∀ (n : Nat) (d : PyData), wyB n d = true → wy d
  | 0, d, h => by
    rw [wyB, Bool.and_eq_true] at h
    exact wy_none (Option.isNone_iff_eq_none.mp h.2) h.1
  | n + 1, d, h => by
    rw [wyB, Bool.and_eq_true] at h
    cases e : partsD d with
    | none => exact wy_none e h.1
    | some ps =>
      have h2 := h.2
      rw [e] at h2
      exact wy_parts e h.1 fun p hp => wyB_ok n p (List.all_eq_true.mp h2 p hp)
def oddOk (d : PyData) : Bool := badB 1 d && (wyB 2 d && okP 50 d)
theorem oddOk_ok {d : PyData} (h : oddOk d = true) : badF d ∧ wy d ∧ okP 50 d = true := by
  simp only [oddOk, Bool.and_eq_true] at h
  exact ⟨badB_ok _ _ h.1, wyB_ok _ _ h.2.1, h.2.2⟩
def oddL : List PyData := [.str "x", .int 5, .tuple [], .tuple [.str "name"], .tuple [.str "name", .str "A"], .tuple [.str "name", .str "sevenxx"], .tuple [.str "tree", .tuple [.str "a"]], .tuple [.str "tree", .int 3], .tuple [.str "tree", .str "A"], .tuple [.str "lift", innD]]
def oddL2 : List PyData := [.tuple [.str "every", .int 0, .int 0, innD], .tuple [.str "every", .int (-1), .int 1, innD], .tuple [.str "every", .int 1, innD], .tuple [.str "ahead", .int (-1), innD], .tuple [.str "ahead", innD]]
def oddL3 : List PyData := [.tuple [.str "paint", .int 3, .int 3, .str "a", innD], .tuple [.str "paint", .int 0, .int 2, .str "A", innD], .tuple [.str "paint", .int 0, .int 2, innD], .tuple [.str "gather"], .tuple [.str "gather", innD, innD]]
def oddL4 : List PyData := [.tuple [.str "tree", chainD 41], .tuple [.str "weave", innD, .tuple [.str "tree", chainD 41]]]
def oddL5 : List PyData := [.tuple [.str "weave", innD], .tuple ([.str "weave"] ++ (List.replicate 10 [innD]).flatten), .tuple [.str "tree", .tuple (List.replicate 401 [PyData.str "a"]).flatten], .list [.str "name", .str "x"], .tuple [.str "every", .int 0, .str "1", innD], .tuple [.str "name", .str "x", .str "y"]]
def oddA : List PyData := oddL ++ oddL2 ++ oddL3 ++ oddL4 ++ oddL5
theorem oddA_ok : ∀ d ∈ oddA, badF d ∧ wy d ∧ okP 50 d = true := fun d hd => oddOk_ok (List.all_eq_true.mp (show oddA.all oddOk = true by decide +kernel) d hd)
/-- what the head tells -/
structure F57 (K : PySem.W.Frag) : Prop where
  bf : EfC K "BadFormula" ["word"]
theorem fld_bf : fieldOf "BadFormula" = none := by decide +kernel
abbrev spLaw (K : PySem.W.Frag) : Sp := fun vs H Q _ => ∃ (a : Addr) (ns : List Int), vs = [.ref a] ∧ SqL K H a (ns.map V.int) ∧ LamX.Tabs (lamT K) H ∧ ∀ H', Q (.bl true) H'
section
variable {K : PySem.W.Frag}
theorem EvD.neg {W : View} {G : Hp} {σ : L2.St} {i : Int} : EvD W K G σ (tUn (rU fun i => .int (-i)) (tC (.int i))) (.int (-i)) := fun H Q _ _ q => ⟨i, rfl, q _ H (fun _ _ h => h) (.int _)⟩
/-- the outcome of a check of d -/
def ChkP (K : PySem.W.Frag) (d : PyData) (E : XK) (Q : VK) (H1 : Hp) : Prop := (isFmD 8 d = true → ∀ H', Same H1 H' → Q .non H') ∧ (isFmD 8 d = false → ∀ x H', New H1 H' x (.xd [("word", .str "BadFormula")]) → E (.ref (He.ga K "BadFormula")) (some x) H')
theorem ChkP.later {d : PyData} {E : XK} {Q : VK} {H1 H2 : Hp} (h : ChkP K d E Q H1) (s : Same H1 H2) : ChkP K d E Q H2 := ⟨fun e H' s' => h.1 e H' (s.trans s'), fun e x H' n => h.2 e x H' (n.after s)⟩
abbrev chkW (d : PyData) : Str := if isFmD 8 d = true then "value" else "BadFormula"
theorem c_tryF (F : F57 K) {body : XK → TE} {σ : L2.St} {H : Hp} {Q : VK} {d : PyData} (tb : LamX.Tabs (lamT K) H) (h : ∀ H1 E (Q' : VK), LamX.ExtN H H1 → ChkP K d E Q' H1 → body E σ H1 Q')
    (q : ∀ H1 p H2, LamX.ExtN H H1 → LamX.Tabs (lamT K) H1 → New H1 H2 p (.tup [.str (chkW d), .non]) → Q (.ref p) H2) : LamX.tLam (lamT K) (TTry K) body σ H Q := by
  refine ⟨tb, fun H1 ext tb1 => h H1 _ _ ext ⟨fun e H' s => ?_, fun e x H' N => ?_⟩⟩
  · refine newW fun p H2 N2 => q H1 p H2 ext tb1 (N2.after s |> fun n => ?_)
    rw [chkW, if_pos e]; exact n
  · refine ⟨F.bf.m, _, _, F.bf.x0 fld_bf N.at_, fun p H2 N2 => q H1 p H2 ext tb1 ?_⟩
    rw [chkW, if_neg (by rw [e]; decide)]
    exact N2.after N.same
end
end TD

end
section
open TD L2
/-- what stands at an address -/
local macro_rules | `(tactic| lcg_sub) => `(tactic| first | assumption | exact upd_same | exact New.at_ (by assumption) | (refine New.same (by assumption) _ _ ?_; lcg_sub) | (refine (show Same _ _ from by assumption) _ _ ?_; lcg_sub) | (refine Eq.trans (upd_ne (by first | assumption | exact Ne.symm (by assumption))) ?_; lcg_sub))
/-- a list, a tuple to be read -/
local macro_rules | `(tactic| lcg_src) => `(tactic| first | assumption | exact SqL.of (by lcg_sub) | exact SqT.of (by lcg_sub) | (refine Same.seq (New.same (by assumption)) ?_; lcg_src) | (refine Same.seq (by assumption) ?_; lcg_src) | (refine sameT (New.same (by assumption)) ?_; lcg_src) | (refine sameT (by assumption) ?_; lcg_src))
/-- data at a value -/
local macro_rules | `(tactic| kp_flats) => `(tactic| first | assumption | exact Dp.str _ | exact Dp.int _ | exact Dp.non | exact Dp.bl _ | (refine dp_same (New.same (by assumption)) ?_; kp_flats) | (refine dp_same (by assumption) ?_; kp_flats))
/-- one step of a reading -/
local macro_rules | `(tactic| lcg_off) => `(tactic| first
  | with_reducible refine Stp.go ?_
  | ((with_reducible show tVar _ _ _ _); refine c_var (by rfl) ?_)
  | ((with_reducible show rIxL _ _ _ _ _); refine c_ixL (by lcg_src) (by rfl) ?_)
  | ((with_reducible show rIxT _ _ _ _ _); refine c_ixT (by lcg_src) (by rfl) ?_)
  | ((with_reducible show rSetL _ _ _ _ _); refine c_setL (by lcg_sub) (by rfl) ?_)
  | ((with_reducible show rLenQ _ _ _ _); first | (refine c_lenL (by lcg_src) ?_) | (refine c_lenT (by lcg_src) ?_))
  | ((with_reducible show rSlL _ _ _ _ _ _); refine c_slL (by lcg_src) ?_)
  | ((with_reducible show rListQ _ _ _ _); first | (refine c_listL (by lcg_src) ?_) | (refine c_listT (by lcg_src) ?_))
  | ((with_reducible show rI _ _ _ _ _ _); refine c_IC (by first | assumption | decide | omega) ?_)
  | ((with_reducible show rIsi _ _ _ _); refine c_isi (by kp_flats) (by first | assumption | decide +kernel) ?_)
  | ((with_reducible show rIx _ _ _ _ _); refine c_ix (by first | exact .inl ⟨by lcg_src, by first | assumption | rfl⟩ | exact .inr ⟨by lcg_src, by first | assumption | rfl⟩) ?_)
  | ((with_reducible show NewW _ _ _ _); refine newW ?_)
  | ((with_reducible show rCat _ _ _ _); refine c_cat (by lcg_sub) (by lcg_sub) (le_line (by first | decide | (simp only [List.length_append, List.length_cons, List.length_nil]; omega))) ?_)
  | ((with_reducible show aAddS _ _ _ _); refine c_adds (le_line (by first | decide +kernel | assumption)) ?_)
  | ((with_reducible show rIn _ false _ _ _ _); refine c_inL (by lcg_src) (by rfl) (by rfl) ?_)
  | ((with_reducible show rIn _ true _ _ _ _); refine c_niL (by lcg_src) (by rfl) (by rfl) ?_))
/-- one step, with the new object's names -/
local macro_rules | `(tactic| k_offL) => `(tactic| first | lcg_off | ((with_reducible show ∀ _ _, New _ _ _ _ → _); intro _ _ _))
/-- an error that is held -/
local macro_rules | `(tactic| one_item) => `(tactic| first | assumption | (refine ErrV.same ?_ (New.same (by assumption)); one_item) | (refine ErrV.same ?_ (by assumption); one_item))
/-- nothing was changed -/
local macro_rules | `(tactic| one_place) => `(tactic| first | assumption | exact fun _ _ h => h | exact New.same (by assumption) | (refine Same.trans ?_ (New.same (by assumption)); one_place) | (refine Same.trans ?_ (by assumption); one_place))
/-- what an expression makes, as data -/
local macro_rules | `(tactic| one_sign) => `(tactic| first | exact EvD.str | exact EvD.int | exact EvA.nil | exact EvD.neg | (apply EvA.cons; (focus one_sign); one_sign) | (apply EvD.tup; (focus one_sign); (first | decide | (simp only [List.length_append, List.length_cons, List.length_nil]; omega))) | (apply EvD.var; (focus rfl); kp_flats) | (apply EvL.var; (focus rfl); (focus lcg_sub); assumption) | (apply EvL.lst; (focus one_sign); (first | decide | (simp only [List.length_append, List.length_cons, List.length_nil]; omega))) | (apply EvL.cat; (focus one_sign); (focus one_sign); (first | decide | (simp only [List.length_append, List.length_cons, List.length_nil]; omega))) | (apply EvD.tupOf; one_sign) | (apply EvD.rep; (focus one_sign); (focus simp); (focus decide); (focus decide); decide) | (apply EvL.rep; (focus one_sign); (focus decide); decide) | (apply EvD.adds; (focus one_sign); (focus one_sign); decide +kernel) | exact EvD.non | exact EvD.bl | (apply EvD.ofL; one_sign))
/-- one step, but not into a new list, a new tuple -/
local macro_rules | `(tactic| k_asm) => `(tactic| (fail_if_success (with_reducible show tLst _ _ _ _)); (fail_if_success (with_reducible show tTup _ _ _ _)); (fail_if_success (with_reducible show tOp rCat _ _ _ _ _)); lcg_off)
namespace TD
open PySem PySem.Spec L2 PySem.Calls PySem.TDX
open PyProof.Rows hiding St
section
variable {K : PySem.W.Frag}
theorem dpAll_mem {H : Hp} {y : V} : ∀ {vs : List V} {ds : List PyData}, DpAll K H vs ds → y ∈ vs → ∃ d ∈ ds, Dp K H y d
  | _, _, .nil, h => absurd h (by simp)
  | _, _, .cons h t, m => by
    rcases List.mem_cons.mp m with e | e
    · subst e; exact ⟨_, List.mem_cons_self, h⟩
    · obtain ⟨d, hd, r⟩ := dpAll_mem t e
      exact ⟨d, List.mem_cons_of_mem _ hd, r⟩
theorem mask_upd_sub {H : Hp} {l : Addr} {o : HO} : Same (mask l H) (upd H l o) := fun a u e => by
  by_cases h : a = l
  · rw [h, mask_at] at e; cases e
  · rw [upd_ne h]; rwa [mask_ne h] at e
theorem dp_upd {H : Hp} {l : Addr} {xs : List V} {o : HO} {v : V} {d : PyData} (h : H l = some (.lst xs)) (n : noL d = true) (a : Dp K H v d) : Dp K (upd H l o) v d := dp_same mask_upd_sub (dp_noL h n a)
/-- a list beside the bag is written -/
theorem BagV.put {H G : Hp} {b L p : Addr} {xs : List V} {o : HO} (B : BagV K H b L G) (h : G p = some (.lst xs)) (n : p ≠ L) : BagV K (upd H p o) b L (upd G p o) := by
  have nb := B.ne h
  obtain ⟨e, l, hb, ns, pos, big, salt, rfl, hL, r⟩ := B
  exact ⟨by rw [mask_upd_ne' nb, e], _, by rw [upd_ne (Ne.symm nb)]; exact hb, ns, pos, big, salt, rfl, by rw [upd_ne (Ne.symm n)]; exact hL, r⟩
theorem BagV.neL {H G G' : Hp} {b L p : Addr} {o : HO} (B : BagV K H b L G) (n : New G G' p o) : p ≠ L := by
  obtain ⟨_, l, _, ns, pos, big, salt, rfl, hL, r⟩ := B
  exact fun e => by rw [e] at n; rw [n.free] at hL; cases hL
theorem ext_put {G0 G1 G2 G3 : Hp} {p : Addr} {o u : HO} (e : LamX.ExtN G0 G1) (n : New G1 G2 p u) (e3 : LamX.ExtN G2 G3) : LamX.ExtN G0 (upd G3 p o) := fun a z h q => by
  have h1 := e _ _ h q
  rw [upd_ne (ne_of_none h1 n.free)]
  exact e3 _ _ (n.same _ _ h1) q
theorem tabs_put {G : Hp} {p : Addr} {xs : List V} {o : HO} (t : LamX.Tabs (lamT K) G) (h : G p = some (.lst xs)) : LamX.Tabs (lamT K) (upd G p o) := fun q hq => by
  obtain ⟨ps, h1, h2, h3⟩ := t q hq
  refine ⟨ps, by rw [upd_ne (fun e => by rw [e, h] at h1; cases h1)]; exact h1, h2, fun pos cv hc => ?_⟩
  obtain ⟨c, e, hcc⟩ := h3 pos cv hc
  exact ⟨c, e, by rw [upd_ne (fun e => by rw [e, h] at hcc; cases hcc)]; exact hcc⟩
/-- a turn's beginning -/
structure LawI (K : PySem.W.Frag) (nm : List (List Nat)) (wA : List V) (b L p2 p3 pA : Addr) (H : Hp) (G : Hp) : Prop where
  B : BagV K H b L G
  t : LamX.Tabs (lamT K) G
  n : G p2 = some (.lst (nm.map fun n => .str (S n)))
  e : G pA = some (.lst wA)
  a : DpAll K G wA oddA
  d : Dp K G (.ref p3) innD
theorem LawI.move {nm : List (List Nat)} {wA : List V} {b L p2 p3 pA : Addr} {H H' G G' : Hp} (I : LawI K nm wA b L p2 p3 pA H G) (B : BagV K H' b L G') (e : LamX.ExtN G G') (t : LamX.Tabs (lamT K) G') : LawI K nm wA b L p2 p3 pA H' G' :=
  ⟨B, t, e _ _ I.n (fun ps z => by cases z), e _ _ I.e (fun ps z => by cases z), dpAll_ext e I.a, dp_ext e I.d⟩
instance {σ : L2.St} {H : Hp} {Q : VK} : Stp (tDNewK σ H Q) (∀ p H1, New H H1 p (.dK []) → Q (.ref p) H1) := ⟨fun h p n => h p _ (new_upd n)⟩
abbrev trioD (x y z : Str) : PyData := .list [.tuple [.str x, .none], .tuple [.str y, .none], .tuple [.str z, .none]]
end
theorem pure_law {K : PySem.W.Frag} {vs : List V} {H : Hp} {Q : VK} {E : XK} (F : F57 K) (h : spLaw K vs H Q E) :
    t_law K (spCheck K) (spEvalBad K) (spBag K) (spLForm K 4) (spNames K) (spNest K) (spOf K) (spPull K) (spWith K 4) { nx := fun _ H' => Q .non H', rt := Q } (start ns_law vs) H := by
  obtain ⟨a, ns0, rfl, hs, tb, q⟩ := h
  unfold t_law
  repeat lcg_off
  refine ⟨a, ns0, rfl, hs, fun b L H1 s1 B1 => ?_⟩
  obtain ⟨l1, hb1, _⟩ := B1.ex
  have t1 := tabs_mask (tb.ext s1) hb1
  repeat lcg_off
  refine ⟨b, L, 3, _, rfl, B1, by decide, fun p2 H2 G2 nm B2 N2 hn2 hok => ?_⟩
  repeat lcg_off
  intro p3 H3 N3
  obtain ⟨B3, M3⟩ := B2.next N3
  repeat lcg_off
  intro p4 H4 N4
  obtain ⟨B4, M4⟩ := B3.next N4
  refine c_gTup (SqT.of (B4.at M4.at_)) rfl ?_
  iterate 7 lcg_off
  have d3 : Dp K (mask b H4) (.ref p3) innD := .tup (SqT.of (M4.same _ _ M3.at_)) (.cons (.str _) (.cons (.str _) .nil))
  have sl : ∀ {G : Hp}, Same G G := fun _ _ h => h
  refine (show EvL (vBag b) K (mask b H4) _ _ _ from by one_sign) _ _ B4.vw sl fun p5 w5 H5 s5 e5 a5 => ?_
  have B5 := B4.keep s5
  have m5 : Same (mask b H4) (mask b H5) := mask_mono s5
  have e5 : mask b H5 p5 = some (.lst w5) := e5
  have a5 : DpAll K (mask b H5) w5 oddL := a5
  have d5 := dp_same m5 d3
  iterate 3 lcg_off
  refine (show EvL (vBag b) K (mask b H5) _ _ _ from by one_sign) _ _ B5.vw sl fun p6 w6 H6 s6 e6 a6 => ?_
  have B6 := B5.keep s6
  have m6 : Same (mask b H5) (mask b H6) := mask_mono s6
  have e6 : mask b H6 p6 = some (.lst w6) := e6
  have a6 : DpAll K (mask b H6) w6 (oddL ++ oddL2) := a6
  have d6 := dp_same m6 d5
  clear a5 e5
  iterate 3 lcg_off
  refine (show EvL (vBag b) K (mask b H6) _ _ _ from by one_sign) _ _ B6.vw sl fun p7 w7 H7 s7 e7 a7 => ?_
  have B7 := B6.keep s7
  have m7 : Same (mask b H6) (mask b H7) := mask_mono s7
  have e7 : mask b H7 p7 = some (.lst w7) := e7
  have a7 : DpAll K (mask b H7) w7 (oddL ++ oddL2 ++ oddL3) := a7
  have d7 := dp_same m7 d6
  clear a6 e6
  repeat lcg_off
  refine forR 41 rfl (by decide) (fun i σ H' => ∃ (G : Hp) (v : V) (x : Option V), BagV K H' b L G ∧ Same (mask b H7) G ∧ Dp K G v (chainD i) ∧ σ = [some (.ref a), some (.ref b), some (.ref p2), some (.ref p3), some (.ref p7), some v, x, none, none, none, none]) ?_ ?_ ?_
  · exact ⟨_, _, _, B7, sl, .str _, rfl⟩
  · rintro i σ H8 hi ⟨G, v, x, B, sG, dv, rfl⟩
    repeat lcg_off
    intro p9 H9 N9
    obtain ⟨B9, M9⟩ := B.next N9
    repeat lcg_off
    exact ⟨_, _, _, B9, sG.trans M9.same, .tup (SqT.of M9.at_) (.cons (dp_same M9.same dv) (.cons (.str _) .nil)), rfl⟩
  rintro σ H8 ⟨G, v8, x, B8, s8, d8, rfl⟩
  have e8 := s8 _ _ e7
  have a8 := dpAll_same s8 a7
  have d8' := dp_same s8 d7
  clear a7 e7
  iterate 2 lcg_off
  refine (show EvL (vBag b) K G _ _ _ from by one_sign) _ _ B8.vw (B8.eq ▸ sl) fun p9 w9 H9 s9 e9 a9 => ?_
  have B9 := B8.keep s9
  have m9 : Same G (mask b H9) := B8.same s9
  have e9 : mask b H9 p9 = some (.lst w9) := e9
  have a9 : DpAll K (mask b H9) w9 (oddL ++ oddL2 ++ oddL3 ++ oddL4) := a9
  have d9 := dp_same m9 d8'
  clear a8 e8
  iterate 3 lcg_off
  refine (show EvL (vBag b) K (mask b H9) _ _ _ from by one_sign) _ _ B9.vw sl fun pA wA HA sA eA aA => ?_
  have BA := B9.keep sA
  have mA : Same (mask b H9) (mask b HA) := mask_mono sA
  have eA : mask b HA pA = some (.lst wA) := eA
  have aA : DpAll K (mask b HA) wA oddA := aA
  have dA := dp_same mA d9
  clear a9 e9
  have s2A : Same (mask b H4) (mask b HA) := m5.trans (m6.trans (m7.trans (s8.trans (m9.trans mA))))
  have tA : LamX.Tabs (lamT K) (mask b HA) := t1.ext (N2.same.trans (M3.same.trans (M4.same.trans s2A)))
  have nA : mask b HA p2 = some (.lst (nm.map fun n => .str (S n))) := s2A _ _ (M4.same _ _ (M3.same _ _ N2.at_))
  clear s2A mA m9 s8 m7 m6 m5 d3 d5 d6 d7 d8 d8' d9 t1 hb1 hs tb s1 sA s9 s7 s6 s5
  have I0 : LawI K nm wA b L p2 p3 pA HA (mask b HA) := ⟨BA, tA, nA, eA, aA, dA⟩
  clear nA eA aA dA tA BA
  repeat lcg_off
  refine forR 6 rfl (by decide) (fun i σ H' => ∃ (G : Hp) (x6 x7 x8 x9 x10 : Option V), LawI K nm wA b L p2 p3 pA H' G ∧ σ = [some (.ref a), some (.ref b), some (.ref p2), some (.ref p3), some (.ref pA), some v8, x6, x7, x8, x9, x10]) ?_ ?_ ?_
  · exact ⟨_, _, _, _, _, _, I0, rfl⟩
  · rintro i σ H1 hi ⟨G, x6, x7, x8, x9, x10, I, rfl⟩
    obtain ⟨B, t, n, e, aa, dd⟩ := id I
    repeat lcg_off
    refine ⟨b, _, _, G, rfl, B, by decide, by decide, fun r H2 r0 r1 B2 => ?_⟩
    obtain ⟨r, rfl⟩ := Int.eq_ofNat_of_zero_le r0
    repeat lcg_off
    rw [show (1 : Int) + (r : Int) = ((r + 1 : Nat) : Int) by push_cast; omega]
    refine ⟨b, L, p2, G, nm, r + 1, by omega, by omega, rfl, B2, n, by intro z; subst z; simp at hn2, by omega, fun f v H3 G3 B3 s3 d3 f3 => ?_⟩
    have ff := Fm.fits_mono (P' := okName) hok f _ f3
    repeat lcg_off
    refine ⟨b, _, _, _, rfl, B3, .inl ⟨pA, wA, rfl, .inl (SqL.of (s3 _ _ e)), ?_, ?_, fun y hy H4 B4 => ?_⟩⟩
    · intro z; subst z; have := dpAll_len aa; simp [oddA, oddL] at this
    · have := dpAll_len aa; rw [this]; decide
    obtain ⟨o, ho, dy⟩ := dpAll_mem aa hy
    obtain ⟨bo, wo, oo⟩ := oddA_ok o ho
    repeat lcg_off
    refine ⟨b, L, _, v, y, f, o, r + 1, by omega, ff, by omega, by omega, rfl, B4, d3, dp_same s3 dy, bo, wo, oo, fun rr w H5 G5 B5 s5 d5 b5 w5 o5 => ?_⟩
    have sG : Same G G5 := s3.trans s5
    have t5 := t.ext sG
    have d3' := dp_same s5 d3
    have kf : isFmD 8 f.data = true := by
      have := Fm.fits_deep f _ (by omega) ff
      rw [Fm.isFm_data, Fm.fits_lets (fun _ h => h) f _ ff, decide_eq_true (by omega)]; rfl
    have of : okP 60 f.data = true := okP_mono (by have := Fm.fits_deep f _ (by omega) ff; omega) (Fm.fits_okP (fun _ h => h) f _ ff)
    have c1 : chkW rr = "BadFormula" := if_neg (by rw [b5]; decide)
    have c2 : chkW f.data = "value" := if_pos kf
    repeat lcg_off
    refine c_tryF F (d := rr) (tabs_bag B5 t5) (fun H6 E6 Q6 x6 ck => ?_) fun H6 pa H7 x6 t6 N7 => ?_
    · repeat lcg_off
      exact ⟨w, rr, rfl, dp_ext x6 (B5.dp d5), okP_mono (by omega) o5, w5 8, ck.1, ck.2⟩
    rw [c1] at N7
    have x7 : LamX.ExtN H5 H7 := x6.trans (.of N7.same)
    repeat lcg_off
    refine c_tryF F (d := f.data) (t6.ext N7.same) (fun H8 E8 Q8 x8 ck => ?_) fun H8 pb H9 x8 t8 N9 => ?_
    · repeat lcg_off
      exact ⟨v, f.data, rfl, dp_ext x8 (dp_ext x7 (B5.dp d3')), of, wy_fm f 8, ck.1, ck.2⟩
    rw [c2] at N9
    have x9 : LamX.ExtN H5 H9 := x7.trans (x8.trans (.of N9.same))
    have ea := x8.trans (.of N9.same) _ _ N7.at_ (fun ps z => by cases z)
    repeat lcg_off
    intro pl HB NB
    have xB : LamX.ExtN H5 HB := x9.trans (.of NB.same)
    have tB := (t8.ext N9.same).ext NB.same
    have eaB := NB.same _ _ ea
    have ebB := NB.same _ _ N9.at_
    have xN : LamX.ExtN H5 H9 := x9
    repeat lcg_off
    refine c_tyL (SqL.of NB.at_) ?_
    repeat lcg_off
    refine c_tryF F (d := rr) tB (fun HC EC QC xC ck => ?_) fun HC pc HD xC tC ND => ?_
    · repeat lcg_off
      intro pd HD' ND'
      repeat lcg_off
      have ck' := ck.later ND'.same
      exact ⟨w, _, rr, rfl, dp_same ND'.same (dp_ext xC (dp_ext xB (B5.dp d5))), okP_mono (by omega) o5, w5 8, b5 8, ck'.2 (b5 8)⟩
    rw [c1] at ND
    have xCD : LamX.ExtN HB HD := xC.trans (.of ND.same)
    have el := xCD _ _ NB.at_ (fun ps z => by cases z)
    have ea := xCD _ _ eaB (fun ps z => by cases z)
    have eb := xCD _ _ ebB (fun ps z => by cases z)
    have B9 := B5.extN x9
    have NB' := B9.new NB
    have BB := B5.extN xB
    have BD := BB.extN xCD
    have xM := extN_bag BB xCD
    have elM := xM _ _ NB'.at_ (fun ps z => by cases z)
    have tD := tabs_bag' BD (tC.ext ND.same)
    have BE := BD.put (o := .lst ([.ref pa, .ref pb] ++ [.ref pc])) elM (B9.neL NB')
    have tE := tabs_put (o := .lst ([.ref pa, .ref pb] ++ [.ref pc])) tD elM
    have xE : LamX.ExtN G (upd (mask b HD) pl (.lst ([.ref pa, .ref pb] ++ [.ref pc]))) := ext_put ((LamX.ExtN.of sG).trans (extN_bag B5 x9)) NB' xM
    lcg_off
    refine c_app el (by simp) ?_
    have one : ∀ (p : Addr) (z : Str), HD p = some (.tup [.str z, .non]) → Dp K (upd HD pl (.lst ([.ref pa, .ref pb] ++ [.ref pc]))) (.ref p) (.tuple [.str z, .none]) := fun p z hz => dp_upd el rfl (.tup (SqT.of hz) (.cons (.str _) (.cons .non .nil)))
    have df : Dp K (upd HD pl (.lst ([.ref pa, .ref pb] ++ [.ref pc]))) (.ref pl) (trioD "BadFormula" "value" "BadFormula") := .lst (SqL.of upd_same) (.cons (one _ _ ea) (.cons (one _ _ eb) (.cons (one _ _ ND.at_) .nil)))
    repeat k_asm
    refine (show EvD vAll K (upd HD pl (.lst ([.ref pa, .ref pb] ++ [.ref pc]))) _ _ _ from by one_sign) _ _ True.intro sl fun u HF sF dF => ?_
    refine ⟨_, _, dp_same sF df, dF, by decide +kernel, by decide +kernel, ?_⟩
    rw [show PyData.eqv (trioD "BadFormula" "value" "BadFormula") (.list [.tuple [.str "BadFormula", .none], .tuple [.str "value", .none], .tuple [.str "BadFormula", .none]]) = true by decide +kernel]
    repeat lcg_off
    refine ite_f ?_
    repeat lcg_off
    exact ⟨_, _, _, _, _, _, I.move (BE.keep sF) (xE.trans (.of (BE.same sF))) (tE.ext (BE.same sF)), rfl⟩
  · rintro σ H1 ⟨G, x6, x7, x8, x9, x10, ⟨B, t, n, e, aa, dd⟩, rfl⟩
    have dd := B.dp dd
    have t0 := tabs_bag B t
    repeat lcg_off
    refine c_tryF F (d := (nestF 7).data) t0 (fun H2 E2 Q2 x2 ck => ?_) fun H2 pa H3 x2 t2 N3 => ?_
    · repeat lcg_off
      refine ⟨7, rfl, by decide, fun v H3 s3 d3 => ?_⟩
      repeat lcg_off
      exact ⟨v, _, rfl, d3, nest_okP 7 (by decide), wy_fm _ 8, (ck.later s3).1, (ck.later s3).2⟩
    rw [show chkW (nestF 7).data = "value" by decide +kernel] at N3
    repeat lcg_off
    refine c_tryF F (d := (nestF 8).data) (t2.ext N3.same) (fun H4 E4 Q4 x4 ck => ?_) fun H4 pb H5 x4 t4 N5 => ?_
    · repeat lcg_off
      refine ⟨8, rfl, by decide, fun v H3 s3 d3 => ?_⟩
      repeat lcg_off
      exact ⟨v, _, rfl, d3, nest_okP 8 (by decide), wy_fm _ 8, (ck.later s3).1, (ck.later s3).2⟩
    rw [show chkW (nestF 8).data = "BadFormula" by decide +kernel] at N5
    repeat lcg_off
    intro pl H6 N6
    repeat lcg_off
    refine c_tyL (SqL.of N6.at_) ?_
    have x6 : LamX.ExtN H1 H6 := x2.trans ((LamX.ExtN.of N3.same).trans (x4.trans ((LamX.ExtN.of N5.same).trans (.of N6.same))))
    repeat lcg_off
    refine c_tryF F (d := .tuple ([.str "weave"] ++ (List.replicate 9 [innD]).flatten)) ((t4.ext N5.same).ext N6.same) (fun H7 E7 Q7 x7 ck => ?_) fun H7 pc H8 x7 t7 N8 => ?_
    · have dd7 := dp_ext x7 (dp_ext x6 dd)
      iterate 2 lcg_off
      refine (show EvD vAll K H7 _ _ _ from by one_sign) _ _ True.intro sl fun v H8 s8 d8 => ?_
      repeat lcg_off
      exact ⟨v, _, rfl, d8, by decide +kernel, by decide +kernel, (ck.later s8).1, (ck.later s8).2⟩
    rw [show chkW (.tuple ([.str "weave"] ++ (List.replicate 9 [innD]).flatten)) = "value" by decide +kernel] at N8
    have x8 : LamX.ExtN H6 H8 := x7.trans (.of N8.same)
    have el := x8 _ _ N6.at_ (fun ps z => by cases z)
    have ea := x8 _ _ (N6.same _ _ (N5.same _ _ (x4 _ _ N3.at_ (fun ps z => by cases z)))) (fun ps z => by cases z)
    have eb := x8 _ _ (N6.same _ _ N5.at_) (fun ps z => by cases z)
    lcg_off
    refine c_app el (by simp) ?_
    have one : ∀ (p : Addr) (z : Str), H8 p = some (.tup [.str z, .non]) → Dp K (upd H8 pl (.lst ([.ref pa, .ref pb] ++ [.ref pc]))) (.ref p) (.tuple [.str z, .none]) := fun p z hz => dp_upd el rfl (.tup (SqT.of hz) (.cons (.str _) (.cons .non .nil)))
    have df : Dp K (upd H8 pl (.lst ([.ref pa, .ref pb] ++ [.ref pc]))) (.ref pl) (trioD "value" "BadFormula" "value") := .lst (SqL.of upd_same) (.cons (one _ _ ea) (.cons (one _ _ eb) (.cons (one _ _ N8.at_) .nil)))
    repeat k_asm
    refine (show EvD vAll K (upd H8 pl (.lst ([.ref pa, .ref pb] ++ [.ref pc]))) _ _ _ from by one_sign) _ _ True.intro sl fun u HF sF dF => ?_
    refine ⟨_, _, dp_same sF df, dF, by decide +kernel, by decide +kernel, ?_⟩
    rw [show PyData.eqv (trioD "value" "BadFormula" "value") (.list [.tuple [.str "value", .none], .tuple [.str "BadFormula", .none], .tuple [.str "value", .none]]) = true by decide +kernel]
    exact q _
end TD

end
section
open TD L2
/-- what stands at an address -/
local macro_rules | `(tactic| lcg_sub) => `(tactic| first | assumption | exact upd_same | exact New.at_ (by assumption) | (refine New.same (by assumption) _ _ ?_; lcg_sub) | (refine (show Same _ _ from by assumption) _ _ ?_; lcg_sub) | (refine Eq.trans (upd_ne (by first | assumption | exact Ne.symm (by assumption))) ?_; lcg_sub))
/-- a list, a tuple to be read -/
local macro_rules | `(tactic| lcg_src) => `(tactic| first | assumption | exact SqL.of (by lcg_sub) | exact SqT.of (by lcg_sub) | (refine Same.seq (New.same (by assumption)) ?_; lcg_src) | (refine Same.seq (by assumption) ?_; lcg_src) | (refine sameT (New.same (by assumption)) ?_; lcg_src) | (refine sameT (by assumption) ?_; lcg_src))
/-- data at a value -/
local macro_rules | `(tactic| kp_flats) => `(tactic| first | assumption | exact Dp.str _ | exact Dp.int _ | exact Dp.non | exact Dp.bl _ | (refine dp_same (New.same (by assumption)) ?_; kp_flats) | (refine dp_same (by assumption) ?_; kp_flats))
/-- one step of a reading -/
local macro_rules | `(tactic| lcg_off) => `(tactic| first
  | with_reducible refine Stp.go ?_
  | ((with_reducible show tVar _ _ _ _); refine c_var (by rfl) ?_)
  | ((with_reducible show rIxL _ _ _ _ _); refine c_ixL (by lcg_src) (by rfl) ?_)
  | ((with_reducible show rIxT _ _ _ _ _); refine c_ixT (by lcg_src) (by rfl) ?_)
  | ((with_reducible show rSetL _ _ _ _ _); refine c_setL (by lcg_sub) (by rfl) ?_)
  | ((with_reducible show rLenQ _ _ _ _); first | (refine c_lenL (by lcg_src) ?_) | (refine c_lenT (by lcg_src) ?_))
  | ((with_reducible show rSlL _ _ _ _ _ _); refine c_slL (by lcg_src) ?_)
  | ((with_reducible show rListQ _ _ _ _); first | (refine c_listL (by lcg_src) ?_) | (refine c_listT (by lcg_src) ?_))
  | ((with_reducible show rI _ _ _ _ _ _); refine c_IC (by first | assumption | decide | omega) ?_)
  | ((with_reducible show rIsi _ _ _ _); refine c_isi (by kp_flats) (by first | assumption | decide +kernel) ?_)
  | ((with_reducible show rIx _ _ _ _ _); refine c_ix (by first | exact .inl ⟨by lcg_src, by first | assumption | rfl⟩ | exact .inr ⟨by lcg_src, by first | assumption | rfl⟩) ?_)
  | ((with_reducible show NewW _ _ _ _); refine newW ?_)
  | ((with_reducible show rCat _ _ _ _); refine c_cat (by lcg_sub) (by lcg_sub) (le_line (by first | decide | (simp only [List.length_append, List.length_cons, List.length_nil]; omega))) ?_)
  | ((with_reducible show aAddS _ _ _ _); refine c_adds (le_line (by first | decide +kernel | assumption)) ?_)
  | ((with_reducible show rIn _ false _ _ _ _); refine c_inL (by lcg_src) (by rfl) (by rfl) ?_)
  | ((with_reducible show rIn _ true _ _ _ _); refine c_niL (by lcg_src) (by rfl) (by rfl) ?_))
/-- one step, with the new object's names -/
local macro_rules | `(tactic| k_offL) => `(tactic| first | lcg_off | ((with_reducible show ∀ _ _, New _ _ _ _ → _); intro _ _ _))
/-- an error that is held -/
local macro_rules | `(tactic| one_item) => `(tactic| first | assumption | (refine ErrV.same ?_ (New.same (by assumption)); one_item) | (refine ErrV.same ?_ (by assumption); one_item))
/-- nothing was changed -/
local macro_rules | `(tactic| one_place) => `(tactic| first | assumption | exact fun _ _ h => h | exact New.same (by assumption) | (refine Same.trans ?_ (New.same (by assumption)); one_place) | (refine Same.trans ?_ (by assumption); one_place))
/-- what an expression makes, as data -/
local macro_rules | `(tactic| one_sign) => `(tactic| first | exact EvD.str | exact EvD.int | exact EvA.nil | exact EvD.neg | (apply EvA.cons; (focus one_sign); one_sign) | (apply EvD.tup; (focus one_sign); (first | decide | (simp only [List.length_append, List.length_cons, List.length_nil]; omega))) | (apply EvD.var; (focus rfl); kp_flats) | (apply EvL.var; (focus rfl); (focus lcg_sub); assumption) | (apply EvL.lst; (focus one_sign); (first | decide | (simp only [List.length_append, List.length_cons, List.length_nil]; omega))) | (apply EvL.cat; (focus one_sign); (focus one_sign); (first | decide | (simp only [List.length_append, List.length_cons, List.length_nil]; omega))) | (apply EvD.tupOf; one_sign) | (apply EvD.rep; (focus one_sign); (focus simp); (focus decide); (focus decide); decide) | (apply EvL.rep; (focus one_sign); (focus decide); decide) | (apply EvD.adds; (focus one_sign); (focus one_sign); decide +kernel) | exact EvD.non | exact EvD.bl | (apply EvD.ofL; one_sign))
/-- one step, but not into a new list, a new tuple -/
local macro_rules | `(tactic| k_asm) => `(tactic| (fail_if_success (with_reducible show tLst _ _ _ _)); (fail_if_success (with_reducible show tTup _ _ _ _)); (fail_if_success (with_reducible show tOp rCat _ _ _ _ _)); lcg_off)
namespace TD
open PySem PySem.Spec L2 PySem.Calls PySem.TDX
open PyProof.Rows hiding St
def chk57 (K : PySem.W.Frag) : Bool := errTB K "BadFormula" ["word"]
abbrev s_BadFormula : Stmt := inClass (top 7) 0
theorem sc_BadFormula : FnScope ["self"] ["self"] (defScope s_BadFormula) := ⟨rfl, rfl, rfl, by decide +kernel, rfl, by decide +kernel, by decide +kernel⟩
def fnT : List He.DefD := ([dmt "BadFormula" "__init__" "BadFormula.__init__" s_BadFormula, dfn "_law_bag" s_l_bag, dfn "_law_pull" s_l_pull, dfn "count_ends" s_count_ends, dfn "levels" s_levels, dfn "is_name" s_is_name, dfn "is_owner" s_is_owner, dfn "has_form" s_has_form, dfn "is_number" s_is_number, dfn "is_tree" s_is_tree, dfn "parts_of" s_parts_of, dfn "is_formula" s_is_formula, dfn "check_formula" s_check_formula, dfn "_law_of" s_l_of, dfn "_law_names" s_l_names, dfn "_law_tree" s_l_tree, dfn "_law_class" s_l_class, dfn "_law_formula" s_l_formula, dfn "_law_inner" s_l_inner, dfn "_law_with" s_l_with, dfn "_law_nest" s_l_nest, dfn "evaluate" s_eval57, dfn "_law_field" s_l_fieldX, dfn "law" s_law, dfn "_law_try" s_l_try] : List He.DefD)
def faT : List He.Fa := ([.glo "BadFormula", .glo "_law_bag", .free "list", .glo "_law_pull", .free "len", .glo "count_ends", .free "str", .free "isinstance", .free "sum", .glo "levels", .free "max", .glo "is_name", .int "MOST_NAME" 6, .str "LETTERS" "abcdefghijklmnopqrstuvwxyz", .free "all", .glo "is_owner", .str "NOBODY" "-", .glo "has_form", .free "tuple", .glo "is_number", .free "int", .glo "is_tree", .int "MOST_ENDS" 400, .int "MOST_LEVELS" 40, .glo "parts_of", .int "MOST_PARTS" 9, .glo "is_formula", .glo "check_formula", .int "MOST_DEPTH" 8, .glo "_law_of"] : List He.Fa) ++ ([.glo "_law_names", .free "range", .glo "_law_tree", .glo "_law_class", .glo "_law_formula", .glo "_law_inner", .glo "_law_with", .glo "_law_nest", .glo "evaluate", .glo "_law_field", .glo "_law_try", .glo "TurnError", .glo "TurnMissing", .glo "law"] : List He.Fa)
abbrev chkT : PySem.W.Frag → Bool := chkF faT (chk57)
section
variable {P : Program} {w : World} {K : PySem.W.Frag} {mg : Str → Option Value} {base : Heap} (M : EnvK chkT fnT K mg)
include M
theorem ok_BadFormula : OkX P w K mg base 1 "BadFormula" ["self"] (spE0 K (He.ga K "BadFormula") "BadFormula") :=
  okX_of (errTB_b M.test) (saysK_def M.c 0 (d := dmt "BadFormula" "__init__" "BadFormula.__init__" s_BadFormula) rfl) sc_BadFormula (M.glo 0) (fun _ _ _ _ _ _ us hl => match us, hl with | [_], _ => rfl) (fun vs H Q E h => by obtain ⟨_, rfl, _⟩ := h; rfl)
    (fun cdv A outer s H vs Q E hr h => ⟨t_i0 K "BadFormula", pss_one (ps_gst (pv 0) pe_str), pure_i0 h⟩)
theorem ok_l_bag : OkF P w K mg base 1 "_law_bag" ["_law_script"] (spBag K) :=
  okF_of (saysK_def M.c 1 (d := dfn "_law_bag" s_l_bag) rfl) sc_l_bag (M.glo 1) (fun _ _ _ _ _ _ us hl => match us, hl with | [_], _ => rfl) (fun vs H Q E h => by repeat (first | (obtain ⟨rfl, _⟩ := h; rfl) | (obtain ⟨_, h⟩ := h)))
    (fun cdv A outer s H vs Q E hr h => ⟨t_l_bag K, b_l_bag hr (M.free 2), pure_l_bag _ _ _ _ h⟩)
theorem ok_l_pull : OkF P w K mg base 1 "_law_pull" ["_law_bag_here", "_law_amount"] (spPull K) :=
  okF_of (saysK_def M.c 2 (d := dfn "_law_pull" s_l_pull) rfl) sc_l_pull (M.glo 3) (fun _ _ _ _ _ _ us hl => match us, hl with | [_, _], _ => rfl) (fun vs H Q E h => by repeat (first | (obtain ⟨rfl, _⟩ := h; rfl) | (obtain ⟨_, h⟩ := h)))
    (fun cdv A outer s H vs Q E hr h => ⟨t_l_pull K, b_l_pull hr (M.free 4), pure_l_pull _ _ _ _ h⟩)
theorem ok_count_ends : ∀ n, n ≤ 100 → OkF P w K mg base (n + 1) "count_ends" ["tree"] (spP (spEnds K) n)
  | 0, _ => okF_of (saysK_def M.c 3 (d := dfn "count_ends" s_count_ends) rfl) sc_count_ends (M.glo 5) (fun _ _ _ _ _ _ us hl => match us, hl with | [_], _ => rfl) (fun vs H Q E h => h.elim)
    (fun cdv A outer s H vs Q E hr h => h.elim)
  | n + 1, hn => okF_of (saysK_def M.c 3 (d := dfn "count_ends" s_count_ends) rfl) sc_count_ends (M.glo 5) (fun _ _ _ _ _ _ us hl => match us, hl with | [_], _ => rfl) (fun vs H Q E h => by repeat (first | (obtain ⟨rfl, _⟩ := h; rfl) | (obtain ⟨_, h⟩ := h)))
    (fun cdv A outer s H vs Q E hr h => ⟨t_count_ends K (spP (spEnds K) n), b_count_ends hr (M.free 6) (M.free 7) (ok_count_ends n (by omega)) (by omega) (M.free 8), pure_count_ends (E := E) h⟩)
theorem ok_levels : ∀ n, n ≤ 100 → OkF P w K mg base (n + 1) "levels" ["tree"] (spP (spLev K) n)
  | 0, _ => okF_of (saysK_def M.c 4 (d := dfn "levels" s_levels) rfl) sc_levels (M.glo 9) (fun _ _ _ _ _ _ us hl => match us, hl with | [_], _ => rfl) (fun vs H Q E h => h.elim)
    (fun cdv A outer s H vs Q E hr h => h.elim)
  | n + 1, hn => okF_of (saysK_def M.c 4 (d := dfn "levels" s_levels) rfl) sc_levels (M.glo 9) (fun _ _ _ _ _ _ us hl => match us, hl with | [_], _ => rfl) (fun vs H Q E h => by repeat (first | (obtain ⟨rfl, _⟩ := h; rfl) | (obtain ⟨_, h⟩ := h)))
    (fun cdv A outer s H vs Q E hr h => ⟨t_levels K (spP (spLev K) n), b_levels hr (M.free 6) (M.free 7) (ok_levels n (by omega)) (by omega) (M.free 10), pure_levels (E := E) h⟩)
theorem ok_is_name : OkF P w K mg base 1 "is_name" ["text"] (spIsName K) :=
  okF_of (saysK_def M.c 5 (d := dfn "is_name" s_is_name) rfl) sc_is_name (M.glo 11) (fun _ _ _ _ _ _ us hl => match us, hl with | [_], _ => rfl) (fun vs H Q E h => by repeat (first | (obtain ⟨rfl, _⟩ := h; rfl) | (obtain ⟨_, h⟩ := h)))
    (fun cdv A outer s H vs Q E hr h => ⟨t_is_name K, b_is_name hr (M.free 6) (M.free 7) (M.free 4) (M.int 12) (M.str 13) (M.free 14), pure_is_name h⟩)
theorem ok_is_owner : OkF P w K mg base 2 "is_owner" ["text"] (spIsOwner K) :=
  okF_of (saysK_def M.c 6 (d := dfn "is_owner" s_is_owner) rfl) sc_is_owner (M.glo 15) (fun _ _ _ _ _ _ us hl => match us, hl with | [_], _ => rfl) (fun vs H Q E h => by repeat (first | (obtain ⟨rfl, _⟩ := h; rfl) | (obtain ⟨_, h⟩ := h)))
    (fun cdv A outer s H vs Q E hr h => ⟨t_is_owner K (spIsName K), b_is_owner hr (M.str 16) (ok_is_name M) (by omega), pure_is_owner h⟩)
theorem ok_has_form : ∀ n, n ≤ 62 → OkF P w K mg base (n + 2) "has_form" ["tree"] (spP (spForm K) n)
  | 0, _ => okF_of (saysK_def M.c 7 (d := dfn "has_form" s_has_form) rfl) sc_has_form (M.glo 17) (fun _ _ _ _ _ _ us hl => match us, hl with | [_], _ => rfl) (fun vs H Q E h => h.elim)
    (fun cdv A outer s H vs Q E hr h => h.elim)
  | n + 1, hn => okF_of (saysK_def M.c 7 (d := dfn "has_form" s_has_form) rfl) sc_has_form (M.glo 17) (fun _ _ _ _ _ _ us hl => match us, hl with | [_], _ => rfl) (fun vs H Q E h => by repeat (first | (obtain ⟨rfl, _⟩ := h; rfl) | (obtain ⟨_, h⟩ := h)))
    (fun cdv A outer s H vs Q E hr h => ⟨t_has_form K (spP (spForm K) n) (spIsOwner K), b_has_form hr (M.free 18) (M.free 7) (M.free 4) (ok_has_form n (by omega)) (by omega) (M.free 14) (ok_is_owner M) (by omega), pure_has_form (E := E) h (by omega)⟩)
theorem ok_is_number : OkF P w K mg base 1 "is_number" ["value", "least"] (spIsNum K) :=
  okF_of (saysK_def M.c 8 (d := dfn "is_number" s_is_number) rfl) sc_is_number (M.glo 19) (fun _ _ _ _ _ _ us hl => match us, hl with | [_, _], _ => rfl) (fun vs H Q E h => by repeat (first | (obtain ⟨rfl, _⟩ := h; rfl) | (obtain ⟨_, h⟩ := h)))
    (fun cdv A outer s H vs Q E hr h => ⟨t_is_number K, b_is_number hr (M.free 20) (M.free 7), pure_is_number h⟩)
theorem ok_is_tree : OkF P w K mg base 66 "is_tree" ["value"] (spIsTree K) :=
  okF_of (saysK_def M.c 9 (d := dfn "is_tree" s_is_tree) rfl) sc_is_tree (M.glo 21) (fun _ _ _ _ _ _ us hl => match us, hl with | [_], _ => rfl) (fun vs H Q E h => by repeat (first | (obtain ⟨rfl, _⟩ := h; rfl) | (obtain ⟨_, h⟩ := h)))
    (fun cdv A outer s H vs Q E hr h => ⟨t_is_tree K (spEnds K 60) (spForm K 60) (spLev K 60), b_is_tree hr (ok_has_form M 61 (by decide)) (by omega) (ok_count_ends M 61 (by decide)) (by omega) (M.int 22) (ok_levels M 61 (by decide)) (by omega) (M.int 23), pure_is_tree h⟩)
theorem ok_parts_of : OkF P w K mg base 68 "parts_of" ["formula"] (spParts K) :=
  okF_of (saysK_def M.c 10 (d := dfn "parts_of" s_parts_of) rfl) sc_parts_of (M.glo 24) (fun _ _ _ _ _ _ us hl => match us, hl with | [_], _ => rfl) (fun vs H Q E h => by repeat (first | (obtain ⟨rfl, _⟩ := h; rfl) | (obtain ⟨_, h⟩ := h)))
    (fun cdv A outer s H vs Q E hr h => ⟨t_parts_of K (spIsName K) (spIsNum K) (spIsOwner K) (spIsTree K), b_parts_of hr (M.free 18) (M.free 7) (M.free 4) (M.int 25) (ok_is_number M) (by omega) (ok_is_owner M) (by omega) (ok_is_tree M) (by omega) (ok_is_name M) (by omega), pure_parts_of h⟩)
theorem ok_is_formula : ∀ n, n ≤ 20 → OkF P w K mg base (n + 70) "is_formula" ["formula", "depth"] (spP (spIsFm K) n)
  | 0, _ => okF_of (saysK_def M.c 11 (d := dfn "is_formula" s_is_formula) rfl) sc_is_formula (M.glo 26) (fun _ _ _ _ _ _ us hl => match us, hl with | [_, _], _ => rfl) (fun vs H Q E h => h.elim)
    (fun cdv A outer s H vs Q E hr h => h.elim)
  | n + 1, hn => okF_of (saysK_def M.c 11 (d := dfn "is_formula" s_is_formula) rfl) sc_is_formula (M.glo 26) (fun _ _ _ _ _ _ us hl => match us, hl with | [_, _], _ => rfl) (fun vs H Q E h => by repeat (first | (obtain ⟨rfl, _⟩ := h; rfl) | (obtain ⟨_, h⟩ := h)))
    (fun cdv A outer s H vs Q E hr h => ⟨t_is_formula K (spP (spIsFm K) n) (spParts K), b_is_formula hr (ok_parts_of M) (by omega) (ok_is_formula n (by omega)) (by omega) (M.free 14), pure_is_formula (E := E) h⟩)
theorem ok_check_formula : OkF P w K mg base 82 "check_formula" ["formula"] (spCheck K) :=
  okF_of (saysK_def M.c 12 (d := dfn "check_formula" s_check_formula) rfl) sc_check_formula (M.glo 27) (fun _ _ _ _ _ _ us hl => match us, hl with | [_], _ => rfl) (fun vs H Q E h => by repeat (first | (obtain ⟨rfl, _⟩ := h; rfl) | (obtain ⟨_, h⟩ := h)))
    (fun cdv A outer s H vs Q E hr h => ⟨t_check_formula K (spIsFm K 8) E, b_check_formula hr (M.int 28) (ok_is_formula M 9 (by decide)) (by omega) (ok_BadFormula M) (by omega), pure_check_formula (errB_c (errTB_b M.test)) h⟩)
theorem okK_check_formula : OkK P w K mg base 82 "check_formula" ["formula"] (spCheck K) :=
  okK_of (saysK_def M.c 12 (d := dfn "check_formula" s_check_formula) rfl) sc_check_formula (M.glo 27) (fun _ _ _ _ _ _ us hl => match us, hl with | [_], _ => rfl) (fun vs H Q E h => by repeat (first | (obtain ⟨rfl, _⟩ := h; rfl) | (obtain ⟨_, h⟩ := h)))
    (fun cdv A outer s H vs Q E hr h => ⟨t_check_formula K (spIsFm K 8) E, b_check_formula hr (M.int 28) (ok_is_formula M 9 (by decide)) (by omega) (ok_BadFormula M) (by omega), pure_check_formula (errB_c (errTB_b M.test)) h⟩)
theorem ok_l_of : OkF P w K mg base 2 "_law_of" ["_law_bag_here", "_law_things"] (spOf K) :=
  okF_of (saysK_def M.c 13 (d := dfn "_law_of" s_l_of) rfl) sc_l_of (M.glo 29) (fun _ _ _ _ _ _ us hl => match us, hl with | [_, _], _ => rfl) (fun vs H Q E h => by repeat (first | (obtain ⟨rfl, _⟩ := h; rfl) | (obtain ⟨_, h⟩ := h)))
    (fun cdv A outer s H vs Q E hr h => ⟨t_l_of K (spPull K), b_l_of hr (M.free 4) (ok_l_pull M) (by omega), pure_l_of h⟩)
theorem ok_l_names : OkF P w K mg base 3 "_law_names" ["_law_bag_here", "_law_size"] (spNames K) :=
  okF_of (saysK_def M.c 14 (d := dfn "_law_names" s_l_names) rfl) sc_l_names (M.glo 30) (fun _ _ _ _ _ _ us hl => match us, hl with | [_, _], _ => rfl) (fun vs H Q E h => by repeat (first | (obtain ⟨rfl, _⟩ := h; rfl) | (obtain ⟨_, h⟩ := h)))
    (fun cdv A outer s H vs Q E hr h => ⟨t_l_names K (spOf K) (spPull K), b_l_names hr (ok_l_pull M) (by omega) (M.free 31) (ok_l_of M) (by omega) (M.free 4), pure_l_names h⟩)
theorem ok_l_tree : ∀ n, n ≤ 10 → OkF P w K mg base (n + 4) "_law_tree" ["_law_bag_here", "_law_pool", "_law_deep", "_law_widest"] (spP (spLTree K) n)
  | 0, _ => okF_of (saysK_def M.c 15 (d := dfn "_law_tree" s_l_tree) rfl) sc_l_tree (M.glo 32) (fun _ _ _ _ _ _ us hl => match us, hl with | [_, _, _, _], _ => rfl) (fun vs H Q E h => h.elim)
    (fun cdv A outer s H vs Q E hr h => h.elim)
  | n + 1, hn => okF_of (saysK_def M.c 15 (d := dfn "_law_tree" s_l_tree) rfl) sc_l_tree (M.glo 32) (fun _ _ _ _ _ _ us hl => match us, hl with | [_, _, _, _], _ => rfl) (fun vs H Q E h => by repeat (first | (obtain ⟨rfl, _⟩ := h; rfl) | (obtain ⟨_, h⟩ := h)))
    (fun cdv A outer s H vs Q E hr h => ⟨t_l_tree K (spOf K) (spPull K) (spP (spLTree K) n), b_l_tree hr (ok_l_pull M) (by omega) (ok_l_of M) (by omega) (M.free 31) (ok_l_tree n (by omega)) (by omega) (M.free 18), pure_l_tree (E := E) h⟩)
theorem ok_l_class : OkF P w K mg base 2 "_law_class" ["_law_bag_here", "_law_most"] (spClass K) :=
  okF_of (saysK_def M.c 16 (d := dfn "_law_class" s_l_class) rfl) sc_l_class (M.glo 33) (fun _ _ _ _ _ _ us hl => match us, hl with | [_, _], _ => rfl) (fun vs H Q E h => by repeat (first | (obtain ⟨rfl, _⟩ := h; rfl) | (obtain ⟨_, h⟩ := h)))
    (fun cdv A outer s H vs Q E hr h => ⟨t_l_class K (spPull K), b_l_class hr (ok_l_pull M) (by omega), pure_l_class h⟩)
theorem ok_l_formula : ∀ n, n ≤ 10 → OkF P w K mg base (n + 8) "_law_formula" ["_law_bag_here", "_law_names_here", "_law_deep"] (spP (spLForm K) n)
  | 0, _ => okF_of (saysK_def M.c 17 (d := dfn "_law_formula" s_l_formula) rfl) sc_l_formula (M.glo 34) (fun _ _ _ _ _ _ us hl => match us, hl with | [_, _, _], _ => rfl) (fun vs H Q E h => h.elim)
    (fun cdv A outer s H vs Q E hr h => h.elim)
  | n + 1, hn => okF_of (saysK_def M.c 17 (d := dfn "_law_formula" s_l_formula) rfl) sc_l_formula (M.glo 34) (fun _ _ _ _ _ _ us hl => match us, hl with | [_, _, _], _ => rfl) (fun vs H Q E h => by repeat (first | (obtain ⟨rfl, _⟩ := h; rfl) | (obtain ⟨_, h⟩ := h)))
    (fun cdv A outer s H vs Q E hr h => ⟨t_l_formula K (spClass K) (spP (spLForm K) n) (spOf K) (spPull K) (spLTree K 2), b_l_formula hr (ok_l_pull M) (by omega) (ok_l_of M) (by omega) (ok_l_tree M 3 (by decide)) (by omega) (ok_l_formula n (by omega)) (by omega) (ok_l_class M) (by omega) (M.free 31) (M.free 18), pure_l_formula (E := E) h⟩)
theorem ok_l_inner : OkF P w K mg base 2 "_law_inner" ["_law_formula_z"] (spInner K) :=
  okF_of (saysK_def M.c 18 (d := dfn "_law_inner" s_l_inner) rfl) sc_l_inner (M.glo 35) (fun _ _ _ _ _ _ us hl => match us, hl with | [_], _ => rfl) (fun vs H Q E h => by repeat (first | (obtain ⟨rfl, _⟩ := h; rfl) | (obtain ⟨_, h⟩ := h)))
    (fun cdv A outer s H vs Q E hr h => ⟨t_l_inner K, b_l_inner hr (M.free 2), pure_l_inner h⟩)
theorem ok_l_with : ∀ n, n ≤ 10 → OkF P w K mg base (n + 3) "_law_with" ["_law_bag_here", "_law_formula_z", "_law_odd"] (spP (spWith K) n)
  | 0, _ => okF_of (saysK_def M.c 19 (d := dfn "_law_with" s_l_with) rfl) sc_l_with (M.glo 36) (fun _ _ _ _ _ _ us hl => match us, hl with | [_, _, _], _ => rfl) (fun vs H Q E h => h.elim)
    (fun cdv A outer s H vs Q E hr h => h.elim)
  | n + 1, hn => okF_of (saysK_def M.c 19 (d := dfn "_law_with" s_l_with) rfl) sc_l_with (M.glo 36) (fun _ _ _ _ _ _ us hl => match us, hl with | [_, _, _], _ => rfl) (fun vs H Q E h => by repeat (first | (obtain ⟨rfl, _⟩ := h; rfl) | (obtain ⟨_, h⟩ := h)))
    (fun cdv A outer s H vs Q E hr h => ⟨t_l_with K (spInner K) (spPull K) (spP (spWith K) n), b_l_with hr (ok_l_inner M) (by omega) (ok_l_pull M) (by omega) (M.free 4) (ok_l_with n (by omega)) (by omega), pure_l_with (E := E) h⟩)
theorem ok_l_nest : OkF P w K mg base 1 "_law_nest" ["_law_count_z"] (spNest K) :=
  okF_of (saysK_def M.c 20 (d := dfn "_law_nest" s_l_nest) rfl) sc_l_nest (M.glo 37) (fun _ _ _ _ _ _ us hl => match us, hl with | [_], _ => rfl) (fun vs H Q E h => by repeat (first | (obtain ⟨rfl, _⟩ := h; rfl) | (obtain ⟨_, h⟩ := h)))
    (fun cdv A outer s H vs Q E hr h => ⟨t_l_nest K, b_l_nest hr (M.free 31), pure_l_nest h⟩)
theorem ok_eval57 : OkF P w K mg base 84 "evaluate" ["formula", "trees"] (spEvalBad K) :=
  okF_of (saysK_def M.c 21 (d := dfn "evaluate" s_eval57) rfl) sc_eval57 (M.glo 38) (fun _ _ _ _ _ _ us hl => match us, hl with | [_, _], _ => rfl) (fun vs H Q E h => by repeat (first | (obtain ⟨rfl, _⟩ := h; rfl) | (obtain ⟨_, h⟩ := h)))
    (fun cdv A outer s H vs Q E hr h => ⟨t_eval57 K (spCheck K) E, b_eval57 hr (ok_check_formula M) (by omega), pure_eval57 h⟩)
theorem ok_fieldX : OkFX P w K mg base :=
  okFX_of (saysK_def M.c 22 (d := dfn "_law_field" s_l_fieldX) rfl) sc_l_fieldX (M.glo 39) (fun _ _ _ _ _ _ us hl => match us, hl with | [_], _ => rfl) (fun cdv A outer s H p C d hz hf => b_l_fieldX hz hf )
theorem ok_law : ∃ fd : FuncData, (∀ (s : Shared) (u : Value), BindsTo s fd ⟨[u], []⟩ [("_law_script", u)]) ∧ ∀ base : Heap, LamX.TabB base mg (lawC K) (lawP K) → FnOk P w K mg base (L2.CX P w) 103 (He.ga K "law") fd ["_law_script"] (spLaw K) :=
  law_ofT (saysK_def M.c 23 (d := dfn "law" s_law) rfl) sc_law (fun _ _ _ _ _ _ us hl => match us, hl with | [_], _ => rfl) (fun vs H Q E h => by repeat (first | (obtain ⟨rfl, _⟩ := h; rfl) | (obtain ⟨_, h⟩ := h))) (fun base A outer s H vs Q E TB hr h => ⟨t_law K (spCheck K) (spEvalBad K) (spBag K) (spLForm K 4) (spNames K) (spNest K) (spOf K) (spPull K) (spWith K 4), b_law (kk := 100) hr (ok_l_bag M) (by omega) (ok_l_names M) (by omega) (M.free 31) (M.free 18) (ok_l_pull M) (by omega) (ok_l_formula M 5 (by decide)) (by omega) (ok_l_of M) (by omega) (ok_l_with M 5 (by decide)) (by omega) (saysK_def M.c 24 (d := dfn "_law_try" s_l_try) rfl) (ok_fieldX M) (M.glo 40) (M.glo 41) (M.glo 42) TB (okK_check_formula M) (by omega) (ok_check_formula M) (by omega) (ok_eval57 M) (by omega) (ok_l_nest M) (by omega), pure_law ⟨efC_of M.test⟩ h⟩)
end
end TD

end
section
open TD L2
/-- what stands at an address -/
local macro_rules | `(tactic| lcg_sub) => `(tactic| first | assumption | exact upd_same | exact New.at_ (by assumption) | (refine New.same (by assumption) _ _ ?_; lcg_sub) | (refine (show Same _ _ from by assumption) _ _ ?_; lcg_sub) | (refine Eq.trans (upd_ne (by first | assumption | exact Ne.symm (by assumption))) ?_; lcg_sub))
/-- a list, a tuple to be read -/
local macro_rules | `(tactic| lcg_src) => `(tactic| first | assumption | exact SqL.of (by lcg_sub) | exact SqT.of (by lcg_sub) | (refine Same.seq (New.same (by assumption)) ?_; lcg_src) | (refine Same.seq (by assumption) ?_; lcg_src) | (refine sameT (New.same (by assumption)) ?_; lcg_src) | (refine sameT (by assumption) ?_; lcg_src))
/-- data at a value -/
local macro_rules | `(tactic| kp_flats) => `(tactic| first | assumption | exact Dp.str _ | exact Dp.int _ | exact Dp.non | exact Dp.bl _ | (refine dp_same (New.same (by assumption)) ?_; kp_flats) | (refine dp_same (by assumption) ?_; kp_flats))
/-- one step of a reading -/
local macro_rules | `(tactic| lcg_off) => `(tactic| first
  | with_reducible refine Stp.go ?_
  | ((with_reducible show tVar _ _ _ _); refine c_var (by rfl) ?_)
  | ((with_reducible show rIxL _ _ _ _ _); refine c_ixL (by lcg_src) (by rfl) ?_)
  | ((with_reducible show rIxT _ _ _ _ _); refine c_ixT (by lcg_src) (by rfl) ?_)
  | ((with_reducible show rSetL _ _ _ _ _); refine c_setL (by lcg_sub) (by rfl) ?_)
  | ((with_reducible show rLenQ _ _ _ _); first | (refine c_lenL (by lcg_src) ?_) | (refine c_lenT (by lcg_src) ?_))
  | ((with_reducible show rSlL _ _ _ _ _ _); refine c_slL (by lcg_src) ?_)
  | ((with_reducible show rListQ _ _ _ _); first | (refine c_listL (by lcg_src) ?_) | (refine c_listT (by lcg_src) ?_))
  | ((with_reducible show rI _ _ _ _ _ _); refine c_IC (by first | assumption | decide | omega) ?_)
  | ((with_reducible show rIsi _ _ _ _); refine c_isi (by kp_flats) (by first | assumption | decide +kernel) ?_)
  | ((with_reducible show rIx _ _ _ _ _); refine c_ix (by first | exact .inl ⟨by lcg_src, by first | assumption | rfl⟩ | exact .inr ⟨by lcg_src, by first | assumption | rfl⟩) ?_)
  | ((with_reducible show NewW _ _ _ _); refine newW ?_)
  | ((with_reducible show rCat _ _ _ _); refine c_cat (by lcg_sub) (by lcg_sub) (le_line (by first | decide | (simp only [List.length_append, List.length_cons, List.length_nil]; omega))) ?_)
  | ((with_reducible show aAddS _ _ _ _); refine c_adds (le_line (by first | decide +kernel | assumption)) ?_)
  | ((with_reducible show rIn _ false _ _ _ _); refine c_inL (by lcg_src) (by rfl) (by rfl) ?_)
  | ((with_reducible show rIn _ true _ _ _ _); refine c_niL (by lcg_src) (by rfl) (by rfl) ?_))
/-- one step, with the new object's names -/
local macro_rules | `(tactic| k_offL) => `(tactic| first | lcg_off | ((with_reducible show ∀ _ _, New _ _ _ _ → _); intro _ _ _))
/-- an error that is held -/
local macro_rules | `(tactic| one_item) => `(tactic| first | assumption | (refine ErrV.same ?_ (New.same (by assumption)); one_item) | (refine ErrV.same ?_ (by assumption); one_item))
/-- nothing was changed -/
local macro_rules | `(tactic| one_place) => `(tactic| first | assumption | exact fun _ _ h => h | exact New.same (by assumption) | (refine Same.trans ?_ (New.same (by assumption)); one_place) | (refine Same.trans ?_ (by assumption); one_place))
/-- what an expression makes, as data -/
local macro_rules | `(tactic| one_sign) => `(tactic| first | exact EvD.str | exact EvD.int | exact EvA.nil | exact EvD.neg | (apply EvA.cons; (focus one_sign); one_sign) | (apply EvD.tup; (focus one_sign); (first | decide | (simp only [List.length_append, List.length_cons, List.length_nil]; omega))) | (apply EvD.var; (focus rfl); kp_flats) | (apply EvL.var; (focus rfl); (focus lcg_sub); assumption) | (apply EvL.lst; (focus one_sign); (first | decide | (simp only [List.length_append, List.length_cons, List.length_nil]; omega))) | (apply EvL.cat; (focus one_sign); (focus one_sign); (first | decide | (simp only [List.length_append, List.length_cons, List.length_nil]; omega))) | (apply EvD.tupOf; one_sign) | (apply EvD.rep; (focus one_sign); (focus simp); (focus decide); (focus decide); decide) | (apply EvL.rep; (focus one_sign); (focus decide); decide) | (apply EvD.adds; (focus one_sign); (focus one_sign); decide +kernel) | exact EvD.non | exact EvD.bl | (apply EvD.ofL; one_sign))
/-- one step, but not into a new list, a new tuple -/
local macro_rules | `(tactic| k_asm) => `(tactic| (fail_if_success (with_reducible show tLst _ _ _ _)); (fail_if_success (with_reducible show tTup _ _ _ _)); (fail_if_success (with_reducible show tOp rCat _ _ _ _ _)); lcg_off)
namespace TD
open PySem PySem.Spec L2 PySem.Calls PySem.TDX
open PyProof.Rows hiding St
/-! ### the head -/
abbrev R : PySem.W.OpenRow := PySem.W.OpenLaw.row PySem.Challenge.rw_turndeal_k57_wrong_formulas
abbrev qv : Program := PySem.W.view R.prog [62]
abbrev hk : PySem.W.Hook := hookT 4 chkT fnT [("law", none)]
def ob (s : PySem.W.SharedT) : AlT × Bool := obsTG 4 chkT fnT [("law", none)] (HandSHeadRun.getT s)
theorem ob_eq (s : PySem.W.SharedT) : ob s = hk.obs s.abs := obsTG_eq
def names : List Str := (["TurnError", "TurnMissing", "BadClass", "BadOwner", "TooLarge", "OutOfRange", "BadFormula", "Unknown", "MOST_FACTOR", "divisor", "least_factor", "inverse", "MOST_ENDS", "MOST_LEVELS", "MOST_NAME", "NOBODY", "LETTERS", "is_name", "is_owner", "has_form", "count_ends", "levels", "within", "weave", "taken", "every", "ahead", "gathered", "painted_end", "painted"] : List Str) ++ (["check_painting", "paint", "MOST_DEPTH", "MOST_PARTS", "is_number", "is_tree", "parts_of", "is_formula", "check_formula", "all_names", "names_of", "value_of", "evaluate", "_law_bag", "_law_pull", "_law_of", "_law_names", "_law_tree", "_law_field", "_law_try", "_law_class", "_law_formula", "_law_inner", "_law_with", "_law_nest"] : List Str)
theorem run (w : World) : HandSHeadRun.RunEq R qv hk ob 40000 names w := by
  intro os
  kernel_rfl
end TD
open PySem PySem.W PySem.Calls PyProof.Rows
theorem PySem.Challenge.cw_turndeal_k57_wrong_formulas_holds : PySem.Challenge.rw_turndeal_k57_wrong_formulas.Holds := by
  w_on; o_law
  refine HandSHeadRun.head_any (r := OpenLaw.row PySem.Challenge.rw_turndeal_k57_wrong_formulas) (q := view (OpenLaw.row PySem.Challenge.rw_turndeal_k57_wrong_formulas).prog [62]) (H := TD.hk) (ob := TD.ob) (M := 40000) (loose := TD.names) (d := HandSHeadRun.topDef (OpenLaw.row PySem.Challenge.rw_turndeal_k57_wrong_formulas).prog 62) (kwd := []) TD.ob_eq
    (by kernel_rfl) (fun s => by kernel_rfl) TD.run (by kernel_rfl) (by kernel_rfl) (by kernel_rfl) (by rfl) (by first | assumption | decide +kernel) (by decide +kernel) ⟨rfl, rfl, rfl, rfl, rfl, by decide +kernel⟩ ?hw ?hc
  case hw => w_witness2
  case hc =>
    refine TD.law_endT (l := PySem.Challenge.rw_turndeal_k57_wrong_formulas) (n := 63) (k := 103) (x := "_law_script") rfl (by decide) (by kernel_rfl) ⟨rfl, by decide, by decide⟩ ?F
    intro w mg fa h Y G hmg0
    obtain ⟨K, KX, c, tt⟩ := Y
    have hmg : mg ("law" : PySem.Str) = some (.ref fa) := by
      have e : (HandSHeadRun.topDef (OpenLaw.row PySem.Challenge.rw_turndeal_k57_wrong_formulas).prog 62).name = ("law" : PySem.Str) := by kernel_rfl
      rw [← e]
      exact hmg0
    have M : TD.EnvK TD.chkT TD.fnT K mg := ⟨⟨h, KX, G⟩, c⟩
    have e := hmg.symm.trans (M.glo 43)
    cases e
    obtain ⟨fd, hb, hF⟩ := TD.ok_law (P := (PySem.Challenge.rw_turndeal_k57_wrong_formulas).prog) (w := w) M
    exact ⟨K, fd, TD.spLaw K, KX, tt _ List.mem_cons_self, hb, fun H a ns hl hT hS => ⟨a, ns, rfl, hS, fun p hp => by rw [List.mem_singleton.mp hp]; exact LamX.TabS.nil hT, fun _ => rfl⟩, fun base _ _ => hF base⟩

end
