import PyProof.Rows.All
import Wide.All
import OpenK.AllK
import Wide.FinOn
import KE.KStateDown
import Lean
import HandS.ForMost
import HandS.ForExc
import HandS.Wide
import HandS.More
import HandS.Defaults
import HandS.IsInst
import HandS.Codes
import HandS.HeadHook1
import HandS.HeadHook2
import HandS.Style
import HandS.Steps
import HandS.TupAny
import HandS.TupMul
import HandS.ExcInit
import KE.KExcInit
import HandS.ExcField
import KE.KExcIs
import HandS.MapJoin
import HandS.Head0
import HandS.Head1
import HandS.Head2
import HandS.HeadEnd
import PySem.Challenge.RW_turndeal_k72_error_classes
set_option Elab.async false
set_option linter.all false
set_option maxRecDepth 100000
set_option maxHeartbeats 8000000
section
namespace TD
open PySem PySem.Spec L2 PySem.Calls
open PyProof.Rows hiding St
/-! ### operators by values, named -/
abbrev aLt : R2 := rI0 fun i j => .bl (decide (i < j))
abbrev aLe : R2 := rI0 fun i j => .bl (decide (i ≤ j))
abbrev aGt : R2 := rI0 fun i j => .bl (decide (j < i))
abbrev aGe : R2 := rI0 fun i j => .bl (decide (j ≤ i))
abbrev aAdd : R2 := rI0 fun i j => .int (i + j)
abbrev aSub : R2 := rI0 fun i j => .int (i - j)
abbrev aMul : R2 := rI CMul fun i j => .int (i * j)
abbrev aMulW : R2 := rI CMulW fun i j => .int (i * j)
abbrev aMod : R2 := rI (fun _ j => 0 < j) fun i j => .int (i % j)
abbrev aPow : R2 := rI CPow fun i j => .int (i ^ j.toNat)
abbrev aDiv : R2 := rI CDivW fun i j => .int (i / j)
abbrev aAddS : R2 := fun x y H Q => ∃ i j, x = .str i ∧ y = .str j ∧ i.length + j.length ≤ sizeLine ∧ Q (.str (i ++ j)) H
abbrev rLenQ (K : PySem.W.Frag) : List V → Hp → VK → Prop := fun xs H Q => ∃ p ys, xs = [.ref p] ∧ (SqL K H p ys ∨ SqT K H p ys) ∧ Q (.int ys.length) H
abbrev rListQ (K : PySem.W.Frag) : List V → Hp → VK → Prop := fun xs H Q => ∃ p ys, xs = [.ref p] ∧ (SqL K H p ys ∨ SqT K H p ys) ∧ ∀ l, H l = none → Q (.ref l) (upd H l (.lst ys))
/-! ### one step of a reading -/
section
variable {K : PySem.W.Frag} {D : Ends} {σ : St} {H : Hp} {Q : VK} {QT : Bool → Hp → Prop} {QA : List V → Hp → Prop} {QG : St → Hp → Prop} {ta tb te tx : TE} {tt ut : TT} {t u : TS} {tr : TA} {g : TG} {gs : TGs} {x y v z : V} {r : R2} {i j : Int} {k : Nat}
theorem c_seq (h : t { D with nx := u D } σ H) : tSeq t u D σ H := h
theorem c_next (h : D.nx σ H) : tNext D σ H := h
theorem c_cont (h : D.ct σ H) : tCont D σ H := h
theorem c_break (h : D.bk σ H) : tBreak D σ H := h
theorem c_asg (h : te σ H fun x H1 => g x σ H1 D.nx) : tAsg te g D σ H := h
theorem c_drop (h : te σ H fun _ H1 => D.nx σ H1) : tDrop te D σ H := h
theorem c_ret (h : te σ H D.rt) : tRet te D σ H := h
theorem c_retN (h : D.rt .non H) : tRetN D σ H := h
theorem c_ifs (h : tt σ H fun b H1 => if b = true then t D σ H1 else u D σ H1) : tIfS tt t u D σ H := h
theorem c_var (h : σ[k]? = some (some v)) (q : Q v H) : tVar k σ H Q := ⟨v, h, q⟩
theorem c_c (q : Q v H) : tC v σ H Q := q
theorem c_op (h : ta σ H fun x H1 => tb σ H1 fun y H2 => r x y H2 Q) : tOp r ta tb σ H Q := h
theorem c_un {ru : V → Hp → VK → Prop} (h : ta σ H fun x H1 => ru x H1 Q) : tUn ru ta σ H Q := h
theorem c_I0 {f : Int → Int → V} (q : Q (f i j) H) : rI0 f (.int i) (.int j) H Q := ⟨i, j, rfl, rfl, q⟩
theorem c_IC {C : Int → Int → Prop} {f : Int → Int → V} (c : C i j) (q : Q (f i j) H) : rI C f (.int i) (.int j) H Q := ⟨i, j, rfl, rfl, c, q⟩
theorem c_U {f : Int → V} (q : Q (f i) H) : rU f (.int i) H Q := ⟨i, rfl, q⟩
theorem c_eq (h : scal x y = true) (q : Q (.bl (decide (x = y))) H) : rEq x y H Q := ⟨h, q⟩
theorem c_ne (h : scal x y = true) (q : Q (.bl (!decide (x = y))) H) : rNe x y H Q := ⟨h, q⟩
theorem c_tst (h : te σ H fun x H' => ∃ k, x = .bl k ∧ QT k H') : tTest te σ H QT := h
theorem c_tb (h : te σ H fun x H' => ∃ k, x = .bl k ∧ QT k H') : tB te σ H QT := h
theorem c_and (h : tt σ H fun c H1 => if c = true then ut σ H1 QT else QT false H1) : tAnd tt ut σ H QT := h
theorem c_or (h : tt σ H fun c H1 => if c = true then QT true H1 else ut σ H1 QT) : tOr tt ut σ H QT := h
theorem c_not (h : tt σ H fun c H1 => QT (!c) H1) : tNot tt σ H QT := h
theorem c_andV (h : ta σ H fun x H1 => ∃ c, x = .bl c ∧ if c = true then tb σ H1 Q else Q (.bl false) H1) : tAndV ta tb σ H Q := h
theorem c_orV (h : ta σ H fun x H1 => ∃ c, x = .bl c ∧ if c = true then Q (.bl true) H1 else tb σ H1 Q) : tOrV ta tb σ H Q := h
theorem c_notV (h : ta σ H fun x H1 => ∃ c, x = .bl c ∧ Q (.bl (!c)) H1) : tNotV ta σ H Q := h
theorem c_ifx (h : tt σ H fun c H1 => if c = true then ta σ H1 Q else tb σ H1 Q) : tIf tt ta tb σ H Q := h
theorem c_bl {b : Bool} {P : Bool → Prop} (q : P b) : ∃ k, V.bl b = .bl k ∧ P k := ⟨b, rfl, q⟩
theorem c_nil (q : QA [] H) : tNil σ H QA := q
theorem c_cons (h : ta σ H fun x H1 => tr σ H1 fun xs H2 => QA (x :: xs) H2) : tCons ta tr σ H QA := h
theorem c_cb {rc : List V → Hp → VK → Prop} (h : tr σ H fun vs H1 => rc vs H1 Q) : tCB rc tr σ H Q := h
theorem c_gn (h : QG (σ.set k (some v)) H) : gName k v σ H QG := h
theorem c_gsub {to ti : TE} {ts : TSet} (h : to σ H fun o H1 => ti σ H1 fun i H2 => ts o i v H2 fun H3 => QG σ H3) : gSub to ti ts v σ H QG := h
theorem c_ixL {p : Addr} {xs : List V} (hs : SqL K H p xs) (ha : atI xs i = some v) (q : Q v H) : rIxL K (.ref p) (.int i) H Q := ⟨p, xs, i, v, rfl, rfl, hs, ha, q⟩
theorem c_ixT {p : Addr} {xs : List V} (hs : SqT K H p xs) (ha : atI xs i = some v) (q : Q v H) : rIxT K (.ref p) (.int i) H Q := ⟨p, xs, i, v, rfl, rfl, hs, ha, q⟩
theorem c_setL {p : Addr} {xs : List V} {n : Nat} {QH : Hp → Prop} (hs : H p = some (.lst xs)) (ha : ixN xs.length i = some n) (q : QH (upd H p (.lst (xs.set n v)))) : rSetL (.ref p) (.int i) v H QH := ⟨p, xs, i, n, rfl, rfl, hs, ha, q⟩
theorem c_lenL {p : Addr} {ys : List V} (hs : SqL K H p ys) (q : Q (.int ys.length) H) : rLenQ K [.ref p] H Q := ⟨p, ys, rfl, .inl hs, q⟩
theorem c_lenT {p : Addr} {ys : List V} (hs : SqT K H p ys) (q : Q (.int ys.length) H) : rLenQ K [.ref p] H Q := ⟨p, ys, rfl, .inr hs, q⟩
theorem c_call {sp : Sp} {dvs : List V} {E : XK} (h : tr σ H fun vs H1 => sp (vs ++ dvs) H1 Q E) : tCall sp dvs E tr σ H Q := h
end
theorem ite_t {A B : Prop} (h : A) : if true = true then A else B := by rw [if_pos rfl]; exact h
theorem ite_f {A B : Prop} (h : B) : if false = true then A else B := by rw [if_neg Bool.false_ne_true]; exact h
theorem ite_d {c A B : Prop} [Decidable c] (h1 : c → A) (h2 : ¬ c → B) : if decide c = true then A else B := by
  by_cases h : c
  · rw [decide_eq_true h]; exact ite_t (h1 h)
  · rw [decide_eq_false h]; exact ite_f (h2 h)
theorem ite_nd {c A B : Prop} [Decidable c] (h1 : ¬ c → A) (h2 : c → B) : if (!decide c) = true then A else B := by
  by_cases h : c
  · rw [decide_eq_true h]; exact ite_f (h2 h)
  · rw [decide_eq_false h]; exact ite_t (h1 h)
theorem ite_b {b : Bool} {A B : Prop} (h1 : b = true → A) (h2 : b = false → B) : if b = true then A else B := by
  cases b
  · exact ite_f (h2 rfl)
  · exact ite_t (h1 rfl)
theorem ite_tc {b : Bool} {A B : Prop} (e : b = true) (h : A) : if b = true then A else B := by rw [if_pos e]; exact h
theorem ite_fc {b : Bool} {A B : Prop} (e : b = false) (h : B) : if b = true then A else B := by subst e; exact ite_f h
theorem c_cut {t u : TS} {D : Ends} {σ : L2.St} {H : Hp} (Mid : L2.St → Hp → Prop) (h : t { D with nx := Mid } σ H) (hu : ∀ σ' H', Mid σ' H' → u D σ' H') : C8.tCut t u D σ H := ⟨Mid, h, hu⟩
/-! ### heaps: a new object, all but one object -/
structure New (H H' : Hp) (p : Addr) (o : HO) : Prop where
  free : H p = none
  same : Same H H'
  at_ : H' p = some o
theorem new_upd {H : Hp} {p : Addr} {o : HO} (h : H p = none) : New H (upd H p o) p o := ⟨h, fun b u e => by rw [upd_ne (ne_of_none e h)]; exact e, upd_same⟩
theorem New.ne {H H' : Hp} {p a : Addr} {o u : HO} (n : New H H' p o) (h : H a = some u) : a ≠ p := ne_of_none h n.free
theorem free_back {H H' : Hp} {p : Addr} (s : Same H H') (h : H' p = none) : H p = none := by
  cases e : H p with
  | none => rfl
  | some o => have := s _ _ e; rw [h] at this; cases this
theorem New.after {H H1 H2 : Hp} {p : Addr} {o : HO} (s : Same H H1) (n : New H1 H2 p o) : New H H2 p o := ⟨free_back s n.free, s.trans n.same, n.at_⟩
theorem sameT {K : PySem.W.Frag} {H H' : Hp} {a : Addr} {xs : List V} (e : Same H H') (h : SqT K H a xs) : SqT K H' a xs := by
  rcases h with (h | ⟨o, h⟩) | h
  · exact .inl (.inl (e _ _ h))
  · exact .inl (.inr ⟨o, e _ _ h⟩)
  · exact .inr h
mutual
theorem dp_same {K : PySem.W.Frag} {H H' : Hp} (e : Same H H') : ∀ {v : V} {d : PyData}, Dp K H v d → Dp K H' v d
  | _, _, .non => .non
  | _, _, .bl b => .bl b
  | _, _, .int i => .int i
  | _, _, .str x => .str x
  | _, _, .lst h a => .lst (e.seq h) (dpAll_same e a)
  | _, _, .tup h a => .tup (sameT e h) (dpAll_same e a)
theorem dpAll_same {K : PySem.W.Frag} {H H' : Hp} (e : Same H H') : ∀ {vs : List V} {ds : List PyData}, DpAll K H vs ds → DpAll K H' vs ds
  | _, _, .nil => .nil
  | _, _, .cons h t => .cons (dp_same e h) (dpAll_same e t)
end
/-- the heap without what stands at b -/
def mask (b : Addr) (H : Hp) : Hp := fun a => if a = b then none else H a
theorem mask_ne {b a : Addr} {H : Hp} (h : a ≠ b) : mask b H a = H a := if_neg h
theorem mask_at {b : Addr} {H : Hp} : mask b H b = none := if_pos rfl
theorem mask_same {b : Addr} {H : Hp} : Same (mask b H) H := fun a o e => by
  by_cases h : a = b
  · rw [h, mask_at] at e; cases e
  · rwa [mask_ne h] at e
theorem mask_mono {b : Addr} {H H' : Hp} (s : Same H H') : Same (mask b H) (mask b H') := fun a o e => by
  by_cases h : a = b
  · rw [h, mask_at] at e; cases e
  · rw [mask_ne h] at e ⊢; exact s a o e
theorem mask_upd {b : Addr} {H : Hp} {o : HO} : mask b (upd H b o) = mask b H := by
  funext a
  by_cases h : a = b
  · rw [h, mask_at, mask_at]
  · rw [mask_ne h, mask_ne h, upd_ne h]
theorem New.masked {b p : Addr} {H H' : Hp} {o u : HO} (n : New H H' p o) (hb : H b = some u) : New (mask b H) (mask b H') p o := by
  have h := Ne.symm (n.ne hb)
  exact ⟨by rw [mask_ne h]; exact n.free, mask_mono n.same, by rw [mask_ne h]; exact n.at_⟩
/-! ### slices, loops, comprehensions -/
section
variable {K : PySem.W.Frag} {D : Ends} {σ : L2.St} {H : Hp} {Q : VK} {te : TE} {tt : TT} {tr : TA} {tl th : TO} {g : TG} {tb : TS} {x y v : V} {i j : Int} {a : Addr} {xs : List V} {vs : List Nat} {R : It → Hp → Prop}
theorem c_sl {r : V → Option Int → Option Int → Hp → VK → Prop} (h : te σ H fun x H1 => tl σ H1 fun l H2 => th σ H2 fun u H3 => r x l u H3 Q) : tSl r te tl th σ H Q := h
theorem c_noP {QO : Option Int → Hp → Prop} (h : QO none H) : tNoPart σ H QO := h
theorem c_part {QO : Option Int → Hp → Prop} (h : te σ H fun x H1 => ∃ i, x = .int i ∧ QO (some i) H1) : tPart te σ H QO := h
theorem c_intE {P : Int → Prop} (h : P i) : ∃ k, V.int i = .int k ∧ P k := ⟨i, rfl, h⟩
theorem c_slL {lo hi : Option Int} (hs : SqL K H a xs) (q : ∀ p H1, New H H1 p (.lst (cutV xs lo hi)) → Q (.ref p) H1) : rSlL K (.ref a) lo hi H Q := ⟨a, xs, rfl, hs, fun p n => q p _ (new_upd n)⟩
theorem c_listL (hs : SqL K H a xs) (q : ∀ p H1, New H H1 p (.lst xs) → Q (.ref p) H1) : rListQ K [.ref a] H Q := ⟨a, xs, rfl, .inl hs, fun p n => q p _ (new_upd n)⟩
theorem c_listT (hs : SqT K H a xs) (q : ∀ p H1, New H H1 p (.lst xs) → Q (.ref p) H1) : rListQ K [.ref a] H Q := ⟨a, xs, rfl, .inr hs, fun p n => q p _ (new_upd n)⟩
/-- what a loop over J wants -/
def ForW (J : It) (g : TG) (tb : TS) (D : Ends) (σ : L2.St) (H : Hp) : Prop := ∃ W : Nat → Nat → L2.St → Hp → Prop, (∃ m, W 0 m σ H) ∧ ∀ i m σ H, W i m σ H →
  (J.stop i H ∧ D.nx σ H) ∨ (J.go i H ∧ ∃ N : L2.St → Hp → Prop, (∀ σ' H', N σ' H' → ∃ m', m' < m ∧ W (i + 1) m' σ' H') ∧ ∀ x H', J.yld i H x H' → g x σ H' fun σ2 H2 => tb { D with nx := N, ct := N, bk := D.nx } σ2 H2)
theorem c_for {wi : TI} (h : wi σ H fun J H1 => ForW J g tb D σ H1) : tFor wi g tb D σ H := h
theorem c_iList (h : te σ H fun x H1 => ∃ a, x = .ref a ∧ (∃ xs, SqL K H1 a xs) ∧ R (Itl K a) H1) : iList K te σ H R := h
theorem c_iTup (h : te σ H fun x H1 => ∃ a, x = .ref a ∧ (∃ xs, SqT K H1 a xs) ∧ R (Itt K a) H1) : iTup K te σ H R := h
theorem c_iR1 (h : tr σ H fun vs H1 => ∃ j : Int, vs = [.int j] ∧ -(2 ^ 62) ≤ j ∧ j < 2 ^ 62 ∧ R (Itr 0 j.toNat) H1) : iRng1 tr σ H R := h
theorem c_iR2 (h : tr σ H fun vs H1 => ∃ i j : Int, vs = [.int i, .int j] ∧ (-(2 ^ 62) ≤ i ∧ i < 2 ^ 62 ∧ -(2 ^ 62) ≤ j ∧ j < 2 ^ 62) ∧ R (Itr i (j - i).toNat) H1) : iRng2 tr σ H R := h
theorem forL (hS : SqL K H a xs) (Pv : Nat → L2.St → Hp → Prop) (h0 : Pv 0 σ H) (hl : ∀ i σ H, i ≤ xs.length → Pv i σ H → SqL K H a xs)
    (hs : ∀ i x σ H, xs[i]? = some x → Pv i σ H → g x σ H fun σ2 H2 => tb { D with nx := Pv (i + 1), ct := Pv (i + 1), bk := D.nx } σ2 H2) (hd : ∀ σ H, Pv xs.length σ H → D.nx σ H) :
    ∃ b, V.ref a = .ref b ∧ (∃ xs, SqL K H b xs) ∧ ForW (Itl K b) g tb D σ H := ⟨a, rfl, ⟨xs, hS⟩, for_list Pv h0 hl hs hd⟩
theorem forT (hS : SqT K H a xs) (Pv : Nat → L2.St → Hp → Prop) (h0 : Pv 0 σ H) (hl : ∀ i σ H, i ≤ xs.length → Pv i σ H → SqT K H a xs)
    (hs : ∀ i x σ H, xs[i]? = some x → Pv i σ H → g x σ H fun σ2 H2 => tb { D with nx := Pv (i + 1), ct := Pv (i + 1), bk := D.nx } σ2 H2) (hd : ∀ σ H, Pv xs.length σ H → D.nx σ H) :
    ∃ b, V.ref a = .ref b ∧ (∃ xs, SqT K H b xs) ∧ ForW (Itt K b) g tb D σ H := ⟨a, rfl, ⟨xs, hS⟩, for_tup Pv h0 hl hs hd⟩
theorem forR (n : Nat) (hj : j = (n : Int)) (hb : n < 2 ^ 62) (Pv : Nat → L2.St → Hp → Prop) (h0 : Pv 0 σ H)
    (hs : ∀ i σ H, i < n → Pv i σ H → g (.int (i : Nat)) σ H fun σ2 H2 => tb { D with nx := Pv (i + 1), ct := Pv (i + 1), bk := D.nx } σ2 H2) (hd : ∀ σ H, Pv n σ H → D.nx σ H) :
    ∃ k : Int, [V.int j] = [.int k] ∧ -(2 ^ 62) ≤ k ∧ k < 2 ^ 62 ∧ ForW (Itr 0 k.toNat) g tb D σ H := by
  subst hj
  refine ⟨n, rfl, by omega, by omega, ?_⟩
  rw [Int.toNat_natCast]
  refine for_range Pv h0 (fun i σ H hi p => ?_) hd
  rw [Int.zero_add]
  exact hs i σ H hi p
/-- what a comprehension over J wants; D its list -/
def LcW (J : It) (g : TG) (tt : TT) (te : TE) (vs : List Nat) (Q : VK) (σ : L2.St) (H1 : Hp) : Prop := ∀ D, H1 D = none → ∃ W : Nat → Nat → Hp → Prop, (∃ m, W 0 m (upd H1 D (.lst []))) ∧ ∀ i m H, W i m H →
  (J.stop i H ∧ Q (.ref D) H) ∨ (J.go i H ∧ ∃ Nx : Hp → Prop, (∀ H', Nx H' → ∃ m', m' < m ∧ W (i + 1) m' H') ∧ ∀ x H', J.yld i H x H' → g x (wipe σ vs) H' fun σ2 H2 => wipe σ2 vs = wipe σ vs ∧ tt σ2 H2 fun b H3 =>
    if b = true then te σ2 H3 fun y H4 => ∃ acc, H4 D = some (.lst acc) ∧ acc.length < sizeLine ∧ Nx (upd H4 D (.lst (acc ++ [y]))) else Nx H3)
theorem c_lc {wi : TI} (h : wi σ H fun J H1 => LcW J g tt te vs Q σ H1) : tLc wi g tt te vs σ H Q := h
end
/-- a new list, a new tuple -/
def NewW (f : List V → HO) (xs : List V) (H : Hp) (Q : VK) : Prop := xs.length ≤ sizeLine ∧ ∀ p, H p = none → Q (.ref p) (upd H p (f xs))
theorem newW {f : List V → HO} {xs : List V} {H : Hp} {Q : VK} (q : ∀ p H1, New H H1 p (f xs) → Q (.ref p) H1) (hl : xs.length ≤ 100000 := by exact Nat.le_of_ble_eq_true rfl) : NewW f xs H Q := ⟨Nat.le_trans hl (by decide), fun p n => q p _ (new_upd n)⟩
/-! ### plain steps by the head -/
class Stp (P : Prop) (R : outParam Prop) : Prop where
  go : R → P
class IxS (σ : L2.St) (k : Nat) (v : outParam V) : Prop where
  at_ : σ[k]? = some (some v)
instance {v : V} {σ : L2.St} : IxS (some v :: σ) 0 v := ⟨rfl⟩
instance {v : V} {o : Option V} {σ : L2.St} {k : Nat} [i : IxS σ k v] : IxS (o :: σ) (k + 1) v := ⟨i.at_⟩
class Scl (x y : V) : Prop where
  ok : scal x y = true
instance {i j : Int} : Scl (.int i) (.int j) := ⟨rfl⟩
instance {i j : Str} : Scl (.str i) (.str j) := ⟨rfl⟩
instance {i j : Bool} : Scl (.bl i) (.bl j) := ⟨rfl⟩
instance : Scl .non .non := ⟨rfl⟩
instance {i : Int} : Scl (.int i) .non := ⟨rfl⟩
instance {i : Int} : Scl .non (.int i) := ⟨rfl⟩
instance {i : Str} : Scl (.str i) .non := ⟨rfl⟩
instance {i : Str} : Scl .non (.str i) := ⟨rfl⟩
section
variable {K : PySem.W.Frag} {D : Ends} {σ : L2.St} {H : Hp} {Q : VK} {QT : Bool → Hp → Prop} {QA : List V → Hp → Prop} {QG : L2.St → Hp → Prop} {ta tb te tx : TE} {tt ut : TT} {t u : TS} {tr : TA} {g : TG} {gs : TGs} {x y v z : V} {r : R2} {i j : Int} {k : Nat} {tl th : TO} {R : It → Hp → Prop} {vs : List Nat}
instance : Stp (tSeq t u D σ H) (t { D with nx := u D } σ H) := ⟨id⟩
instance : Stp (tNext D σ H) (D.nx σ H) := ⟨id⟩
instance : Stp (tCont D σ H) (D.ct σ H) := ⟨id⟩
instance : Stp (tBreak D σ H) (D.bk σ H) := ⟨id⟩
instance : Stp (tAsg te g D σ H) (te σ H fun x H1 => g x σ H1 D.nx) := ⟨id⟩
instance : Stp (tDrop te D σ H) (te σ H fun _ H1 => D.nx σ H1) := ⟨id⟩
instance : Stp (tRet te D σ H) (te σ H D.rt) := ⟨id⟩
instance : Stp (tRetN D σ H) (D.rt .non H) := ⟨id⟩
instance : Stp (tIfS tt t u D σ H) (tt σ H fun b H1 => if b = true then t D σ H1 else u D σ H1) := ⟨id⟩
instance [h : IxS σ k v] : Stp (tVar k σ H Q) (Q v H) := ⟨fun q => ⟨v, h.at_, q⟩⟩
instance : Stp (tC v σ H Q) (Q v H) := ⟨id⟩
instance : Stp (tOp r ta tb σ H Q) (ta σ H fun x H1 => tb σ H1 fun y H2 => r x y H2 Q) := ⟨id⟩
instance {ru : V → Hp → VK → Prop} : Stp (tUn ru ta σ H Q) (ta σ H fun x H1 => ru x H1 Q) := ⟨id⟩
instance {f : Int → Int → V} : Stp (rI0 f (.int i) (.int j) H Q) (Q (f i j) H) := ⟨fun q => ⟨i, j, rfl, rfl, q⟩⟩
instance {f : Int → V} : Stp (rU f (.int i) H Q) (Q (f i) H) := ⟨fun q => ⟨i, rfl, q⟩⟩
instance [h : Scl x y] : Stp (rEq x y H Q) (Q (.bl (decide (x = y))) H) := ⟨fun q => ⟨h.ok, q⟩⟩
instance [h : Scl x y] : Stp (rNe x y H Q) (Q (.bl (!decide (x = y))) H) := ⟨fun q => ⟨h.ok, q⟩⟩
instance : Stp (tTest te σ H QT) (te σ H fun x H' => ∃ k, x = .bl k ∧ QT k H') := ⟨id⟩
instance : Stp (tB te σ H QT) (te σ H fun x H' => ∃ k, x = .bl k ∧ QT k H') := ⟨id⟩
instance {b : Bool} {P : Bool → Prop} : Stp (∃ k, V.bl b = .bl k ∧ P k) (P b) := ⟨fun q => ⟨b, rfl, q⟩⟩
instance {P : Int → Prop} : Stp (∃ k, V.int i = .int k ∧ P k) (P i) := ⟨fun q => ⟨i, rfl, q⟩⟩
instance : Stp (tAnd tt ut σ H QT) (tt σ H fun c H1 => if c = true then ut σ H1 QT else QT false H1) := ⟨id⟩
instance : Stp (tOr tt ut σ H QT) (tt σ H fun c H1 => if c = true then QT true H1 else ut σ H1 QT) := ⟨id⟩
instance : Stp (tNot tt σ H QT) (tt σ H fun c H1 => QT (!c) H1) := ⟨id⟩
instance : Stp (tAndV ta tb σ H Q) (ta σ H fun x H1 => ∃ c, x = .bl c ∧ if c = true then tb σ H1 Q else Q (.bl false) H1) := ⟨id⟩
instance : Stp (tOrV ta tb σ H Q) (ta σ H fun x H1 => ∃ c, x = .bl c ∧ if c = true then Q (.bl true) H1 else tb σ H1 Q) := ⟨id⟩
instance : Stp (tNotV ta σ H Q) (ta σ H fun x H1 => ∃ c, x = .bl c ∧ Q (.bl (!c)) H1) := ⟨id⟩
instance : Stp (tIf tt ta tb σ H Q) (tt σ H fun c H1 => if c = true then ta σ H1 Q else tb σ H1 Q) := ⟨id⟩
instance : Stp (tNil σ H QA) (QA [] H) := ⟨id⟩
instance : Stp (tCons ta tr σ H QA) (ta σ H fun x H1 => tr σ H1 fun xs H2 => QA (x :: xs) H2) := ⟨id⟩
instance {rc : List V → Hp → VK → Prop} : Stp (tCB rc tr σ H Q) (tr σ H fun vs H1 => rc vs H1 Q) := ⟨id⟩
instance : Stp (tTup tr σ H Q) (tr σ H fun xs H1 => NewW .tup xs H1 Q) := ⟨id⟩
instance : Stp (tLst tr σ H Q) (tr σ H fun xs H1 => NewW .lst xs H1 Q) := ⟨id⟩
instance : Stp (gName k v σ H QG) (QG (σ.set k (some v)) H) := ⟨id⟩
instance {to ti : TE} {ts : TSet} : Stp (gSub to ti ts v σ H QG) (to σ H fun o H1 => ti σ H1 fun i H2 => ts o i v H2 fun H3 => QG σ H3) := ⟨id⟩
instance {sp : Sp} {dvs : List V} {E : XK} : Stp (tCall sp dvs E tr σ H Q) (tr σ H fun vs H1 => sp (vs ++ dvs) H1 Q E) := ⟨id⟩
instance {r : V → Option Int → Option Int → Hp → VK → Prop} : Stp (tSl r te tl th σ H Q) (te σ H fun x H1 => tl σ H1 fun l H2 => th σ H2 fun u H3 => r x l u H3 Q) := ⟨id⟩
instance {QO : Option Int → Hp → Prop} : Stp (tNoPart σ H QO) (QO none H) := ⟨id⟩
instance {QO : Option Int → Hp → Prop} : Stp (tPart te σ H QO) (te σ H fun x H1 => ∃ i, x = .int i ∧ QO (some i) H1) := ⟨id⟩
instance {wi : TI} : Stp (tFor wi g t D σ H) (wi σ H fun J H1 => ForW J g t D σ H1) := ⟨id⟩
instance {wi : TI} : Stp (tLc wi g tt te vs σ H Q) (wi σ H fun J H1 => LcW J g tt te vs Q σ H1) := ⟨id⟩
instance : Stp (iList K te σ H R) (te σ H fun x H1 => ∃ a, x = .ref a ∧ (∃ xs, SqL K H1 a xs) ∧ R (Itl K a) H1) := ⟨id⟩
instance : Stp (iTup K te σ H R) (te σ H fun x H1 => ∃ a, x = .ref a ∧ (∃ xs, SqT K H1 a xs) ∧ R (Itt K a) H1) := ⟨id⟩
instance : Stp (iRng1 tr σ H R) (tr σ H fun vs H1 => ∃ j : Int, vs = [.int j] ∧ -(2 ^ 62) ≤ j ∧ j < 2 ^ 62 ∧ R (Itr 0 j.toNat) H1) := ⟨id⟩
instance : Stp (iRng2 tr σ H R) (tr σ H fun vs H1 => ∃ i j : Int, vs = [.int i, .int j] ∧ (-(2 ^ 62) ≤ i ∧ i < 2 ^ 62 ∧ -(2 ^ 62) ≤ j ∧ j < 2 ^ 62) ∧ R (Itr i (j - i).toNat) H1) := ⟨id⟩
end
/-! ### names of the module -/
section
variable {X : Cx} {x : Str} {pos : Pos}
theorem pe_gi {i : Int} (hg : Gl X x) (hm : ∃ t, X.mg x = some (.int i t)) (hd : (x == ("__debug__" : Str)) = false := by decide) : PE X (.Name x pos) (tC (.int i)) := by
  obtain ⟨t, h⟩ := hm
  exact pe_glob hg h ⟨t, rfl⟩ hd
theorem pe_gs {z : Str} (hg : Gl X x) (hm : ∃ t, X.mg x = some (.str z t)) (hd : (x == ("__debug__" : Str)) = false := by decide) : PE X (.Name x pos) (tC (.str z)) := by
  obtain ⟨t, h⟩ := hm
  exact pe_glob hg h ⟨t, rfl⟩ hd
end
theorem hu64 {A : Around} {k : Nat} (hr : Room k A) : A.units + 64 < cLine := by
  have h := hr.un
  omega
/-! ### a def of the module, by its name -/
structure OkF (P : Program) (w : World) (K : PySem.W.Frag) (mg : Str → Option Value) (base : Heap) (k : Nat) (x : Str) (ps : List Str) (sp : Sp) : Prop where
  ok : ∃ fd, FnOk P w K mg base (L2.CX P w) k (He.ga K x) fd ps sp ∧ Binds K fd ps []
  kp : PySem.W.keepIn K (.ref (He.ga K x)) = true
  at_ : mg x = some (.ref (He.ga K x))
theorem OkF.mono {P : Program} {w : World} {K : PySem.W.Frag} {mg : Str → Option Value} {base : Heap} {j k : Nat} {x : Str} {ps : List Str} {sp : Sp} (F : OkF P w K mg base j x ps sp) (h : j ≤ k) : OkF P w K mg base k x ps sp := by
  obtain ⟨⟨fd, a, b⟩, c, d⟩ := F
  exact ⟨⟨fd, a.mono h, b⟩, c, d⟩
theorem OkF.imp {P : Program} {w : World} {K : PySem.W.Frag} {mg : Str → Option Value} {base : Heap} {k : Nat} {x : Str} {ps : List Str} {sp sp' : Sp} (F : OkF P w K mg base k x ps sp) (h : ∀ vs H Q E, sp' vs H Q E → sp vs H Q E) : OkF P w K mg base k x ps sp' := by
  obtain ⟨⟨fd, a, b⟩, c, d⟩ := F
  exact ⟨⟨fd, a.imp h, b⟩, c, d⟩
/-- a def of a class C -/
structure OkM (P : Program) (w : World) (K : PySem.W.Frag) (mg : Str → Option Value) (base : Heap) (k : Nat) (C m : Str) (ps : List Str) (sp : Sp) : Prop where
  ok : ∃ fd, FnOk P w K mg base (L2.CX P w) k (He.ma K (He.ga K C) m) fd ps sp ∧ Binds K fd ps []
  at_ : Meth K (He.ga K C) m (He.ma K (He.ga K C) m)
section
variable {X : Cx} {k j : Nat} {x : Str} {ps : List Str} {sp : Sp} {E : XK} {p pos : Pos} {e : Expr} {es : List Expr} {t : TA}
theorem pe_okF (F : OkF X.prog X.w X.K X.mg X.base k x ps sp) (hr : Room j X.A) (hj : k ≤ j) (hg : Gl X x) (hx : Passes (L2.CX X.prog X.w) X E) (ha : PA X (e :: es) t)
    (hdb : (x == ("__debug__" : Str)) = false := by decide) (he : starEach (e :: es) X.env = (false, eval e X.env) :: starEach es X.env := by rfl) (hpl : (backTo pos (starEach es X.env)).any (·.1) = false := by rfl) :
    PE X (.Call (.Name x p) (e :: es) [] pos) (tCall sp [] E t) := by
  obtain ⟨⟨fd, F1, b⟩, c, d⟩ := F
  exact pe_call F1 (hr.mono hj) hg d c b .nil hx ha hdb he hpl
end
/-- the rule: a def of the module holds its promise -/
theorem okF_of {P : Program} {w : World} {K : PySem.W.Frag} {mg : Str → Option Value} {base : Heap} {k : Nat} {x : Str} {ar : Arguments} {bd : List Stmt} {sc : Scope} {N ps : List Str} {sp : Sp}
    (F : ∃ fd, FunD K x x ar bd sc [] [] (He.ga K x) fd) (S : FnScope N ps sc) (hg : mg x = some (.ref (He.ga K x)))
    (hb : ∀ (kV doc pm : Value) (an : Option Addr) (cdv ct : Value) (us : List Value), us.length = ps.length → bindArgs (PySem.W.fnOf x x ar bd sc .none kV doc pm an cdv ct) ⟨us, []⟩ = pure (ps.zip us))
    (len : ∀ vs H Q E, sp vs H Q E → vs.length = ps.length)
    (body : ∀ (cdv : Value) (A : Around) (outer : List Env) (s : Shared) (H : Hp) (vs : List V) (Q : VK) (E : XK), Room k (A.deeper (envOfC x sc s.heap.objs.size (He.ga K x) cdv)) → sp vs H Q E →
      ∃ t, PSs (cxOf (L2.CX P w) P w K mg base N x sc (He.ga K x) cdv A outer s H E) bd t ∧ t { nx := fun _ H' => Q .non H', rt := Q } (start N vs) H) : OkF P w K mg base (k + 1) x ps sp := by
  obtain ⟨fd, F⟩ := F
  exact ⟨⟨fd, F.ok S len body, F.bindsN hb⟩, F.kp, hg⟩
end TD

end
section
open TD L2
/-- what stands at an address -/
local macro_rules | `(tactic| lcg_sub) => `(tactic| first | assumption | exact upd_same | exact New.at_ (by assumption) | (refine New.same (by assumption) _ _ ?_; lcg_sub) | (refine (show Same _ _ from by assumption) _ _ ?_; lcg_sub) | (refine Eq.trans (upd_ne (by first | assumption | exact Ne.symm (by assumption))) ?_; lcg_sub))
/-- a list, a tuple to be read -/
local macro_rules | `(tactic| lcg_src) => `(tactic| first | assumption | exact SqL.of (by lcg_sub) | exact SqT.of (by lcg_sub) | (refine Same.seq (New.same (by assumption)) ?_; lcg_src) | (refine Same.seq (by assumption) ?_; lcg_src) | (refine sameT (New.same (by assumption)) ?_; lcg_src) | (refine sameT (by assumption) ?_; lcg_src))
/-- data at a value -/
local macro_rules | `(tactic| kp_flats) => `(tactic| first | assumption | exact Dp.str _ | exact Dp.int _ | exact Dp.non | exact Dp.bl _ | (refine dp_same (New.same (by assumption)) ?_; kp_flats) | (refine dp_same (by assumption) ?_; kp_flats))
/-- one step of a reading -/
local macro_rules | `(tactic| lcg_off) => `(tactic| first
  | with_reducible refine Stp.go ?_
  | ((with_reducible show tVar _ _ _ _); refine c_var (by rfl) ?_)
  | ((with_reducible show rIxL _ _ _ _ _); refine c_ixL (by lcg_src) (by rfl) ?_)
  | ((with_reducible show rIxT _ _ _ _ _); refine c_ixT (by lcg_src) (by rfl) ?_)
  | ((with_reducible show rSetL _ _ _ _ _); refine c_setL (by lcg_sub) (by rfl) ?_)
  | ((with_reducible show rLenQ _ _ _ _); first | (refine c_lenL (by lcg_src) ?_) | (refine c_lenT (by lcg_src) ?_))
  | ((with_reducible show rSlL _ _ _ _ _ _); refine c_slL (by lcg_src) ?_)
  | ((with_reducible show rListQ _ _ _ _); first | (refine c_listL (by lcg_src) ?_) | (refine c_listT (by lcg_src) ?_))
  | ((with_reducible show rI _ _ _ _ _ _); refine c_IC (by first | assumption | decide | omega) ?_)
  | ((with_reducible show rIsi _ _ _ _); refine c_isi (by kp_flats) (by first | assumption | decide +kernel) ?_)
  | ((with_reducible show rIx _ _ _ _ _); refine c_ix (by first | exact .inl ⟨by lcg_src, by first | assumption | rfl⟩ | exact .inr ⟨by lcg_src, by first | assumption | rfl⟩) ?_)
  | ((with_reducible show NewW _ _ _ _); refine newW ?_)
  | ((with_reducible show rCat _ _ _ _); refine c_cat (by lcg_sub) (by lcg_sub) (le_line (by first | decide | (simp only [List.length_append, List.length_cons, List.length_nil]; omega))) ?_)
  | ((with_reducible show aAddS _ _ _ _); refine c_adds (le_line (by first | decide +kernel | assumption)) ?_)
  | ((with_reducible show rIn _ false _ _ _ _); refine c_inL (by lcg_src) (by rfl) (by rfl) ?_)
  | ((with_reducible show rIn _ true _ _ _ _); refine c_niL (by lcg_src) (by rfl) (by rfl) ?_))
/-- one step, with the new object's names -/
local macro_rules | `(tactic| k_offL) => `(tactic| first | lcg_off | ((with_reducible show ∀ _ _, New _ _ _ _ → _); intro _ _ _))
/-- an error that is held -/
local macro_rules | `(tactic| one_item) => `(tactic| first | assumption | (refine ErrV.same ?_ (New.same (by assumption)); one_item) | (refine ErrV.same ?_ (by assumption); one_item))
/-- nothing was changed -/
local macro_rules | `(tactic| one_place) => `(tactic| first | assumption | exact fun _ _ h => h | exact New.same (by assumption) | (refine Same.trans ?_ (New.same (by assumption)); one_place) | (refine Same.trans ?_ (by assumption); one_place))
namespace TD
open PySem PySem.Spec L2 PySem.Calls
open PyProof.Rows hiding St
abbrev ns_l_bag : List Str := ["_law_script", "_law_salt", "_law_cell"]
abbrev ps_l_bag : List Str := ["_law_script"]
def t_l_bag (K : PySem.W.Frag) : TS :=
  (tSeq (tAsg (tC (.int 9497)) (gName 1))
    (tSeq (tFor (iList K (tSl (rSlL K) (tVar 0) tNoPart (tPart (tC (.int 63))))) (gName 2) (tAsg (tOp aMod (tOp aAdd (tOp aAdd (tOp aMul (tVar 1) (tC (.int 40014))) (tOp aMod (tVar 2) (tC (.int 2147483563)))) (tC (.int 11))) (tC (.int 2147483647))) (gName 1)))
    (tRet (tLst (tCons (tCB (rListQ K) (tCons (tSl (rSlL K) (tVar 0) tNoPart (tPart (tC (.int 63)))) tNil)) (tCons (tC (.int 0)) (tCons (tC (.int 0)) (tCons (tVar 1) tNil))))))))
abbrev ns_l_pull : List Str := ["_law_bag_here", "_law_amount", "_law_cell", "_law_got", "_law_seed"]
abbrev ps_l_pull : List Str := ["_law_bag_here", "_law_amount"]
def t_l_pull (K : PySem.W.Frag) : TS :=
  (C8.tCut (tIfS (tAnd (tTest (tOp rEq (tOp (rIxL K) (tVar 0) (tC (.int 2))) (tC (.int 0)))) (tTest (tOp aLt (tOp (rIxL K) (tVar 0) (tC (.int 1))) (tCB (rLenQ K) (tCons (tOp (rIxL K) (tVar 0) (tC (.int 0))) tNil))))) (tSeq (tAsg (tOp (rIxL K) (tOp (rIxL K) (tVar 0) (tC (.int 0))) (tOp (rIxL K) (tVar 0) (tC (.int 1)))) (gName 2))
    (tSeq (tAsg (tOp aAdd (tOp (rIxL K) (tVar 0) (tC (.int 1))) (tC (.int 1))) (gSub (tVar 0) (tC (.int 1)) rSetL))
    (tIfS (tTest (tOp aGe (tVar 2) (tOp aPow (tC (.int 10)) (tC (.int 18))))) (tAsg (tVar 2) (gSub (tVar 0) (tC (.int 2)) rSetL)) (tAsg (tOp aMod (tOp aAdd (tOp aAdd (tOp aMul (tOp (rIxL K) (tVar 0) (tC (.int 3))) (tC (.int 39373))) (tOp aMul (tOp aMod (tVar 2) (tC (.int 2147483563))) (tC (.int 40692)))) (tC (.int 3))) (tC (.int 2147483647))) (gSub (tVar 0) (tC (.int 3)) rSetL))))) tNext)
    (tSeq (tIfS (tTest (tOp aGt (tOp (rIxL K) (tVar 0) (tC (.int 2))) (tC (.int 0)))) (tSeq (tAsg (tOp aMod (tOp (rIxL K) (tVar 0) (tC (.int 2))) (tVar 1)) (gName 3))
    (tSeq (tAsg (tOp aDiv (tOp (rIxL K) (tVar 0) (tC (.int 2))) (tVar 1)) (gSub (tVar 0) (tC (.int 2)) rSetL))
    (tRet (tVar 3)))) tNext)
    (tSeq (tAsg (tOp (rIxL K) (tVar 0) (tC (.int 3))) (gName 4))
    (tSeq (tAsg (tOp aMod (tOp aAdd (tOp aAdd (tOp aMul (tVar 4) (tVar 4)) (tOp aMul (tVar 4) (tC (.int 48271)))) (tC (.int 1442695041))) (tC (.int 2147483647))) (gSub (tVar 0) (tC (.int 3)) rSetL))
    (tRet (tOp aMod (tOp aAdd (tOp aDiv (tOp (rIxL K) (tVar 0) (tC (.int 3))) (tC (.int 83))) (tOp aMul (tOp aMod (tOp (rIxL K) (tVar 0) (tC (.int 3))) (tC (.int 8209))) (tC (.int 53)))) (tVar 1)))))))
/-- the bag: the script's copy at L, the place in it, what is left of a great number, the salt; G: the heap without it -/
structure BagL (K : PySem.W.Frag) (G : Hp) (l : List V) : Prop where
  ex : ∃ (L : Addr) (ns : List Int) (pos big salt : Int), l = [.ref L, .int pos, .int big, .int salt] ∧ SqL K G L (ns.map V.int) ∧ 0 ≤ pos ∧ 0 ≤ big ∧ 0 ≤ salt ∧ salt < 2147483647
/-- the bag stands at b, all else is G -/
structure BagV (K : PySem.W.Frag) (H : Hp) (b : Addr) (G : Hp) : Prop where
  eq : mask b H = G
  ex : ∃ l, H b = some (.lst l) ∧ BagL K G l
theorem BagL.same {K : PySem.W.Frag} {G G' : Hp} {l : List V} (e : Same G G') (h : BagL K G l) : BagL K G' l := by
  obtain ⟨L, ns, pos, big, salt, rfl, hL, r⟩ := h
  exact ⟨L, ns, pos, big, salt, rfl, e.seq hL, r⟩
theorem BagV.view {K : PySem.W.Frag} {H : Hp} {b : Addr} {G : Hp} (h : BagV K H b G) : Same G H := h.eq ▸ mask_same
/-- behind a step that changed nothing that stood -/
theorem BagV.keep {K : PySem.W.Frag} {H H' : Hp} {b : Addr} {G : Hp} (h : BagV K H b G) (s : Same H H') : BagV K H' b (mask b H') := by
  obtain ⟨e, l, hb, hl⟩ := h
  exact ⟨rfl, l, s _ _ hb, hl.same (e ▸ mask_mono s)⟩
theorem BagV.same {K : PySem.W.Frag} {H H' : Hp} {b : Addr} {G : Hp} (h : BagV K H b G) (s : Same H H') : Same G (mask b H') := h.eq ▸ mask_mono s
theorem BagV.new {K : PySem.W.Frag} {H H' : Hp} {b p : Addr} {G : Hp} {o : HO} (h : BagV K H b G) (n : New H H' p o) : New G (mask b H') p o := by
  obtain ⟨e, l, hb, hl⟩ := h
  exact e ▸ n.masked hb
theorem BagV.ne {K : PySem.W.Frag} {H : Hp} {b : Addr} {G : Hp} (h : BagV K H b G) {a : Addr} {o : HO} (g : G a = some o) : a ≠ b := fun z => by
  have e := h.eq
  rw [z, ← e, mask_at] at g
  cases g
def spPull (K : PySem.W.Frag) : Sp := fun vs H Q _ => ∃ (b : Addr) (n : Int) (G : Hp), vs = [.ref b, .int n] ∧ BagV K H b G ∧ 0 < n ∧ n ≤ 10 ^ 18 ∧ ∀ r H', 0 ≤ r → r < n → BagV K H' b G → Q (.int r) H'
theorem seq_upd {K : PySem.W.Frag} {H : Hp} {a b : Addr} {xs : List V} {o : HO} (n : a ≠ b) (h : SqL K H a xs) : SqL K (upd H b o) a xs := by
  rcases h with (h | ⟨o, h⟩) | h
  · exact .inl (.inl (by rw [upd_ne n]; exact h))
  · exact .inl (.inr ⟨o, by rw [upd_ne n]; exact h⟩)
  · exact .inr h
theorem atI_map {α β : Type} {xs : List α} {f : α → β} {i : Int} (h0 : 0 ≤ i) (h1 : i < xs.length) : ∃ x, xs[i.toNat]? = some x ∧ atI (xs.map f) i = some (f x) := by
  have h2 : i.toNat < xs.length := by omega
  refine ⟨xs[i.toNat], by simp [h2], ?_⟩
  unfold atI ixN
  rw [if_pos h0, if_pos (by rw [List.length_map]; exact h1)]
  simp [h2]
theorem cpow18 : CPow 10 18 := ⟨by decide, by decide, by decide⟩
theorem cdiv_small {i j : Int} (h0 : 0 < j) (h1 : j ≤ 10 ^ 18) : CDivW i j := wide_div (b := 60) h0 (by omega) (by decide) (by decide)
theorem cmul_s {i j : Int} (h0 : 0 ≤ i) (h1 : i < 2147483647) : CMul i j := .inl ⟨by omega, by omega⟩
theorem mod_b (i : Int) {n : Int} (h : 0 < n) : 0 ≤ i % n ∧ i % n < n := ⟨Int.emod_nonneg _ (by omega), Int.emod_lt_of_pos _ h⟩
/-- what stands between the two halves of a pull -/
def PullMid (K : PySem.W.Frag) (b L : Addr) (n : Int) (G : Hp) : L2.St → Hp → Prop := fun σ H' => ∃ (v : Option V) (pos big salt : Int), σ = [some (.ref b), some (.int n), v, none, none] ∧ H' b = some (.lst [.ref L, .int pos, .int big, .int salt]) ∧ mask b H' = G ∧ 0 ≤ pos ∧ 0 ≤ big ∧ 0 ≤ salt ∧ salt < 2147483647
theorem pure_l_pull {K : PySem.W.Frag} (vs : List V) (H : Hp) (Q : VK) (E : XK) (h : spPull K vs H Q E) : t_l_pull K { nx := fun _ H' => Q .non H', rt := Q } (start ns_l_pull vs) H := by
  obtain ⟨b, n, G, rfl, V0, n0, n1, k⟩ := h
  obtain ⟨eG, l, hb, L, ns, pos, big, salt, rfl, hL, h1, h2, h3, h4⟩ := V0
  have hL0 : ∀ H', mask b H' = G → SqL K H' L (ns.map V.int) := fun H' e => Same.seq (e ▸ mask_same) hL
  have hu : ∀ o, mask b (upd H b o) = G := fun o => mask_upd.trans eG
  show t_l_pull K _ [some (.ref b), some (.int n), none, none, none] H
  unfold t_l_pull
  refine c_cut (PullMid K b L n G) ?_ ?_
  · have hL1 := hL0 H eG
    have hL2 := fun o => hL0 _ (hu o)
    repeat lcg_off
    refine ite_d (fun c => ?_) (fun c => ?_)
    · repeat lcg_off
      refine ite_d (fun c2 => ?_) (fun c2 => ?_)
      · rw [List.length_map] at c2
        obtain ⟨m, hm, ha⟩ := atI_map (f := V.int) h1 c2
        repeat lcg_off
        refine c_ixL hL1 ha ?_
        repeat lcg_off
        refine c_IC cpow18 ?_
        repeat lcg_off
        refine ite_d (fun c3 => ?_) (fun c3 => ?_)
        · repeat lcg_off
          rw [show (10 : Int) ^ (18 : Int).toNat = 1000000000000000000 from by decide] at c3
          exact ⟨_, _, _, _, rfl, upd_same, by simp only [mask_upd]; exact eG, by omega, by omega, h3, h4⟩
        · repeat lcg_off
          refine c_IC (cmul_s h3 h4) ?_
          repeat lcg_off
          have m2 := mod_b m (n := 2147483563) (by decide)
          refine c_IC (cmul_s m2.1 (by omega)) ?_
          repeat lcg_off
          have m3 := mod_b (salt * 39373 + m % 2147483563 * 40692 + 3) (n := 2147483647) (by decide)
          exact ⟨_, _, _, _, rfl, upd_same, by simp only [mask_upd]; exact eG, by omega, h2, m3.1, m3.2⟩
      · repeat lcg_off
        exact ⟨_, _, _, _, rfl, hb, eG, h1, h2, h3, h4⟩
    · refine ite_f ?_
      repeat lcg_off
      exact ⟨_, _, _, _, rfl, hb, eG, h1, h2, h3, h4⟩
  · clear h1 h2 h3 h4 hb eG hu
    rintro σ' H' ⟨v, pos, big, salt, rfl, hb, eG, h1, h2, h3, h4⟩
    repeat lcg_off
    refine ite_d (fun c => ?_) (fun c => ?_)
    · repeat lcg_off
      refine c_IC (cdiv_small n0 n1) ?_
      repeat lcg_off
      have m := mod_b big n0
      exact k _ _ m.1 m.2 ⟨mask_upd.trans eG, _, upd_same, L, ns, _, _, _, rfl, hL, h1, Int.ediv_nonneg h2 (by omega), h3, h4⟩
    · repeat lcg_off
      refine c_IC (cmul_s h3 h4) ?_
      repeat lcg_off
      refine c_IC (cmul_s h3 h4) ?_
      repeat lcg_off
      have m := mod_b (salt * salt + salt * 48271 + 1442695041) (n := 2147483647) (by decide)
      generalize (salt * salt + salt * 48271 + 1442695041) % 2147483647 = z at m
      repeat lcg_off
      refine c_IC (cdiv_small (by decide) (by decide)) ?_
      repeat lcg_off
      have m2 := mod_b z (n := 8209) (by decide)
      refine c_IC (cmul_s m2.1 (by omega)) ?_
      repeat lcg_off
      have m3 := mod_b (z / 83 + z % 8209 * 53) n0
      exact k _ _ m3.1 m3.2 ⟨mask_upd.trans eG, _, upd_same, L, ns, _, _, _, rfl, hL, h1, h2, m.1, m.2⟩
/-- the bag of a script -/
def spBag (K : PySem.W.Frag) : Sp := fun vs H Q _ => ∃ (a : Addr) (ns : List Int), vs = [.ref a] ∧ SqL K H a (ns.map V.int) ∧ ∀ b H', Same H H' → BagV K H' b (mask b H') → Q (.ref b) H'
theorem cutV_ints (ns : List Int) (lo hi : Option Int) : ∃ ms : List Int, cutV (ns.map V.int) lo hi = ms.map V.int := by
  unfold cutV
  rw [← List.map_drop, ← List.map_take]
  exact ⟨_, rfl⟩
theorem get_map {α β : Type} {xs : List α} {f : α → β} {i : Nat} {y : β} (h : (xs.map f)[i]? = some y) : ∃ x, xs[i]? = some x ∧ y = f x := by
  rw [List.getElem?_map] at h
  cases e : xs[i]? with
  | none => rw [e] at h; cases h
  | some m => rw [e] at h; exact ⟨m, rfl, (Option.some.inj h).symm⟩
theorem pure_l_bag {K : PySem.W.Frag} (vs : List V) (H : Hp) (Q : VK) (E : XK) (h : spBag K vs H Q E) : t_l_bag K { nx := fun _ H' => Q .non H', rt := Q } (start ns_l_bag vs) H := by
  obtain ⟨a, ns, rfl, hS, k⟩ := h
  show t_l_bag K _ [some (.ref a), none, none] H
  unfold t_l_bag
  repeat lcg_off
  intro p H1 N1
  obtain ⟨ms, hm⟩ := cutV_ints ns none (some 63)
  rw [hm] at N1
  refine forL (SqL.of N1.at_) (fun i σ H' => H' = H1 ∧ ∃ (z : Int) (v : Option V), σ = [some (.ref a), some (.int z), v] ∧ 0 ≤ z ∧ z < 2147483647) ?_ ?_ ?_ ?_
  · exact ⟨rfl, 9497, none, rfl, by decide, by decide⟩
  · rintro i σ H' - ⟨rfl, -⟩
    exact SqL.of N1.at_
  · rintro i x σ H' hx ⟨rfl, z, v, rfl, z0, z1⟩
    obtain ⟨m, -, rfl⟩ := get_map hx
    repeat lcg_off
    refine c_IC (cmul_s z0 z1) ?_
    repeat lcg_off
    have m3 := mod_b (z * 40014 + m % 2147483563 + 11) (n := 2147483647) (by decide)
    exact ⟨rfl, _, _, rfl, m3.1, m3.2⟩
  · rintro σ H' ⟨rfl, z, v, rfl, z0, z1⟩
    have hS1 := N1.same.seq hS
    repeat lcg_off
    intro p2 H2 N2
    rw [hm] at N2
    repeat lcg_off
    intro p3 H3 N3
    repeat lcg_off
    intro b H4 N4
    refine k b H4 (N1.same.trans (N2.same.trans (N3.same.trans N4.same))) ⟨rfl, _, N4.at_, p3, ms, 0, 0, z, rfl, SqL.of ?_, by decide, by decide, z0, z1⟩
    rw [mask_ne (ne_of_none N3.at_ N4.free)]
    exact N4.same _ _ N3.at_
end TD

end
section
open TD L2
/-- what stands at an address -/
local macro_rules | `(tactic| lcg_sub) => `(tactic| first | assumption | exact upd_same | exact New.at_ (by assumption) | (refine New.same (by assumption) _ _ ?_; lcg_sub) | (refine (show Same _ _ from by assumption) _ _ ?_; lcg_sub) | (refine Eq.trans (upd_ne (by first | assumption | exact Ne.symm (by assumption))) ?_; lcg_sub))
/-- a list, a tuple to be read -/
local macro_rules | `(tactic| lcg_src) => `(tactic| first | assumption | exact SqL.of (by lcg_sub) | exact SqT.of (by lcg_sub) | (refine Same.seq (New.same (by assumption)) ?_; lcg_src) | (refine Same.seq (by assumption) ?_; lcg_src) | (refine sameT (New.same (by assumption)) ?_; lcg_src) | (refine sameT (by assumption) ?_; lcg_src))
/-- data at a value -/
local macro_rules | `(tactic| kp_flats) => `(tactic| first | assumption | exact Dp.str _ | exact Dp.int _ | exact Dp.non | exact Dp.bl _ | (refine dp_same (New.same (by assumption)) ?_; kp_flats) | (refine dp_same (by assumption) ?_; kp_flats))
/-- one step of a reading -/
local macro_rules | `(tactic| lcg_off) => `(tactic| first
  | with_reducible refine Stp.go ?_
  | ((with_reducible show tVar _ _ _ _); refine c_var (by rfl) ?_)
  | ((with_reducible show rIxL _ _ _ _ _); refine c_ixL (by lcg_src) (by rfl) ?_)
  | ((with_reducible show rIxT _ _ _ _ _); refine c_ixT (by lcg_src) (by rfl) ?_)
  | ((with_reducible show rSetL _ _ _ _ _); refine c_setL (by lcg_sub) (by rfl) ?_)
  | ((with_reducible show rLenQ _ _ _ _); first | (refine c_lenL (by lcg_src) ?_) | (refine c_lenT (by lcg_src) ?_))
  | ((with_reducible show rSlL _ _ _ _ _ _); refine c_slL (by lcg_src) ?_)
  | ((with_reducible show rListQ _ _ _ _); first | (refine c_listL (by lcg_src) ?_) | (refine c_listT (by lcg_src) ?_))
  | ((with_reducible show rI _ _ _ _ _ _); refine c_IC (by first | assumption | decide | omega) ?_)
  | ((with_reducible show rIsi _ _ _ _); refine c_isi (by kp_flats) (by first | assumption | decide +kernel) ?_)
  | ((with_reducible show rIx _ _ _ _ _); refine c_ix (by first | exact .inl ⟨by lcg_src, by first | assumption | rfl⟩ | exact .inr ⟨by lcg_src, by first | assumption | rfl⟩) ?_)
  | ((with_reducible show NewW _ _ _ _); refine newW ?_)
  | ((with_reducible show rCat _ _ _ _); refine c_cat (by lcg_sub) (by lcg_sub) (le_line (by first | decide | (simp only [List.length_append, List.length_cons, List.length_nil]; omega))) ?_)
  | ((with_reducible show aAddS _ _ _ _); refine c_adds (le_line (by first | decide +kernel | assumption)) ?_)
  | ((with_reducible show rIn _ false _ _ _ _); refine c_inL (by lcg_src) (by rfl) (by rfl) ?_)
  | ((with_reducible show rIn _ true _ _ _ _); refine c_niL (by lcg_src) (by rfl) (by rfl) ?_))
/-- one step, with the new object's names -/
local macro_rules | `(tactic| k_offL) => `(tactic| first | lcg_off | ((with_reducible show ∀ _ _, New _ _ _ _ → _); intro _ _ _))
/-- an error that is held -/
local macro_rules | `(tactic| one_item) => `(tactic| first | assumption | (refine ErrV.same ?_ (New.same (by assumption)); one_item) | (refine ErrV.same ?_ (by assumption); one_item))
/-- nothing was changed -/
local macro_rules | `(tactic| one_place) => `(tactic| first | assumption | exact fun _ _ h => h | exact New.same (by assumption) | (refine Same.trans ?_ (New.same (by assumption)); one_place) | (refine Same.trans ?_ (by assumption); one_place))
namespace TD
open PySem PySem.Spec L2 PySem.Calls
open PyProof.Rows hiding St
/-! ### the type of data -/
def tyN : PyData → String
  | .none => "NoneType" | .bool _ => "bool" | .int _ => "int" | .str _ => "str" | .list _ => "list" | .tuple _ => "tuple" | .dict _ => "dict"
theorem tyx_dp {K : PySem.W.Frag} {H : Hp} {v : V} {d : PyData} (h : Dp K H v d) : TyX K H v (.type (tyN d)) := by
  cases h with
  | non => exact .base .non
  | bl b => exact .base (.bl b)
  | int i => exact .base (.int i)
  | str x => exact .base (.str x)
  | lst h _ =>
    rcases h with (h | ⟨o, h⟩) | ⟨o, its, n, h, c, _⟩
    · exact .base (.lst h)
    · exact .base (.frz h)
    · exact .kList h c
  | tup h _ =>
    rcases h with (h | ⟨o, h⟩) | ⟨o, its, n, h, c, _⟩
    · exact .base (.tup h)
    · exact .fTuple h
    · exact .kTuple h c
/-- isinstance of data by a built-in class -/
def isK (d : PyData) (b : String) : Bool := match d with
  | .bool _ => b == "bool" || b == "int"
  | d => tyN d == b
theorem c_isi {K : PySem.W.Frag} {H : Hp} {v : V} {d : PyData} {b : String} {r : Bool} {Q : VK} (h : Dp K H v d) (e : kitB (tyN d) b = some r) (q : Q (.bl r) H) : rIsi K [v, .ty b] H Q :=
  ⟨v, .ty b, _, _, r, rfl, .ty b, tyx_dp h, kit_ty e, q⟩
theorem c_ix {K : PySem.W.Frag} {H : Hp} {p : Addr} {xs : List V} {i : Int} {v : V} {Q : VK} (h : (SqL K H p xs ∧ atI xs i = some v) ∨ (SqT K H p xs ∧ atI xs i = some v)) (q : Q v H) : rIx K (.ref p) (.int i) H Q := by
  rcases h with ⟨h, a⟩ | ⟨h, a⟩
  · exact .inl ⟨p, xs, i, v, rfl, rfl, h, a, q⟩
  · exact .inr (.inl ⟨p, xs, i, v, rfl, rfl, h, a, q⟩)
def isTup : PyData → Bool | .tuple _ => true | _ => false
def isLst : PyData → Bool | .list _ => true | _ => false
def isStr : PyData → Bool | .str _ => true | _ => false
def isDct : PyData → Bool | .dict _ => true | _ => false
def isBoo : PyData → Bool | .bool _ => true | _ => false
theorem kit_tup (d : PyData) : kitB (tyN d) "tuple" = some (isTup d) := by cases d <;> (simp only [tyN, isTup, isLst, isBoo, isStr, isDct]; decide +kernel)
theorem kit_lst (d : PyData) : kitB (tyN d) "list" = some (isLst d) := by cases d <;> (simp only [tyN, isTup, isLst, isBoo, isStr, isDct]; decide +kernel)
theorem c_isiT2 {K : PySem.W.Frag} {H : Hp} {v : V} {d : PyData} {tp : Addr} {b1 b2 : String} {r1 r2 : Bool} {Q : VK} (h : Dp K H v d) (hT : H tp = some (.tup [.ty b1, .ty b2])) (e1 : kitB (tyN d) b1 = some r1) (e2 : kitB (tyN d) b2 = some r2) (q : Q (.bl (r1 || r2)) H) : rIsiT K [v, .ref tp] H Q :=
  ⟨v, tp, _, _, _, _, rfl, hT, .cons (.ty b1) (.cons (.ty b2) .nil), tyx_dp h, kitAny_cons (kit_ty e1) (fun e => by subst e; exact kitAny_cons (r := r2) (kit_ty e2) (fun e => by subst e; rfl) id) (fun e => by subst e; rfl), q⟩
theorem kit_boo (d : PyData) : kitB (tyN d) "bool" = some (isBoo d) := by cases d <;> (simp only [tyN, isTup, isLst, isBoo, isStr, isDct]; decide +kernel)
theorem kit_str (d : PyData) : kitB (tyN d) "str" = some (isStr d) := by cases d <;> (simp only [tyN, isTup, isLst, isBoo, isStr, isDct]; decide +kernel)
theorem kit_dct (d : PyData) : kitB (tyN d) "dict" = some (isDct d) := by cases d <;> (simp only [tyN, isTup, isLst, isBoo, isStr, isDct]; decide +kernel)
/-- the items of a list, a tuple -/
def itemsD : PyData → List PyData | .list l => l | .tuple l => l | _ => []
mutual
/-- _law_like -/
def likeD : PyData → PyData → Bool
  | .tuple fs, .tuple ds => likeAll fs ds
  | .list fs, .list ds => likeAll fs ds
  | .tuple _, _ => false
  | .list _, _ => false
  | _, .tuple _ => false
  | _, .list _ => false
  | f, d => isBoo f == isBoo d && PyData.eqv f d
def likeAll : List PyData → List PyData → Bool
  | [], [] => true
  | f :: fs, d :: ds => likeD f d && likeAll fs ds
  | _, _ => false
end
theorem likeAll_len : ∀ {fs ds : List PyData}, likeAll fs ds = true → fs.length = ds.length
  | [], [], _ => rfl
  | [], _ :: _, h => by simp [likeAll] at h
  | _ :: _, [], h => by simp [likeAll] at h
  | f :: fs, d :: ds, h => by
    simp only [likeAll, Bool.and_eq_true] at h
    simp only [List.length_cons, likeAll_len h.2]
theorem likeAll_zip : ∀ {fs ds : List PyData}, fs.length = ds.length → likeAll fs ds = ((fs.zip ds).map fun p => likeD p.1 p.2).all id
  | [], [], _ => by simp [likeAll]
  | [], _ :: _, h => by simp at h
  | _ :: _, [], h => by simp at h
  | f :: fs, d :: ds, h => by
    have h' : fs.length = ds.length := by simpa using h
    simp only [likeAll, likeAll_zip h', List.zip_cons_cons, List.map_cons, List.all_cons, id]
theorem like_other {f d : PyData} (h1 : isTup d = false) (h2 : isLst d = false) (h3 : isTup f = false) (h4 : isLst f = false) : likeD f d = (isBoo f == isBoo d && PyData.eqv f d) := by
  cases f <;> cases d <;> first | (simp only [likeD]; done) | exact Bool.noConfusion (show true = false from h3) | exact Bool.noConfusion (show true = false from h4) | exact Bool.noConfusion (show true = false from h1) | exact Bool.noConfusion (show true = false from h2)
theorem like_kind {f d : PyData} (h : isTup d ≠ isTup f ∨ isLst d ≠ isLst f) : likeD f d = false := by
  cases f <;> cases d <;> first | (simp [isTup, isLst] at h; done) | simp only [likeD]
theorem dpAll_len {K : PySem.W.Frag} {H : Hp} : ∀ {vs : List V} {ds : List PyData}, DpAll K H vs ds → vs.length = ds.length
  | _, _, .nil => rfl
  | _, _, .cons _ t => by simp only [List.length_cons, dpAll_len t]
theorem dpAll_get {K : PySem.W.Frag} {H : Hp} : ∀ {vs : List V} {ds : List PyData} {i : Nat} {d : PyData}, DpAll K H vs ds → ds[i]? = some d → ∃ v, vs[i]? = some v ∧ Dp K H v d
  | _, _, _, _, .nil, h => by simp at h
  | _, _, 0, _, .cons h t, e => by simp at e; subst e; exact ⟨_, rfl, h⟩
  | _, _, i + 1, _, .cons h t, e => dpAll_get (i := i) t (by simpa using e)
theorem dp_seq {K : PySem.W.Frag} {H : Hp} {v : V} {d : PyData} (h : Dp K H v d) (s : isTup d = true ∨ isLst d = true) : ∃ p vs, v = .ref p ∧ (SqL K H p vs ∨ SqT K H p vs) ∧ DpAll K H vs (itemsD d) := by
  cases h with
  | lst h a => exact ⟨_, _, rfl, .inl h, a⟩
  | tup h a => exact ⟨_, _, rfl, .inr h, a⟩
  | _ => rcases s with s | s <;> cases s
theorem like_items {f d : PyData} (h1 : isTup d = isTup f) (h2 : isLst d = isLst f) (h : isTup d = true ∨ isLst d = true) : likeD f d = likeAll (itemsD f) (itemsD d) := by
  cases f <;> cases d <;> first | (simp [isTup, isLst] at h h1 h2; done) | simp only [likeD, itemsD]
end TD

end
section
open TD L2
/-- what stands at an address -/
local macro_rules | `(tactic| lcg_sub) => `(tactic| first | assumption | exact upd_same | exact New.at_ (by assumption) | (refine New.same (by assumption) _ _ ?_; lcg_sub) | (refine (show Same _ _ from by assumption) _ _ ?_; lcg_sub) | (refine Eq.trans (upd_ne (by first | assumption | exact Ne.symm (by assumption))) ?_; lcg_sub))
/-- a list, a tuple to be read -/
local macro_rules | `(tactic| lcg_src) => `(tactic| first | assumption | exact SqL.of (by lcg_sub) | exact SqT.of (by lcg_sub) | (refine Same.seq (New.same (by assumption)) ?_; lcg_src) | (refine Same.seq (by assumption) ?_; lcg_src) | (refine sameT (New.same (by assumption)) ?_; lcg_src) | (refine sameT (by assumption) ?_; lcg_src))
/-- data at a value -/
local macro_rules | `(tactic| kp_flats) => `(tactic| first | assumption | exact Dp.str _ | exact Dp.int _ | exact Dp.non | exact Dp.bl _ | (refine dp_same (New.same (by assumption)) ?_; kp_flats) | (refine dp_same (by assumption) ?_; kp_flats))
/-- one step of a reading -/
local macro_rules | `(tactic| lcg_off) => `(tactic| first
  | with_reducible refine Stp.go ?_
  | ((with_reducible show tVar _ _ _ _); refine c_var (by rfl) ?_)
  | ((with_reducible show rIxL _ _ _ _ _); refine c_ixL (by lcg_src) (by rfl) ?_)
  | ((with_reducible show rIxT _ _ _ _ _); refine c_ixT (by lcg_src) (by rfl) ?_)
  | ((with_reducible show rSetL _ _ _ _ _); refine c_setL (by lcg_sub) (by rfl) ?_)
  | ((with_reducible show rLenQ _ _ _ _); first | (refine c_lenL (by lcg_src) ?_) | (refine c_lenT (by lcg_src) ?_))
  | ((with_reducible show rSlL _ _ _ _ _ _); refine c_slL (by lcg_src) ?_)
  | ((with_reducible show rListQ _ _ _ _); first | (refine c_listL (by lcg_src) ?_) | (refine c_listT (by lcg_src) ?_))
  | ((with_reducible show rI _ _ _ _ _ _); refine c_IC (by first | assumption | decide | omega) ?_)
  | ((with_reducible show rIsi _ _ _ _); refine c_isi (by kp_flats) (by first | assumption | decide +kernel) ?_)
  | ((with_reducible show rIx _ _ _ _ _); refine c_ix (by first | exact .inl ⟨by lcg_src, by first | assumption | rfl⟩ | exact .inr ⟨by lcg_src, by first | assumption | rfl⟩) ?_)
  | ((with_reducible show NewW _ _ _ _); refine newW ?_)
  | ((with_reducible show rCat _ _ _ _); refine c_cat (by lcg_sub) (by lcg_sub) (le_line (by first | decide | (simp only [List.length_append, List.length_cons, List.length_nil]; omega))) ?_)
  | ((with_reducible show aAddS _ _ _ _); refine c_adds (le_line (by first | decide +kernel | assumption)) ?_)
  | ((with_reducible show rIn _ false _ _ _ _); refine c_inL (by lcg_src) (by rfl) (by rfl) ?_)
  | ((with_reducible show rIn _ true _ _ _ _); refine c_niL (by lcg_src) (by rfl) (by rfl) ?_))
/-- one step, with the new object's names -/
local macro_rules | `(tactic| k_offL) => `(tactic| first | lcg_off | ((with_reducible show ∀ _ _, New _ _ _ _ → _); intro _ _ _))
/-- an error that is held -/
local macro_rules | `(tactic| one_item) => `(tactic| first | assumption | (refine ErrV.same ?_ (New.same (by assumption)); one_item) | (refine ErrV.same ?_ (by assumption); one_item))
/-- nothing was changed -/
local macro_rules | `(tactic| one_place) => `(tactic| first | assumption | exact fun _ _ h => h | exact New.same (by assumption) | (refine Same.trans ?_ (New.same (by assumption)); one_place) | (refine Same.trans ?_ (by assumption); one_place))
namespace TD
open PySem PySem.Spec L2 PySem.Calls
open PyProof.Rows hiding St
abbrev ns_l_like : List Str := ["_law_found", "_law_due", "_law_key", "_law_k"]
abbrev ps_l_like : List Str := ["_law_found", "_law_due"]
def t_l_like (K : PySem.W.Frag) (sp_l_like : Sp) : TS :=
  (tSeq (tIfS (tOr (tTest (tOp rNe (tCB (rIsi K) (tCons (tVar 1) (tCons (tC (.ty "tuple")) tNil))) (tCB (rIsi K) (tCons (tVar 0) (tCons (tC (.ty "tuple")) tNil))))) (tTest (tOp rNe (tCB (rIsi K) (tCons (tVar 1) (tCons (tC (.ty "list")) tNil))) (tCB (rIsi K) (tCons (tVar 0) (tCons (tC (.ty "list")) tNil)))))) (tRet (tC (.bl false))) tNext)
    (tSeq (tIfS (tB (tCB (rIsi K) (tCons (tVar 1) (tCons (tC (.ty "dict")) tNil)))) tNever tNext)
    (tSeq (tIfS (tNot (tB (tCB (rIsiT K) (tCons (tVar 1) (tCons (tTup (tCons (tC (.ty "tuple")) (tCons (tC (.ty "list")) tNil))) tNil))))) (tRet (tAndV (tOp rEq (tCB (rIsi K) (tCons (tVar 0) (tCons (tC (.ty "bool")) tNil))) (tCB (rIsi K) (tCons (tVar 1) (tCons (tC (.ty "bool")) tNil)))) (tOp (rEqD K) (tVar 0) (tVar 1)))) tNext)
    (tRet (tAndV (tOp rEq (tCB (rLenQ K) (tCons (tVar 0) tNil)) (tCB (rLenQ K) (tCons (tVar 1) tNil))) (tCB (rAll K) (tCons (tLc (iRng1 (tCons (tCB (rLenQ K) (tCons (tVar 1) tNil)) tNil)) (gName 3) tYes (tCall sp_l_like [] E0 (tCons (tOp (rIx K) (tVar 0) (tVar 3)) (tCons (tOp (rIx K) (tVar 1) (tVar 3)) tNil))) [3]) tNil)))))))
end TD

end
section
open TD L2
/-- what stands at an address -/
local macro_rules | `(tactic| lcg_sub) => `(tactic| first | assumption | exact upd_same | exact New.at_ (by assumption) | (refine New.same (by assumption) _ _ ?_; lcg_sub) | (refine (show Same _ _ from by assumption) _ _ ?_; lcg_sub) | (refine Eq.trans (upd_ne (by first | assumption | exact Ne.symm (by assumption))) ?_; lcg_sub))
/-- a list, a tuple to be read -/
local macro_rules | `(tactic| lcg_src) => `(tactic| first | assumption | exact SqL.of (by lcg_sub) | exact SqT.of (by lcg_sub) | (refine Same.seq (New.same (by assumption)) ?_; lcg_src) | (refine Same.seq (by assumption) ?_; lcg_src) | (refine sameT (New.same (by assumption)) ?_; lcg_src) | (refine sameT (by assumption) ?_; lcg_src))
/-- data at a value -/
local macro_rules | `(tactic| kp_flats) => `(tactic| first | assumption | exact Dp.str _ | exact Dp.int _ | exact Dp.non | exact Dp.bl _ | (refine dp_same (New.same (by assumption)) ?_; kp_flats) | (refine dp_same (by assumption) ?_; kp_flats))
/-- one step of a reading -/
local macro_rules | `(tactic| lcg_off) => `(tactic| first
  | with_reducible refine Stp.go ?_
  | ((with_reducible show tVar _ _ _ _); refine c_var (by rfl) ?_)
  | ((with_reducible show rIxL _ _ _ _ _); refine c_ixL (by lcg_src) (by rfl) ?_)
  | ((with_reducible show rIxT _ _ _ _ _); refine c_ixT (by lcg_src) (by rfl) ?_)
  | ((with_reducible show rSetL _ _ _ _ _); refine c_setL (by lcg_sub) (by rfl) ?_)
  | ((with_reducible show rLenQ _ _ _ _); first | (refine c_lenL (by lcg_src) ?_) | (refine c_lenT (by lcg_src) ?_))
  | ((with_reducible show rSlL _ _ _ _ _ _); refine c_slL (by lcg_src) ?_)
  | ((with_reducible show rListQ _ _ _ _); first | (refine c_listL (by lcg_src) ?_) | (refine c_listT (by lcg_src) ?_))
  | ((with_reducible show rI _ _ _ _ _ _); refine c_IC (by first | assumption | decide | omega) ?_)
  | ((with_reducible show rIsi _ _ _ _); refine c_isi (by kp_flats) (by first | assumption | decide +kernel) ?_)
  | ((with_reducible show rIx _ _ _ _ _); refine c_ix (by first | exact .inl ⟨by lcg_src, by first | assumption | rfl⟩ | exact .inr ⟨by lcg_src, by first | assumption | rfl⟩) ?_)
  | ((with_reducible show NewW _ _ _ _); refine newW ?_)
  | ((with_reducible show rCat _ _ _ _); refine c_cat (by lcg_sub) (by lcg_sub) (le_line (by first | decide | (simp only [List.length_append, List.length_cons, List.length_nil]; omega))) ?_)
  | ((with_reducible show aAddS _ _ _ _); refine c_adds (le_line (by first | decide +kernel | assumption)) ?_)
  | ((with_reducible show rIn _ false _ _ _ _); refine c_inL (by lcg_src) (by rfl) (by rfl) ?_)
  | ((with_reducible show rIn _ true _ _ _ _); refine c_niL (by lcg_src) (by rfl) (by rfl) ?_))
/-- one step, with the new object's names -/
local macro_rules | `(tactic| k_offL) => `(tactic| first | lcg_off | ((with_reducible show ∀ _ _, New _ _ _ _ → _); intro _ _ _))
/-- an error that is held -/
local macro_rules | `(tactic| one_item) => `(tactic| first | assumption | (refine ErrV.same ?_ (New.same (by assumption)); one_item) | (refine ErrV.same ?_ (by assumption); one_item))
/-- nothing was changed -/
local macro_rules | `(tactic| one_place) => `(tactic| first | assumption | exact fun _ _ h => h | exact New.same (by assumption) | (refine Same.trans ?_ (New.same (by assumption)); one_place) | (refine Same.trans ?_ (by assumption); one_place))
namespace PySem
namespace TDX
open PySem.W PySem.Calls PyProof.Rows
open Builtin Builtin.ObjectAttr
/-- an own class of errors whose chain ends at ValueError or LookupError; its __init__ is walked as a def -/
structure GxC (K : Frag) (C : Addr) : Prop where
  kind : ∃ (B newId initId : String) (bmB : List Value), ExcBaseFacts B newId initId bmB ∧ StoreFacts B bmB "object.__setattr__" "object" ∧ excInitIn K C bmB newId = true ∧ excOver K C bmB = true
  sa : findIn K (.ref C) "__setattr__" = some (some (.builtin "object.__setattr__"))
  ga : findIn K (.ref C) "__getattribute__" = some (some (.builtin "BaseException.__getattribute__"))
  gg : findIn K (.ref C) "__getattr__" = some none
  exC : subIn K (.ref C) (.type "BaseException") = some true
  tyC : typeIn K (.ref C) = some (.type "type")
  kC : keepIn K (.ref C) = true
  hdC : hasDictIn K C = true
abbrev veM : List Value := [.type "ValueError", .type "Exception", .type "BaseException", .type "object"]
abbrev leM : List Value := [.type "LookupError", .type "Exception", .type "BaseException", .type "object"]
/-- the same, as a test -/
def gxB (K : Frag) (C : Addr) : Bool := ((excInitIn K C veM "ValueError.__new__" && excOver K C veM) || (excInitIn K C leM "LookupError.__new__" && excOver K C leM)) &&
  (decide (findIn K (.ref C) "__setattr__" = some (some (.builtin "object.__setattr__"))) && (decide (findIn K (.ref C) "__getattribute__" = some (some (.builtin "BaseException.__getattribute__"))) && (decide (findIn K (.ref C) "__getattr__" = some none) &&
  (decide (subIn K (.ref C) (.type "BaseException") = some true) && (decide (typeIn K (.ref C) = some (.type "type")) && (keepIn K (.ref C) && hasDictIn K C))))))
theorem gxB_ok {K : Frag} {C : Addr} (h : gxB K C = true) : GxC K C := by
  unfold gxB at h
  simp only [Bool.and_eq_true, Bool.or_eq_true, decide_eq_true_eq] at h
  obtain ⟨h0, h1, h2, h3, h4, h5, h6, h7⟩ := h
  refine ⟨?_, h1, h2, h3, h4, h5, h6, h7⟩
  rcases h0 with ⟨a, b⟩ | ⟨a, b⟩
  · exact ⟨_, _, _, _, F.excBase_ValueError, F.store_ValueError, a, b⟩
  · exact ⟨_, _, _, _, F.excBase_LookupError, F.store_LookupError, a, b⟩
section
variable {prog : Program} {w : World} {A : Around} {R : Result → Shared → Prop} {hp : Heap} {g : Array GenState} {d : Drawn} {t : Nat} {os : OsState} {K : Frag} {name : Str} {tk : Tok} {v : Value} {x C dx : Addr} {fv : Array Value}
/-- the first store makes the dict -/
theorem gx_new (T : GxC K C) (X : K.In hp) (hx : hp.get? x = some { cls := .ref C, data := .fields fv }) (ha : findIn K (.ref C) name = some none)
    (hq : ∀ h' tk' dx, (∀ b o, b ≠ x → hp.get? b = some o → h'.get? b = some o) → hp.objs.size ≤ dx → dx ≠ x → h'.get? x = some { cls := .ref C, dict := some dx, data := .fields fv } →
      h'.Ns1 dx (fun y => if y = name then some v else none) → R (.ok (.ret .none)) ⟨h', g, d, tk', os⟩) :
    codeAny (model prog w) A (.call (.builtin "object.__setattr__") ⟨[.ref x, .str name tk, v], []⟩) R ⟨hp, g, d, t, os⟩ := by
  obtain ⟨B, newId, initId, bmB, FB, SF, q1, q2⟩ := T.kind
  have hxs : x ≠ hp.objs.size := Nat.ne_of_lt (Heap.lt_size hx)
  obtain ⟨cd, hcd, hh⟩ := any_some T.hdC
  refine osa_openX (s := ⟨hp, g, d, t, os⟩) (od := none) (r := none) SF X ⟨hx, rfl, rfl, trivial⟩ q2 (by unfold takerIn; rw [ha]; rfl) (fun b => ?_)
  have hcls : W.Looks (model prog w) hp (classData C) cd := W.looks_clsIn X hcd
  obtain ⟨nm, bs, mro, ns, qn, hd, sn, sb, ab, col, del⟩ := cd
  dsimp only at hh
  subst hh
  show wpAny _ _ (storeInOwnDict (.ref x) (.ref C) (.str name tk) name v b) _ _ _
  unfold storeInOwnDict ownDictForStores
  repeat (first | with_reducible refine HandSPX.store_in_new ?_ ?_ | with_reducible refine wpAny_loadPart_at hx ?_ | with_reducible refine hcls.at ?_ | wp_step)
  · exact ⟨_, #[], _, (Heap.get?_update_ne _ _ _ _ hxs.symm).trans (Heap.get?_push_at rfl rfl), rfl, fun e he => absurd he (by simp), fun _ => rfl⟩
  · intro h' tk' hn' hs
    have hx1 : (hp.push { cls := .type "dict", data := .dict #[] }).get? x = some { cls := .ref C, data := .fields fv } := Heap.get?_push_of_some _ hx
    refine hq h' tk' hp.objs.size (fun b o hb ho => ?_) (Nat.le_refl _) hxs.symm ?_ hn'
    · exact (hs.2 b (Nat.ne_of_lt (Heap.lt_size ho))).trans ((Heap.get?_update_ne _ _ _ _ hb).trans (Heap.get?_push_of_some _ ho))
    · exact (hs.2 x hxs).trans (Heap.get?_update_self _ hx1 rfl)
/-- a further store -/
theorem gx_old {m0 : Str → Option Value} {nl : List Str} (T : GxC K C) (X : K.In hp) (hx : hp.get? x = some { cls := .ref C, dict := some dx, data := .fields fv }) (hns : hp.Ns1 dx m0) (hw : Within m0 nl) (hz : nl.length ≤ 1000) (ha : findIn K (.ref C) name = some none)
    (hq : ∀ h' tk', (∀ b o, b ≠ dx → hp.get? b = some o → h'.get? b = some o) → h'.Ns1 dx (fun y => if y = name then some v else m0 y) → R (.ok (.ret .none)) ⟨h', g, d, tk', os⟩) :
    codeAny (model prog w) A (.call (.builtin "object.__setattr__") ⟨[.ref x, .str name tk, v], []⟩) R ⟨hp, g, d, t, os⟩ := by
  obtain ⟨B, newId, initId, bmB, FB, SF, q1, q2⟩ := T.kind
  obtain ⟨oD, esD, epD, hoD, hdD, _⟩ := hns.count hw
  obtain ⟨cd, hcd, hh⟩ := any_some T.hdC
  refine osa_openX (s := ⟨hp, g, d, t, os⟩) (od := some oD) (r := none) SF X ⟨hx, rfl, rfl, hoD⟩ q2 (by unfold takerIn; rw [ha]; rfl) (fun b => ?_)
  have hcls : W.Looks (model prog w) hp (classData C) cd := W.looks_clsIn X hcd
  obtain ⟨nm, bs, mro, ns, qn, hd, sn, sb, ab, col, del⟩ := cd
  dsimp only at hh
  subst hh
  show wpAny _ _ (storeInOwnDict (.ref x) (.ref C) (.str name tk) name v b) _ _ _
  unfold storeInOwnDict ownDictForStores
  repeat (first | with_reducible refine OEX.store_in_old hns hw hz ?_ | with_reducible refine wpAny_loadPart_at hx ?_ | with_reducible refine hcls.at ?_ | wp_step)
  intro h' tk' hn' hs
  exact hq h' tk' (fun b o hb ho => (hs.2 b hb).trans ho) hn'
end
end TDX
end PySem

end
section
open TD L2
/-- what stands at an address -/
local macro_rules | `(tactic| lcg_sub) => `(tactic| first | assumption | exact upd_same | exact New.at_ (by assumption) | (refine New.same (by assumption) _ _ ?_; lcg_sub) | (refine (show Same _ _ from by assumption) _ _ ?_; lcg_sub) | (refine Eq.trans (upd_ne (by first | assumption | exact Ne.symm (by assumption))) ?_; lcg_sub))
/-- a list, a tuple to be read -/
local macro_rules | `(tactic| lcg_src) => `(tactic| first | assumption | exact SqL.of (by lcg_sub) | exact SqT.of (by lcg_sub) | (refine Same.seq (New.same (by assumption)) ?_; lcg_src) | (refine Same.seq (by assumption) ?_; lcg_src) | (refine sameT (New.same (by assumption)) ?_; lcg_src) | (refine sameT (by assumption) ?_; lcg_src))
/-- data at a value -/
local macro_rules | `(tactic| kp_flats) => `(tactic| first | assumption | exact Dp.str _ | exact Dp.int _ | exact Dp.non | exact Dp.bl _ | (refine dp_same (New.same (by assumption)) ?_; kp_flats) | (refine dp_same (by assumption) ?_; kp_flats))
/-- one step of a reading -/
local macro_rules | `(tactic| lcg_off) => `(tactic| first
  | with_reducible refine Stp.go ?_
  | ((with_reducible show tVar _ _ _ _); refine c_var (by rfl) ?_)
  | ((with_reducible show rIxL _ _ _ _ _); refine c_ixL (by lcg_src) (by rfl) ?_)
  | ((with_reducible show rIxT _ _ _ _ _); refine c_ixT (by lcg_src) (by rfl) ?_)
  | ((with_reducible show rSetL _ _ _ _ _); refine c_setL (by lcg_sub) (by rfl) ?_)
  | ((with_reducible show rLenQ _ _ _ _); first | (refine c_lenL (by lcg_src) ?_) | (refine c_lenT (by lcg_src) ?_))
  | ((with_reducible show rSlL _ _ _ _ _ _); refine c_slL (by lcg_src) ?_)
  | ((with_reducible show rListQ _ _ _ _); first | (refine c_listL (by lcg_src) ?_) | (refine c_listT (by lcg_src) ?_))
  | ((with_reducible show rI _ _ _ _ _ _); refine c_IC (by first | assumption | decide | omega) ?_)
  | ((with_reducible show rIsi _ _ _ _); refine c_isi (by kp_flats) (by first | assumption | decide +kernel) ?_)
  | ((with_reducible show rIx _ _ _ _ _); refine c_ix (by first | exact .inl ⟨by lcg_src, by first | assumption | rfl⟩ | exact .inr ⟨by lcg_src, by first | assumption | rfl⟩) ?_)
  | ((with_reducible show NewW _ _ _ _); refine newW ?_)
  | ((with_reducible show rCat _ _ _ _); refine c_cat (by lcg_sub) (by lcg_sub) (le_line (by first | decide | (simp only [List.length_append, List.length_cons, List.length_nil]; omega))) ?_)
  | ((with_reducible show aAddS _ _ _ _); refine c_adds (le_line (by first | decide +kernel | assumption)) ?_)
  | ((with_reducible show rIn _ false _ _ _ _); refine c_inL (by lcg_src) (by rfl) (by rfl) ?_)
  | ((with_reducible show rIn _ true _ _ _ _); refine c_niL (by lcg_src) (by rfl) (by rfl) ?_))
/-- one step, with the new object's names -/
local macro_rules | `(tactic| k_offL) => `(tactic| first | lcg_off | ((with_reducible show ∀ _ _, New _ _ _ _ → _); intro _ _ _))
/-- an error that is held -/
local macro_rules | `(tactic| one_item) => `(tactic| first | assumption | (refine ErrV.same ?_ (New.same (by assumption)); one_item) | (refine ErrV.same ?_ (by assumption); one_item))
/-- nothing was changed -/
local macro_rules | `(tactic| one_place) => `(tactic| first | assumption | exact fun _ _ h => h | exact New.same (by assumption) | (refine Same.trans ?_ (New.same (by assumption)); one_place) | (refine Same.trans ?_ (by assumption); one_place))
namespace TD
open PySem PySem.Spec L2 PySem.Calls PySem.TDX
open PyProof.Rows hiding St
section
variable {X : Cx} {pins : List (Addr × Obj)} {σ : L2.St} {H : Hp} {s : Shared} {a C dx : Addr} {f : Str} {y : V} {u : Value} {fs : List (Str × V)} {Q : Unit → Shared → Prop} {E : Value → Shared → Prop} {A : Around}
/-- e.f = y on an exception that is being made: its dict is made -/
theorem gst_new (T : GxC X.K C) (I : Inv X pins σ H s) (e : H a = some (exo a C none)) (hno : PySem.W.findIn X.K (.ref C) f = some none) (ry : RelV y u)
    (h : ∀ dx s', H dx = none → dx ≠ a → Inv X pins σ (upd (upd H dx (exd dx [(f, y)])) a (exo a C (some dx))) s' → Q () s') : wpAny (model X.prog X.w) A (setAttr (.ref a) f u) Q E s := by
  obtain ⟨t1, ho⟩ := exo_at I.hok e
  obtain ⟨hp, g, d, t, os⟩ := s
  refine PySem.W.set_plain I.kIn (ox := { cls := .ref C, dict := none, data := .fields #[.ref t1, .none, .none, .none, .bool false, .none] }) (od := none) ⟨ho, rfl, rfl, trivial⟩ T.sa ?_
  refine gx_new T I.kIn ho hno (fun h' tk' dx k dn dne hx hn => ?_)
  have hnd : H dx = none := I.hok.fresh dn
  have nd : ∀ {b : Addr} {o : Obj}, hp.get? b = some o → b ≠ dx := fun {b o} q => Nat.ne_of_lt (Nat.lt_of_lt_of_le (Heap.lt_size q) dn)
  have na : ∀ {b : Addr}, H b = none → b ≠ a := fun {b} n => Ne.symm (ne_of_none e n)
  have no : ∀ {b : Addr} {o : HO}, H b = some o → o ≠ exo a C none → b ≠ a := fun {b o} q ne z => by rw [z, e] at q; exact ne (Option.some.inj q).symm
  have U : Un X.fs [] H (upd (upd H dx (exd dx [(f, y)])) a (exo a C (some dx))) hp h' :=
    { keep := fun b o q n _ _ => k b o (na n) q
      slot := fun b o q n _ _ => ⟨o.slots, k b o (na n) q⟩
      free := fun b o q n _ => by rw [upd_ne (na n), upd_ne (nd q)]; exact n
      there := fun b o q _ => by
        by_cases hb : b = a
        · exact ⟨_, by rw [hb]; exact hx⟩
        · exact ⟨o, k b o hb q⟩
      tups := fun b xs q => by rw [upd_ne (no q (Ne.symm exo_tup)), upd_ne (ne_of_none q hnd)]; exact q
      frzs := fun b o v q => by rw [upd_ne (no q (Ne.symm exo_frz)), upd_ne (ne_of_none q hnd)]; exact q
      tbls := fun b ps q => ⟨#[], by rw [upd_ne (no q (Ne.symm exo_tbl)), upd_ne (ne_of_none q hnd), q]; simp⟩ }
  refine h dx _ hnd dne (I.un (t' := tk') U fun b o q => ?_)
  by_cases hb : b = a
  · subst hb
    rw [upd_same] at q
    obtain rfl := Option.some.inj q
    exact exo_ok hx
  · rw [upd_ne hb] at q
    by_cases hd : b = dx
    · subst hd
      rw [upd_same] at q
      obtain rfl := Option.some.inj q
      exact exd_ok hn (relO_put (fs := []) ry fun g => True.intro)
    · rw [upd_ne hd] at q
      refine (I.hok b o q).stay (fun c v hc z => k c v ?_ z) (fun c hc => ?_) fun c xs hc => ?_
      · rcases hc with hc | hc
        · rw [hc]; exact hb
        · exact no hc (Ne.symm exo_own)
      · rw [upd_ne (no hc (Ne.symm exo_own)), upd_ne (ne_of_none hc hnd)]; exact hc
      · rw [upd_ne (no hc (Ne.symm exo_tup)), upd_ne (ne_of_none hc hnd)]; exact hc
/-- a further field -/
theorem gst_old (T : GxC X.K C) (I : Inv X pins σ H s) (e : H a = some (exo a C (some dx))) (ed : H dx = some (exd dx fs)) (hl : fs.length ≤ 900) (hno : PySem.W.findIn X.K (.ref C) f = some none) (ry : RelV y u)
    (h : ∀ s', Inv X pins σ (upd H dx (exd dx ((f, y) :: fs))) s' → Q () s') : wpAny (model X.prog X.w) A (setAttr (.ref a) f u) Q E s := by
  obtain ⟨t1, ho⟩ := exo_at I.hok e
  obtain ⟨mA, hns, rel⟩ := exd_at I.hok ed
  have hw := within_of rel
  obtain ⟨hp, g, d, t, os⟩ := s
  obtain ⟨oD, _, _, hoD, _, _⟩ := hns.count hw
  refine PySem.W.set_plain I.kIn (ox := { cls := .ref C, dict := some dx, data := .fields #[.ref t1, .none, .none, .none, .bool false, .none] }) (od := some oD) ⟨ho, rfl, rfl, hoD⟩ T.sa ?_
  refine gx_old T I.kIn ho hns hw (by rw [List.length_map]; omega) hno (fun h' tk' k hn => ?_)
  have hd : ∃ o, h'.get? dx = some o := by
    obtain ⟨o, _, _, e', _⟩ := hn
    exact ⟨o, e'⟩
  exact h _ (I.write (t' := tk') (x := dx) (e := dx) (o := exd dx ((f, y) :: fs)) (by rw [ed]; exact True.intro) (.inl rfl) k hd (exd_ok hn (relO_put ry rel)))
/-- e.f of an exception that is held as a value -/
theorem gget (T : GxC X.K C) (I : Inv X pins σ H s) (e : H a = some (exo a C (some dx))) (ed : H dx = some (exd dx fs)) (hno : PySem.W.findIn X.K (.ref C) f = some none) (l : fs.lookup f = some y) {ex : Bool} {QV : Value → Shared → Prop}
    (h : ∀ u s', RelV y u → Inv X pins σ H s' → QV u s') : wpAny (model X.prog X.w) A (getAttr (.ref a) f ex) QV E s := by
  obtain ⟨t1, ho⟩ := exo_at I.hok e
  obtain ⟨mA, hns, rel⟩ := exd_at I.hok ed
  obtain ⟨od, hod, hl⟩ := lookIn_ns hns
  obtain ⟨u, hu, ru⟩ := RelO.some_of (v := y) (o := mA f) (by rw [← l]; exact rel f)
  have J : PySem.W.InstAt s.heap a _ C (some od) := ⟨ho, rfl, rfl, hod⟩
  exact HandSPX.exc_get I.kIn J T.ga T.gg T.exC (PySem.W.findObj_own T.hdC hno rfl (by rw [hl, hu])) (handed_of ru) (h u _ ru (I.tok _))
end
/-! ### readings -/
/-- self.f = e in an exception's __init__ -/
def tGst (K : PySem.W.Frag) (f : Str) (to te : TE) : TS := fun D σ H => te σ H fun y H1 => to σ H1 fun x H2 => ∃ a C : Addr, x = .ref a ∧ GxC K C ∧ PySem.W.findIn K (.ref C) f = some none ∧
  ((H2 a = some (exo a C none) ∧ ∀ dx, H2 dx = none → dx ≠ a → D.nx σ (upd (upd H2 dx (exd dx [(f, y)])) a (exo a C (some dx)))) ∨
    ∃ (dx : Addr) (fs : List (Str × V)), H2 a = some (exo a C (some dx)) ∧ H2 dx = some (exd dx fs) ∧ fs.length ≤ 900 ∧ D.nx σ (upd H2 dx (exd dx ((f, y) :: fs))))
/-- e.f, e an exception held as a value -/
def tXat (K : PySem.W.Frag) (te : TE) (f : Str) : TE := fun σ H Q => te σ H fun x H1 => ∃ (a C dx : Addr) (fs : List (Str × V)) (v : V), x = .ref a ∧ GxC K C ∧ PySem.W.findIn K (.ref C) f = some none ∧ H1 a = some (exo a C (some dx)) ∧ H1 dx = some (exd dx fs) ∧ fs.lookup f = some v ∧ Q v H1
/-- C(..): the exception as it is made; what becomes of it -/
def GxMade (C : Addr) (sp : Sp) (vs : List V) (H : Hp) (R : Addr → Addr → List (Str × V) → Hp → Prop) : Prop := ∀ a, H a = none → sp (.ref a :: vs) (upd H a (exo a C none))
  (fun v H2 => v = .non ∧ ∃ (d : Addr) (fs : List (Str × V)), H2 a = some (exo a C (some d)) ∧ H2 d = some (exd d fs) ∧ H d = none ∧ R a d fs H2) (fun _ _ _ => False)
/-- raise C(..): the exception is let go, its dict stands as an exception's dict -/
def tGmk (C : Addr) (sp : Sp) (ta : TA) : L2.St → Hp → XK → Prop := fun σ H Q => ta σ H fun vs H1 => vs.length ≤ 1000 ∧ GxMade C sp vs H1 fun a d fs H2 => Q (.ref C) (some d) (upd (del H2 a) d (.xd fs))
/-- C(..) as a value -/
def tGval (C : Addr) (sp : Sp) (ta : TA) : TE := fun σ H Q => ta σ H fun vs H1 => vs.length ≤ 1000 ∧ GxMade C sp vs H1 fun a _ _ H2 => Q (.ref a) H2
section
variable {X : Cx} {o e : Expr} {es : List Expr} {to te : TE} {ta : TA} {f : Str} {p p' p1 p2 pos : Pos}
theorem ps_gst (ho : PE X o to) (he : PE X e te) (hs : swapsWith e (some (.Attribute o f p')) pos.line X.env = pure false := by rfl) : PS X (.Assign [.Attribute o f p'] e pos) (tGst X.K f to te) := by
  refine ⟨fun pins s σ H D I h => ?_⟩
  refine plainObj_wpAny_Assign_Attribute (thn (he.run pins s σ H _ I h) fun v s1 ⟨y, H1, I1, r1, q1⟩ => thn (ho.run pins s1 σ H1 _ I1 q1) fun u s2 ⟨x, H2, I2, r2, a, C, ex, T, hno, q⟩ => ?_) hs
  subst ex
  obtain rfl : u = Value.ref a := r2
  rcases q with ⟨ea, q⟩ | ⟨dx, fs, ea, ed, hl, q⟩
  · exact gst_new T I2 ea hno r1 fun dx s' n ne J => ⟨σ, _, J, q dx n ne⟩
  · exact gst_old T I2 ea ed hl hno r1 fun s' J => ⟨σ, _, J, q⟩
theorem pe_xat (he : PE X e te) (hb : attributeBase e f X.env (eval e X.env) = eval e X.env := by rfl) : PE X (.Attribute e f pos) (tXat X.K te f) := by
  refine ⟨fun pins s σ H Q I h => ?_⟩
  refine attr_of hb (thn (he.run pins s σ H _ I h) fun u s1 ⟨x, H1, I1, r1, a, C, dx, fs, v, ex, T, hno, ea, ed, l, q⟩ => ?_)
  subst ex
  obtain rfl : u = Value.ref a := r1
  exact gget T I1 ea ed hno l fun u s' ru J => ⟨v, H1, J, ru, q⟩
/-- the class is called -/
theorem gx_call {C fI : Addr} {k : Nat} {fd : FuncData} {ps : List Str} {sp : Sp} (T : GxC X.K C) (iC : PySem.W.findIn X.K (.ref C) "__init__" = some (some (.ref fI))) (tI : PySem.W.typeIn X.K (.ref fI) = some (.type "function"))
    (F1 : FnOk X.prog X.w X.K X.mg X.base (L2.CX X.prog X.w) k fI fd ps sp) (hr : Room (k + 1) X.A) (hb : Binds X.K fd ps []) {pins : List (Addr × Obj)} {σ : L2.St} {H1 : Hp} {s1 : Shared} {us : List Value} {vs : List V} {R : Addr → Addr → List (Str × V) → Hp → Prop} {Q : Value → Shared → Prop}
    (I1 : Inv X pins σ H1 s1) (r1 : Vals vs us) (hz : vs.length ≤ 1000) (q1 : GxMade C sp vs H1 R)
    (hq : ∀ (a d : Addr) (fs : List (Str × V)) (H2 : Hp) (s2 sm : Shared), s1.heap.objs.size ≤ a → (∀ b o, s1.heap.get? b = some o → sm.heap.get? b = some o) → Un (frs X.stack) [] (upd H1 a (exo a C none)) H2 sm.heap s2.heap → HOk X.prog X.w H2 s2.heap → s2.os = s1.os → AllBare s2.gens →
      sm.os = s1.os → Inv X pins σ (upd H1 a (exo a C none)) sm →
      H2 a = some (exo a C (some d)) → H2 d = some (exd d fs) → H1 d = none → R a d fs H2 → Q (.ref a) s2) :
    wpAny (model X.prog X.w) X.A (call (.ref C) us) Q X.xe s1 := by
  obtain ⟨B, newId, initId, bmB, FB, SF, e1, e2⟩ := T.kind
  obtain ⟨nm, N, qn, bs, bm, hdct, sn, sub, ab, col, dd, k0, k1, k2, k3, k5, hC, hT⟩ := PySem.W.excInit_of I1.kIn e1
  obtain ⟨hp, g, dr, tk, os⟩ := s1
  have hsz : hp.objs.size ≤ hp.objs.size + 1 := Nat.le_succ _
  have hn : H1 (hp.objs.size + 1) = none := I1.hok.fresh hsz
  have hsp := q1 (hp.objs.size + 1) hn
  have kk : ∀ b o, hp.get? b = some o → ((hp.push (PySem.W.kdv_tup us)).push (PySem.HandSPX.excO C hp.objs.size)).get? b = some o := fun b o e => Heap.get?_push_of_some _ (Heap.get?_push_of_some _ e)
  have hget : ((hp.push (PySem.W.kdv_tup us)).push (PySem.HandSPX.excO C hp.objs.size)).get? (hp.objs.size + 1) = some (PySem.HandSPX.excO C hp.objs.size) := by heap_get
  have I2 : Inv X pins σ (upd H1 (hp.objs.size + 1) (exo (hp.objs.size + 1) C none)) ⟨(hp.push (PySem.W.kdv_tup us)).push (PySem.HandSPX.excO C hp.objs.size), g, dr, tk, os⟩ :=
    I1.laid (t' := tk) (a := hp.objs.size + 1) (o := exo (hp.objs.size + 1) C none) (h' := (hp.push (PySem.W.kdv_tup us)).push (PySem.HandSPX.excO C hp.objs.size)) kk hsz (exo_ok hget)
  have r2 : Vals (V.ref (hp.objs.size + 1) :: vs) (Value.ref (hp.objs.size + 1) :: us) := .cons rfl r1
  have hl : (Value.ref (hp.objs.size + 1) :: us).length = ps.length := by
    have e := r2.length
    rw [F1.len _ _ _ _ hsp] at e
    exact e.symm
  have hus : us.length ≤ sizeLine := by
    rw [← Paired.length r1, sizeLine_eq]
    omega
  have hbd := hb ⟨(hp.push (PySem.W.kdv_tup us)).push (PySem.HandSPX.excO C hp.objs.size), g, dr, tk, os⟩ (Value.ref (hp.objs.size + 1) :: us) I2.kIn (by rw [List.append_nil]; exact hl)
  rw [List.append_nil] at hbd
  refine wpAny_call (PySem.HandSPX.call_own FB hT hC (PySem.W.looks_findIn I1.kIn iC) (fun self => PySem.W.bind_fn I1.kIn self tI) hus
    (codeAny_mono (F1.run _ X.stack _ _ ⟨Value.ref (hp.objs.size + 1) :: us, []⟩ (Value.ref (hp.objs.size + 1) :: us) _ _ (fun _ _ _ => False) (hr.make C us []) (I2.env0.make C us []) hbd r2 hsp) fun r s' hq' => ?_))
  cases r with
  | error er =>
    obtain ⟨_, _, _, _, _, _, _, _, _, _, _, _, z⟩ := hq'
    exact z.elim
  | ok fl =>
    cases fl with
    | ret u =>
      obtain ⟨v, H2, os2, bare2, un2, hok2, rv, ev, d, fs, ea, ed, hd1, q2⟩ := hq'
      subst ev
      exact ⟨rv, hq _ d fs H2 s' ⟨(hp.push (PySem.W.kdv_tup us)).push (PySem.HandSPX.excO C hp.objs.size), g, dr, tk, os⟩ hsz kk un2 hok2 os2 bare2 rfl I2 ea ed hd1 q2⟩
    | next => exact False.elim hq'
    | brk => exact False.elim hq'
    | cont => exact False.elim hq'
/-- how a class of errors stands: C, its __init__ at fI with the promise sp -/
structure OkX (P : Program) (w : World) (K : PySem.W.Frag) (mg : Str → Option Value) (base : Heap) (k : Nat) (x : Str) (ps : List Str) (sp : Sp) : Prop where
  gx : GxC K (He.ga K x)
  iC : PySem.W.findIn K (.ref (He.ga K x)) "__init__" = some (some (.ref (He.ma K (He.ga K x) "__init__")))
  tI : PySem.W.typeIn K (.ref (He.ma K (He.ga K x) "__init__")) = some (.type "function")
  ok : ∃ fd, FnOk P w K mg base (L2.CX P w) k (He.ma K (He.ga K x) "__init__") fd ps sp ∧ Binds K fd ps []
  at_ : mg x = some (.ref (He.ga K x))
variable {x : Str} {k j : Nat} {ps : List Str} {sp : Sp}
/-- raise C(e, ..) -/
theorem pmk_x (F : OkX X.prog X.w X.K X.mg X.base k x ps sp) (hr : Room j X.A) (hj : k + 1 ≤ j) (hg : Gl X x) (ha : PA X (e :: es) ta)
    (hdb : (x == ("__debug__" : Str)) = false := by decide) (he : starEach (e :: es) X.env = (false, eval e X.env) :: starEach es X.env := by rfl) (hpl : (backTo pos (starEach es X.env)).any (·.1) = false := by rfl) :
    PMk X (.Call (.Name x p) (e :: es) [] pos) (tGmk (He.ga X.K x) sp ta) := by
  intro pins s σ H Q I h
  obtain ⟨T, iC, tI, ⟨fd, F1, hb⟩, hm⟩ := F
  refine wpAny_Call_Name_kw (ld_glob I hg hm ?_ hdb)
  refine PySem.W.callWith_K (h₀ := X.base) I.ok.mod.kin T.kC (thn (ha.run pos pins s σ H _ I h) fun us s1 ⟨vs, H1, I1, r1, hz, q1⟩ => ⟨I1.kIn, ?_⟩) he hpl
  refine gx_call T iC tI F1 (hr.mono hj) hb I1 r1 hz q1 fun a d fs H2 s2 sm ha k un hok os bare osm Im ea ed hd1 q => ?_
  obtain ⟨hp, g, dr, tk, os1⟩ := s1
  obtain ⟨h2, g2, d2, t2, os2⟩ := s2
  exact mk_end (raises_own T.exC T.tyC) I1 ha k un hok os bare ea ed hd1 q
theorem pmk_x0 (F : OkX X.prog X.w X.K X.mg X.base k x ps sp) (hr : Room j X.A) (hj : k + 1 ≤ j) (hg : Gl X x) (hdb : (x == ("__debug__" : Str)) = false := by decide) :
    PMk X (.Call (.Name x p) [] [] pos) (tGmk (He.ga X.K x) sp tNil) := by
  intro pins s σ H Q I h
  obtain ⟨T, iC, tI, ⟨fd, F1, hb⟩, hm⟩ := F
  refine wpAny_Call_Name_kw (ld_glob I hg hm ?_ hdb)
  obtain ⟨hz, q1⟩ := h
  refine PySem.W.callWith_K0 I.kIn T.kC ?_
  refine gx_call T iC tI F1 (hr.mono hj) hb I .nil hz q1 fun a d fs H2 s2 sm ha k un hok os bare osm Im ea ed hd1 q => ?_
  obtain ⟨hp, g, dr, tk, os1⟩ := s
  obtain ⟨h2, g2, d2, t2, os2⟩ := s2
  exact mk_end (raises_own T.exC T.tyC) I ha k un hok os bare ea ed hd1 q
/-- C(e, ..) as a value -/
theorem pe_xval (F : OkX X.prog X.w X.K X.mg X.base k x ps sp) (hr : Room j X.A) (hj : k + 1 ≤ j) (hg : Gl X x) (ha : PA X (e :: es) ta)
    (hdb : (x == ("__debug__" : Str)) = false := by decide) (he : starEach (e :: es) X.env = (false, eval e X.env) :: starEach es X.env := by rfl) (hpl : (backTo pos (starEach es X.env)).any (·.1) = false := by rfl) :
    PE X (.Call (.Name x p) (e :: es) [] pos) (tGval (He.ga X.K x) sp ta) := by
  refine ⟨fun pins s σ H Q I h => ?_⟩
  obtain ⟨T, iC, tI, ⟨fd, F1, hb⟩, hm⟩ := F
  refine wpAny_Call_Name_kw (ld_glob I hg hm ?_ hdb)
  refine PySem.W.callWith_K (h₀ := X.base) I.ok.mod.kin T.kC (thn (ha.run pos pins s σ H _ I h) fun us s1 ⟨vs, H1, I1, r1, hz, q1⟩ => ⟨I1.kIn, ?_⟩) he hpl
  refine gx_call T iC tI F1 (hr.mono hj) hb I1 r1 hz q1 fun a d fs H2 s2 sm ha k un hok os bare osm Im ea ed hd1 q => ?_
  exact ⟨.ref a, H2, Im.call' (os.trans osm.symm) un hok bare (fun b z => absurd z (by simp)), rfl, q⟩
theorem pe_xval0 (F : OkX X.prog X.w X.K X.mg X.base k x ps sp) (hr : Room j X.A) (hj : k + 1 ≤ j) (hg : Gl X x) (hdb : (x == ("__debug__" : Str)) = false := by decide) :
    PE X (.Call (.Name x p) [] [] pos) (tGval (He.ga X.K x) sp tNil) := by
  refine ⟨fun pins s σ H Q I h => ?_⟩
  obtain ⟨T, iC, tI, ⟨fd, F1, hb⟩, hm⟩ := F
  refine wpAny_Call_Name_kw (ld_glob I hg hm ?_ hdb)
  obtain ⟨hz, q1⟩ := h
  refine PySem.W.callWith_K0 I.kIn T.kC ?_
  refine gx_call T iC tI F1 (hr.mono hj) hb I .nil hz q1 fun a d fs H2 s2 sm ha k un hok os bare osm Im ea ed hd1 q => ?_
  exact ⟨.ref a, H2, Im.call' (os.trans osm.symm) un hok bare (fun b z => absurd z (by simp)), rfl, q⟩
end
/-! ### isinstance of such a value -/
section
variable {X : Cx} {pins : List (Addr × Obj)} {σ : L2.St} {H : Hp} {s : Shared}
/-- what isinstance asks of a class of errors -/
structure GxI (K : PySem.W.Frag) (C : Addr) : Prop where
  cl : (PySem.W.clsIn K C).isSome = true
  ga : PySem.W.findIn K (.ref C) "__getattribute__" = some (some (.builtin "BaseException.__getattribute__"))
  gg : PySem.W.findIn K (.ref C) "__getattr__" = some none
  ex : PySem.W.subIn K (.ref C) (.type "BaseException") = some true
  ha : PySem.W.findIn K (.ref C) "__class__" = some (some (.builtin "object.__class__"))
  hn : PySem.W.specialIn K (.builtin "object.__class__") "__get__" = some (some (.builtin "getset_descriptor.__get__"))
  tk : PySem.W.takesIn K (.builtin "object.__class__") = some true
  hm : PySem.W.mroIn K C (.type "object") = some true
def gxiB (K : PySem.W.Frag) (C : Addr) : Bool := (PySem.W.clsIn K C).isSome && (decide (PySem.W.findIn K (.ref C) "__getattribute__" = some (some (.builtin "BaseException.__getattribute__"))) && (decide (PySem.W.findIn K (.ref C) "__getattr__" = some none) &&
  (decide (PySem.W.subIn K (.ref C) (.type "BaseException") = some true) && (decide (PySem.W.findIn K (.ref C) "__class__" = some (some (.builtin "object.__class__"))) && (decide (PySem.W.specialIn K (.builtin "object.__class__") "__get__" = some (some (.builtin "getset_descriptor.__get__"))) &&
  (decide (PySem.W.takesIn K (.builtin "object.__class__") = some true) && decide (PySem.W.mroIn K C (.type "object") = some true)))))))
theorem gxiB_ok {K : PySem.W.Frag} {C : Addr} (h : gxiB K C = true) : GxI K C := by
  unfold gxiB at h
  simp only [Bool.and_eq_true, decide_eq_true_eq] at h
  obtain ⟨h1, h2, h3, h4, h5, h6, h7, h8⟩ := h
  exact ⟨h1, h2, h3, h4, h5, h6, h7, h8⟩
def rIsG (K : PySem.W.Frag) : List V → Hp → VK → Prop := fun xs H Q => ∃ (a C : Addr) (d : Addr) (fs : List (Str × V)) (c : V) (u : Value) (b : Bool), xs = [.ref a, c] ∧ H a = some (exo a C (some d)) ∧ H d = some (exd d fs) ∧ GxI K C ∧ ClsV c u ∧ PySem.W.kitOne K (.ref C) u = some b ∧ Q (.bl b) H
theorem call_isG : CallR X (.builtin "isinstance") (rIsG X.K) := by
  intro pins s σ H xs us Q I r h
  obtain ⟨a, C, d, fs, c, u, b, rfl, ea, ed, T, k, e, q⟩ := h
  obtain ⟨u1, u2, rfl, r1, r2⟩ := vals2 r
  have e2 := k.eq r2
  subst e2
  obtain rfl : u1 = Value.ref a := r1
  obtain ⟨t1, ho⟩ := exo_at I.hok ea
  obtain ⟨mA, hns, rel⟩ := exd_at I.hok ed
  obtain ⟨od, hod, hl⟩ := lookIn_ns hns
  have J : PySem.W.InstAt s.heap a _ C (some od) := ⟨ho, rfl, rfl, hod⟩
  exact PySem.W.kia_one (PySem.W.kitx_exc T.cl T.ga T.gg T.ex T.ha T.hn T.tk T.hm) I.kIn J e (fun z => nomatch z) fun tk => ⟨.bl b, H, I.tok tk, rfl, q⟩
end
end TD

end
section
open TD L2
/-- what stands at an address -/
local macro_rules | `(tactic| lcg_sub) => `(tactic| first | assumption | exact upd_same | exact New.at_ (by assumption) | (refine New.same (by assumption) _ _ ?_; lcg_sub) | (refine (show Same _ _ from by assumption) _ _ ?_; lcg_sub) | (refine Eq.trans (upd_ne (by first | assumption | exact Ne.symm (by assumption))) ?_; lcg_sub))
/-- a list, a tuple to be read -/
local macro_rules | `(tactic| lcg_src) => `(tactic| first | assumption | exact SqL.of (by lcg_sub) | exact SqT.of (by lcg_sub) | (refine Same.seq (New.same (by assumption)) ?_; lcg_src) | (refine Same.seq (by assumption) ?_; lcg_src) | (refine sameT (New.same (by assumption)) ?_; lcg_src) | (refine sameT (by assumption) ?_; lcg_src))
/-- data at a value -/
local macro_rules | `(tactic| kp_flats) => `(tactic| first | assumption | exact Dp.str _ | exact Dp.int _ | exact Dp.non | exact Dp.bl _ | (refine dp_same (New.same (by assumption)) ?_; kp_flats) | (refine dp_same (by assumption) ?_; kp_flats))
/-- one step of a reading -/
local macro_rules | `(tactic| lcg_off) => `(tactic| first
  | with_reducible refine Stp.go ?_
  | ((with_reducible show tVar _ _ _ _); refine c_var (by rfl) ?_)
  | ((with_reducible show rIxL _ _ _ _ _); refine c_ixL (by lcg_src) (by rfl) ?_)
  | ((with_reducible show rIxT _ _ _ _ _); refine c_ixT (by lcg_src) (by rfl) ?_)
  | ((with_reducible show rSetL _ _ _ _ _); refine c_setL (by lcg_sub) (by rfl) ?_)
  | ((with_reducible show rLenQ _ _ _ _); first | (refine c_lenL (by lcg_src) ?_) | (refine c_lenT (by lcg_src) ?_))
  | ((with_reducible show rSlL _ _ _ _ _ _); refine c_slL (by lcg_src) ?_)
  | ((with_reducible show rListQ _ _ _ _); first | (refine c_listL (by lcg_src) ?_) | (refine c_listT (by lcg_src) ?_))
  | ((with_reducible show rI _ _ _ _ _ _); refine c_IC (by first | assumption | decide | omega) ?_)
  | ((with_reducible show rIsi _ _ _ _); refine c_isi (by kp_flats) (by first | assumption | decide +kernel) ?_)
  | ((with_reducible show rIx _ _ _ _ _); refine c_ix (by first | exact .inl ⟨by lcg_src, by first | assumption | rfl⟩ | exact .inr ⟨by lcg_src, by first | assumption | rfl⟩) ?_)
  | ((with_reducible show NewW _ _ _ _); refine newW ?_)
  | ((with_reducible show rCat _ _ _ _); refine c_cat (by lcg_sub) (by lcg_sub) (le_line (by first | decide | (simp only [List.length_append, List.length_cons, List.length_nil]; omega))) ?_)
  | ((with_reducible show aAddS _ _ _ _); refine c_adds (le_line (by first | decide +kernel | assumption)) ?_)
  | ((with_reducible show rIn _ false _ _ _ _); refine c_inL (by lcg_src) (by rfl) (by rfl) ?_)
  | ((with_reducible show rIn _ true _ _ _ _); refine c_niL (by lcg_src) (by rfl) (by rfl) ?_))
/-- one step, with the new object's names -/
local macro_rules | `(tactic| k_offL) => `(tactic| first | lcg_off | ((with_reducible show ∀ _ _, New _ _ _ _ → _); intro _ _ _))
/-- an error that is held -/
local macro_rules | `(tactic| one_item) => `(tactic| first | assumption | (refine ErrV.same ?_ (New.same (by assumption)); one_item) | (refine ErrV.same ?_ (by assumption); one_item))
/-- nothing was changed -/
local macro_rules | `(tactic| one_place) => `(tactic| first | assumption | exact fun _ _ h => h | exact New.same (by assumption) | (refine Same.trans ?_ (New.same (by assumption)); one_place) | (refine Same.trans ?_ (by assumption); one_place))
namespace TD
open PySem PySem.Spec L2 PySem.Calls
open PyProof.Rows hiding St
theorem le_line {n : Nat} (h : n ≤ 100000) : n ≤ sizeLine := Nat.le_trans h (by decide)
/-! ### texts: split and join; rows put together; items looked for -/
abbrev rSplit : V → List V → Hp → VK → Prop := fun x xs H Q => ∃ a b, x = .str a ∧ xs = [.str b] ∧ (b.length == 0) = false ∧ a.length + 2 ≤ sizeLine ∧ rNewStrs (Txt.split a b) H Q
abbrev rJoin (K : PySem.W.Frag) : V → List V → Hp → VK → Prop := fun x xs H Q => ∃ a p, ∃ ys : List Str, x = .str a ∧ xs = [.ref p] ∧ (SqL K H p (ys.map V.str) ∨ SqT K H p (ys.map V.str)) ∧
    (ys.map (·.length)).sum + ys.length * a.length ≤ 16777216 ∧ Q (.str (Txt.join a ys)) H
section
variable {X : Cx} {o e : Expr} {to te : TE}
theorem pe_split {apos pos : Pos} (ho : PE X o to) (he : PE X e te) (hs : starEach [e] X.env = [(false, eval e X.env)] := by rfl)
    (hbase : attributeBase o "split" X.env (eval o X.env) = eval o X.env := by rfl) (hline : (apos.endLine == pos.line) = true := by rfl) : PE X (.Call (.Attribute o "split" apos) [e] [] pos) (tM1 rSplit to te) :=
  pe_m1 F.slot_str_split F.type_str_split mt_split ho he hs hbase hline
theorem pe_join {apos pos : Pos} (ho : PE X o to) (he : PE X e te) (hs : starEach [e] X.env = [(false, eval e X.env)] := by rfl)
    (hbase : attributeBase o "join" X.env (eval o X.env) = eval o X.env := by rfl) (hline : (apos.endLine == pos.line) = true := by rfl) : PE X (.Call (.Attribute o "join" apos) [e] [] pos) (tM1 (rJoin X.K) to te) :=
  pe_m1 F.slot_str_join F.type_str_join mt_join ho he hs hbase hline
end
section
variable {K : PySem.W.Frag} {D : Ends} {σ : L2.St} {H : Hp} {Q : VK} {to te : TE} {ta : TA} {i j : Nat} {v w : V}
instance {r : V → List V → Hp → VK → Prop} : Stp (tM1 r to te σ H Q) (to σ H fun x H1 => (∃ a, x = .str a) ∧ te σ H1 fun y H2 => r x [y] H2 Q) := ⟨id⟩
instance {z : Str} {P : Prop} : Stp ((∃ a, V.str z = .str a) ∧ P) P := ⟨fun h => ⟨⟨z, rfl⟩, h⟩⟩
instance : Stp (tPar i j ta D σ H) (ta σ H fun vs H1 => ∃ v w, vs = [v, w] ∧ D.nx ((σ.set i (some v)).set j (some w)) H1) := ⟨id⟩
instance {P : V → V → Prop} : Stp (∃ a b, [v, w] = [a, b] ∧ P a b) (P v w) := ⟨fun h => ⟨v, w, rfl, h⟩⟩
theorem c_split {a b : Str} (ys : List Str) (e : Txt.split a b = ys) (hb : (b.length == 0) = false) (hz : a.length + 2 ≤ sizeLine) (q : ∀ p H1, New H H1 p (.lst (ys.map V.str)) → Q (.ref p) H1) : rSplit (.str a) [.str b] H Q :=
  ⟨a, b, rfl, rfl, hb, hz, fun p n => e ▸ q p _ (new_upd n)⟩
theorem c_join {a : Str} {p : Addr} (ys : List Str) (hs : SqL K H p (ys.map V.str) ∨ SqT K H p (ys.map V.str)) (hz : (ys.map (·.length)).sum + ys.length * a.length ≤ 16777216) (q : Q (.str (Txt.join a ys)) H) : rJoin K (.str a) [.ref p] H Q :=
  ⟨a, p, ys, rfl, rfl, hs, hz, q⟩
theorem c_adds {a b : Str} (hz : a.length + b.length ≤ sizeLine) (q : Q (.str (a ++ b)) H) : aAddS (.str a) (.str b) H Q := ⟨a, b, rfl, rfl, hz, q⟩
theorem c_cat {l b : Addr} {xs zs : List V} (h1 : H l = some (.lst xs)) (h2 : H b = some (.lst zs)) (hz : xs.length + zs.length ≤ sizeLine) (q : ∀ p H1, New H H1 p (.lst (xs ++ zs)) → Q (.ref p) H1) : rCat (.ref l) (.ref b) H Q :=
  ⟨l, b, xs, zs, rfl, rfl, h1, h2, hz, fun p n => q p _ (new_upd n)⟩
theorem c_inL {x : V} {p : Addr} {xs : List V} (hs : SqL K H p xs) (f1 : flatV x = true) (f2 : xs.all flatV = true) (q : Q (.bl (inV x xs)) H) : rIn K false x (.ref p) H Q := ⟨p, xs, rfl, .inl hs, f1, f2, q⟩
theorem c_niL {x : V} {p : Addr} {xs : List V} (hs : SqL K H p xs) (f1 : flatV x = true) (f2 : xs.all flatV = true) (q : Q (.bl (!inV x xs)) H) : rIn K true x (.ref p) H Q := ⟨p, xs, rfl, .inl hs, f1, f2, q⟩
end
end TD

end
section
open TD L2
/-- what stands at an address -/
local macro_rules | `(tactic| lcg_sub) => `(tactic| first | assumption | exact upd_same | exact New.at_ (by assumption) | (refine New.same (by assumption) _ _ ?_; lcg_sub) | (refine (show Same _ _ from by assumption) _ _ ?_; lcg_sub) | (refine Eq.trans (upd_ne (by first | assumption | exact Ne.symm (by assumption))) ?_; lcg_sub))
/-- a list, a tuple to be read -/
local macro_rules | `(tactic| lcg_src) => `(tactic| first | assumption | exact SqL.of (by lcg_sub) | exact SqT.of (by lcg_sub) | (refine Same.seq (New.same (by assumption)) ?_; lcg_src) | (refine Same.seq (by assumption) ?_; lcg_src) | (refine sameT (New.same (by assumption)) ?_; lcg_src) | (refine sameT (by assumption) ?_; lcg_src))
/-- data at a value -/
local macro_rules | `(tactic| kp_flats) => `(tactic| first | assumption | exact Dp.str _ | exact Dp.int _ | exact Dp.non | exact Dp.bl _ | (refine dp_same (New.same (by assumption)) ?_; kp_flats) | (refine dp_same (by assumption) ?_; kp_flats))
/-- one step of a reading -/
local macro_rules | `(tactic| lcg_off) => `(tactic| first
  | with_reducible refine Stp.go ?_
  | ((with_reducible show tVar _ _ _ _); refine c_var (by rfl) ?_)
  | ((with_reducible show rIxL _ _ _ _ _); refine c_ixL (by lcg_src) (by rfl) ?_)
  | ((with_reducible show rIxT _ _ _ _ _); refine c_ixT (by lcg_src) (by rfl) ?_)
  | ((with_reducible show rSetL _ _ _ _ _); refine c_setL (by lcg_sub) (by rfl) ?_)
  | ((with_reducible show rLenQ _ _ _ _); first | (refine c_lenL (by lcg_src) ?_) | (refine c_lenT (by lcg_src) ?_))
  | ((with_reducible show rSlL _ _ _ _ _ _); refine c_slL (by lcg_src) ?_)
  | ((with_reducible show rListQ _ _ _ _); first | (refine c_listL (by lcg_src) ?_) | (refine c_listT (by lcg_src) ?_))
  | ((with_reducible show rI _ _ _ _ _ _); refine c_IC (by first | assumption | decide | omega) ?_)
  | ((with_reducible show rIsi _ _ _ _); refine c_isi (by kp_flats) (by first | assumption | decide +kernel) ?_)
  | ((with_reducible show rIx _ _ _ _ _); refine c_ix (by first | exact .inl ⟨by lcg_src, by first | assumption | rfl⟩ | exact .inr ⟨by lcg_src, by first | assumption | rfl⟩) ?_)
  | ((with_reducible show NewW _ _ _ _); refine newW ?_)
  | ((with_reducible show rCat _ _ _ _); refine c_cat (by lcg_sub) (by lcg_sub) (le_line (by first | decide | (simp only [List.length_append, List.length_cons, List.length_nil]; omega))) ?_)
  | ((with_reducible show aAddS _ _ _ _); refine c_adds (le_line (by first | decide +kernel | assumption)) ?_)
  | ((with_reducible show rIn _ false _ _ _ _); refine c_inL (by lcg_src) (by rfl) (by rfl) ?_)
  | ((with_reducible show rIn _ true _ _ _ _); refine c_niL (by lcg_src) (by rfl) (by rfl) ?_))
/-- one step, with the new object's names -/
local macro_rules | `(tactic| k_offL) => `(tactic| first | lcg_off | ((with_reducible show ∀ _ _, New _ _ _ _ → _); intro _ _ _))
/-- an error that is held -/
local macro_rules | `(tactic| one_item) => `(tactic| first | assumption | (refine ErrV.same ?_ (New.same (by assumption)); one_item) | (refine ErrV.same ?_ (by assumption); one_item))
/-- nothing was changed -/
local macro_rules | `(tactic| one_place) => `(tactic| first | assumption | exact fun _ _ h => h | exact New.same (by assumption) | (refine Same.trans ?_ (New.same (by assumption)); one_place) | (refine Same.trans ?_ (by assumption); one_place))
namespace TD
open PySem PySem.Spec L2 PySem.Calls PySem.TDX
open PyProof.Rows hiding St
/-! ### the error classes of the program: self.word = .. and one field at most -/
/-- an error that is held: its class, its fields -/
def ErrV (H : Hp) (a C : Addr) (fs : List (Str × V)) : Prop := ∃ d, H a = some (exo a C (some d)) ∧ H d = some (exd d fs)
theorem ErrV.same {H H' : Hp} {a C : Addr} {fs : List (Str × V)} (h : ErrV H a C fs) (s : Same H H') : ErrV H' a C fs := by
  obtain ⟨d, h1, h2⟩ := h
  exact ⟨d, s _ _ h1, s _ _ h2⟩
/-- a class of errors whose instances take plain fields of these names -/
structure ErrC (K : PySem.W.Frag) (C : Addr) (ns : List Str) : Prop where
  gx : GxC K C
  no : ∀ f ∈ ns, PySem.W.findIn K (.ref C) f = some none
def spE0 (K : PySem.W.Frag) (C : Addr) (x : Str) : Sp := fun vs H Q _ => ∃ a : Addr, vs = [.ref a] ∧ ErrC K C ["word"] ∧ H a = some (exo a C none) ∧
  ∀ dx, H dx = none → dx ≠ a → Q .non (upd (upd H dx (exd dx [("word", .str x)])) a (exo a C (some dx)))
def spE1 (K : PySem.W.Frag) (C : Addr) (x f : Str) : Sp := fun vs H Q _ => ∃ (a : Addr) (y : V), vs = [.ref a, y] ∧ ErrC K C ["word", f] ∧ H a = some (exo a C none) ∧
  ∀ dx, H dx = none → dx ≠ a → Q .non (upd (upd (upd H dx (exd dx [("word", .str x)])) a (exo a C (some dx))) dx (exd dx [(f, y), ("word", .str x)]))
def t_i0 (K : PySem.W.Frag) (x : Str) : TS := tGst K "word" (tVar 0) (tC (.str x))
def t_i1 (K : PySem.W.Frag) (x f : Str) : TS := tSeq (tGst K "word" (tVar 0) (tC (.str x))) (tGst K f (tVar 0) (tVar 1))
section
variable {K : PySem.W.Frag} {C : Addr} {x f : Str} {vs : List V} {H : Hp} {Q : VK} {E : XK}
theorem pure_i0 (h : spE0 K C x vs H Q E) : t_i0 K x { nx := fun _ H' => Q .non H', rt := Q } (start ["self"] vs) H := by
  obtain ⟨a, rfl, T, e, q⟩ := h
  exact ⟨_, rfl, a, C, rfl, T.gx, T.no _ (by simp), .inl ⟨e, fun dx n ne => q dx n ne⟩⟩
theorem pure_i1 (h : spE1 K C x f vs H Q E) : t_i1 K x f { nx := fun _ H' => Q .non H', rt := Q } (start ["self", f] vs) H := by
  obtain ⟨a, y, rfl, T, e, q⟩ := h
  refine ⟨_, rfl, a, C, rfl, T.gx, T.no _ (by simp), .inl ⟨e, fun dx n ne => ?_⟩⟩
  refine ⟨_, rfl, _, rfl, a, C, rfl, T.gx, T.no _ (by simp), .inr ⟨dx, [("word", .str x)], upd_same, ?_, by simp, q dx n ne⟩⟩
  rw [upd_ne ne]; exact upd_same
variable {ta : TA} {σ : L2.St}
theorem made_same {H H2 : Hp} {a dx : Addr} {o : HO} (n : H a = none) (nd : upd H a o dx = none) (s : ∀ b, b ≠ a → b ≠ dx → H2 b = H b) : Same H H2 := fun b z e => by
  have h1 : b ≠ a := ne_of_none e n
  have h2 : b ≠ dx := fun z => by rw [z] at e h1; rw [upd_ne h1] at nd; rw [nd] at e; cases e
  rw [s b h1 h2]; exact e
/-- C() as a value -/
theorem c_xv0 (T : ErrC K C ["word"]) (q : ∀ a H1, Same H H1 → H a = none → ErrV H1 a C [("word", .str x)] → Q (.ref a) H1) : tGval C (spE0 K C x) tNil σ H Q := by
  refine ⟨by simp, fun a n => ⟨a, rfl, T, upd_same, fun dx nd ne => ⟨rfl, dx, [("word", .str x)], upd_same, ?_, ?_, ?_⟩⟩⟩
  · rw [upd_ne ne]; exact upd_same
  · rw [upd_ne ne] at nd; exact nd
  · refine q a _ (made_same n nd fun b h1 h2 => by rw [upd_ne h1, upd_ne h2, upd_ne h1]) n ⟨dx, upd_same, ?_⟩
    rw [upd_ne ne]; exact upd_same
/-- C(e) as a value -/
theorem c_xv1 (T : ErrC K C ["word", f]) (h : ta σ H fun vs H1 => ∃ y, vs = [y] ∧ ∀ a H2, Same H1 H2 → H1 a = none → ErrV H2 a C [(f, y), ("word", .str x)] → Q (.ref a) H2) (hm : ∀ P P' : List V → Hp → Prop, (∀ vs H, P vs H → P' vs H) → ta σ H P → ta σ H P') : tGval C (spE1 K C x f) ta σ H Q := by
  refine hm _ _ (fun vs H1 ⟨y, e, q⟩ => ?_) h
  subst e
  refine ⟨by simp, fun a n => ⟨a, y, rfl, T, upd_same, fun dx nd ne => ⟨rfl, dx, [(f, y), ("word", .str x)], ?_, upd_same, ?_, ?_⟩⟩⟩
  · rw [upd_ne (Ne.symm ne)]; exact upd_same
  · rw [upd_ne ne] at nd; exact nd
  · refine q a _ (made_same n nd fun b h1 h2 => by rw [upd_ne h2, upd_ne h1, upd_ne h2, upd_ne h1]) n ⟨dx, ?_, upd_same⟩
    rw [upd_ne (Ne.symm ne)]; exact upd_same
/-- C(..) behind its arguments -/
def GvalP (C : Addr) (sp : Sp) (vs : List V) (H : Hp) (Q : VK) : Prop := vs.length ≤ 1000 ∧ GxMade C sp vs H fun a _ _ H2 => Q (.ref a) H2
theorem c_xv1' {y : V} {H1 : Hp} (T : ErrC K C ["word", f]) (q : ∀ a H2, Same H1 H2 → H1 a = none → ErrV H2 a C [(f, y), ("word", .str x)] → Q (.ref a) H2) : GvalP C (spE1 K C x f) [y] H1 Q := by
  refine ⟨by simp, fun a n => ⟨a, y, rfl, T, upd_same, fun dx nd ne => ⟨rfl, dx, [(f, y), ("word", .str x)], ?_, upd_same, ?_, ?_⟩⟩⟩
  · rw [upd_ne (Ne.symm ne)]; exact upd_same
  · rw [upd_ne ne] at nd; exact nd
  · refine q a _ (made_same n nd fun b h1 h2 => by rw [upd_ne h2, upd_ne h1, upd_ne h2, upd_ne h1]) n ⟨dx, ?_, upd_same⟩
    rw [upd_ne (Ne.symm ne)]; exact upd_same
instance {sp : Sp} : Stp (tGval C sp ta σ H Q) (ta σ H fun vs H1 => GvalP C sp vs H1 Q) := ⟨id⟩
theorem c_xv0' (T : ErrC K C ["word"]) (q : ∀ a H1, Same H H1 → H a = none → ErrV H1 a C [("word", .str x)] → Q (.ref a) H1) : GvalP C (spE0 K C x) [] H Q := c_xv0 (σ := []) T q
/-- an error that is raised, behind its arguments -/
def GrseP (C : Addr) (sp : Sp) (vs : List V) (H : Hp) (QX : XK) : Prop := vs.length ≤ 1000 ∧ GxMade C sp vs H fun a d fs H2 => QX (.ref C) (some d) (upd (del H2 a) d (.xd fs))
/-- raise C(..) in a def whose errors go to E -/
def tRse (t : L2.St → Hp → XK → Prop) (E : XK) : TS := fun _ σ H => t σ H E
instance {sp : Sp} {D : Ends} : Stp (tRse (tGmk C sp ta) E D σ H) (ta σ H fun vs H1 => GrseP C sp vs H1 E) := ⟨id⟩
/-- raise C(y), raise C(): the error lies in the heap as an error's own dict -/
theorem gone_new {H2 : Hp} {a dx : Addr} {o : HO} {fs : List (Str × V)} (n : H a = none) (nd : upd H a o dx = none) (ne : dx ≠ a) (s : ∀ b, b ≠ a → b ≠ dx → H2 b = H b) : New H (upd (del H2 a) dx (.xd fs)) dx (.xd fs) := by
  refine ⟨by rw [upd_ne ne] at nd; exact nd, fun b z e => ?_, upd_same⟩
  have h1 : b ≠ a := ne_of_none e n
  have h2 : b ≠ dx := fun z => by rw [z] at e; rw [upd_ne ne] at nd; rw [nd] at e; cases e
  rw [upd_ne h2, del_ne h1, s b h1 h2]; exact e
theorem c_xm0 {QX : XK} (T : ErrC K C ["word"]) (q : ∀ d H1, New H H1 d (.xd [("word", .str x)]) → QX (.ref C) (some d) H1) : GrseP C (spE0 K C x) [] H QX := by
  refine ⟨by simp, fun a n => ⟨a, rfl, T, upd_same, fun dx nd ne => ⟨rfl, dx, [("word", .str x)], upd_same, ?_, ?_, ?_⟩⟩⟩
  · rw [upd_ne ne]; exact upd_same
  · rw [upd_ne ne] at nd; exact nd
  · exact q dx _ (gone_new n nd ne fun b h1 h2 => by rw [upd_ne h1, upd_ne h2, upd_ne h1])
theorem c_xm1 {QX : XK} {y : V} (T : ErrC K C ["word", f]) (q : ∀ d H1, New H H1 d (.xd [(f, y), ("word", .str x)]) → QX (.ref C) (some d) H1) : GrseP C (spE1 K C x f) [y] H QX := by
  refine ⟨by simp, fun a n => ⟨a, y, rfl, T, upd_same, fun dx nd ne => ⟨rfl, dx, [(f, y), ("word", .str x)], ?_, upd_same, ?_, ?_⟩⟩⟩
  · rw [upd_ne (Ne.symm ne)]; exact upd_same
  · rw [upd_ne ne] at nd; exact nd
  · exact q dx _ (gone_new n nd ne fun b h1 h2 => by rw [upd_ne h2, upd_ne h1, upd_ne h2, upd_ne h1])
end
/-- the field of an error that is held -/
def XatP (K : PySem.W.Frag) (x : V) (f : Str) (H : Hp) (Q : VK) : Prop := ∃ (a C dx : Addr) (fs : List (Str × V)) (v : V), x = .ref a ∧ GxC K C ∧ PySem.W.findIn K (.ref C) f = some none ∧ H a = some (exo a C (some dx)) ∧ H dx = some (exd dx fs) ∧ fs.lookup f = some v ∧ Q v H
instance {K : PySem.W.Frag} {te : TE} {f : Str} {σ : L2.St} {H : Hp} {Q : VK} : Stp (tXat K te f σ H Q) (te σ H fun x H1 => XatP K x f H1 Q) := ⟨id⟩
theorem c_xat {K : PySem.W.Frag} {a C : Addr} {fs : List (Str × V)} {ns : List Str} {f : Str} {v : V} {H : Hp} {Q : VK} (e : ErrV H a C fs) (T : ErrC K C ns) (hf : f ∈ ns) (l : fs.lookup f = some v) (q : Q v H) : XatP K (.ref a) f H Q := by
  obtain ⟨d, h1, h2⟩ := e
  exact ⟨a, C, d, fs, v, rfl, T.gx, T.no f hf, h1, h2, l, q⟩
theorem c_isg {K : PySem.W.Frag} {a C : Addr} {fs : List (Str × V)} {c : V} {u : Value} {b : Bool} {H : Hp} {Q : VK} (e : ErrV H a C fs) (T : GxI K C) (k : ClsV c u) (t : PySem.W.kitOne K (.ref C) u = some b) (q : Q (.bl b) H) : rIsG K [.ref a, c] H Q := by
  obtain ⟨d, h1, h2⟩ := e
  exact ⟨a, C, d, fs, c, u, b, rfl, h1, h2, T, k, t, q⟩
/-! ### how the classes stand -/
/-- as a test: the class x with the field f -/
def errB (K : PySem.W.Frag) (x : Str) (ns : List Str) : Bool := gxB K (He.ga K x) && (ns.all fun f => decide (PySem.W.findIn K (.ref (He.ga K x)) f = some none)) &&
  (decide (PySem.W.findIn K (.ref (He.ga K x)) "__init__" = some (some (.ref (He.ma K (He.ga K x) "__init__")))) && decide (PySem.W.typeIn K (.ref (He.ma K (He.ga K x) "__init__")) = some (.type "function")))
theorem errB_c {K : PySem.W.Frag} {x : Str} {ns : List Str} (h : errB K x ns = true) : ErrC K (He.ga K x) ns := by
  unfold errB at h
  simp only [Bool.and_eq_true, List.all_eq_true, decide_eq_true_eq] at h
  exact ⟨gxB_ok h.1.1, h.1.2⟩
theorem okX_of {P : Program} {w : World} {K : PySem.W.Frag} {mg : Str → Option Value} {base : Heap} {k : Nat} {x q : Str} {ar : Arguments} {bd : List Stmt} {sc : Scope} {N ps ns : List Str} {sp : Sp} (hB : errB K x ns = true)
    (F : ∃ fd, FunD K "__init__" q ar bd sc [] [] (He.ma K (He.ga K x) "__init__") fd) (S : FnScope N ps sc) (hg : mg x = some (.ref (He.ga K x)))
    (hb : ∀ (kV doc pm : Value) (an : Option Addr) (cdv ct : Value) (us : List Value), us.length = ps.length → bindArgs (PySem.W.fnOf "__init__" q ar bd sc .none kV doc pm an cdv ct) ⟨us, []⟩ = pure (ps.zip us))
    (len : ∀ vs H Q E, sp vs H Q E → vs.length = ps.length)
    (body : ∀ (cdv : Value) (A : Around) (outer : List Env) (s : Shared) (H : Hp) (vs : List V) (Q : VK) (E : XK), Room k (A.deeper (envOfC q sc s.heap.objs.size (He.ma K (He.ga K x) "__init__") cdv)) → sp vs H Q E →
      ∃ t, PSs (cxOf (L2.CX P w) P w K mg base N q sc (He.ma K (He.ga K x) "__init__") cdv A outer s H E) bd t ∧ t { nx := fun _ H' => Q .non H', rt := Q } (start N vs) H) : OkX P w K mg base (k + 1) x ps sp := by
  have h := hB
  unfold errB at h
  simp only [Bool.and_eq_true, decide_eq_true_eq] at h
  obtain ⟨fd, F⟩ := F
  exact ⟨(errB_c hB).gx, h.2.1, h.2.2, ⟨fd, F.ok S len body, F.bindsN hb⟩, hg⟩
end TD

end
section
open TD L2
/-- what stands at an address -/
local macro_rules | `(tactic| lcg_sub) => `(tactic| first | assumption | exact upd_same | exact New.at_ (by assumption) | (refine New.same (by assumption) _ _ ?_; lcg_sub) | (refine (show Same _ _ from by assumption) _ _ ?_; lcg_sub) | (refine Eq.trans (upd_ne (by first | assumption | exact Ne.symm (by assumption))) ?_; lcg_sub))
/-- a list, a tuple to be read -/
local macro_rules | `(tactic| lcg_src) => `(tactic| first | assumption | exact SqL.of (by lcg_sub) | exact SqT.of (by lcg_sub) | (refine Same.seq (New.same (by assumption)) ?_; lcg_src) | (refine Same.seq (by assumption) ?_; lcg_src) | (refine sameT (New.same (by assumption)) ?_; lcg_src) | (refine sameT (by assumption) ?_; lcg_src))
/-- data at a value -/
local macro_rules | `(tactic| kp_flats) => `(tactic| first | assumption | exact Dp.str _ | exact Dp.int _ | exact Dp.non | exact Dp.bl _ | (refine dp_same (New.same (by assumption)) ?_; kp_flats) | (refine dp_same (by assumption) ?_; kp_flats))
/-- one step of a reading -/
local macro_rules | `(tactic| lcg_off) => `(tactic| first
  | with_reducible refine Stp.go ?_
  | ((with_reducible show tVar _ _ _ _); refine c_var (by rfl) ?_)
  | ((with_reducible show rIxL _ _ _ _ _); refine c_ixL (by lcg_src) (by rfl) ?_)
  | ((with_reducible show rIxT _ _ _ _ _); refine c_ixT (by lcg_src) (by rfl) ?_)
  | ((with_reducible show rSetL _ _ _ _ _); refine c_setL (by lcg_sub) (by rfl) ?_)
  | ((with_reducible show rLenQ _ _ _ _); first | (refine c_lenL (by lcg_src) ?_) | (refine c_lenT (by lcg_src) ?_))
  | ((with_reducible show rSlL _ _ _ _ _ _); refine c_slL (by lcg_src) ?_)
  | ((with_reducible show rListQ _ _ _ _); first | (refine c_listL (by lcg_src) ?_) | (refine c_listT (by lcg_src) ?_))
  | ((with_reducible show rI _ _ _ _ _ _); refine c_IC (by first | assumption | decide | omega) ?_)
  | ((with_reducible show rIsi _ _ _ _); refine c_isi (by kp_flats) (by first | assumption | decide +kernel) ?_)
  | ((with_reducible show rIx _ _ _ _ _); refine c_ix (by first | exact .inl ⟨by lcg_src, by first | assumption | rfl⟩ | exact .inr ⟨by lcg_src, by first | assumption | rfl⟩) ?_)
  | ((with_reducible show NewW _ _ _ _); refine newW ?_)
  | ((with_reducible show rCat _ _ _ _); refine c_cat (by lcg_sub) (by lcg_sub) (le_line (by first | decide | (simp only [List.length_append, List.length_cons, List.length_nil]; omega))) ?_)
  | ((with_reducible show aAddS _ _ _ _); refine c_adds (le_line (by first | decide +kernel | assumption)) ?_)
  | ((with_reducible show rIn _ false _ _ _ _); refine c_inL (by lcg_src) (by rfl) (by rfl) ?_)
  | ((with_reducible show rIn _ true _ _ _ _); refine c_niL (by lcg_src) (by rfl) (by rfl) ?_))
/-- one step, with the new object's names -/
local macro_rules | `(tactic| k_offL) => `(tactic| first | lcg_off | ((with_reducible show ∀ _ _, New _ _ _ _ → _); intro _ _ _))
/-- an error that is held -/
local macro_rules | `(tactic| one_item) => `(tactic| first | assumption | (refine ErrV.same ?_ (New.same (by assumption)); one_item) | (refine ErrV.same ?_ (by assumption); one_item))
/-- nothing was changed -/
local macro_rules | `(tactic| one_place) => `(tactic| first | assumption | exact fun _ _ h => h | exact New.same (by assumption) | (refine Same.trans ?_ (New.same (by assumption)); one_place) | (refine Same.trans ?_ (by assumption); one_place))
namespace TD
open PySem PySem.Spec L2 PySem.Calls
open PyProof.Rows hiding St
/-! ### the head: what the top leaves, as one test of one's own and the defs by name -/
abbrev AlT : Type := Bool × List He.FnW
def obsK (chk : PySem.W.Frag → Bool) (fn : List He.DefD) (K : PySem.W.Frag) : AlT := (chk K && fn.all fun d => d.ok K, fn.map fun d => He.fnW K d.at_)
def valK (fn : List He.DefD) : AlT := (true, fn.map He.DefD.val)
def obsKG (n : Nat) (chk : PySem.W.Frag → Bool) (fn : List He.DefD) (g : Addr → Option Obj) : AlT := obsK chk fn (He.frG g (He.asD g n))
def hookK (n : Nat) (chk : PySem.W.Frag → Bool) (fn : List He.DefD) : PySem.W.Hook where
  α := AlT
  obs := fun s => obsKG n chk fn s.heap.get?
  val := fun _ => valK fn
  says := fun _ h => ∃ K : PySem.W.Frag, K.In h ∧ obsK chk fn K = valK fn
  of := fun _ _ e => ⟨_, He.frG_in, e⟩
  keeps := fun _ _ _ ⟨K, hK, c⟩ k => ⟨K, PySem.W.Frag.In.keeps hK k, c⟩
theorem obsKG_eq {n : Nat} {chk : PySem.W.Frag → Bool} {fn : List He.DefD} {s : PySem.W.SharedT} : obsKG n chk fn (HandSHeadRun.getT s) = (hookK n chk fn).obs s.abs := by
  have e : HandSHeadRun.getT s = s.abs.heap.get? := funext (HandSHeadRun.getT_eq s)
  rw [e] <;> rfl
section
variable {chk : PySem.W.Frag → Bool} {fn : List He.DefD} {K : PySem.W.Frag}
theorem saysK_chk (c : obsK chk fn K = valK fn) : chk K = true := (Bool.and_eq_true_iff.mp (show (chk K && fn.all fun d => d.ok K) = true from congrArg (fun z : AlT => z.1) c)).1
theorem saysK_def (c : obsK chk fn K = valK fn) (i : Nat) {d : He.DefD} (h : fn[i]? = some d := by rfl) : ∃ fd, FunD K d.name d.qual d.params d.body d.scope (d.dvs K) (d.kws K) (He.fAd K d.at_) fd := by
  have c2 := (Bool.and_eq_true_iff.mp (show (chk K && fn.all fun d => d.ok K) = true from congrArg (fun z : AlT => z.1) c)).2
  have e : fn.map (fun d => He.fnW K d.at_) = fn.map He.DefD.val := congrArg (fun z : AlT => z.2) c
  have e2 : (fn.map fun d => He.fnW K d.at_)[i]? = (fn.map He.DefD.val)[i]? := by rw [e]
  rw [List.getElem?_map, List.getElem?_map, h] at e2
  exact He.DefD.funD (Option.some.inj e2) (List.all_eq_true.mp c2 d (List.mem_of_getElem? h))
end
/-- a def of the module, without defaults -/
def dfn (x : Str) (st : Stmt) : He.DefD := ⟨(x, none), x, x, defArgs st, defBody st, defScope st, [], []⟩
/-- a method of a class -/
def dmt (C m q : Str) (st : Stmt) : He.DefD := ⟨(C, some m), m, q, defArgs st, defBody st, defScope st, [], []⟩
end TD

end
section
open TD L2
/-- what stands at an address -/
local macro_rules | `(tactic| lcg_sub) => `(tactic| first | assumption | exact upd_same | exact New.at_ (by assumption) | (refine New.same (by assumption) _ _ ?_; lcg_sub) | (refine (show Same _ _ from by assumption) _ _ ?_; lcg_sub) | (refine Eq.trans (upd_ne (by first | assumption | exact Ne.symm (by assumption))) ?_; lcg_sub))
/-- a list, a tuple to be read -/
local macro_rules | `(tactic| lcg_src) => `(tactic| first | assumption | exact SqL.of (by lcg_sub) | exact SqT.of (by lcg_sub) | (refine Same.seq (New.same (by assumption)) ?_; lcg_src) | (refine Same.seq (by assumption) ?_; lcg_src) | (refine sameT (New.same (by assumption)) ?_; lcg_src) | (refine sameT (by assumption) ?_; lcg_src))
/-- data at a value -/
local macro_rules | `(tactic| kp_flats) => `(tactic| first | assumption | exact Dp.str _ | exact Dp.int _ | exact Dp.non | exact Dp.bl _ | (refine dp_same (New.same (by assumption)) ?_; kp_flats) | (refine dp_same (by assumption) ?_; kp_flats))
/-- one step of a reading -/
local macro_rules | `(tactic| lcg_off) => `(tactic| first
  | with_reducible refine Stp.go ?_
  | ((with_reducible show tVar _ _ _ _); refine c_var (by rfl) ?_)
  | ((with_reducible show rIxL _ _ _ _ _); refine c_ixL (by lcg_src) (by rfl) ?_)
  | ((with_reducible show rIxT _ _ _ _ _); refine c_ixT (by lcg_src) (by rfl) ?_)
  | ((with_reducible show rSetL _ _ _ _ _); refine c_setL (by lcg_sub) (by rfl) ?_)
  | ((with_reducible show rLenQ _ _ _ _); first | (refine c_lenL (by lcg_src) ?_) | (refine c_lenT (by lcg_src) ?_))
  | ((with_reducible show rSlL _ _ _ _ _ _); refine c_slL (by lcg_src) ?_)
  | ((with_reducible show rListQ _ _ _ _); first | (refine c_listL (by lcg_src) ?_) | (refine c_listT (by lcg_src) ?_))
  | ((with_reducible show rI _ _ _ _ _ _); refine c_IC (by first | assumption | decide | omega) ?_)
  | ((with_reducible show rIsi _ _ _ _); refine c_isi (by kp_flats) (by first | assumption | decide +kernel) ?_)
  | ((with_reducible show rIx _ _ _ _ _); refine c_ix (by first | exact .inl ⟨by lcg_src, by first | assumption | rfl⟩ | exact .inr ⟨by lcg_src, by first | assumption | rfl⟩) ?_)
  | ((with_reducible show NewW _ _ _ _); refine newW ?_)
  | ((with_reducible show rCat _ _ _ _); refine c_cat (by lcg_sub) (by lcg_sub) (le_line (by first | decide | (simp only [List.length_append, List.length_cons, List.length_nil]; omega))) ?_)
  | ((with_reducible show aAddS _ _ _ _); refine c_adds (le_line (by first | decide +kernel | assumption)) ?_)
  | ((with_reducible show rIn _ false _ _ _ _); refine c_inL (by lcg_src) (by rfl) (by rfl) ?_)
  | ((with_reducible show rIn _ true _ _ _ _); refine c_niL (by lcg_src) (by rfl) (by rfl) ?_))
/-- one step, with the new object's names -/
local macro_rules | `(tactic| k_offL) => `(tactic| first | lcg_off | ((with_reducible show ∀ _ _, New _ _ _ _ → _); intro _ _ _))
/-- an error that is held -/
local macro_rules | `(tactic| one_item) => `(tactic| first | assumption | (refine ErrV.same ?_ (New.same (by assumption)); one_item) | (refine ErrV.same ?_ (by assumption); one_item))
/-- nothing was changed -/
local macro_rules | `(tactic| one_place) => `(tactic| first | assumption | exact fun _ _ h => h | exact New.same (by assumption) | (refine Same.trans ?_ (New.same (by assumption)); one_place) | (refine Same.trans ?_ (by assumption); one_place))
namespace TD
open PySem PySem.Spec L2 PySem.Calls PySem.TDX
open PyProof.Rows hiding St
abbrev ns_l_field : List Str := ["_law_e"]
abbrev ps_l_field : List Str := ["_law_e"]
def t_l_field (K : PySem.W.Frag) : TS :=
  (tSeq (tIfS (tTest (tOp (rIn K false) (tXat K (tVar 0) "word") (tLst (tCons (tC (.str "BadStep")) (tCons (tC (.str "BadCommand")) (tCons (tC (.str "BadText")) tNil)))))) (tRet (tXat K (tVar 0) "at")) tNext)
    (tSeq (tIfS (tTest (tOp (rIn K false) (tXat K (tVar 0) "word") (tLst (tCons (tC (.str "TooLarge")) (tCons (tC (.str "TooLong")) (tCons (tC (.str "Full")) tNil)))))) (tRet (tXat K (tVar 0) "most")) tNext)
    (tSeq (tIfS (tTest (tOp (rIn K false) (tXat K (tVar 0) "word") (tLst (tCons (tC (.str "BadOwner")) (tCons (tC (.str "NoItem")) tNil))))) (tRet (tXat K (tVar 0) "owner")) tNext)
    (tSeq (tIfS (tTest (tOp (rIn K false) (tXat K (tVar 0) "word") (tLst (tCons (tC (.str "Taken")) (tCons (tC (.str "Clash")) (tCons (tC (.str "NoStamp")) tNil)))))) (tRet (tXat K (tVar 0) "stamp")) tNext)
    (tSeq (tIfS (tTest (tOp (rIn K false) (tXat K (tVar 0) "word") (tLst (tCons (tC (.str "BadName")) (tCons (tC (.str "Unknown")) tNil))))) (tRet (tXat K (tVar 0) "name")) tNext)
    (tSeq (tIfS (tTest (tOp (rIn K false) (tXat K (tVar 0) "word") (tLst (tCons (tC (.str "OutOfRange")) (tCons (tC (.str "BadPage")) tNil))))) (tRet (tIf (tTest (tOp rEq (tXat K (tVar 0) "word") (tC (.str "OutOfRange")))) (tXat K (tVar 0) "number") (tXat K (tVar 0) "row"))) tNext)
    (tRet (tIf (tTest (tOp rEq (tXat K (tVar 0) "word") (tC (.str "NotEqual")))) (tXat K (tVar 0) "item") (tIf (tTest (tOp rEq (tXat K (tVar 0) "word") (tC (.str "NoRoom")))) (tXat K (tVar 0) "step") (tC .non))))))))))
abbrev ns_l_all : List Str := ["_law_n", "_law_found"]
abbrev ps_l_all : List Str := ["_law_n"]
def t_l_all (K : PySem.W.Frag) : TS :=
  (tSeq (tAsg (tLst (tCons (tGval (He.ga K "BadTree") (spE0 K (He.ga K "BadTree") "BadTree") tNil) (tCons (tGval (He.ga K "BadClass") (spE0 K (He.ga K "BadClass") "BadClass") tNil) (tCons (tGval (He.ga K "BadOwner") (spE1 K (He.ga K "BadOwner") "BadOwner" "owner") (tCons (tVar 0) tNil)) (tCons (tGval (He.ga K "BadStep") (spE1 K (He.ga K "BadStep") "BadStep" "at") (tCons (tVar 0) tNil)) (tCons (tGval (He.ga K "TooLarge") (spE1 K (He.ga K "TooLarge") "TooLarge" "most") (tCons (tVar 0) tNil)) (tCons (tGval (He.ga K "TooLong") (spE1 K (He.ga K "TooLong") "TooLong" "most") (tCons (tVar 0) tNil)) (tCons (tGval (He.ga K "NotEqual") (spE1 K (He.ga K "NotEqual") "NotEqual" "item") (tCons (tVar 0) tNil)) (tCons (tGval (He.ga K "OutOfRange") (spE1 K (He.ga K "OutOfRange") "OutOfRange" "number") (tCons (tVar 0) tNil)) (tCons (tGval (He.ga K "BadStamp") (spE0 K (He.ga K "BadStamp") "BadStamp") tNil) (tCons (tGval (He.ga K "Taken") (spE1 K (He.ga K "Taken") "Taken" "stamp") (tCons (tVar 0) tNil)) (tCons (tGval (He.ga K "Clash") (spE1 K (He.ga K "Clash") "Clash" "stamp") (tCons (tVar 0) tNil)) tNil)))))))))))) (gName 1))
    (tSeq (tAsg (tOp rCat (tVar 1) (tLst (tCons (tGval (He.ga K "OtherBase") (spE0 K (He.ga K "OtherBase") "OtherBase") tNil) (tCons (tGval (He.ga K "Full") (spE1 K (He.ga K "Full") "Full" "most") (tCons (tVar 0) tNil)) (tCons (tGval (He.ga K "BadName") (spE1 K (He.ga K "BadName") "BadName" "name") (tCons (tVar 0) tNil)) (tCons (tGval (He.ga K "BadFormula") (spE0 K (He.ga K "BadFormula") "BadFormula") tNil) (tCons (tGval (He.ga K "BadCommand") (spE1 K (He.ga K "BadCommand") "BadCommand" "at") (tCons (tVar 0) tNil)) (tCons (tGval (He.ga K "BadText") (spE1 K (He.ga K "BadText") "BadText" "at") (tCons (tVar 0) tNil)) (tCons (tGval (He.ga K "BadPage") (spE1 K (He.ga K "BadPage") "BadPage" "row") (tCons (tVar 0) tNil)) tNil))))))))) (gName 1))
    (tRet (tOp rCat (tVar 1) (tLst (tCons (tGval (He.ga K "Unknown") (spE1 K (He.ga K "Unknown") "Unknown" "name") (tCons (tVar 0) tNil)) (tCons (tGval (He.ga K "NoStamp") (spE1 K (He.ga K "NoStamp") "NoStamp" "stamp") (tCons (tVar 0) tNil)) (tCons (tGval (He.ga K "NoItem") (spE1 K (He.ga K "NoItem") "NoItem" "owner") (tCons (tVar 0) tNil)) (tCons (tGval (He.ga K "NoRoom") (spE1 K (He.ga K "NoRoom") "NoRoom" "step") (tCons (tVar 0) tNil)) (tCons (tGval (He.ga K "NothingLeft") (spE0 K (He.ga K "NothingLeft") "NothingLeft") tNil) tNil))))))))))
abbrev ns_l_flags : List Str := ["_law_e", "_law_found"]
abbrev ps_l_flags : List Str := ["_law_e"]
def t_l_flags (K : PySem.W.Frag) : TS :=
  (tSeq (tAsg (tLst (tCons (tCB (rIsG K) (tCons (tVar 0) (tCons (tC (.ref (He.ga K "BadTree"))) tNil))) (tCons (tCB (rIsG K) (tCons (tVar 0) (tCons (tC (.ref (He.ga K "BadClass"))) tNil))) (tCons (tCB (rIsG K) (tCons (tVar 0) (tCons (tC (.ref (He.ga K "BadOwner"))) tNil))) (tCons (tCB (rIsG K) (tCons (tVar 0) (tCons (tC (.ref (He.ga K "BadStep"))) tNil))) (tCons (tCB (rIsG K) (tCons (tVar 0) (tCons (tC (.ref (He.ga K "TooLarge"))) tNil))) tNil)))))) (gName 1))
    (tSeq (tAsg (tOp rCat (tVar 1) (tLst (tCons (tCB (rIsG K) (tCons (tVar 0) (tCons (tC (.ref (He.ga K "TooLong"))) tNil))) (tCons (tCB (rIsG K) (tCons (tVar 0) (tCons (tC (.ref (He.ga K "NotEqual"))) tNil))) (tCons (tCB (rIsG K) (tCons (tVar 0) (tCons (tC (.ref (He.ga K "OutOfRange"))) tNil))) tNil))))) (gName 1))
    (tSeq (tAsg (tOp rCat (tVar 1) (tLst (tCons (tCB (rIsG K) (tCons (tVar 0) (tCons (tC (.ref (He.ga K "BadStamp"))) tNil))) (tCons (tCB (rIsG K) (tCons (tVar 0) (tCons (tC (.ref (He.ga K "Taken"))) tNil))) tNil)))) (gName 1))
    (tSeq (tAsg (tOp rCat (tVar 1) (tLst (tCons (tCB (rIsG K) (tCons (tVar 0) (tCons (tC (.ref (He.ga K "Clash"))) tNil))) (tCons (tCB (rIsG K) (tCons (tVar 0) (tCons (tC (.ref (He.ga K "OtherBase"))) tNil))) (tCons (tCB (rIsG K) (tCons (tVar 0) (tCons (tC (.ref (He.ga K "Full"))) tNil))) (tCons (tCB (rIsG K) (tCons (tVar 0) (tCons (tC (.ref (He.ga K "BadName"))) tNil))) (tCons (tCB (rIsG K) (tCons (tVar 0) (tCons (tC (.ref (He.ga K "BadFormula"))) tNil))) tNil))))))) (gName 1))
    (tSeq (tAsg (tOp rCat (tVar 1) (tLst (tCons (tCB (rIsG K) (tCons (tVar 0) (tCons (tC (.ref (He.ga K "BadCommand"))) tNil))) (tCons (tCB (rIsG K) (tCons (tVar 0) (tCons (tC (.ref (He.ga K "BadText"))) tNil))) (tCons (tCB (rIsG K) (tCons (tVar 0) (tCons (tC (.ref (He.ga K "BadPage"))) tNil))) tNil))))) (gName 1))
    (tSeq (tAsg (tOp rCat (tVar 1) (tLst (tCons (tCB (rIsG K) (tCons (tVar 0) (tCons (tC (.ref (He.ga K "Unknown"))) tNil))) (tCons (tCB (rIsG K) (tCons (tVar 0) (tCons (tC (.ref (He.ga K "NoStamp"))) tNil))) tNil)))) (gName 1))
    (tRet (tOp rCat (tVar 1) (tLst (tCons (tCB (rIsG K) (tCons (tVar 0) (tCons (tC (.ref (He.ga K "NoItem"))) tNil))) (tCons (tCB (rIsG K) (tCons (tVar 0) (tCons (tC (.ref (He.ga K "NoRoom"))) tNil))) (tCons (tCB (rIsG K) (tCons (tVar 0) (tCons (tC (.ref (He.ga K "NothingLeft"))) tNil))) tNil))))))))))))
abbrev ns_law : List Str := ["_law_script", "_law_bag_here", "_law_number", "_law_first", "_law_words", "_law_errors", "_law_plain", "_law_turn", "_law_k", "_law_e", "_law_j", "_law_bases"]
abbrev ps_law : List Str := ["_law_script"]
def t_law (K : PySem.W.Frag) (sp_l_all : Sp) (sp_l_bag : Sp) (sp_l_field : Sp) (sp_l_flags : Sp) (sp_l_like : Sp) (sp_l_pull : Sp) : TS :=
  (tSeq (tAsg (tCall sp_l_bag [] E0 (tCons (tVar 0) tNil)) (gName 1))
    (tSeq (tPar 2 3 (tCons (tCall sp_l_pull [] E0 (tCons (tVar 1) (tCons (tOp aPow (tC (.int 10)) (tC (.int 6))) tNil))) (tCons (tCall sp_l_pull [] E0 (tCons (tVar 1) (tCons (tC (.int 23)) tNil))) tNil)))
    (tSeq (tAsg (tC (.str "BadTree BadClass BadOwner BadStep TooLarge TooLong NotEqual OutOfRange")) (gName 4))
    (tSeq (tAsg (tOp aAddS (tVar 4) (tC (.str " BadStamp Taken Clash OtherBase Full"))) (gName 4))
    (tSeq (tAsg (tM1 rSplit (tOp aAddS (tVar 4) (tC (.str " BadName BadFormula BadCommand BadText BadPage Unknown NoStamp NoItem NoRoom NothingLeft"))) (tC (.str " "))) (gName 4))
    (tSeq (tAsg (tCall sp_l_all [] E0 (tCons (tVar 2) tNil)) (gName 5))
    (tSeq (tAsg (tLst (tCons (tC (.str "BadTree")) (tCons (tC (.str "BadClass")) (tCons (tC (.str "BadStamp")) (tCons (tC (.str "OtherBase")) (tCons (tC (.str "BadFormula")) (tCons (tC (.str "NothingLeft")) tNil))))))) (gName 6))
    (tSeq (tFor (iRng1 (tCons (tC (.int 23)) tNil)) (gName 7) (tSeq (tAsg (tOp aMod (tOp aAdd (tVar 3) (tVar 7)) (tC (.int 23))) (gName 8))
    (tSeq (tAsg (tOp (rIxL K) (tVar 5) (tVar 8)) (gName 9))
    (tSeq (tIfS (tOr (tNot (tB (tCall sp_l_like [] E0 (tCons (tCall sp_l_flags [] E0 (tCons (tVar 9) tNil)) (tCons (tLc (iRng1 (tCons (tC (.int 23)) tNil)) (gName 10) tYes (tOp rEq (tVar 10) (tVar 8)) [10]) tNil))))) (tTest (tOp rNe (tXat K (tVar 9) "word") (tOp (rIxL K) (tVar 4) (tVar 8))))) (tRet (tC (.bl false))) tNext)
    (tSeq (tAsg (tLst (tCons (tCB (rIsG K) (tCons (tVar 9) (tCons (tC (.ref (He.ga K "TurnError"))) tNil))) (tCons (tCB (rIsG K) (tCons (tVar 9) (tCons (tC (.ty "ValueError")) tNil))) (tCons (tCB (rIsG K) (tCons (tVar 9) (tCons (tC (.ref (He.ga K "TurnMissing"))) tNil))) (tCons (tCB (rIsG K) (tCons (tVar 9) (tCons (tC (.ty "LookupError")) tNil))) tNil))))) (gName 11))
    (tIfS (tOr (tNot (tB (tCall sp_l_like [] E0 (tCons (tVar 11) (tCons (tLst (tCons (tOp aLt (tVar 8) (tC (.int 18))) (tCons (tOp aLt (tVar 8) (tC (.int 18))) (tCons (tOp aGt (tVar 8) (tC (.int 17))) (tCons (tOp aGt (tVar 8) (tC (.int 17))) tNil))))) tNil))))) (tTest (tOp rNe (tCall sp_l_field [] E0 (tCons (tVar 9) tNil)) (tIf (tTest (tOp (rIn K false) (tOp (rIxL K) (tVar 4) (tVar 8)) (tVar 6))) (tC .non) (tVar 2))))) (tRet (tC (.bl false))) tNext))))))
    (tRet (tC (.bl true)))))))))))
end TD

end
section
open TD L2
/-- what stands at an address -/
local macro_rules | `(tactic| lcg_sub) => `(tactic| first | assumption | exact upd_same | exact New.at_ (by assumption) | (refine New.same (by assumption) _ _ ?_; lcg_sub) | (refine (show Same _ _ from by assumption) _ _ ?_; lcg_sub) | (refine Eq.trans (upd_ne (by first | assumption | exact Ne.symm (by assumption))) ?_; lcg_sub))
/-- a list, a tuple to be read -/
local macro_rules | `(tactic| lcg_src) => `(tactic| first | assumption | exact SqL.of (by lcg_sub) | exact SqT.of (by lcg_sub) | (refine Same.seq (New.same (by assumption)) ?_; lcg_src) | (refine Same.seq (by assumption) ?_; lcg_src) | (refine sameT (New.same (by assumption)) ?_; lcg_src) | (refine sameT (by assumption) ?_; lcg_src))
/-- data at a value -/
local macro_rules | `(tactic| kp_flats) => `(tactic| first | assumption | exact Dp.str _ | exact Dp.int _ | exact Dp.non | exact Dp.bl _ | (refine dp_same (New.same (by assumption)) ?_; kp_flats) | (refine dp_same (by assumption) ?_; kp_flats))
/-- one step of a reading -/
local macro_rules | `(tactic| lcg_off) => `(tactic| first
  | with_reducible refine Stp.go ?_
  | ((with_reducible show tVar _ _ _ _); refine c_var (by rfl) ?_)
  | ((with_reducible show rIxL _ _ _ _ _); refine c_ixL (by lcg_src) (by rfl) ?_)
  | ((with_reducible show rIxT _ _ _ _ _); refine c_ixT (by lcg_src) (by rfl) ?_)
  | ((with_reducible show rSetL _ _ _ _ _); refine c_setL (by lcg_sub) (by rfl) ?_)
  | ((with_reducible show rLenQ _ _ _ _); first | (refine c_lenL (by lcg_src) ?_) | (refine c_lenT (by lcg_src) ?_))
  | ((with_reducible show rSlL _ _ _ _ _ _); refine c_slL (by lcg_src) ?_)
  | ((with_reducible show rListQ _ _ _ _); first | (refine c_listL (by lcg_src) ?_) | (refine c_listT (by lcg_src) ?_))
  | ((with_reducible show rI _ _ _ _ _ _); refine c_IC (by first | assumption | decide | omega) ?_)
  | ((with_reducible show rIsi _ _ _ _); refine c_isi (by kp_flats) (by first | assumption | decide +kernel) ?_)
  | ((with_reducible show rIx _ _ _ _ _); refine c_ix (by first | exact .inl ⟨by lcg_src, by first | assumption | rfl⟩ | exact .inr ⟨by lcg_src, by first | assumption | rfl⟩) ?_)
  | ((with_reducible show NewW _ _ _ _); refine newW ?_)
  | ((with_reducible show rCat _ _ _ _); refine c_cat (by lcg_sub) (by lcg_sub) (le_line (by first | decide | (simp only [List.length_append, List.length_cons, List.length_nil]; omega))) ?_)
  | ((with_reducible show aAddS _ _ _ _); refine c_adds (le_line (by first | decide +kernel | assumption)) ?_)
  | ((with_reducible show rIn _ false _ _ _ _); refine c_inL (by lcg_src) (by rfl) (by rfl) ?_)
  | ((with_reducible show rIn _ true _ _ _ _); refine c_niL (by lcg_src) (by rfl) (by rfl) ?_))
/-- one step, with the new object's names -/
local macro_rules | `(tactic| k_offL) => `(tactic| first | lcg_off | ((with_reducible show ∀ _ _, New _ _ _ _ → _); intro _ _ _))
/-- an error that is held -/
local macro_rules | `(tactic| one_item) => `(tactic| first | assumption | (refine ErrV.same ?_ (New.same (by assumption)); one_item) | (refine ErrV.same ?_ (by assumption); one_item))
/-- nothing was changed -/
local macro_rules | `(tactic| one_place) => `(tactic| first | assumption | exact fun _ _ h => h | exact New.same (by assumption) | (refine Same.trans ?_ (New.same (by assumption)); one_place) | (refine Same.trans ?_ (by assumption); one_place))
namespace TD
open PySem PySem.Spec L2 PySem.Calls PySem.TDX
open PyProof.Rows hiding St
def top (i : Nat) : Stmt := PySem.Challenge.pw_turndeal_k72_error_classes.main.body.getD i (.Pass ⟨0, 0, 0, 0⟩)
abbrev s_l_bag : Stmt := top 27
theorem sc_l_bag : FnScope ns_l_bag ps_l_bag (defScope s_l_bag) := ⟨rfl, rfl, rfl, by decide +kernel, rfl, by decide +kernel, by decide +kernel⟩
theorem b_l_bag {P : Program} {w : World} {K : PySem.W.Frag} {mg : Str → Option Value} {base : Heap} {f : Addr} {cdv : Value} {A : Around} {outer : List Env} {s : Shared} {H : Hp} {E : XK} {kk : Nat} (hr : Room kk (A.deeper (envOfC "_law_bag" (defScope s_l_bag) s.heap.objs.size f cdv))) (z_list : mg "list" = none) :
    PSs (cxOf (L2.CX P w) P w K mg base ns_l_bag "_law_bag" (defScope s_l_bag) f cdv A outer s H E) (defBody s_l_bag) (t_l_bag K) :=
  (pss_cons (ps_set (i := 1) sc_l_bag.nd rfl (by first | exact .inl rfl | exact .inr rfl) pe_int)
    (pss_cons (ps_for (passes_of rfl) rfl (pi_list (pe_slice sl_list (pv 0) po_none (po_some pe_int))) (pg_name (i := 2) sc_l_bag.nd rfl (by first | exact .inl rfl | exact .inr rfl)) (pss_one (ps_set (i := 1) sc_l_bag.nd rfl (by first | exact .inl rfl | exact .inr rfl) (pe_op op_mod (pe_op op_add (pe_op op_add (pe_op op_mul (pv 1) pe_int) (pe_op op_mod (pv 2) pe_int)) pe_int) pe_int))))
    (pss_one (ps_ret (pe_lst (pa_cons (pe_callTy call_list_of rfl z_list (by decide +kernel) (pa_cons (pe_slice sl_list (pv 0) po_none (po_some pe_int)) pa_nil)) (pa_cons pe_int (pa_cons pe_int (pa_cons (pv 1) pa_nil)))))))))
abbrev s_l_pull : Stmt := top 28
theorem sc_l_pull : FnScope ns_l_pull ps_l_pull (defScope s_l_pull) := ⟨rfl, rfl, rfl, by decide +kernel, rfl, by decide +kernel, by decide +kernel⟩
theorem b_l_pull {P : Program} {w : World} {K : PySem.W.Frag} {mg : Str → Option Value} {base : Heap} {f : Addr} {cdv : Value} {A : Around} {outer : List Env} {s : Shared} {H : Hp} {E : XK} {kk : Nat} (hr : Room kk (A.deeper (envOfC "_law_pull" (defScope s_l_pull) s.heap.objs.size f cdv))) (z_len : mg "len" = none) :
    PSs (cxOf (L2.CX P w) P w K mg base ns_l_pull "_law_pull" (defScope s_l_pull) f cdv A outer s H E) (defBody s_l_pull) (t_l_pull K) :=
  (C8.pss_cut (ps_if (PW.pt (pw_and (pt_cmpR op_eq (pe_ix ix_list (pv 0) pe_int (fun _ _ => rfl)) pe_int (nomark _)) (pw_and1 (pt_cmpR op_lt (pe_ix ix_list (pv 0) pe_int (fun _ _ => rfl)) (pe_callB call_len_seq rfl z_len (by decide +kernel) (pa_cons (pe_ix ix_list (pv 0) pe_int (fun _ _ => rfl)) pa_nil)) (nomark _))))) (pss_cons (ps_set (i := 2) sc_l_pull.nd rfl (by first | exact .inl rfl | exact .inr rfl) (pe_ix ix_list (pe_ix ix_list (pv 0) pe_int (fun _ _ => rfl)) (pe_ix ix_list (pv 0) pe_int (fun _ _ => rfl)) (fun _ _ => rfl)))
    (pss_cons (ps_asg (pe_op op_add (pe_ix ix_list (pv 0) pe_int (fun _ _ => rfl)) pe_int) (pg_sub (pv 0) pe_int set_list))
    (pss_one (ps_if (pt_cmpR op_ge (pv 2) (pe_op op_pow pe_int pe_int) (nomark _)) (pss_one (ps_asg (pv 2) (pg_sub (pv 0) pe_int set_list))) (pss_one (ps_asg (pe_op op_mod (pe_op op_add (pe_op op_add (pe_op op_mul (pe_ix ix_list (pv 0) pe_int (fun _ _ => rfl)) pe_int) (pe_op op_mul (pe_op op_mod (pv 2) pe_int) pe_int)) pe_int) pe_int) (pg_sub (pv 0) pe_int set_list))))))) pss_nil)
    (pss_cons (ps_if (pt_cmpR op_gt (pe_ix ix_list (pv 0) pe_int (fun _ _ => rfl)) pe_int (nomark _)) (pss_cons (ps_set (i := 3) sc_l_pull.nd rfl (by first | exact .inl rfl | exact .inr rfl) (pe_op op_mod (pe_ix ix_list (pv 0) pe_int (fun _ _ => rfl)) (pv 1)))
    (pss_cons (ps_asg (pe_op op_fdivW (pe_ix ix_list (pv 0) pe_int (fun _ _ => rfl)) (pv 1)) (pg_sub (pv 0) pe_int set_list))
    (pss_one (ps_ret (pv 3))))) pss_nil)
    (pss_cons (ps_set (i := 4) sc_l_pull.nd rfl (by first | exact .inl rfl | exact .inr rfl) (pe_ix ix_list (pv 0) pe_int (fun _ _ => rfl)))
    (pss_cons (ps_asg (pe_op op_mod (pe_op op_add (pe_op op_add (pe_op op_mul (pv 4) (pv 4)) (pe_op op_mul (pv 4) pe_int)) pe_int) pe_int) (pg_sub (pv 0) pe_int set_list))
    (pss_one (ps_ret (pe_op op_mod (pe_op op_add (pe_op op_fdivW (pe_ix ix_list (pv 0) pe_int (fun _ _ => rfl)) pe_int) (pe_op op_mul (pe_op op_mod (pe_ix ix_list (pv 0) pe_int (fun _ _ => rfl)) pe_int) pe_int)) (pv 1))))))))
abbrev s_l_like : Stmt := top 29
theorem sc_l_like : FnScope ns_l_like ps_l_like (defScope s_l_like) := ⟨rfl, rfl, rfl, by decide +kernel, rfl, by decide +kernel, by decide +kernel⟩
theorem b_l_like {P : Program} {w : World} {K : PySem.W.Frag} {mg : Str → Option Value} {base : Heap} {f : Addr} {cdv : Value} {A : Around} {outer : List Env} {s : Shared} {H : Hp} {E : XK} {kk : Nat} {sp_l_like : Sp} {k_l_like : Nat} (hr : Room kk (A.deeper (envOfC "_law_like" (defScope s_l_like) s.heap.objs.size f cdv))) (z_tuple : mg "tuple" = none) (z_isinstance : mg "isinstance" = none) (z_list : mg "list" = none) (z_dict : mg "dict" = none) (z_bool : mg "bool" = none) (z_len : mg "len" = none) (z_range : mg "range" = none) (F_l_like : OkF P w K mg base k_l_like "_law_like" ["_law_found", "_law_due"] sp_l_like) (h_l_like : k_l_like ≤ kk) (z_all : mg "all" = none) :
    PSs (cxOf (L2.CX P w) P w K mg base ns_l_like "_law_like" (defScope s_l_like) f cdv A outer s H E) (defBody s_l_like) (t_l_like K sp_l_like) :=
  (pss_cons (ps_if (PW.pt (pw_or (pt_cmpR op_ne (pe_callB call_isi rfl z_isinstance (by decide +kernel) (pa_cons (pv 1) (pa_cons (pe_bltn rfl z_tuple (by decide +kernel) rfl) pa_nil))) (pe_callB call_isi rfl z_isinstance (by decide +kernel) (pa_cons (pv 0) (pa_cons (pe_bltn rfl z_tuple (by decide +kernel) rfl) pa_nil))) (nomark _)) (pw_or1 (pt_cmpR op_ne (pe_callB call_isi rfl z_isinstance (by decide +kernel) (pa_cons (pv 1) (pa_cons (pe_bltn rfl z_list (by decide +kernel) rfl) pa_nil))) (pe_callB call_isi rfl z_isinstance (by decide +kernel) (pa_cons (pv 0) (pa_cons (pe_bltn rfl z_list (by decide +kernel) rfl) pa_nil))) (nomark _))))) (pss_one (ps_ret pe_bl)) pss_nil)
    (pss_cons (ps_if (pt_val (pe_callB call_isi rfl z_isinstance (by decide +kernel) (pa_cons (pv 1) (pa_cons (pe_bltn rfl z_dict (by decide +kernel) rfl) pa_nil)))) pss_never pss_nil)
    (pss_cons (ps_if (pt_not (pt_val (pe_callB call_isiT rfl z_isinstance (by decide +kernel) (pa_cons (pv 1) (pa_cons (pe_tup (pa_cons (pe_bltn rfl z_tuple (by decide +kernel) rfl) (pa_cons (pe_bltn rfl z_list (by decide +kernel) rfl) pa_nil))) pa_nil))))) (pss_one (ps_ret (pe_and (pe_cmpR op_eq (pe_callB call_isi rfl z_isinstance (by decide +kernel) (pa_cons (pv 0) (pa_cons (pe_bltn rfl z_bool (by decide +kernel) rfl) pa_nil))) (pe_callB call_isi rfl z_isinstance (by decide +kernel) (pa_cons (pv 1) (pa_cons (pe_bltn rfl z_bool (by decide +kernel) rfl) pa_nil))) (nomark _)) (pe_one (pe_cmpR (op_eqD (hu64 hr)) (pv 0) (pv 1) (nomark _)))))) pss_nil)
    (pss_one (ps_ret (pe_and (pe_cmpR op_eq (pe_callB call_len_seq rfl z_len (by decide +kernel) (pa_cons (pv 0) pa_nil)) (pe_callB call_len_seq rfl z_len (by decide +kernel) (pa_cons (pv 1) pa_nil)) (nomark _)) (pe_one (pe_callB (cr_all rfl) rfl z_all (by decide +kernel) (pa_cons (pe_lc (own := [("_law_k", 3)]) (g := (gName 3)) (tt := tYes) (te := (tCall sp_l_like [] E0 (tCons (tOp (rIx K) (tVar 0) (tVar 3)) (tCons (tOp (rIx K) (tVar 1) (tVar 3)) tNil)))) rfl sc_l_like.nd (pi_range1 rfl z_range (pa_cons (pe_callB call_len_seq rfl z_len (by decide +kernel) (pa_cons (pv 1) pa_nil)) pa_nil)) (blkOk_by (N := ns_l_like) (sc := defScope s_l_like) (by decide +kernel)) (fun _ _ _ _ _ => (pg_name (i := 3) sc_l_like.nd rfl (by first | exact .inl rfl | exact .inr rfl))) (fun _ _ _ _ _ => pts_nil) (fun _ _ _ _ _ => (pe_okF F_l_like hr h_l_like rfl passL (pa_cons (pe_ix ix_seq (pv 0) (pv 3) (fun _ _ => rfl)) (pa_cons (pe_ix ix_seq (pv 1) (pv 3) (fun _ _ => rfl)) pa_nil))))) pa_nil)))))))))
abbrev s_l_field : Stmt := top 30
theorem sc_l_field : FnScope ns_l_field ps_l_field (defScope s_l_field) := ⟨rfl, rfl, rfl, by decide +kernel, rfl, by decide +kernel, by decide +kernel⟩
theorem b_l_field {P : Program} {w : World} {K : PySem.W.Frag} {mg : Str → Option Value} {base : Heap} {f : Addr} {cdv : Value} {A : Around} {outer : List Env} {s : Shared} {H : Hp} {E : XK} {kk : Nat} (hr : Room kk (A.deeper (envOfC "_law_field" (defScope s_l_field) s.heap.objs.size f cdv))) :
    PSs (cxOf (L2.CX P w) P w K mg base ns_l_field "_law_field" (defScope s_l_field) f cdv A outer s H E) (defBody s_l_field) (t_l_field K) :=
  (pss_cons (ps_if (pt_cmpR op_in_seq (pe_xat (pv 0)) (pe_lst (pa_cons pe_str (pa_cons pe_str (pa_cons pe_str pa_nil)))) (by with_unfolding_all rfl)) (pss_one (ps_ret (pe_xat (pv 0)))) pss_nil)
    (pss_cons (ps_if (pt_cmpR op_in_seq (pe_xat (pv 0)) (pe_lst (pa_cons pe_str (pa_cons pe_str (pa_cons pe_str pa_nil)))) (by with_unfolding_all rfl)) (pss_one (ps_ret (pe_xat (pv 0)))) pss_nil)
    (pss_cons (ps_if (pt_cmpR op_in_seq (pe_xat (pv 0)) (pe_lst (pa_cons pe_str (pa_cons pe_str pa_nil))) (by with_unfolding_all rfl)) (pss_one (ps_ret (pe_xat (pv 0)))) pss_nil)
    (pss_cons (ps_if (pt_cmpR op_in_seq (pe_xat (pv 0)) (pe_lst (pa_cons pe_str (pa_cons pe_str (pa_cons pe_str pa_nil)))) (by with_unfolding_all rfl)) (pss_one (ps_ret (pe_xat (pv 0)))) pss_nil)
    (pss_cons (ps_if (pt_cmpR op_in_seq (pe_xat (pv 0)) (pe_lst (pa_cons pe_str (pa_cons pe_str pa_nil))) (by with_unfolding_all rfl)) (pss_one (ps_ret (pe_xat (pv 0)))) pss_nil)
    (pss_cons (ps_if (pt_cmpR op_in_seq (pe_xat (pv 0)) (pe_lst (pa_cons pe_str (pa_cons pe_str pa_nil))) (by with_unfolding_all rfl)) (pss_one (ps_ret (pe_ifExp (pt_cmpR op_eq (pe_xat (pv 0)) pe_str (nomark _)) (pe_xat (pv 0)) (pe_xat (pv 0))))) pss_nil)
    (pss_one (ps_ret (pe_ifExp (pt_cmpR op_eq (pe_xat (pv 0)) pe_str (nomark _)) (pe_xat (pv 0)) (pe_ifExp (pt_cmpR op_eq (pe_xat (pv 0)) pe_str (nomark _)) (pe_xat (pv 0)) pe_non))))))))))
abbrev s_l_all : Stmt := top 31
theorem sc_l_all : FnScope ns_l_all ps_l_all (defScope s_l_all) := ⟨rfl, rfl, rfl, by decide +kernel, rfl, by decide +kernel, by decide +kernel⟩
theorem b_l_all {P : Program} {w : World} {K : PySem.W.Frag} {mg : Str → Option Value} {base : Heap} {f : Addr} {cdv : Value} {A : Around} {outer : List Env} {s : Shared} {H : Hp} {E : XK} {kk : Nat} {kx : Nat} (hr : Room kk (A.deeper (envOfC "_law_all" (defScope s_l_all) s.heap.objs.size f cdv))) (F_Clash : OkX P w K mg base kx "Clash" ["self", "stamp"] (spE1 K (He.ga K "Clash") "Clash" "stamp")) (h_Clash : kx + 1 ≤ kk) (F_Taken : OkX P w K mg base kx "Taken" ["self", "stamp"] (spE1 K (He.ga K "Taken") "Taken" "stamp")) (h_Taken : kx + 1 ≤ kk) (F_BadStamp : OkX P w K mg base kx "BadStamp" ["self"] (spE0 K (He.ga K "BadStamp") "BadStamp")) (h_BadStamp : kx + 1 ≤ kk) (F_OutOfRange : OkX P w K mg base kx "OutOfRange" ["self", "number"] (spE1 K (He.ga K "OutOfRange") "OutOfRange" "number")) (h_OutOfRange : kx + 1 ≤ kk) (F_NotEqual : OkX P w K mg base kx "NotEqual" ["self", "item"] (spE1 K (He.ga K "NotEqual") "NotEqual" "item")) (h_NotEqual : kx + 1 ≤ kk) (F_TooLong : OkX P w K mg base kx "TooLong" ["self", "most"] (spE1 K (He.ga K "TooLong") "TooLong" "most")) (h_TooLong : kx + 1 ≤ kk) (F_TooLarge : OkX P w K mg base kx "TooLarge" ["self", "most"] (spE1 K (He.ga K "TooLarge") "TooLarge" "most")) (h_TooLarge : kx + 1 ≤ kk) (F_BadStep : OkX P w K mg base kx "BadStep" ["self", "at"] (spE1 K (He.ga K "BadStep") "BadStep" "at")) (h_BadStep : kx + 1 ≤ kk) (F_BadOwner : OkX P w K mg base kx "BadOwner" ["self", "owner"] (spE1 K (He.ga K "BadOwner") "BadOwner" "owner")) (h_BadOwner : kx + 1 ≤ kk) (F_BadClass : OkX P w K mg base kx "BadClass" ["self"] (spE0 K (He.ga K "BadClass") "BadClass")) (h_BadClass : kx + 1 ≤ kk) (F_BadTree : OkX P w K mg base kx "BadTree" ["self"] (spE0 K (He.ga K "BadTree") "BadTree")) (h_BadTree : kx + 1 ≤ kk) (F_BadPage : OkX P w K mg base kx "BadPage" ["self", "row"] (spE1 K (He.ga K "BadPage") "BadPage" "row")) (h_BadPage : kx + 1 ≤ kk) (F_BadText : OkX P w K mg base kx "BadText" ["self", "at"] (spE1 K (He.ga K "BadText") "BadText" "at")) (h_BadText : kx + 1 ≤ kk) (F_BadCommand : OkX P w K mg base kx "BadCommand" ["self", "at"] (spE1 K (He.ga K "BadCommand") "BadCommand" "at")) (h_BadCommand : kx + 1 ≤ kk) (F_BadFormula : OkX P w K mg base kx "BadFormula" ["self"] (spE0 K (He.ga K "BadFormula") "BadFormula")) (h_BadFormula : kx + 1 ≤ kk) (F_BadName : OkX P w K mg base kx "BadName" ["self", "name"] (spE1 K (He.ga K "BadName") "BadName" "name")) (h_BadName : kx + 1 ≤ kk) (F_Full : OkX P w K mg base kx "Full" ["self", "most"] (spE1 K (He.ga K "Full") "Full" "most")) (h_Full : kx + 1 ≤ kk) (F_OtherBase : OkX P w K mg base kx "OtherBase" ["self"] (spE0 K (He.ga K "OtherBase") "OtherBase")) (h_OtherBase : kx + 1 ≤ kk) (F_NothingLeft : OkX P w K mg base kx "NothingLeft" ["self"] (spE0 K (He.ga K "NothingLeft") "NothingLeft")) (h_NothingLeft : kx + 1 ≤ kk) (F_NoRoom : OkX P w K mg base kx "NoRoom" ["self", "step"] (spE1 K (He.ga K "NoRoom") "NoRoom" "step")) (h_NoRoom : kx + 1 ≤ kk) (F_NoItem : OkX P w K mg base kx "NoItem" ["self", "owner"] (spE1 K (He.ga K "NoItem") "NoItem" "owner")) (h_NoItem : kx + 1 ≤ kk) (F_NoStamp : OkX P w K mg base kx "NoStamp" ["self", "stamp"] (spE1 K (He.ga K "NoStamp") "NoStamp" "stamp")) (h_NoStamp : kx + 1 ≤ kk) (F_Unknown : OkX P w K mg base kx "Unknown" ["self", "name"] (spE1 K (He.ga K "Unknown") "Unknown" "name")) (h_Unknown : kx + 1 ≤ kk) :
    PSs (cxOf (L2.CX P w) P w K mg base ns_l_all "_law_all" (defScope s_l_all) f cdv A outer s H E) (defBody s_l_all) (t_l_all K) :=
  (pss_cons (ps_set (i := 1) sc_l_all.nd rfl (by first | exact .inl rfl | exact .inr rfl) (pe_lst (pa_cons (pe_xval0 F_BadTree hr h_BadTree rfl) (pa_cons (pe_xval0 F_BadClass hr h_BadClass rfl) (pa_cons (pe_xval F_BadOwner hr h_BadOwner rfl (pa_cons (pv 0) pa_nil)) (pa_cons (pe_xval F_BadStep hr h_BadStep rfl (pa_cons (pv 0) pa_nil)) (pa_cons (pe_xval F_TooLarge hr h_TooLarge rfl (pa_cons (pv 0) pa_nil)) (pa_cons (pe_xval F_TooLong hr h_TooLong rfl (pa_cons (pv 0) pa_nil)) (pa_cons (pe_xval F_NotEqual hr h_NotEqual rfl (pa_cons (pv 0) pa_nil)) (pa_cons (pe_xval F_OutOfRange hr h_OutOfRange rfl (pa_cons (pv 0) pa_nil)) (pa_cons (pe_xval0 F_BadStamp hr h_BadStamp rfl) (pa_cons (pe_xval F_Taken hr h_Taken rfl (pa_cons (pv 0) pa_nil)) (pa_cons (pe_xval F_Clash hr h_Clash rfl (pa_cons (pv 0) pa_nil)) pa_nil)))))))))))))
    (pss_cons (ps_set (i := 1) sc_l_all.nd rfl (by first | exact .inl rfl | exact .inr rfl) (pe_op op_cat (pv 1) (pe_lst (pa_cons (pe_xval0 F_OtherBase hr h_OtherBase rfl) (pa_cons (pe_xval F_Full hr h_Full rfl (pa_cons (pv 0) pa_nil)) (pa_cons (pe_xval F_BadName hr h_BadName rfl (pa_cons (pv 0) pa_nil)) (pa_cons (pe_xval0 F_BadFormula hr h_BadFormula rfl) (pa_cons (pe_xval F_BadCommand hr h_BadCommand rfl (pa_cons (pv 0) pa_nil)) (pa_cons (pe_xval F_BadText hr h_BadText rfl (pa_cons (pv 0) pa_nil)) (pa_cons (pe_xval F_BadPage hr h_BadPage rfl (pa_cons (pv 0) pa_nil)) pa_nil))))))))))
    (pss_one (ps_ret (pe_op op_cat (pv 1) (pe_lst (pa_cons (pe_xval F_Unknown hr h_Unknown rfl (pa_cons (pv 0) pa_nil)) (pa_cons (pe_xval F_NoStamp hr h_NoStamp rfl (pa_cons (pv 0) pa_nil)) (pa_cons (pe_xval F_NoItem hr h_NoItem rfl (pa_cons (pv 0) pa_nil)) (pa_cons (pe_xval F_NoRoom hr h_NoRoom rfl (pa_cons (pv 0) pa_nil)) (pa_cons (pe_xval0 F_NothingLeft hr h_NothingLeft rfl) pa_nil)))))))))))
abbrev s_l_flags : Stmt := top 32
theorem sc_l_flags : FnScope ns_l_flags ps_l_flags (defScope s_l_flags) := ⟨rfl, rfl, rfl, by decide +kernel, rfl, by decide +kernel, by decide +kernel⟩
theorem b_l_flags {P : Program} {w : World} {K : PySem.W.Frag} {mg : Str → Option Value} {base : Heap} {f : Addr} {cdv : Value} {A : Around} {outer : List Env} {s : Shared} {H : Hp} {E : XK} {kk : Nat} (hr : Room kk (A.deeper (envOfC "_law_flags" (defScope s_l_flags) s.heap.objs.size f cdv))) (g_TooLarge : mg "TooLarge" = some (.ref (He.ga K "TooLarge"))) (z_isinstance : mg "isinstance" = none) (g_BadStep : mg "BadStep" = some (.ref (He.ga K "BadStep"))) (g_BadOwner : mg "BadOwner" = some (.ref (He.ga K "BadOwner"))) (g_BadClass : mg "BadClass" = some (.ref (He.ga K "BadClass"))) (g_BadTree : mg "BadTree" = some (.ref (He.ga K "BadTree"))) (g_OutOfRange : mg "OutOfRange" = some (.ref (He.ga K "OutOfRange"))) (g_NotEqual : mg "NotEqual" = some (.ref (He.ga K "NotEqual"))) (g_TooLong : mg "TooLong" = some (.ref (He.ga K "TooLong"))) (g_Taken : mg "Taken" = some (.ref (He.ga K "Taken"))) (g_BadStamp : mg "BadStamp" = some (.ref (He.ga K "BadStamp"))) (g_BadFormula : mg "BadFormula" = some (.ref (He.ga K "BadFormula"))) (g_BadName : mg "BadName" = some (.ref (He.ga K "BadName"))) (g_Full : mg "Full" = some (.ref (He.ga K "Full"))) (g_OtherBase : mg "OtherBase" = some (.ref (He.ga K "OtherBase"))) (g_Clash : mg "Clash" = some (.ref (He.ga K "Clash"))) (g_BadPage : mg "BadPage" = some (.ref (He.ga K "BadPage"))) (g_BadText : mg "BadText" = some (.ref (He.ga K "BadText"))) (g_BadCommand : mg "BadCommand" = some (.ref (He.ga K "BadCommand"))) (g_NoStamp : mg "NoStamp" = some (.ref (He.ga K "NoStamp"))) (g_Unknown : mg "Unknown" = some (.ref (He.ga K "Unknown"))) (g_NothingLeft : mg "NothingLeft" = some (.ref (He.ga K "NothingLeft"))) (g_NoRoom : mg "NoRoom" = some (.ref (He.ga K "NoRoom"))) (g_NoItem : mg "NoItem" = some (.ref (He.ga K "NoItem"))) :
    PSs (cxOf (L2.CX P w) P w K mg base ns_l_flags "_law_flags" (defScope s_l_flags) f cdv A outer s H E) (defBody s_l_flags) (t_l_flags K) :=
  (pss_cons (ps_set (i := 1) sc_l_flags.nd rfl (by first | exact .inl rfl | exact .inr rfl) (pe_lst (pa_cons (pe_callB call_isG rfl z_isinstance (by decide +kernel) (pa_cons (pv 0) (pa_cons (pe_glob rfl g_BadTree rfl) pa_nil))) (pa_cons (pe_callB call_isG rfl z_isinstance (by decide +kernel) (pa_cons (pv 0) (pa_cons (pe_glob rfl g_BadClass rfl) pa_nil))) (pa_cons (pe_callB call_isG rfl z_isinstance (by decide +kernel) (pa_cons (pv 0) (pa_cons (pe_glob rfl g_BadOwner rfl) pa_nil))) (pa_cons (pe_callB call_isG rfl z_isinstance (by decide +kernel) (pa_cons (pv 0) (pa_cons (pe_glob rfl g_BadStep rfl) pa_nil))) (pa_cons (pe_callB call_isG rfl z_isinstance (by decide +kernel) (pa_cons (pv 0) (pa_cons (pe_glob rfl g_TooLarge rfl) pa_nil))) pa_nil)))))))
    (pss_cons (ps_set (i := 1) sc_l_flags.nd rfl (by first | exact .inl rfl | exact .inr rfl) (pe_op op_cat (pv 1) (pe_lst (pa_cons (pe_callB call_isG rfl z_isinstance (by decide +kernel) (pa_cons (pv 0) (pa_cons (pe_glob rfl g_TooLong rfl) pa_nil))) (pa_cons (pe_callB call_isG rfl z_isinstance (by decide +kernel) (pa_cons (pv 0) (pa_cons (pe_glob rfl g_NotEqual rfl) pa_nil))) (pa_cons (pe_callB call_isG rfl z_isinstance (by decide +kernel) (pa_cons (pv 0) (pa_cons (pe_glob rfl g_OutOfRange rfl) pa_nil))) pa_nil))))))
    (pss_cons (ps_set (i := 1) sc_l_flags.nd rfl (by first | exact .inl rfl | exact .inr rfl) (pe_op op_cat (pv 1) (pe_lst (pa_cons (pe_callB call_isG rfl z_isinstance (by decide +kernel) (pa_cons (pv 0) (pa_cons (pe_glob rfl g_BadStamp rfl) pa_nil))) (pa_cons (pe_callB call_isG rfl z_isinstance (by decide +kernel) (pa_cons (pv 0) (pa_cons (pe_glob rfl g_Taken rfl) pa_nil))) pa_nil)))))
    (pss_cons (ps_set (i := 1) sc_l_flags.nd rfl (by first | exact .inl rfl | exact .inr rfl) (pe_op op_cat (pv 1) (pe_lst (pa_cons (pe_callB call_isG rfl z_isinstance (by decide +kernel) (pa_cons (pv 0) (pa_cons (pe_glob rfl g_Clash rfl) pa_nil))) (pa_cons (pe_callB call_isG rfl z_isinstance (by decide +kernel) (pa_cons (pv 0) (pa_cons (pe_glob rfl g_OtherBase rfl) pa_nil))) (pa_cons (pe_callB call_isG rfl z_isinstance (by decide +kernel) (pa_cons (pv 0) (pa_cons (pe_glob rfl g_Full rfl) pa_nil))) (pa_cons (pe_callB call_isG rfl z_isinstance (by decide +kernel) (pa_cons (pv 0) (pa_cons (pe_glob rfl g_BadName rfl) pa_nil))) (pa_cons (pe_callB call_isG rfl z_isinstance (by decide +kernel) (pa_cons (pv 0) (pa_cons (pe_glob rfl g_BadFormula rfl) pa_nil))) pa_nil))))))))
    (pss_cons (ps_set (i := 1) sc_l_flags.nd rfl (by first | exact .inl rfl | exact .inr rfl) (pe_op op_cat (pv 1) (pe_lst (pa_cons (pe_callB call_isG rfl z_isinstance (by decide +kernel) (pa_cons (pv 0) (pa_cons (pe_glob rfl g_BadCommand rfl) pa_nil))) (pa_cons (pe_callB call_isG rfl z_isinstance (by decide +kernel) (pa_cons (pv 0) (pa_cons (pe_glob rfl g_BadText rfl) pa_nil))) (pa_cons (pe_callB call_isG rfl z_isinstance (by decide +kernel) (pa_cons (pv 0) (pa_cons (pe_glob rfl g_BadPage rfl) pa_nil))) pa_nil))))))
    (pss_cons (ps_set (i := 1) sc_l_flags.nd rfl (by first | exact .inl rfl | exact .inr rfl) (pe_op op_cat (pv 1) (pe_lst (pa_cons (pe_callB call_isG rfl z_isinstance (by decide +kernel) (pa_cons (pv 0) (pa_cons (pe_glob rfl g_Unknown rfl) pa_nil))) (pa_cons (pe_callB call_isG rfl z_isinstance (by decide +kernel) (pa_cons (pv 0) (pa_cons (pe_glob rfl g_NoStamp rfl) pa_nil))) pa_nil)))))
    (pss_one (ps_ret (pe_op op_cat (pv 1) (pe_lst (pa_cons (pe_callB call_isG rfl z_isinstance (by decide +kernel) (pa_cons (pv 0) (pa_cons (pe_glob rfl g_NoItem rfl) pa_nil))) (pa_cons (pe_callB call_isG rfl z_isinstance (by decide +kernel) (pa_cons (pv 0) (pa_cons (pe_glob rfl g_NoRoom rfl) pa_nil))) (pa_cons (pe_callB call_isG rfl z_isinstance (by decide +kernel) (pa_cons (pv 0) (pa_cons (pe_glob rfl g_NothingLeft rfl) pa_nil))) pa_nil)))))))))))))
abbrev s_law : Stmt := top 33
theorem sc_law : FnScope ns_law ps_law (defScope s_law) := ⟨rfl, rfl, rfl, by decide +kernel, rfl, by decide +kernel, by decide +kernel⟩
theorem b_law {P : Program} {w : World} {K : PySem.W.Frag} {mg : Str → Option Value} {base : Heap} {f : Addr} {cdv : Value} {A : Around} {outer : List Env} {s : Shared} {H : Hp} {E : XK} {kk : Nat} {sp_l_all : Sp} {k_l_all : Nat} {sp_l_bag : Sp} {k_l_bag : Nat} {sp_l_field : Sp} {k_l_field : Nat} {sp_l_flags : Sp} {k_l_flags : Nat} {sp_l_like : Sp} {k_l_like : Nat} {sp_l_pull : Sp} {k_l_pull : Nat} (hr : Room kk (A.deeper (envOfC "law" (defScope s_law) s.heap.objs.size f cdv))) (F_l_bag : OkF P w K mg base k_l_bag "_law_bag" ["_law_script"] sp_l_bag) (h_l_bag : k_l_bag ≤ kk) (F_l_pull : OkF P w K mg base k_l_pull "_law_pull" ["_law_bag_here", "_law_amount"] sp_l_pull) (h_l_pull : k_l_pull ≤ kk) (F_l_all : OkF P w K mg base k_l_all "_law_all" ["_law_n"] sp_l_all) (h_l_all : k_l_all ≤ kk) (z_range : mg "range" = none) (F_l_flags : OkF P w K mg base k_l_flags "_law_flags" ["_law_e"] sp_l_flags) (h_l_flags : k_l_flags ≤ kk) (F_l_like : OkF P w K mg base k_l_like "_law_like" ["_law_found", "_law_due"] sp_l_like) (h_l_like : k_l_like ≤ kk) (z_LookupError : mg "LookupError" = none) (z_isinstance : mg "isinstance" = none) (g_TurnMissing : mg "TurnMissing" = some (.ref (He.ga K "TurnMissing"))) (z_ValueError : mg "ValueError" = none) (g_TurnError : mg "TurnError" = some (.ref (He.ga K "TurnError"))) (F_l_field : OkF P w K mg base k_l_field "_law_field" ["_law_e"] sp_l_field) (h_l_field : k_l_field ≤ kk) :
    PSs (cxOf (L2.CX P w) P w K mg base ns_law "law" (defScope s_law) f cdv A outer s H E) (defBody s_law) (t_law K sp_l_all sp_l_bag sp_l_field sp_l_flags sp_l_like sp_l_pull) :=
  (pss_cons (ps_set (i := 1) sc_law.nd rfl (by first | exact .inl rfl | exact .inr rfl) (pe_okF F_l_bag hr h_l_bag rfl passL (pa_cons (pv 0) pa_nil)))
    (pss_cons (ps_par (i := 2) (j := 3) rfl sc_law.nd rfl rfl (by decide) rfl rfl (pa_cons (pe_okF F_l_pull hr h_l_pull rfl passL (pa_cons (pv 1) (pa_cons (pe_op op_pow pe_int pe_int) pa_nil))) (pa_cons (pe_okF F_l_pull hr h_l_pull rfl passL (pa_cons (pv 1) (pa_cons pe_int pa_nil))) pa_nil)) rfl)
    (pss_cons (ps_set (i := 4) sc_law.nd rfl (by first | exact .inl rfl | exact .inr rfl) pe_str)
    (pss_cons (ps_set (i := 4) sc_law.nd rfl (by first | exact .inl rfl | exact .inr rfl) (pe_op op_add_str (pv 4) pe_str))
    (pss_cons (ps_set (i := 4) sc_law.nd rfl (by first | exact .inl rfl | exact .inr rfl) (pe_split (pe_op op_add_str (pv 4) pe_str) pe_str))
    (pss_cons (ps_set (i := 5) sc_law.nd rfl (by first | exact .inl rfl | exact .inr rfl) (pe_okF F_l_all hr h_l_all rfl passL (pa_cons (pv 2) pa_nil)))
    (pss_cons (ps_set (i := 6) sc_law.nd rfl (by first | exact .inl rfl | exact .inr rfl) (pe_lst (pa_cons pe_str (pa_cons pe_str (pa_cons pe_str (pa_cons pe_str (pa_cons pe_str (pa_cons pe_str pa_nil))))))))
    (pss_cons (ps_for (passes_of rfl) rfl (pi_range1 rfl z_range (pa_cons pe_int pa_nil)) (pg_name (i := 7) sc_law.nd rfl (by first | exact .inl rfl | exact .inr rfl)) (pss_cons (ps_set (i := 8) sc_law.nd rfl (by first | exact .inl rfl | exact .inr rfl) (pe_op op_mod (pe_op op_add (pv 3) (pv 7)) pe_int))
    (pss_cons (ps_set (i := 9) sc_law.nd rfl (by first | exact .inl rfl | exact .inr rfl) (pe_ix ix_list (pv 5) (pv 8) (fun _ _ => rfl)))
    (pss_cons (ps_if (PW.pt (pw_or (pt_not (pt_val (pe_okF F_l_like hr h_l_like rfl passL (pa_cons (pe_okF F_l_flags hr h_l_flags rfl passL (pa_cons (pv 9) pa_nil)) (pa_cons (pe_lc (own := [("_law_j", 10)]) (g := (gName 10)) (tt := tYes) (te := (tOp rEq (tVar 10) (tVar 8))) rfl sc_law.nd (pi_range1 rfl z_range (pa_cons pe_int pa_nil)) (blkOk_by (N := ns_law) (sc := defScope s_law) (by decide +kernel)) (fun _ _ _ _ _ => (pg_name (i := 10) sc_law.nd rfl (by first | exact .inl rfl | exact .inr rfl))) (fun _ _ _ _ _ => pts_nil) (fun _ _ _ _ _ => (pe_cmpR op_eq (pv 10) (pv 8) (nomark _)))) pa_nil))))) (pw_or1 (pt_cmpR op_ne (pe_xat (pv 9)) (pe_ix ix_list (pv 4) (pv 8) (fun _ _ => rfl)) (nomark _))))) (pss_one (ps_ret pe_bl)) pss_nil)
    (pss_cons (ps_set (i := 11) sc_law.nd rfl (by first | exact .inl rfl | exact .inr rfl) (pe_lst (pa_cons (pe_callB call_isG rfl z_isinstance (by decide +kernel) (pa_cons (pv 9) (pa_cons (pe_glob rfl g_TurnError rfl) pa_nil))) (pa_cons (pe_callB call_isG rfl z_isinstance (by decide +kernel) (pa_cons (pv 9) (pa_cons (pe_bltn rfl z_ValueError (by decide +kernel) rfl) pa_nil))) (pa_cons (pe_callB call_isG rfl z_isinstance (by decide +kernel) (pa_cons (pv 9) (pa_cons (pe_glob rfl g_TurnMissing rfl) pa_nil))) (pa_cons (pe_callB call_isG rfl z_isinstance (by decide +kernel) (pa_cons (pv 9) (pa_cons (pe_bltn rfl z_LookupError (by decide +kernel) rfl) pa_nil))) pa_nil))))))
    (pss_one (ps_if (PW.pt (pw_or (pt_not (pt_val (pe_okF F_l_like hr h_l_like rfl passL (pa_cons (pv 11) (pa_cons (pe_lst (pa_cons (pe_cmpR op_lt (pv 8) pe_int (nomark _)) (pa_cons (pe_cmpR op_lt (pv 8) pe_int (nomark _)) (pa_cons (pe_cmpR op_gt (pv 8) pe_int (nomark _)) (pa_cons (pe_cmpR op_gt (pv 8) pe_int (nomark _)) pa_nil))))) pa_nil))))) (pw_or1 (pt_cmpR op_ne (pe_okF F_l_field hr h_l_field rfl passL (pa_cons (pv 9) pa_nil)) (pe_ifExp (pt_cmpR op_in_seq (pe_ix ix_list (pv 4) (pv 8) (fun _ _ => rfl)) (pv 6) (by with_unfolding_all rfl)) pe_non (pv 2)) (nomark _))))) (pss_one (ps_ret pe_bl)) pss_nil)))))))
    (pss_one (ps_ret pe_bl))))))))))
end TD

end
section
open TD L2
/-- what stands at an address -/
local macro_rules | `(tactic| lcg_sub) => `(tactic| first | assumption | exact upd_same | exact New.at_ (by assumption) | (refine New.same (by assumption) _ _ ?_; lcg_sub) | (refine (show Same _ _ from by assumption) _ _ ?_; lcg_sub) | (refine Eq.trans (upd_ne (by first | assumption | exact Ne.symm (by assumption))) ?_; lcg_sub))
/-- a list, a tuple to be read -/
local macro_rules | `(tactic| lcg_src) => `(tactic| first | assumption | exact SqL.of (by lcg_sub) | exact SqT.of (by lcg_sub) | (refine Same.seq (New.same (by assumption)) ?_; lcg_src) | (refine Same.seq (by assumption) ?_; lcg_src) | (refine sameT (New.same (by assumption)) ?_; lcg_src) | (refine sameT (by assumption) ?_; lcg_src))
/-- data at a value -/
local macro_rules | `(tactic| kp_flats) => `(tactic| first | assumption | exact Dp.str _ | exact Dp.int _ | exact Dp.non | exact Dp.bl _ | (refine dp_same (New.same (by assumption)) ?_; kp_flats) | (refine dp_same (by assumption) ?_; kp_flats))
/-- one step of a reading -/
local macro_rules | `(tactic| lcg_off) => `(tactic| first
  | with_reducible refine Stp.go ?_
  | ((with_reducible show tVar _ _ _ _); refine c_var (by rfl) ?_)
  | ((with_reducible show rIxL _ _ _ _ _); refine c_ixL (by lcg_src) (by rfl) ?_)
  | ((with_reducible show rIxT _ _ _ _ _); refine c_ixT (by lcg_src) (by rfl) ?_)
  | ((with_reducible show rSetL _ _ _ _ _); refine c_setL (by lcg_sub) (by rfl) ?_)
  | ((with_reducible show rLenQ _ _ _ _); first | (refine c_lenL (by lcg_src) ?_) | (refine c_lenT (by lcg_src) ?_))
  | ((with_reducible show rSlL _ _ _ _ _ _); refine c_slL (by lcg_src) ?_)
  | ((with_reducible show rListQ _ _ _ _); first | (refine c_listL (by lcg_src) ?_) | (refine c_listT (by lcg_src) ?_))
  | ((with_reducible show rI _ _ _ _ _ _); refine c_IC (by first | assumption | decide | omega) ?_)
  | ((with_reducible show rIsi _ _ _ _); refine c_isi (by kp_flats) (by first | assumption | decide +kernel) ?_)
  | ((with_reducible show rIx _ _ _ _ _); refine c_ix (by first | exact .inl ⟨by lcg_src, by first | assumption | rfl⟩ | exact .inr ⟨by lcg_src, by first | assumption | rfl⟩) ?_)
  | ((with_reducible show NewW _ _ _ _); refine newW ?_)
  | ((with_reducible show rCat _ _ _ _); refine c_cat (by lcg_sub) (by lcg_sub) (le_line (by first | decide | (simp only [List.length_append, List.length_cons, List.length_nil]; omega))) ?_)
  | ((with_reducible show aAddS _ _ _ _); refine c_adds (le_line (by first | decide +kernel | assumption)) ?_)
  | ((with_reducible show rIn _ false _ _ _ _); refine c_inL (by lcg_src) (by rfl) (by rfl) ?_)
  | ((with_reducible show rIn _ true _ _ _ _); refine c_niL (by lcg_src) (by rfl) (by rfl) ?_))
/-- one step, with the new object's names -/
local macro_rules | `(tactic| k_offL) => `(tactic| first | lcg_off | ((with_reducible show ∀ _ _, New _ _ _ _ → _); intro _ _ _))
/-- an error that is held -/
local macro_rules | `(tactic| one_item) => `(tactic| first | assumption | (refine ErrV.same ?_ (New.same (by assumption)); one_item) | (refine ErrV.same ?_ (by assumption); one_item))
/-- nothing was changed -/
local macro_rules | `(tactic| one_place) => `(tactic| first | assumption | exact fun _ _ h => h | exact New.same (by assumption) | (refine Same.trans ?_ (New.same (by assumption)); one_place) | (refine Same.trans ?_ (by assumption); one_place))
namespace TD
open PySem PySem.Spec L2 PySem.Calls
open PyProof.Rows hiding St
/-! ### comprehensions whose block only makes new objects; Z by the turn, the items so far and the heap without the new list -/
section
variable {K : PySem.W.Frag} {g : TG} {tt : TT} {te : TE} {vs : List Nat} {σ : L2.St} {H1 : Hp} {Q : VK}
structure LcI (Z : Nat → List V → Hp → Prop) (H1 : Hp) (D : Addr) (i : Nat) (acc : List V) (H : Hp) : Prop where
  same : Same H1 H
  at_ : H D = some (.lst acc)
  len : acc.length ≤ i
  z : Z i acc (mask D H)
def LcB (Z : Nat → List V → Hp → Prop) (g : TG) (tt : TT) (te : TE) (vs : List Nat) (σ : L2.St) (H1 : Hp) (i : Nat) (x : V) : Prop := ∀ D acc H (Q' : VK) (N : Hp → Prop), H1 D = none → LcI Z H1 D i acc H →
  (∀ y H4, Same H H4 → Z (i + 1) (acc ++ [y]) (mask D H4) → Q' y H4) → (∀ H3, Same H H3 → Z (i + 1) acc (mask D H3) → N H3) →
  g x (wipe σ vs) H fun σ2 H2 => wipe σ2 vs = wipe σ vs ∧ tt σ2 H2 fun b H3 => if b = true then te σ2 H3 Q' else N H3
theorem LcI.init {Z : Nat → List V → Hp → Prop} {D : Addr} (hD : H1 D = none) (h0 : Z 0 [] H1) : LcI Z H1 D 0 [] (upd H1 D (.lst [])) := by
  refine ⟨(new_upd hD).same, upd_same, Nat.le_refl _, ?_⟩
  rw [mask_upd]
  have e : mask D H1 = H1 := funext fun a => by
    by_cases h : a = D
    · rw [h, mask_at, hD]
    · rw [mask_ne h]
  rw [e]; exact h0
theorem LcI.new {Z : Nat → List V → Hp → Prop} {D : Addr} {i : Nat} {acc : List V} {H : Hp} (h : LcI Z H1 D i acc H) (hD : H1 D = none) : New H1 H D (.lst acc) := ⟨hD, h.same, h.at_⟩
theorem LcB.step {Z : Nat → List V → Hp → Prop} {i : Nat} {x : V} (hs : LcB Z g tt te vs σ H1 i x) (hi : i < sizeLine) {D : Addr} (hD : H1 D = none) {H : Hp} (p : ∃ acc, LcI Z H1 D i acc H) : g x (wipe σ vs) H fun σ2 H2 => wipe σ2 vs = wipe σ vs ∧ tt σ2 H2 fun b H3 =>
      if b = true then te σ2 H3 fun y H4 => ∃ acc, H4 D = some (.lst acc) ∧ acc.length < sizeLine ∧ (∃ acc', LcI Z H1 D (i + 1) acc' (upd H4 D (.lst (acc ++ [y])))) else ∃ acc', LcI Z H1 D (i + 1) acc' H3 := by
  obtain ⟨acc, p⟩ := p
  refine hs D acc H _ _ hD p (fun y H4 s z => ?_) (fun H3 s z => ⟨acc, p.same.trans s, s _ _ p.at_, Nat.le_succ_of_le p.len, z⟩)
  refine ⟨acc, s _ _ p.at_, Nat.lt_of_le_of_lt p.len hi, acc ++ [y], fun a o e => ?_, upd_same, ?_, ?_⟩
  · rw [upd_ne (ne_of_none e hD)]; exact s _ _ (p.same _ _ e)
  · rw [List.length_append]; exact Nat.succ_le_succ p.len
  · rw [mask_upd]; exact z
theorem lcRg {lo : Int} {n : Nat} (Z : Nat → List V → Hp → Prop) (hn : n ≤ sizeLine) (h0 : Z 0 [] H1) (hs : ∀ i, i < n → LcB Z g tt te vs σ H1 i (.int (lo + i)))
    (hd : ∀ D acc H', New H1 H' D (.lst acc) → Z n acc (mask D H') → Q (.ref D) H') : LcW (Itr lo n) g tt te vs Q σ H1 := by
  intro D hD
  exact lc_range (fun i H => ∃ acc, LcI Z H1 D i acc H) ⟨[], LcI.init hD h0⟩ (fun i H hi p => (hs i hi).step (Nat.lt_of_lt_of_le hi hn) hD p) fun H ⟨acc, p⟩ => hd D acc H (p.new hD) p.z
theorem lcLg {a : Addr} {xs : List V} (hS : SqL K H1 a xs) (Z : Nat → List V → Hp → Prop) (hn : xs.length ≤ sizeLine) (h0 : Z 0 [] H1) (hs : ∀ i x, xs[i]? = some x → LcB Z g tt te vs σ H1 i x)
    (hd : ∀ D acc H', New H1 H' D (.lst acc) → Z xs.length acc (mask D H') → Q (.ref D) H') : LcW (Itl K a) g tt te vs Q σ H1 := by
  intro D hD
  exact lc_list (fun i H => ∃ acc, LcI Z H1 D i acc H) ⟨[], LcI.init hD h0⟩ (fun i H _ ⟨acc, p⟩ => p.same.seq hS)
    (fun i x H hx p => (hs i x hx).step (Nat.lt_of_lt_of_le (List.getElem?_eq_some_iff.mp hx).1 hn) hD p) fun H ⟨acc, p⟩ => hd D acc H (p.new hD) p.z
theorem lcTg {a : Addr} {xs : List V} (hS : SqT K H1 a xs) (Z : Nat → List V → Hp → Prop) (hn : xs.length ≤ sizeLine) (h0 : Z 0 [] H1) (hs : ∀ i x, xs[i]? = some x → LcB Z g tt te vs σ H1 i x)
    (hd : ∀ D acc H', New H1 H' D (.lst acc) → Z xs.length acc (mask D H') → Q (.ref D) H') : LcW (Itt K a) g tt te vs Q σ H1 := by
  intro D hD
  exact lc_tup (fun i H => ∃ acc, LcI Z H1 D i acc H) ⟨[], LcI.init hD h0⟩ (fun i H _ ⟨acc, p⟩ => sameT p.same hS)
    (fun i x H hx p => (hs i x hx).step (Nat.lt_of_lt_of_le (List.getElem?_eq_some_iff.mp hx).1 hn) hD p) fun H ⟨acc, p⟩ => hd D acc H (p.new hD) p.z
/-- one item a turn, a plain value -/
theorem lcR1 {k n : Nat} (f : Nat → V) (hn : n ≤ sizeLine) (hw : ∀ x, wipe ((wipe σ vs).set k (some x)) vs = wipe σ vs)
    (hs : ∀ i H (Q' : VK), i < n → Same H1 H → (∀ H4, Same H H4 → Q' (f i) H4) → te ((wipe σ vs).set k (some (.int i))) H Q')
    (hd : ∀ D H', New H1 H' D (.lst ((List.range n).map f)) → Q (.ref D) H') : LcW (Itr 0 n) (gName k) tYes te vs Q σ H1 := by
  refine lcRg (fun i acc _ => acc = (List.range i).map f) hn rfl (fun i hi D acc H Q' N hD p q1 q2 => ?_) (fun D acc H' n e => hd D H' (e ▸ n))
  rw [Int.zero_add]
  refine ⟨hw _, ?_⟩
  refine hs i H Q' hi p.same fun H4 s => q1 _ _ s ?_
  show acc ++ [f i] = (List.range (i + 1)).map f
  rw [show acc = (List.range i).map f from p.z, List.range_succ, List.map_append]; rfl
theorem lcL1 {k : Nat} {a : Addr} {xs : List V} (hS : SqL K H1 a xs) (f : V → V) (hn : xs.length ≤ sizeLine) (hw : ∀ x, wipe ((wipe σ vs).set k (some x)) vs = wipe σ vs)
    (hs : ∀ (i : Nat) (x : V) (H : Hp) (Q' : VK), xs[i]? = some x → Same H1 H → (∀ H4, Same H H4 → Q' (f x) H4) → te ((wipe σ vs).set k (some x)) H Q')
    (hd : ∀ D H', New H1 H' D (.lst (xs.map f)) → Q (.ref D) H') : LcW (Itl K a) (gName k) tYes te vs Q σ H1 := by
  refine lcLg hS (fun i acc _ => acc = (xs.take i).map f) hn rfl (fun i x hx D acc H Q' N hD p q1 q2 => ?_) (fun D acc H' n e => hd D H' (by rw [List.take_length] at e; exact e ▸ n))
  refine ⟨hw _, ?_⟩
  refine hs i x H Q' hx p.same fun H4 s => q1 _ _ s ?_
  show acc ++ [f x] = (xs.take (i + 1)).map f
  rw [show acc = (xs.take i).map f from p.z, List.take_add_one, List.map_append, hx]; rfl
end
end TD

end
section
open TD L2
/-- what stands at an address -/
local macro_rules | `(tactic| lcg_sub) => `(tactic| first | assumption | exact upd_same | exact New.at_ (by assumption) | (refine New.same (by assumption) _ _ ?_; lcg_sub) | (refine (show Same _ _ from by assumption) _ _ ?_; lcg_sub) | (refine Eq.trans (upd_ne (by first | assumption | exact Ne.symm (by assumption))) ?_; lcg_sub))
/-- a list, a tuple to be read -/
local macro_rules | `(tactic| lcg_src) => `(tactic| first | assumption | exact SqL.of (by lcg_sub) | exact SqT.of (by lcg_sub) | (refine Same.seq (New.same (by assumption)) ?_; lcg_src) | (refine Same.seq (by assumption) ?_; lcg_src) | (refine sameT (New.same (by assumption)) ?_; lcg_src) | (refine sameT (by assumption) ?_; lcg_src))
/-- data at a value -/
local macro_rules | `(tactic| kp_flats) => `(tactic| first | assumption | exact Dp.str _ | exact Dp.int _ | exact Dp.non | exact Dp.bl _ | (refine dp_same (New.same (by assumption)) ?_; kp_flats) | (refine dp_same (by assumption) ?_; kp_flats))
/-- one step of a reading -/
local macro_rules | `(tactic| lcg_off) => `(tactic| first
  | with_reducible refine Stp.go ?_
  | ((with_reducible show tVar _ _ _ _); refine c_var (by rfl) ?_)
  | ((with_reducible show rIxL _ _ _ _ _); refine c_ixL (by lcg_src) (by rfl) ?_)
  | ((with_reducible show rIxT _ _ _ _ _); refine c_ixT (by lcg_src) (by rfl) ?_)
  | ((with_reducible show rSetL _ _ _ _ _); refine c_setL (by lcg_sub) (by rfl) ?_)
  | ((with_reducible show rLenQ _ _ _ _); first | (refine c_lenL (by lcg_src) ?_) | (refine c_lenT (by lcg_src) ?_))
  | ((with_reducible show rSlL _ _ _ _ _ _); refine c_slL (by lcg_src) ?_)
  | ((with_reducible show rListQ _ _ _ _); first | (refine c_listL (by lcg_src) ?_) | (refine c_listT (by lcg_src) ?_))
  | ((with_reducible show rI _ _ _ _ _ _); refine c_IC (by first | assumption | decide | omega) ?_)
  | ((with_reducible show rIsi _ _ _ _); refine c_isi (by kp_flats) (by first | assumption | decide +kernel) ?_)
  | ((with_reducible show rIx _ _ _ _ _); refine c_ix (by first | exact .inl ⟨by lcg_src, by first | assumption | rfl⟩ | exact .inr ⟨by lcg_src, by first | assumption | rfl⟩) ?_)
  | ((with_reducible show NewW _ _ _ _); refine newW ?_)
  | ((with_reducible show rCat _ _ _ _); refine c_cat (by lcg_sub) (by lcg_sub) (le_line (by first | decide | (simp only [List.length_append, List.length_cons, List.length_nil]; omega))) ?_)
  | ((with_reducible show aAddS _ _ _ _); refine c_adds (le_line (by first | decide +kernel | assumption)) ?_)
  | ((with_reducible show rIn _ false _ _ _ _); refine c_inL (by lcg_src) (by rfl) (by rfl) ?_)
  | ((with_reducible show rIn _ true _ _ _ _); refine c_niL (by lcg_src) (by rfl) (by rfl) ?_))
/-- one step, with the new object's names -/
local macro_rules | `(tactic| k_offL) => `(tactic| first | lcg_off | ((with_reducible show ∀ _ _, New _ _ _ _ → _); intro _ _ _))
/-- an error that is held -/
local macro_rules | `(tactic| one_item) => `(tactic| first | assumption | (refine ErrV.same ?_ (New.same (by assumption)); one_item) | (refine ErrV.same ?_ (by assumption); one_item))
/-- nothing was changed -/
local macro_rules | `(tactic| one_place) => `(tactic| first | assumption | exact fun _ _ h => h | exact New.same (by assumption) | (refine Same.trans ?_ (New.same (by assumption)); one_place) | (refine Same.trans ?_ (by assumption); one_place))
namespace TD
open PySem PySem.Spec L2 PySem.Calls
open PyProof.Rows hiding St
/-- data of depth n at most, with texts that are texts, no dict, short rows -/
def okD : Nat → PyData → Bool
  | _, .none => true
  | _, .bool _ => true
  | _, .int _ => true
  | _, .str x => (PyData.str x).canLay0
  | n + 1, .list xs => decide (xs.length ≤ 100000) && xs.all (okD n)
  | n + 1, .tuple xs => decide (xs.length ≤ 100000) && xs.all (okD n)
  | _, _ => false
mutual
theorem okD_lay : ∀ {d : PyData} {n : Nat}, okD n d = true → d.canLay0 = true ∧ d.depth ≤ n
  | .none, n, h => by cases n <;> exact ⟨by simp only [PyData.canLay0], by simp [PyData.depth]⟩
  | .bool _, n, h => by cases n <;> exact ⟨by simp only [PyData.canLay0], by simp [PyData.depth]⟩
  | .int _, n, h => by cases n <;> exact ⟨by simp only [PyData.canLay0], by simp [PyData.depth]⟩
  | .str x, n, h => by cases n <;> exact ⟨by simpa only [PyData.canLay0, okD] using h, by simp [PyData.depth]⟩
  | .list xs, 0, h => by simp [okD] at h
  | .tuple xs, 0, h => by simp [okD] at h
  | .dict xs, n, h => by cases n <;> simp [okD] at h
  | .list xs, n + 1, h => by
    simp only [okD, Bool.and_eq_true] at h
    have i := okD_layAll h.2
    exact ⟨by simpa only [PyData.canLay0] using i.1, by simp only [PyData.depth]; omega⟩
  | .tuple xs, n + 1, h => by
    simp only [okD, Bool.and_eq_true] at h
    have i := okD_layAll h.2
    exact ⟨by simpa only [PyData.canLay0] using i.1, by simp only [PyData.depth]; omega⟩
theorem okD_layAll : ∀ {ds : List PyData} {n : Nat}, ds.all (okD n) = true → PyData.canLayAll0 ds = true ∧ PyData.depthAll ds ≤ n
  | [], n, _ => ⟨by simp only [PyData.canLayAll0], by simp [PyData.depthAll]⟩
  | d :: ds, n, h => by
    simp only [List.all_cons, Bool.and_eq_true] at h
    have i := okD_lay h.1
    have j := okD_layAll h.2
    exact ⟨by simp only [PyData.canLayAll0, i.1, j.1, Bool.and_self], by simp only [PyData.depthAll]; omega⟩
end
theorem okD_shaped {d : PyData} {n : Nat} (hn : n ≤ 64) (h : okD n d = true) : SeqAt.shaped d = true := by
  have i := okD_lay h
  exact Bool.and_eq_true_iff.mpr ⟨i.1, decide_eq_true (Nat.le_trans i.2 hn)⟩
theorem okD_items {d : PyData} {n : Nat} (h : okD (n + 1) d = true) : (itemsD d).length ≤ 100000 ∧ (itemsD d).all (okD n) = true := by
  cases d with
  | list xs => simp only [okD, Bool.and_eq_true, decide_eq_true_eq] at h; exact h
  | tuple xs => simp only [okD, Bool.and_eq_true, decide_eq_true_eq] at h; exact h
  | _ => exact ⟨Nat.zero_le _, rfl⟩
theorem okD_seq0 {d : PyData} (h : okD 0 d = true) : isTup d = false ∧ isLst d = false := by cases d <;> first | exact ⟨rfl, rfl⟩ | simp [okD] at h
theorem okD_dct {d : PyData} {n : Nat} (h : okD n d = true) : isDct d = false := by cases n <;> cases d <;> first | rfl | (simp only [okD] at h; cases h)
/-- _law_like on data of depth n at most -/
def spLike (K : PySem.W.Frag) (n : Nat) : Sp := fun vs H Q _ => ∃ (v u : V) (f d : PyData), vs = [v, u] ∧ Dp K H v f ∧ Dp K H u d ∧ okD n f = true ∧ okD n d = true ∧ ∀ H', Same H H' → Q (.bl (likeD f d)) H'
def spLikeP (K : PySem.W.Frag) : Nat → Sp
  | 0 => fun _ _ _ _ => False
  | n + 1 => spLike K n
theorem atI_nat {xs : List V} {i : Nat} {v : V} (h : xs[i]? = some v) : atI xs (i : Int) = some v := by
  have := (List.getElem?_eq_some_iff.mp h).1
  unfold atI ixN
  rw [if_pos (by omega), if_pos (by omega)]
  simpa using h
def likeAt (fs ds : List PyData) (i : Nat) : Bool := match fs[i]?, ds[i]? with | some x, some y => likeD x y | _, _ => false
theorem likeAt_all : ∀ {fs ds : List PyData}, fs.length = ds.length → ((List.range ds.length).map (likeAt fs ds)).all id = likeAll fs ds
  | [], [], _ => by simp [likeAll]
  | [], _ :: _, h => by simp at h
  | _ :: _, [], h => by simp at h
  | f :: fs, d :: ds, h => by
    have h' : fs.length = ds.length := by simpa using h
    rw [likeAll, ← likeAt_all h', List.length_cons, List.range_succ_eq_map, List.map_cons, List.map_map, List.all_cons]
    rfl
theorem atI_sq {K : PySem.W.Frag} {H H2 : Hp} {p : Addr} {vs : List V} {ds : List PyData} {i : Nat} (s : SqL K H p vs ∨ SqT K H p vs) (a : DpAll K H vs ds) (hi : i < ds.length) (h : Same H H2) :
    ∃ v d, ds[i]? = some d ∧ Dp K H2 v d ∧ ((SqL K H2 p vs ∧ atI vs (i : Int) = some v) ∨ (SqT K H2 p vs ∧ atI vs (i : Int) = some v)) := by
  obtain ⟨v, e, dv⟩ := dpAll_get a (i := i) (d := ds[i]) (by simp [hi])
  refine ⟨v, ds[i], by simp [hi], dp_same h dv, ?_⟩
  rcases s with s | s
  · exact .inl ⟨h.seq s, atI_nat e⟩
  · exact .inr ⟨sameT h s, atI_nat e⟩
theorem pure_l_like {K : PySem.W.Frag} {n : Nat} (hn : n ≤ 64) {vs : List V} {H : Hp} {Q : VK} {E : XK} (h : spLike K n vs H Q E) :
    t_l_like K (spLikeP K n) { nx := fun _ H' => Q .non H', rt := Q } (start ns_l_like vs) H := by
  obtain ⟨v, u, f, d, rfl, hf, hd, okf, okd, q⟩ := h
  have q0 : ∀ b, b = likeD f d → Q (.bl b) H := fun b e => e ▸ q H (fun _ _ x => x)
  unfold t_l_like
  have kt := kit_tup f; have kt' := kit_tup d; have kl := kit_lst f; have kl' := kit_lst d; have kb := kit_boo f; have kb' := kit_boo d; have kd := kit_dct d
  rw [okD_dct okd] at kd
  repeat lcg_off
  refine ite_nd (fun h1 => ?_) (fun h1 => ?_)
  · refine ite_t ?_
    repeat lcg_off
    exact q0 _ (like_kind (.inl (by intro e; exact h1 (by rw [e])))).symm
  repeat lcg_off
  refine ite_nd (fun h2 => ?_) (fun h2 => ?_)
  · repeat lcg_off
    exact q0 _ (like_kind (.inr (by intro e; exact h2 (by rw [e])))).symm
  injection h1 with h1
  injection h2 with h2
  repeat lcg_off
  refine ite_f ?_
  repeat lcg_off
  intro p H1 N1
  have hd1 := dp_same N1.same hd
  have hf1 := dp_same N1.same hf
  repeat lcg_off
  refine c_isiT2 hd1 (by lcg_sub) kt' kl' ?_
  repeat lcg_off
  by_cases hs : isTup d = true ∨ isLst d = true
  · have e : (!(isTup d || isLst d)) = false := by rcases hs with e | e <;> simp [e]
    rw [e]
    refine ite_f ?_
    obtain ⟨pd, ds, rfl, sd, ad⟩ := dp_seq hd1 hs
    obtain ⟨pf, fs, rfl, sf, af⟩ := dp_seq hf1 (by rw [← h1, ← h2]; exact hs)
    have el := like_items h1 h2 hs
    have l1 := dpAll_len ad; have l2 := dpAll_len af
    repeat lcg_off
    refine ⟨_, _, rfl, sf, ?_⟩
    repeat lcg_off
    refine ⟨_, _, rfl, sd, ?_⟩
    repeat lcg_off
    refine ite_d (fun e => ?_) (fun e => ?_)
    · injection e with e
      have e1 : fs.length = ds.length := by omega
      cases n with
      | zero => have := okD_seq0 okd; rw [this.1, this.2] at hs; exact absurd hs (by decide)
      | succ m =>
      have id := okD_items okd; have jf := okD_items okf
      have e2 : (itemsD f).length = (itemsD d).length := by omega
      repeat lcg_off
      refine ⟨_, _, rfl, sd, ?_⟩
      repeat lcg_off
      have lz := id.1
      refine ⟨_, rfl, by omega, by omega, ?_⟩
      rw [Int.toNat_natCast]
      refine lcR1 (fun i => .bl (likeAt (itemsD f) (itemsD d) i)) (Nat.le_trans (m := 100000) (by omega) (by decide)) (fun x => rfl) (fun i H2 Q2 hi s2 q2 => ?_) (fun D H2 N2 => ?_)
      · obtain ⟨vf, df, ef, dvf, af2⟩ := atI_sq sf af (i := i) (by omega) s2
        obtain ⟨vd, dd, ed, dvd, ad2⟩ := atI_sq sd ad (i := i) (by omega) s2
        have ee : likeAt (itemsD f) (itemsD d) i = likeD df dd := by rw [likeAt, ef, ed]
        have of := List.all_eq_true.mp jf.2 _ (List.mem_of_getElem? ef)
        have od := List.all_eq_true.mp id.2 _ (List.mem_of_getElem? ed)
        repeat lcg_off
        refine c_ix af2 ?_
        repeat lcg_off
        refine c_ix ad2 ?_
        repeat lcg_off
        exact ⟨_, _, _, _, rfl, dvf, dvd, of, od, fun H4 s4 => ee ▸ q2 H4 s4⟩
      · repeat lcg_off
        refine ⟨D, (List.range ds.length).map (likeAt (itemsD f) (itemsD d)), rfl, ?_, ?_⟩
        · rw [List.map_map]; exact SqL.of N2.at_
        · rw [l1, likeAt_all e2, ← el]; exact q H2 (N1.same.trans N2.same)
    · have e2 : likeD f d = false := by
        cases h : likeD f d with
        | false => rfl
        | true =>
          rw [el] at h
          have := likeAll_len h
          exact absurd (show V.int fs.length = V.int ds.length by rw [show fs.length = ds.length by omega]) e
      exact e2 ▸ q H1 N1.same
  · have e : (isTup d || isLst d) = false := by simpa using hs
    rw [e]
    refine ite_t ?_
    simp only [not_or, Bool.not_eq_true] at hs
    have eo := like_other hs.1 hs.2 (h1 ▸ hs.1) (h2 ▸ hs.2)
    repeat lcg_off
    refine ite_d (fun e => ?_) (fun e => ?_)
    · injection e with e
      repeat lcg_off
      refine ⟨f, d, hf1, hd1, okD_shaped hn okf, okD_shaped hn okd, ?_⟩
      have : PyData.eqv f d = likeD f d := by rw [eo, e, beq_self_eq_true, Bool.true_and]
      exact this ▸ q H1 N1.same
    · have : likeD f d = false := by
        rw [eo, show (isBoo f == isBoo d) = false from by simpa using fun z => e (by rw [z])]; rfl
      exact this ▸ q H1 N1.same
end TD

end
section
open TD L2
/-- what stands at an address -/
local macro_rules | `(tactic| lcg_sub) => `(tactic| first | assumption | exact upd_same | exact New.at_ (by assumption) | (refine New.same (by assumption) _ _ ?_; lcg_sub) | (refine (show Same _ _ from by assumption) _ _ ?_; lcg_sub) | (refine Eq.trans (upd_ne (by first | assumption | exact Ne.symm (by assumption))) ?_; lcg_sub))
/-- a list, a tuple to be read -/
local macro_rules | `(tactic| lcg_src) => `(tactic| first | assumption | exact SqL.of (by lcg_sub) | exact SqT.of (by lcg_sub) | (refine Same.seq (New.same (by assumption)) ?_; lcg_src) | (refine Same.seq (by assumption) ?_; lcg_src) | (refine sameT (New.same (by assumption)) ?_; lcg_src) | (refine sameT (by assumption) ?_; lcg_src))
/-- data at a value -/
local macro_rules | `(tactic| kp_flats) => `(tactic| first | assumption | exact Dp.str _ | exact Dp.int _ | exact Dp.non | exact Dp.bl _ | (refine dp_same (New.same (by assumption)) ?_; kp_flats) | (refine dp_same (by assumption) ?_; kp_flats))
/-- one step of a reading -/
local macro_rules | `(tactic| lcg_off) => `(tactic| first
  | with_reducible refine Stp.go ?_
  | ((with_reducible show tVar _ _ _ _); refine c_var (by rfl) ?_)
  | ((with_reducible show rIxL _ _ _ _ _); refine c_ixL (by lcg_src) (by rfl) ?_)
  | ((with_reducible show rIxT _ _ _ _ _); refine c_ixT (by lcg_src) (by rfl) ?_)
  | ((with_reducible show rSetL _ _ _ _ _); refine c_setL (by lcg_sub) (by rfl) ?_)
  | ((with_reducible show rLenQ _ _ _ _); first | (refine c_lenL (by lcg_src) ?_) | (refine c_lenT (by lcg_src) ?_))
  | ((with_reducible show rSlL _ _ _ _ _ _); refine c_slL (by lcg_src) ?_)
  | ((with_reducible show rListQ _ _ _ _); first | (refine c_listL (by lcg_src) ?_) | (refine c_listT (by lcg_src) ?_))
  | ((with_reducible show rI _ _ _ _ _ _); refine c_IC (by first | assumption | decide | omega) ?_)
  | ((with_reducible show rIsi _ _ _ _); refine c_isi (by kp_flats) (by first | assumption | decide +kernel) ?_)
  | ((with_reducible show rIx _ _ _ _ _); refine c_ix (by first | exact .inl ⟨by lcg_src, by first | assumption | rfl⟩ | exact .inr ⟨by lcg_src, by first | assumption | rfl⟩) ?_)
  | ((with_reducible show NewW _ _ _ _); refine newW ?_)
  | ((with_reducible show rCat _ _ _ _); refine c_cat (by lcg_sub) (by lcg_sub) (le_line (by first | decide | (simp only [List.length_append, List.length_cons, List.length_nil]; omega))) ?_)
  | ((with_reducible show aAddS _ _ _ _); refine c_adds (le_line (by first | decide +kernel | assumption)) ?_)
  | ((with_reducible show rIn _ false _ _ _ _); refine c_inL (by lcg_src) (by rfl) (by rfl) ?_)
  | ((with_reducible show rIn _ true _ _ _ _); refine c_niL (by lcg_src) (by rfl) (by rfl) ?_))
/-- one step, with the new object's names -/
local macro_rules | `(tactic| k_offL) => `(tactic| first | lcg_off | ((with_reducible show ∀ _ _, New _ _ _ _ → _); intro _ _ _))
/-- an error that is held -/
local macro_rules | `(tactic| one_item) => `(tactic| first | assumption | (refine ErrV.same ?_ (New.same (by assumption)); one_item) | (refine ErrV.same ?_ (by assumption); one_item))
/-- nothing was changed -/
local macro_rules | `(tactic| one_place) => `(tactic| first | assumption | exact fun _ _ h => h | exact New.same (by assumption) | (refine Same.trans ?_ (New.same (by assumption)); one_place) | (refine Same.trans ?_ (by assumption); one_place))
namespace TD
open PySem PySem.Spec L2 PySem.Calls PySem.TDX
open PyProof.Rows hiding St
/-- the words and fields of the errors, in _law_all's order -/
abbrev errs : List (Str × Option Str) := [("BadTree", none), ("BadClass", none), ("BadOwner", some "owner"), ("BadStep", some "at"), ("TooLarge", some "most"), ("TooLong", some "most"), ("NotEqual", some "item"), ("OutOfRange", some "number"), ("BadStamp", none), ("Taken", some "stamp"), ("Clash", some "stamp"), ("OtherBase", none),
  ("Full", some "most"), ("BadName", some "name"), ("BadFormula", none), ("BadCommand", some "at"), ("BadText", some "at"), ("BadPage", some "row"), ("Unknown", some "name"), ("NoStamp", some "stamp"), ("NoItem", some "owner"), ("NoRoom", some "step"), ("NothingLeft", none)]
def wordAt (k : Nat) : Str := (errs[k]?.map (·.1)).getD ""
def fldAt (k : Nat) : Option Str := (errs[k]?.map (·.2)).getD none
def nsOf : Option Str → List Str | none => ["word"] | some f => ["word", f]
def fsOf (x : Str) (n : Int) : Option Str → List (Str × V) | none => [("word", .str x)] | some f => [(f, .int n), ("word", .str x)]
def fieldV (n : Int) : Option Str → V | none => .non | some _ => .int n
/-- what the head tells of the classes -/
structure F72 (K : PySem.W.Frag) : Prop where
  ec : ∀ k, k < 23 → ErrC K (He.ga K (wordAt k)) (nsOf (fldAt k))
  gi : ∀ k, k < 23 → GxI K (He.ga K (wordAt k))
  tab : ∀ j k, j < 23 → k < 23 → PySem.W.kitOne K (.ref (He.ga K (wordAt k))) (.ref (He.ga K (wordAt j))) = some (decide (j = k))
  b1 : ∀ k, k < 23 → PySem.W.kitOne K (.ref (He.ga K (wordAt k))) (.ref (He.ga K "TurnError")) = some (decide (k < 18))
  b2 : ∀ k, k < 23 → PySem.W.kitOne K (.ref (He.ga K (wordAt k))) (.type "ValueError") = some (decide (k < 18))
  b3 : ∀ k, k < 23 → PySem.W.kitOne K (.ref (He.ga K (wordAt k))) (.ref (He.ga K "TurnMissing")) = some (decide (17 < k))
  b4 : ∀ k, k < 23 → PySem.W.kitOne K (.ref (He.ga K (wordAt k))) (.type "LookupError") = some (decide (17 < k))
def spAll (K : PySem.W.Frag) : Sp := fun vs H Q _ => ∃ n, vs = [.int n] ∧ ∀ (as : List Addr) p H', New H H' p (.lst (as.map V.ref)) → as.length = 23 → (∀ k a, as[k]? = some a → ErrV H' a (He.ga K (wordAt k)) (fsOf (wordAt k) n (fldAt k))) → Q (.ref p) H'
def spFlags (K : PySem.W.Frag) : Sp := fun vs H Q _ => ∃ a k fs, vs = [.ref a] ∧ k < 23 ∧ ErrV H a (He.ga K (wordAt k)) fs ∧ ∀ p H', New H H' p (.lst ((List.range 23).map fun j => .bl (decide (j = k)))) → Q (.ref p) H'
def spField (K : PySem.W.Frag) : Sp := fun vs H Q _ => ∃ a k n, vs = [.ref a] ∧ k < 23 ∧ ErrV H a (He.ga K (wordAt k)) (fsOf (wordAt k) n (fldAt k)) ∧ ∀ H', Same H H' → Q (fieldV n (fldAt k)) H'
section
variable {K : PySem.W.Frag} {vs : List V} {H : Hp} {Q : VK} {E : XK}
theorem pure_l_flags (F : F72 K) (h : spFlags K vs H Q E) : t_l_flags K { nx := fun _ H' => Q .non H', rt := Q } (start ns_l_flags vs) H := by
  obtain ⟨a, k, fs, rfl, hk, e, q⟩ := h
  have T := F.gi k hk
  unfold t_l_flags
  repeat k_offL
  refine c_isg (fs := fs) (by one_item) T (.own _) (F.tab 0 k (by decide) hk) ?_
  repeat k_offL
  refine c_isg (fs := fs) (by one_item) T (.own _) (F.tab 1 k (by decide) hk) ?_
  repeat k_offL
  refine c_isg (fs := fs) (by one_item) T (.own _) (F.tab 2 k (by decide) hk) ?_
  repeat k_offL
  refine c_isg (fs := fs) (by one_item) T (.own _) (F.tab 3 k (by decide) hk) ?_
  repeat k_offL
  refine c_isg (fs := fs) (by one_item) T (.own _) (F.tab 4 k (by decide) hk) ?_
  repeat k_offL
  refine c_isg (fs := fs) (by one_item) T (.own _) (F.tab 5 k (by decide) hk) ?_
  repeat k_offL
  refine c_isg (fs := fs) (by one_item) T (.own _) (F.tab 6 k (by decide) hk) ?_
  repeat k_offL
  refine c_isg (fs := fs) (by one_item) T (.own _) (F.tab 7 k (by decide) hk) ?_
  repeat k_offL
  refine c_isg (fs := fs) (by one_item) T (.own _) (F.tab 8 k (by decide) hk) ?_
  repeat k_offL
  refine c_isg (fs := fs) (by one_item) T (.own _) (F.tab 9 k (by decide) hk) ?_
  repeat k_offL
  refine c_isg (fs := fs) (by one_item) T (.own _) (F.tab 10 k (by decide) hk) ?_
  repeat k_offL
  refine c_isg (fs := fs) (by one_item) T (.own _) (F.tab 11 k (by decide) hk) ?_
  repeat k_offL
  refine c_isg (fs := fs) (by one_item) T (.own _) (F.tab 12 k (by decide) hk) ?_
  repeat k_offL
  refine c_isg (fs := fs) (by one_item) T (.own _) (F.tab 13 k (by decide) hk) ?_
  repeat k_offL
  refine c_isg (fs := fs) (by one_item) T (.own _) (F.tab 14 k (by decide) hk) ?_
  repeat k_offL
  refine c_isg (fs := fs) (by one_item) T (.own _) (F.tab 15 k (by decide) hk) ?_
  repeat k_offL
  refine c_isg (fs := fs) (by one_item) T (.own _) (F.tab 16 k (by decide) hk) ?_
  repeat k_offL
  refine c_isg (fs := fs) (by one_item) T (.own _) (F.tab 17 k (by decide) hk) ?_
  repeat k_offL
  refine c_isg (fs := fs) (by one_item) T (.own _) (F.tab 18 k (by decide) hk) ?_
  repeat k_offL
  refine c_isg (fs := fs) (by one_item) T (.own _) (F.tab 19 k (by decide) hk) ?_
  repeat k_offL
  refine c_isg (fs := fs) (by one_item) T (.own _) (F.tab 20 k (by decide) hk) ?_
  repeat k_offL
  refine c_isg (fs := fs) (by one_item) T (.own _) (F.tab 21 k (by decide) hk) ?_
  repeat k_offL
  refine c_isg (fs := fs) (by one_item) T (.own _) (F.tab 22 k (by decide) hk) ?_
  repeat k_offL
  rename_i p J N
  exact q _ _ (New.after (by one_place) N)
end
end TD

end
section
open TD L2
/-- what stands at an address -/
local macro_rules | `(tactic| lcg_sub) => `(tactic| first | assumption | exact upd_same | exact New.at_ (by assumption) | (refine New.same (by assumption) _ _ ?_; lcg_sub) | (refine (show Same _ _ from by assumption) _ _ ?_; lcg_sub) | (refine Eq.trans (upd_ne (by first | assumption | exact Ne.symm (by assumption))) ?_; lcg_sub))
/-- a list, a tuple to be read -/
local macro_rules | `(tactic| lcg_src) => `(tactic| first | assumption | exact SqL.of (by lcg_sub) | exact SqT.of (by lcg_sub) | (refine Same.seq (New.same (by assumption)) ?_; lcg_src) | (refine Same.seq (by assumption) ?_; lcg_src) | (refine sameT (New.same (by assumption)) ?_; lcg_src) | (refine sameT (by assumption) ?_; lcg_src))
/-- data at a value -/
local macro_rules | `(tactic| kp_flats) => `(tactic| first | assumption | exact Dp.str _ | exact Dp.int _ | exact Dp.non | exact Dp.bl _ | (refine dp_same (New.same (by assumption)) ?_; kp_flats) | (refine dp_same (by assumption) ?_; kp_flats))
/-- one step of a reading -/
local macro_rules | `(tactic| lcg_off) => `(tactic| first
  | with_reducible refine Stp.go ?_
  | ((with_reducible show tVar _ _ _ _); refine c_var (by rfl) ?_)
  | ((with_reducible show rIxL _ _ _ _ _); refine c_ixL (by lcg_src) (by rfl) ?_)
  | ((with_reducible show rIxT _ _ _ _ _); refine c_ixT (by lcg_src) (by rfl) ?_)
  | ((with_reducible show rSetL _ _ _ _ _); refine c_setL (by lcg_sub) (by rfl) ?_)
  | ((with_reducible show rLenQ _ _ _ _); first | (refine c_lenL (by lcg_src) ?_) | (refine c_lenT (by lcg_src) ?_))
  | ((with_reducible show rSlL _ _ _ _ _ _); refine c_slL (by lcg_src) ?_)
  | ((with_reducible show rListQ _ _ _ _); first | (refine c_listL (by lcg_src) ?_) | (refine c_listT (by lcg_src) ?_))
  | ((with_reducible show rI _ _ _ _ _ _); refine c_IC (by first | assumption | decide | omega) ?_)
  | ((with_reducible show rIsi _ _ _ _); refine c_isi (by kp_flats) (by first | assumption | decide +kernel) ?_)
  | ((with_reducible show rIx _ _ _ _ _); refine c_ix (by first | exact .inl ⟨by lcg_src, by first | assumption | rfl⟩ | exact .inr ⟨by lcg_src, by first | assumption | rfl⟩) ?_)
  | ((with_reducible show NewW _ _ _ _); refine newW ?_)
  | ((with_reducible show rCat _ _ _ _); refine c_cat (by lcg_sub) (by lcg_sub) (le_line (by first | decide | (simp only [List.length_append, List.length_cons, List.length_nil]; omega))) ?_)
  | ((with_reducible show aAddS _ _ _ _); refine c_adds (le_line (by first | decide +kernel | assumption)) ?_)
  | ((with_reducible show rIn _ false _ _ _ _); refine c_inL (by lcg_src) (by rfl) (by rfl) ?_)
  | ((with_reducible show rIn _ true _ _ _ _); refine c_niL (by lcg_src) (by rfl) (by rfl) ?_))
/-- one step, with the new object's names -/
local macro_rules | `(tactic| k_offL) => `(tactic| first | lcg_off | ((with_reducible show ∀ _ _, New _ _ _ _ → _); intro _ _ _))
/-- an error that is held -/
local macro_rules | `(tactic| one_item) => `(tactic| first | assumption | (refine ErrV.same ?_ (New.same (by assumption)); one_item) | (refine ErrV.same ?_ (by assumption); one_item))
/-- nothing was changed -/
local macro_rules | `(tactic| one_place) => `(tactic| first | assumption | exact fun _ _ h => h | exact New.same (by assumption) | (refine Same.trans ?_ (New.same (by assumption)); one_place) | (refine Same.trans ?_ (by assumption); one_place))
namespace TD
open PySem PySem.Spec L2 PySem.Calls PySem.TDX
open PyProof.Rows hiding St
section
variable {K : PySem.W.Frag} {vs : List V} {H : Hp} {Q : VK} {E : XK}
theorem pure_l_all (F : F72 K) (h : spAll K vs H Q E) : t_l_all K { nx := fun _ H' => Q .non H', rt := Q } (start ns_l_all vs) H := by
  obtain ⟨n, rfl, q⟩ := h
  unfold t_l_all
  repeat k_offL
  refine c_xv0' (F.ec 0 (by decide)) ?_
  intro a0 G0 S0 n0 e0
  repeat k_offL
  refine c_xv0' (F.ec 1 (by decide)) ?_
  intro a1 G1 S1 n1 e1
  repeat k_offL
  refine c_xv1' (F.ec 2 (by decide)) ?_
  intro a2 G2 S2 n2 e2
  repeat k_offL
  refine c_xv1' (F.ec 3 (by decide)) ?_
  intro a3 G3 S3 n3 e3
  repeat k_offL
  refine c_xv1' (F.ec 4 (by decide)) ?_
  intro a4 G4 S4 n4 e4
  repeat k_offL
  refine c_xv1' (F.ec 5 (by decide)) ?_
  intro a5 G5 S5 n5 e5
  repeat k_offL
  refine c_xv1' (F.ec 6 (by decide)) ?_
  intro a6 G6 S6 n6 e6
  repeat k_offL
  refine c_xv1' (F.ec 7 (by decide)) ?_
  intro a7 G7 S7 n7 e7
  repeat k_offL
  refine c_xv0' (F.ec 8 (by decide)) ?_
  intro a8 G8 S8 n8 e8
  repeat k_offL
  refine c_xv1' (F.ec 9 (by decide)) ?_
  intro a9 G9 S9 n9 e9
  repeat k_offL
  refine c_xv1' (F.ec 10 (by decide)) ?_
  intro a10 G10 S10 n10 e10
  repeat k_offL
  refine c_xv0' (F.ec 11 (by decide)) ?_
  intro a11 G11 S11 n11 e11
  repeat k_offL
  refine c_xv1' (F.ec 12 (by decide)) ?_
  intro a12 G12 S12 n12 e12
  repeat k_offL
  refine c_xv1' (F.ec 13 (by decide)) ?_
  intro a13 G13 S13 n13 e13
  repeat k_offL
  refine c_xv0' (F.ec 14 (by decide)) ?_
  intro a14 G14 S14 n14 e14
  repeat k_offL
  refine c_xv1' (F.ec 15 (by decide)) ?_
  intro a15 G15 S15 n15 e15
  repeat k_offL
  refine c_xv1' (F.ec 16 (by decide)) ?_
  intro a16 G16 S16 n16 e16
  repeat k_offL
  refine c_xv1' (F.ec 17 (by decide)) ?_
  intro a17 G17 S17 n17 e17
  repeat k_offL
  refine c_xv1' (F.ec 18 (by decide)) ?_
  intro a18 G18 S18 n18 e18
  repeat k_offL
  refine c_xv1' (F.ec 19 (by decide)) ?_
  intro a19 G19 S19 n19 e19
  repeat k_offL
  refine c_xv1' (F.ec 20 (by decide)) ?_
  intro a20 G20 S20 n20 e20
  repeat k_offL
  refine c_xv1' (F.ec 21 (by decide)) ?_
  intro a21 G21 S21 n21 e21
  repeat k_offL
  refine c_xv0' (F.ec 22 (by decide)) ?_
  intro a22 G22 S22 n22 e22
  repeat k_offL
  rename_i p1 J1 N1 p2 J2 N2
  refine q [a0, a1, a2, a3, a4, a5, a6, a7, a8, a9, a10, a11, a12, a13, a14, a15, a16, a17, a18, a19, a20, a21, a22] _ _ (New.after (by one_place) N2) rfl (fun k a h => ?_)
  have T22 : Same G22 J2 := by one_place
  have T21 : Same G21 J2 := Same.trans (by one_place) T22
  have T20 : Same G20 J2 := Same.trans (by one_place) T21
  have T19 : Same G19 J2 := Same.trans (by one_place) T20
  have T18 : Same G18 J2 := Same.trans (by one_place) T19
  have T17 : Same G17 J2 := Same.trans (by one_place) T18
  have T16 : Same G16 J2 := Same.trans (by one_place) T17
  have T15 : Same G15 J2 := Same.trans (by one_place) T16
  have T14 : Same G14 J2 := Same.trans (by one_place) T15
  have T13 : Same G13 J2 := Same.trans (by one_place) T14
  have T12 : Same G12 J2 := Same.trans (by one_place) T13
  have T11 : Same G11 J2 := Same.trans (by one_place) T12
  have T10 : Same G10 J2 := Same.trans (by one_place) T11
  have T9 : Same G9 J2 := Same.trans (by one_place) T10
  have T8 : Same G8 J2 := Same.trans (by one_place) T9
  have T7 : Same G7 J2 := Same.trans (by one_place) T8
  have T6 : Same G6 J2 := Same.trans (by one_place) T7
  have T5 : Same G5 J2 := Same.trans (by one_place) T6
  have T4 : Same G4 J2 := Same.trans (by one_place) T5
  have T3 : Same G3 J2 := Same.trans (by one_place) T4
  have T2 : Same G2 J2 := Same.trans (by one_place) T3
  have T1 : Same G1 J2 := Same.trans (by one_place) T2
  have T0 : Same G0 J2 := Same.trans (by one_place) T1
  rcases k with _ | _ | _ | _ | _ | _ | _ | _ | _ | _ | _ | _ | _ | _ | _ | _ | _ | _ | _ | _ | _ | _ | _ | k
  · cases h; exact e0.same T0
  · cases h; exact e1.same T1
  · cases h; exact e2.same T2
  · cases h; exact e3.same T3
  · cases h; exact e4.same T4
  · cases h; exact e5.same T5
  · cases h; exact e6.same T6
  · cases h; exact e7.same T7
  · cases h; exact e8.same T8
  · cases h; exact e9.same T9
  · cases h; exact e10.same T10
  · cases h; exact e11.same T11
  · cases h; exact e12.same T12
  · cases h; exact e13.same T13
  · cases h; exact e14.same T14
  · cases h; exact e15.same T15
  · cases h; exact e16.same T16
  · cases h; exact e17.same T17
  · cases h; exact e18.same T18
  · cases h; exact e19.same T19
  · cases h; exact e20.same T20
  · cases h; exact e21.same T21
  · cases h; exact e22.same T22
  · cases h
end
end TD

end
section
open TD L2
/-- what stands at an address -/
local macro_rules | `(tactic| lcg_sub) => `(tactic| first | assumption | exact upd_same | exact New.at_ (by assumption) | (refine New.same (by assumption) _ _ ?_; lcg_sub) | (refine (show Same _ _ from by assumption) _ _ ?_; lcg_sub) | (refine Eq.trans (upd_ne (by first | assumption | exact Ne.symm (by assumption))) ?_; lcg_sub))
/-- a list, a tuple to be read -/
local macro_rules | `(tactic| lcg_src) => `(tactic| first | assumption | exact SqL.of (by lcg_sub) | exact SqT.of (by lcg_sub) | (refine Same.seq (New.same (by assumption)) ?_; lcg_src) | (refine Same.seq (by assumption) ?_; lcg_src) | (refine sameT (New.same (by assumption)) ?_; lcg_src) | (refine sameT (by assumption) ?_; lcg_src))
/-- data at a value -/
local macro_rules | `(tactic| kp_flats) => `(tactic| first | assumption | exact Dp.str _ | exact Dp.int _ | exact Dp.non | exact Dp.bl _ | (refine dp_same (New.same (by assumption)) ?_; kp_flats) | (refine dp_same (by assumption) ?_; kp_flats))
/-- one step of a reading -/
local macro_rules | `(tactic| lcg_off) => `(tactic| first
  | with_reducible refine Stp.go ?_
  | ((with_reducible show tVar _ _ _ _); refine c_var (by rfl) ?_)
  | ((with_reducible show rIxL _ _ _ _ _); refine c_ixL (by lcg_src) (by rfl) ?_)
  | ((with_reducible show rIxT _ _ _ _ _); refine c_ixT (by lcg_src) (by rfl) ?_)
  | ((with_reducible show rSetL _ _ _ _ _); refine c_setL (by lcg_sub) (by rfl) ?_)
  | ((with_reducible show rLenQ _ _ _ _); first | (refine c_lenL (by lcg_src) ?_) | (refine c_lenT (by lcg_src) ?_))
  | ((with_reducible show rSlL _ _ _ _ _ _); refine c_slL (by lcg_src) ?_)
  | ((with_reducible show rListQ _ _ _ _); first | (refine c_listL (by lcg_src) ?_) | (refine c_listT (by lcg_src) ?_))
  | ((with_reducible show rI _ _ _ _ _ _); refine c_IC (by first | assumption | decide | omega) ?_)
  | ((with_reducible show rIsi _ _ _ _); refine c_isi (by kp_flats) (by first | assumption | decide +kernel) ?_)
  | ((with_reducible show rIx _ _ _ _ _); refine c_ix (by first | exact .inl ⟨by lcg_src, by first | assumption | rfl⟩ | exact .inr ⟨by lcg_src, by first | assumption | rfl⟩) ?_)
  | ((with_reducible show NewW _ _ _ _); refine newW ?_)
  | ((with_reducible show rCat _ _ _ _); refine c_cat (by lcg_sub) (by lcg_sub) (le_line (by first | decide | (simp only [List.length_append, List.length_cons, List.length_nil]; omega))) ?_)
  | ((with_reducible show aAddS _ _ _ _); refine c_adds (le_line (by first | decide +kernel | assumption)) ?_)
  | ((with_reducible show rIn _ false _ _ _ _); refine c_inL (by lcg_src) (by rfl) (by rfl) ?_)
  | ((with_reducible show rIn _ true _ _ _ _); refine c_niL (by lcg_src) (by rfl) (by rfl) ?_))
/-- one step, with the new object's names -/
local macro_rules | `(tactic| k_offL) => `(tactic| first | lcg_off | ((with_reducible show ∀ _ _, New _ _ _ _ → _); intro _ _ _))
/-- an error that is held -/
local macro_rules | `(tactic| one_item) => `(tactic| first | assumption | (refine ErrV.same ?_ (New.same (by assumption)); one_item) | (refine ErrV.same ?_ (by assumption); one_item))
/-- nothing was changed -/
local macro_rules | `(tactic| one_place) => `(tactic| first | assumption | exact fun _ _ h => h | exact New.same (by assumption) | (refine Same.trans ?_ (New.same (by assumption)); one_place) | (refine Same.trans ?_ (by assumption); one_place))
namespace TD
open PySem PySem.Spec L2 PySem.Calls PySem.TDX
open PyProof.Rows hiding St
section
variable {K : PySem.W.Frag} {vs : List V} {H : Hp} {Q : VK} {E : XK}
theorem pure_l_field (F : F72 K) (h : spField K vs H Q E) : t_l_field K { nx := fun _ H' => Q .non H', rt := Q } (start ns_l_field vs) H := by
  obtain ⟨a, k, n, rfl, hk, e, q⟩ := h
  have T := F.ec k hk
  unfold t_l_field
  rcases k with _ | _ | _ | _ | _ | _ | _ | _ | _ | _ | _ | _ | _ | _ | _ | _ | _ | _ | _ | _ | _ | _ | _ | k
  · change ErrV H a (He.ga K (wordAt 0)) [("word", .str "BadTree")] at e
    repeat (first | k_offL | refine ite_tc (by decide +kernel) ?_ | refine ite_fc (by decide +kernel) ?_ | refine c_xat (e.same (by one_place)) T (by decide +kernel) (by rfl) ?_)
    exact q _ (by one_place)
  · change ErrV H a (He.ga K (wordAt 1)) [("word", .str "BadClass")] at e
    repeat (first | k_offL | refine ite_tc (by decide +kernel) ?_ | refine ite_fc (by decide +kernel) ?_ | refine c_xat (e.same (by one_place)) T (by decide +kernel) (by rfl) ?_)
    exact q _ (by one_place)
  · change ErrV H a (He.ga K (wordAt 2)) [("owner", .int n), ("word", .str "BadOwner")] at e
    repeat (first | k_offL | refine ite_tc (by decide +kernel) ?_ | refine ite_fc (by decide +kernel) ?_ | refine c_xat (e.same (by one_place)) T (by decide +kernel) (by rfl) ?_)
    exact q _ (by one_place)
  · change ErrV H a (He.ga K (wordAt 3)) [("at", .int n), ("word", .str "BadStep")] at e
    repeat (first | k_offL | refine ite_tc (by decide +kernel) ?_ | refine ite_fc (by decide +kernel) ?_ | refine c_xat (e.same (by one_place)) T (by decide +kernel) (by rfl) ?_)
    exact q _ (by one_place)
  · change ErrV H a (He.ga K (wordAt 4)) [("most", .int n), ("word", .str "TooLarge")] at e
    repeat (first | k_offL | refine ite_tc (by decide +kernel) ?_ | refine ite_fc (by decide +kernel) ?_ | refine c_xat (e.same (by one_place)) T (by decide +kernel) (by rfl) ?_)
    exact q _ (by one_place)
  · change ErrV H a (He.ga K (wordAt 5)) [("most", .int n), ("word", .str "TooLong")] at e
    repeat (first | k_offL | refine ite_tc (by decide +kernel) ?_ | refine ite_fc (by decide +kernel) ?_ | refine c_xat (e.same (by one_place)) T (by decide +kernel) (by rfl) ?_)
    exact q _ (by one_place)
  · change ErrV H a (He.ga K (wordAt 6)) [("item", .int n), ("word", .str "NotEqual")] at e
    repeat (first | k_offL | refine ite_tc (by decide +kernel) ?_ | refine ite_fc (by decide +kernel) ?_ | refine c_xat (e.same (by one_place)) T (by decide +kernel) (by rfl) ?_)
    exact q _ (by one_place)
  · change ErrV H a (He.ga K (wordAt 7)) [("number", .int n), ("word", .str "OutOfRange")] at e
    repeat (first | k_offL | refine ite_tc (by decide +kernel) ?_ | refine ite_fc (by decide +kernel) ?_ | refine c_xat (e.same (by one_place)) T (by decide +kernel) (by rfl) ?_)
    exact q _ (by one_place)
  · change ErrV H a (He.ga K (wordAt 8)) [("word", .str "BadStamp")] at e
    repeat (first | k_offL | refine ite_tc (by decide +kernel) ?_ | refine ite_fc (by decide +kernel) ?_ | refine c_xat (e.same (by one_place)) T (by decide +kernel) (by rfl) ?_)
    exact q _ (by one_place)
  · change ErrV H a (He.ga K (wordAt 9)) [("stamp", .int n), ("word", .str "Taken")] at e
    repeat (first | k_offL | refine ite_tc (by decide +kernel) ?_ | refine ite_fc (by decide +kernel) ?_ | refine c_xat (e.same (by one_place)) T (by decide +kernel) (by rfl) ?_)
    exact q _ (by one_place)
  · change ErrV H a (He.ga K (wordAt 10)) [("stamp", .int n), ("word", .str "Clash")] at e
    repeat (first | k_offL | refine ite_tc (by decide +kernel) ?_ | refine ite_fc (by decide +kernel) ?_ | refine c_xat (e.same (by one_place)) T (by decide +kernel) (by rfl) ?_)
    exact q _ (by one_place)
  · change ErrV H a (He.ga K (wordAt 11)) [("word", .str "OtherBase")] at e
    repeat (first | k_offL | refine ite_tc (by decide +kernel) ?_ | refine ite_fc (by decide +kernel) ?_ | refine c_xat (e.same (by one_place)) T (by decide +kernel) (by rfl) ?_)
    exact q _ (by one_place)
  · change ErrV H a (He.ga K (wordAt 12)) [("most", .int n), ("word", .str "Full")] at e
    repeat (first | k_offL | refine ite_tc (by decide +kernel) ?_ | refine ite_fc (by decide +kernel) ?_ | refine c_xat (e.same (by one_place)) T (by decide +kernel) (by rfl) ?_)
    exact q _ (by one_place)
  · change ErrV H a (He.ga K (wordAt 13)) [("name", .int n), ("word", .str "BadName")] at e
    repeat (first | k_offL | refine ite_tc (by decide +kernel) ?_ | refine ite_fc (by decide +kernel) ?_ | refine c_xat (e.same (by one_place)) T (by decide +kernel) (by rfl) ?_)
    exact q _ (by one_place)
  · change ErrV H a (He.ga K (wordAt 14)) [("word", .str "BadFormula")] at e
    repeat (first | k_offL | refine ite_tc (by decide +kernel) ?_ | refine ite_fc (by decide +kernel) ?_ | refine c_xat (e.same (by one_place)) T (by decide +kernel) (by rfl) ?_)
    exact q _ (by one_place)
  · change ErrV H a (He.ga K (wordAt 15)) [("at", .int n), ("word", .str "BadCommand")] at e
    repeat (first | k_offL | refine ite_tc (by decide +kernel) ?_ | refine ite_fc (by decide +kernel) ?_ | refine c_xat (e.same (by one_place)) T (by decide +kernel) (by rfl) ?_)
    exact q _ (by one_place)
  · change ErrV H a (He.ga K (wordAt 16)) [("at", .int n), ("word", .str "BadText")] at e
    repeat (first | k_offL | refine ite_tc (by decide +kernel) ?_ | refine ite_fc (by decide +kernel) ?_ | refine c_xat (e.same (by one_place)) T (by decide +kernel) (by rfl) ?_)
    exact q _ (by one_place)
  · change ErrV H a (He.ga K (wordAt 17)) [("row", .int n), ("word", .str "BadPage")] at e
    repeat (first | k_offL | refine ite_tc (by decide +kernel) ?_ | refine ite_fc (by decide +kernel) ?_ | refine c_xat (e.same (by one_place)) T (by decide +kernel) (by rfl) ?_)
    exact q _ (by one_place)
  · change ErrV H a (He.ga K (wordAt 18)) [("name", .int n), ("word", .str "Unknown")] at e
    repeat (first | k_offL | refine ite_tc (by decide +kernel) ?_ | refine ite_fc (by decide +kernel) ?_ | refine c_xat (e.same (by one_place)) T (by decide +kernel) (by rfl) ?_)
    exact q _ (by one_place)
  · change ErrV H a (He.ga K (wordAt 19)) [("stamp", .int n), ("word", .str "NoStamp")] at e
    repeat (first | k_offL | refine ite_tc (by decide +kernel) ?_ | refine ite_fc (by decide +kernel) ?_ | refine c_xat (e.same (by one_place)) T (by decide +kernel) (by rfl) ?_)
    exact q _ (by one_place)
  · change ErrV H a (He.ga K (wordAt 20)) [("owner", .int n), ("word", .str "NoItem")] at e
    repeat (first | k_offL | refine ite_tc (by decide +kernel) ?_ | refine ite_fc (by decide +kernel) ?_ | refine c_xat (e.same (by one_place)) T (by decide +kernel) (by rfl) ?_)
    exact q _ (by one_place)
  · change ErrV H a (He.ga K (wordAt 21)) [("step", .int n), ("word", .str "NoRoom")] at e
    repeat (first | k_offL | refine ite_tc (by decide +kernel) ?_ | refine ite_fc (by decide +kernel) ?_ | refine c_xat (e.same (by one_place)) T (by decide +kernel) (by rfl) ?_)
    exact q _ (by one_place)
  · change ErrV H a (He.ga K (wordAt 22)) [("word", .str "NothingLeft")] at e
    repeat (first | k_offL | refine ite_tc (by decide +kernel) ?_ | refine ite_fc (by decide +kernel) ?_ | refine c_xat (e.same (by one_place)) T (by decide +kernel) (by rfl) ?_)
    exact q _ (by one_place)
  · omega
end
end TD

end
section
open TD L2
/-- what stands at an address -/
local macro_rules | `(tactic| lcg_sub) => `(tactic| first | assumption | exact upd_same | exact New.at_ (by assumption) | (refine New.same (by assumption) _ _ ?_; lcg_sub) | (refine (show Same _ _ from by assumption) _ _ ?_; lcg_sub) | (refine Eq.trans (upd_ne (by first | assumption | exact Ne.symm (by assumption))) ?_; lcg_sub))
/-- a list, a tuple to be read -/
local macro_rules | `(tactic| lcg_src) => `(tactic| first | assumption | exact SqL.of (by lcg_sub) | exact SqT.of (by lcg_sub) | (refine Same.seq (New.same (by assumption)) ?_; lcg_src) | (refine Same.seq (by assumption) ?_; lcg_src) | (refine sameT (New.same (by assumption)) ?_; lcg_src) | (refine sameT (by assumption) ?_; lcg_src))
/-- data at a value -/
local macro_rules | `(tactic| kp_flats) => `(tactic| first | assumption | exact Dp.str _ | exact Dp.int _ | exact Dp.non | exact Dp.bl _ | (refine dp_same (New.same (by assumption)) ?_; kp_flats) | (refine dp_same (by assumption) ?_; kp_flats))
/-- one step of a reading -/
local macro_rules | `(tactic| lcg_off) => `(tactic| first
  | with_reducible refine Stp.go ?_
  | ((with_reducible show tVar _ _ _ _); refine c_var (by rfl) ?_)
  | ((with_reducible show rIxL _ _ _ _ _); refine c_ixL (by lcg_src) (by rfl) ?_)
  | ((with_reducible show rIxT _ _ _ _ _); refine c_ixT (by lcg_src) (by rfl) ?_)
  | ((with_reducible show rSetL _ _ _ _ _); refine c_setL (by lcg_sub) (by rfl) ?_)
  | ((with_reducible show rLenQ _ _ _ _); first | (refine c_lenL (by lcg_src) ?_) | (refine c_lenT (by lcg_src) ?_))
  | ((with_reducible show rSlL _ _ _ _ _ _); refine c_slL (by lcg_src) ?_)
  | ((with_reducible show rListQ _ _ _ _); first | (refine c_listL (by lcg_src) ?_) | (refine c_listT (by lcg_src) ?_))
  | ((with_reducible show rI _ _ _ _ _ _); refine c_IC (by first | assumption | decide | omega) ?_)
  | ((with_reducible show rIsi _ _ _ _); refine c_isi (by kp_flats) (by first | assumption | decide +kernel) ?_)
  | ((with_reducible show rIx _ _ _ _ _); refine c_ix (by first | exact .inl ⟨by lcg_src, by first | assumption | rfl⟩ | exact .inr ⟨by lcg_src, by first | assumption | rfl⟩) ?_)
  | ((with_reducible show NewW _ _ _ _); refine newW ?_)
  | ((with_reducible show rCat _ _ _ _); refine c_cat (by lcg_sub) (by lcg_sub) (le_line (by first | decide | (simp only [List.length_append, List.length_cons, List.length_nil]; omega))) ?_)
  | ((with_reducible show aAddS _ _ _ _); refine c_adds (le_line (by first | decide +kernel | assumption)) ?_)
  | ((with_reducible show rIn _ false _ _ _ _); refine c_inL (by lcg_src) (by rfl) (by rfl) ?_)
  | ((with_reducible show rIn _ true _ _ _ _); refine c_niL (by lcg_src) (by rfl) (by rfl) ?_))
/-- one step, with the new object's names -/
local macro_rules | `(tactic| k_offL) => `(tactic| first | lcg_off | ((with_reducible show ∀ _ _, New _ _ _ _ → _); intro _ _ _))
/-- an error that is held -/
local macro_rules | `(tactic| one_item) => `(tactic| first | assumption | (refine ErrV.same ?_ (New.same (by assumption)); one_item) | (refine ErrV.same ?_ (by assumption); one_item))
/-- nothing was changed -/
local macro_rules | `(tactic| one_place) => `(tactic| first | assumption | exact fun _ _ h => h | exact New.same (by assumption) | (refine Same.trans ?_ (New.same (by assumption)); one_place) | (refine Same.trans ?_ (by assumption); one_place))
namespace TD
open PySem PySem.Spec L2 PySem.Calls
open PyProof.Rows hiding St
/-! ### lists of Booleans as data -/
theorem dpAll_bools {K : PySem.W.Frag} {H : Hp} : ∀ bs : List Bool, DpAll K H (bs.map V.bl) (bs.map PyData.bool)
  | [] => .nil
  | b :: bs => .cons (.bl b) (dpAll_bools bs)
theorem likeAll_bools : ∀ bs : List Bool, likeAll (bs.map PyData.bool) (bs.map PyData.bool) = true
  | [] => by simp [likeAll]
  | b :: bs => by
    simp only [List.map_cons, likeAll, likeAll_bools bs, Bool.and_true]
    cases b <;> decide +kernel
theorem okD_bools (bs : List Bool) (h : bs.length ≤ 100000) (n : Nat) : okD (n + 1) (.list (bs.map PyData.bool)) = true := by
  simp only [okD, Bool.and_eq_true, decide_eq_true_eq, List.length_map, List.all_eq_true]
  refine ⟨h, fun x hx => ?_⟩
  obtain ⟨b, -, rfl⟩ := List.mem_map.mp hx
  cases n <;> rfl
/-- _law_like of two lists of the same Booleans -/
theorem like_bools {K : PySem.W.Frag} {H : Hp} {Q : VK} {E : XK} {n : Nat} {p r : Addr} {xs ys : List V} (bs : List Bool) (hl : bs.length ≤ 100000) (hx : xs = bs.map V.bl) (hy : ys = bs.map V.bl) (h1 : H p = some (.lst xs)) (h2 : H r = some (.lst ys))
    (q : ∀ H', Same H H' → Q (.bl true) H') : spLike K (n + 1) [.ref p, .ref r] H Q E := by
  subst hx hy
  refine ⟨_, _, _, _, rfl, .lst (SqL.of h1) (dpAll_bools bs), .lst (SqL.of h2) (dpAll_bools bs), okD_bools bs hl n, okD_bools bs hl n, ?_⟩
  rw [likeD, likeAll_bools]; exact q
end TD

end
section
open TD L2
/-- what stands at an address -/
local macro_rules | `(tactic| lcg_sub) => `(tactic| first | assumption | exact upd_same | exact New.at_ (by assumption) | (refine New.same (by assumption) _ _ ?_; lcg_sub) | (refine (show Same _ _ from by assumption) _ _ ?_; lcg_sub) | (refine Eq.trans (upd_ne (by first | assumption | exact Ne.symm (by assumption))) ?_; lcg_sub))
/-- a list, a tuple to be read -/
local macro_rules | `(tactic| lcg_src) => `(tactic| first | assumption | exact SqL.of (by lcg_sub) | exact SqT.of (by lcg_sub) | (refine Same.seq (New.same (by assumption)) ?_; lcg_src) | (refine Same.seq (by assumption) ?_; lcg_src) | (refine sameT (New.same (by assumption)) ?_; lcg_src) | (refine sameT (by assumption) ?_; lcg_src))
/-- data at a value -/
local macro_rules | `(tactic| kp_flats) => `(tactic| first | assumption | exact Dp.str _ | exact Dp.int _ | exact Dp.non | exact Dp.bl _ | (refine dp_same (New.same (by assumption)) ?_; kp_flats) | (refine dp_same (by assumption) ?_; kp_flats))
/-- one step of a reading -/
local macro_rules | `(tactic| lcg_off) => `(tactic| first
  | with_reducible refine Stp.go ?_
  | ((with_reducible show tVar _ _ _ _); refine c_var (by rfl) ?_)
  | ((with_reducible show rIxL _ _ _ _ _); refine c_ixL (by lcg_src) (by rfl) ?_)
  | ((with_reducible show rIxT _ _ _ _ _); refine c_ixT (by lcg_src) (by rfl) ?_)
  | ((with_reducible show rSetL _ _ _ _ _); refine c_setL (by lcg_sub) (by rfl) ?_)
  | ((with_reducible show rLenQ _ _ _ _); first | (refine c_lenL (by lcg_src) ?_) | (refine c_lenT (by lcg_src) ?_))
  | ((with_reducible show rSlL _ _ _ _ _ _); refine c_slL (by lcg_src) ?_)
  | ((with_reducible show rListQ _ _ _ _); first | (refine c_listL (by lcg_src) ?_) | (refine c_listT (by lcg_src) ?_))
  | ((with_reducible show rI _ _ _ _ _ _); refine c_IC (by first | assumption | decide | omega) ?_)
  | ((with_reducible show rIsi _ _ _ _); refine c_isi (by kp_flats) (by first | assumption | decide +kernel) ?_)
  | ((with_reducible show rIx _ _ _ _ _); refine c_ix (by first | exact .inl ⟨by lcg_src, by first | assumption | rfl⟩ | exact .inr ⟨by lcg_src, by first | assumption | rfl⟩) ?_)
  | ((with_reducible show NewW _ _ _ _); refine newW ?_)
  | ((with_reducible show rCat _ _ _ _); refine c_cat (by lcg_sub) (by lcg_sub) (le_line (by first | decide | (simp only [List.length_append, List.length_cons, List.length_nil]; omega))) ?_)
  | ((with_reducible show aAddS _ _ _ _); refine c_adds (le_line (by first | decide +kernel | assumption)) ?_)
  | ((with_reducible show rIn _ false _ _ _ _); refine c_inL (by lcg_src) (by rfl) (by rfl) ?_)
  | ((with_reducible show rIn _ true _ _ _ _); refine c_niL (by lcg_src) (by rfl) (by rfl) ?_))
/-- one step, with the new object's names -/
local macro_rules | `(tactic| k_offL) => `(tactic| first | lcg_off | ((with_reducible show ∀ _ _, New _ _ _ _ → _); intro _ _ _))
/-- an error that is held -/
local macro_rules | `(tactic| one_item) => `(tactic| first | assumption | (refine ErrV.same ?_ (New.same (by assumption)); one_item) | (refine ErrV.same ?_ (by assumption); one_item))
/-- nothing was changed -/
local macro_rules | `(tactic| one_place) => `(tactic| first | assumption | exact fun _ _ h => h | exact New.same (by assumption) | (refine Same.trans ?_ (New.same (by assumption)); one_place) | (refine Same.trans ?_ (by assumption); one_place))
namespace TD
open PySem PySem.Spec L2 PySem.Calls PySem.TDX
open PyProof.Rows hiding St
section
variable {K : PySem.W.Frag} {vs : List V} {H : Hp} {Q : VK} {E : XK}
def spLaw (K : PySem.W.Frag) : Sp := fun vs H Q _ => ∃ (a : Addr) (ns : List Int), vs = [.ref a] ∧ SqL K H a (ns.map V.int) ∧ ∀ H', Q (.bl true) H'
theorem word_k : ∀ k, k < 23 → (errs.map (·.1))[k]? = some (wordAt k) := by decide +kernel
theorem plain_k : ∀ k, k < 23 → inV (.str (wordAt k)) [.str "BadTree", .str "BadClass", .str "BadStamp", .str "OtherBase", .str "BadFormula", .str "NothingLeft"] = (fldAt k).isNone := by decide +kernel
theorem fs_word (x : Str) (n : Int) (f : Option Str) (h : ∀ g, f = some g → (("word" : Str) == g) = false) : (fsOf x n f).lookup ("word" : Str) = some (V.str x) := by
  cases f with
  | none => rfl
  | some g => simp only [fsOf, List.lookup, h g rfl]; rfl
theorem fld_k0 : ∀ k, k < 23 → (fldAt k).all (fun g => !(("word" : Str) == g)) = true := by decide +kernel
theorem fld_k (k : Nat) (h : k < 23) (g : Str) (e : fldAt k = some g) : (("word" : Str) == g) = false := by
  have := fld_k0 k h
  rw [e] at this
  simpa using this
theorem ns_word (f : Option Str) : ("word" : Str) ∈ nsOf f := by cases f <;> simp [nsOf]
theorem pure_law (F : F72 K) (h : spLaw K vs H Q E) : t_law K (spAll K) (spBag K) (spField K) (spFlags K) (spLike K 5) (spPull K) { nx := fun _ H' => Q .non H', rt := Q } (start ns_law vs) H := by
  obtain ⟨a, ns, rfl, hs, q⟩ := h
  unfold t_law
  repeat lcg_off
  refine ⟨a, ns, rfl, hs, fun b H1 s1 B1 => ?_⟩
  have cp : CPow 10 6 := ⟨by decide, by decide, by decide⟩
  repeat lcg_off
  refine ⟨b, 10 ^ 6, _, rfl, B1, by decide, by decide, fun n H2 n0 n1 B2 => ?_⟩
  repeat lcg_off
  refine ⟨b, 23, _, rfl, B2, by decide, by decide, fun r H3 r0 r1 B3 => ?_⟩
  repeat lcg_off
  refine c_split (errs.map (·.1)) (by decide +kernel) (by decide +kernel) (le_line (by decide +kernel)) fun pw H4 N4 => ?_
  repeat lcg_off
  refine ⟨n, rfl, fun as pe H5 N5 la ea => ?_⟩
  repeat lcg_off
  intro pp H6 N6
  repeat lcg_off
  have w4 : H6 pw = some (.lst ((errs.map (·.1)).map V.str)) := by lcg_sub
  have w5 : H6 pe = some (.lst (as.map V.ref)) := by lcg_sub
  have w6 := N6.at_
  have e6 : ∀ k a, as[k]? = some a → ErrV H6 a (He.ga K (wordAt k)) (fsOf (wordAt k) n (fldAt k)) := fun k a h => (ea k a h).same N6.same
  refine forR 23 rfl (by decide) (fun i σ H' => Same H6 H' ∧ ∃ x7 x8 x9 x10 x11, σ = [some (.ref a), some (.ref b), some (.int n), some (.int r), some (.ref pw), some (.ref pe), some (.ref pp), x7, x8, x9, x10, x11]) ?_ ?_ ?_
  · exact ⟨fun _ _ h => h, _, _, _, _, _, rfl⟩
  · rintro i σ H7 hi ⟨s7, x7, x8, x9, x10, x11, rfl⟩
    repeat lcg_off
    have m := mod_b (r + i) (n := 23) (by decide)
    generalize hk : (r + (i : Int)) % 23 = kz at m ⊢
    obtain ⟨k, rfl⟩ := Int.eq_ofNat_of_zero_le m.1
    have k23 : k < 23 := by omega
    have ha : as[k]? = some as[k] := by simp [la, k23]
    have wk := word_k k k23
    refine c_ixL (v := .ref as[k]) (SqL.of (s7 _ _ w5)) (atI_nat (by rw [List.getElem?_map, ha]; rfl)) ?_
    have e7 := (e6 k _ ha).same s7
    have T := F.ec k k23
    repeat lcg_off
    refine ⟨_, k, _, rfl, k23, e7, fun p8 H8 N8 => ?_⟩
    repeat lcg_off
    refine ⟨_, rfl, by decide, by decide, ?_⟩
    refine lcR1 (fun j => .bl (decide (j = k))) (le_line (by decide)) (fun x => rfl) (fun j H9 Q9 hj s9 q9 => ?_) (fun D H9 N9 => ?_)
    · repeat lcg_off
      have : decide (V.int (j : Int) = V.int (k : Int)) = decide (j = k) := by
        by_cases h : j = k
        · subst h; simp
        · rw [decide_eq_false h, decide_eq_false]; intro e; injection e with e; exact h (by omega)
      rw [this]
      exact q9 H9 (fun _ _ h => h)
    repeat lcg_off
    refine like_bools ((List.range 23).map fun j => decide (j = k)) (by simp) (by rw [List.map_map]; rfl) (by rw [List.map_map]; rfl) (N9.same _ _ N8.at_) N9.at_ (fun H10 s10 => ?_)
    repeat lcg_off
    refine ite_f ?_
    have s11' : Same H7 H10 := by one_place
    have e11 := e7.same s11'
    have s11 := s7.trans s11'
    repeat lcg_off
    refine c_xat e11 T (ns_word _) (fs_word _ _ _ (fld_k k k23)) ?_
    repeat lcg_off
    refine c_ixL (SqL.of (s11 _ _ w4)) (atI_nat (by rw [List.getElem?_map, wk]; rfl)) ?_
    repeat lcg_off
    refine ite_nd (fun c => absurd rfl c) (fun _ => ?_)
    repeat lcg_off
    have G := F.gi k k23
    refine c_isg e11 G (.own _) (F.b1 k k23) ?_
    repeat lcg_off
    refine c_isg e11 G (.ty _) (F.b2 k k23) ?_
    repeat lcg_off
    refine c_isg e11 G (.own _) (F.b3 k k23) ?_
    repeat lcg_off
    refine c_isg e11 G (.ty _) (F.b4 k k23) ?_
    repeat lcg_off
    intro p12 H12 N12
    repeat lcg_off
    intro p13 H13 N13
    repeat lcg_off
    refine like_bools [decide (k < 18), decide (k < 18), decide (17 < k), decide (17 < k)] (by simp) rfl ?_ (N13.same _ _ N12.at_) N13.at_ (fun H14 s14 => ?_)
    · have a1 : decide ((k : Int) < 18) = decide (k < 18) := by simp only [decide_eq_decide]; omega
      have a2 : decide ((17 : Int) < k) = decide (17 < k) := by simp only [decide_eq_decide]; omega
      simp only [a1, a2, List.map_cons, List.map_nil]
    repeat lcg_off
    refine ite_f ?_
    have s15' : Same H10 H14 := N12.same.trans (N13.same.trans s14)
    have e15 := e11.same s15'
    have s15 := s11.trans s15'
    repeat lcg_off
    refine ⟨_, k, n, rfl, k23, e15, fun H16 s16 => ?_⟩
    have s17 := s15.trans s16
    repeat lcg_off
    refine c_ixL (SqL.of (s17 _ _ w4)) (atI_nat (by rw [List.getElem?_map, wk]; rfl)) ?_
    repeat lcg_off
    rw [plain_k k k23]
    repeat lcg_off
    generalize fldAt k = fl at *
    cases fl with
    | none =>
      refine ite_t ?_
      dsimp only [fieldV]
      repeat lcg_off
      refine ite_nd (fun c => absurd rfl c) (fun _ => ?_)
      repeat lcg_off
      exact ⟨s17, _, _, _, _, _, rfl⟩
    | some g =>
      refine ite_f ?_
      dsimp only [fieldV]
      repeat lcg_off
      refine ite_nd (fun c => absurd rfl c) (fun _ => ?_)
      repeat lcg_off
      exact ⟨s17, _, _, _, _, _, rfl⟩
  · rintro σ H' -
    repeat lcg_off
    exact q _
end
end TD

end
section
open TD L2
/-- what stands at an address -/
local macro_rules | `(tactic| lcg_sub) => `(tactic| first | assumption | exact upd_same | exact New.at_ (by assumption) | (refine New.same (by assumption) _ _ ?_; lcg_sub) | (refine (show Same _ _ from by assumption) _ _ ?_; lcg_sub) | (refine Eq.trans (upd_ne (by first | assumption | exact Ne.symm (by assumption))) ?_; lcg_sub))
/-- a list, a tuple to be read -/
local macro_rules | `(tactic| lcg_src) => `(tactic| first | assumption | exact SqL.of (by lcg_sub) | exact SqT.of (by lcg_sub) | (refine Same.seq (New.same (by assumption)) ?_; lcg_src) | (refine Same.seq (by assumption) ?_; lcg_src) | (refine sameT (New.same (by assumption)) ?_; lcg_src) | (refine sameT (by assumption) ?_; lcg_src))
/-- data at a value -/
local macro_rules | `(tactic| kp_flats) => `(tactic| first | assumption | exact Dp.str _ | exact Dp.int _ | exact Dp.non | exact Dp.bl _ | (refine dp_same (New.same (by assumption)) ?_; kp_flats) | (refine dp_same (by assumption) ?_; kp_flats))
/-- one step of a reading -/
local macro_rules | `(tactic| lcg_off) => `(tactic| first
  | with_reducible refine Stp.go ?_
  | ((with_reducible show tVar _ _ _ _); refine c_var (by rfl) ?_)
  | ((with_reducible show rIxL _ _ _ _ _); refine c_ixL (by lcg_src) (by rfl) ?_)
  | ((with_reducible show rIxT _ _ _ _ _); refine c_ixT (by lcg_src) (by rfl) ?_)
  | ((with_reducible show rSetL _ _ _ _ _); refine c_setL (by lcg_sub) (by rfl) ?_)
  | ((with_reducible show rLenQ _ _ _ _); first | (refine c_lenL (by lcg_src) ?_) | (refine c_lenT (by lcg_src) ?_))
  | ((with_reducible show rSlL _ _ _ _ _ _); refine c_slL (by lcg_src) ?_)
  | ((with_reducible show rListQ _ _ _ _); first | (refine c_listL (by lcg_src) ?_) | (refine c_listT (by lcg_src) ?_))
  | ((with_reducible show rI _ _ _ _ _ _); refine c_IC (by first | assumption | decide | omega) ?_)
  | ((with_reducible show rIsi _ _ _ _); refine c_isi (by kp_flats) (by first | assumption | decide +kernel) ?_)
  | ((with_reducible show rIx _ _ _ _ _); refine c_ix (by first | exact .inl ⟨by lcg_src, by first | assumption | rfl⟩ | exact .inr ⟨by lcg_src, by first | assumption | rfl⟩) ?_)
  | ((with_reducible show NewW _ _ _ _); refine newW ?_)
  | ((with_reducible show rCat _ _ _ _); refine c_cat (by lcg_sub) (by lcg_sub) (le_line (by first | decide | (simp only [List.length_append, List.length_cons, List.length_nil]; omega))) ?_)
  | ((with_reducible show aAddS _ _ _ _); refine c_adds (le_line (by first | decide +kernel | assumption)) ?_)
  | ((with_reducible show rIn _ false _ _ _ _); refine c_inL (by lcg_src) (by rfl) (by rfl) ?_)
  | ((with_reducible show rIn _ true _ _ _ _); refine c_niL (by lcg_src) (by rfl) (by rfl) ?_))
/-- one step, with the new object's names -/
local macro_rules | `(tactic| k_offL) => `(tactic| first | lcg_off | ((with_reducible show ∀ _ _, New _ _ _ _ → _); intro _ _ _))
/-- an error that is held -/
local macro_rules | `(tactic| one_item) => `(tactic| first | assumption | (refine ErrV.same ?_ (New.same (by assumption)); one_item) | (refine ErrV.same ?_ (by assumption); one_item))
/-- nothing was changed -/
local macro_rules | `(tactic| one_place) => `(tactic| first | assumption | exact fun _ _ h => h | exact New.same (by assumption) | (refine Same.trans ?_ (New.same (by assumption)); one_place) | (refine Same.trans ?_ (by assumption); one_place))
namespace TD
open PySem PySem.Spec L2 PySem.Calls PySem.TDX
open PyProof.Rows hiding St
/-- what the head has to show of the classes -/
def chk72 (K : PySem.W.Frag) : Bool := (List.range 23).all fun k => errB K (wordAt k) (nsOf (fldAt k)) && (gxiB K (He.ga K (wordAt k)) && ((List.range 23).all (fun j => decide (PySem.W.kitOne K (.ref (He.ga K (wordAt k))) (.ref (He.ga K (wordAt j))) = some (decide (j = k)))) &&
  (decide (PySem.W.kitOne K (.ref (He.ga K (wordAt k))) (.ref (He.ga K "TurnError")) = some (decide (k < 18))) && (decide (PySem.W.kitOne K (.ref (He.ga K (wordAt k))) (.type "ValueError") = some (decide (k < 18))) &&
  (decide (PySem.W.kitOne K (.ref (He.ga K (wordAt k))) (.ref (He.ga K "TurnMissing")) = some (decide (17 < k))) && decide (PySem.W.kitOne K (.ref (He.ga K (wordAt k))) (.type "LookupError") = some (decide (17 < k))))))))
section
variable {K : PySem.W.Frag} (h : chk72 K = true)
include h
theorem err72 (k : Nat) (hk : k < 23) : errB K (wordAt k) (nsOf (fldAt k)) = true := by
  have := List.all_eq_true.mp h k (List.mem_range.mpr hk)
  simp only [Bool.and_eq_true] at this
  exact this.1
theorem f72 : F72 K := by
  have g : ∀ k, k < 23 → _ := fun k hk => List.all_eq_true.mp h k (List.mem_range.mpr hk)
  simp only [Bool.and_eq_true, List.all_eq_true, decide_eq_true_eq, List.mem_range] at g
  exact ⟨fun k hk => errB_c (g k hk).1, fun k hk => gxiB_ok (g k hk).2.1, fun j k hj hk => (g k hk).2.2.1 j hj, fun k hk => (g k hk).2.2.2.1, fun k hk => (g k hk).2.2.2.2.1, fun k hk => (g k hk).2.2.2.2.2.1, fun k hk => (g k hk).2.2.2.2.2.2⟩
end
end TD

end
section
open TD L2
/-- what stands at an address -/
local macro_rules | `(tactic| lcg_sub) => `(tactic| first | assumption | exact upd_same | exact New.at_ (by assumption) | (refine New.same (by assumption) _ _ ?_; lcg_sub) | (refine (show Same _ _ from by assumption) _ _ ?_; lcg_sub) | (refine Eq.trans (upd_ne (by first | assumption | exact Ne.symm (by assumption))) ?_; lcg_sub))
/-- a list, a tuple to be read -/
local macro_rules | `(tactic| lcg_src) => `(tactic| first | assumption | exact SqL.of (by lcg_sub) | exact SqT.of (by lcg_sub) | (refine Same.seq (New.same (by assumption)) ?_; lcg_src) | (refine Same.seq (by assumption) ?_; lcg_src) | (refine sameT (New.same (by assumption)) ?_; lcg_src) | (refine sameT (by assumption) ?_; lcg_src))
/-- data at a value -/
local macro_rules | `(tactic| kp_flats) => `(tactic| first | assumption | exact Dp.str _ | exact Dp.int _ | exact Dp.non | exact Dp.bl _ | (refine dp_same (New.same (by assumption)) ?_; kp_flats) | (refine dp_same (by assumption) ?_; kp_flats))
/-- one step of a reading -/
local macro_rules | `(tactic| lcg_off) => `(tactic| first
  | with_reducible refine Stp.go ?_
  | ((with_reducible show tVar _ _ _ _); refine c_var (by rfl) ?_)
  | ((with_reducible show rIxL _ _ _ _ _); refine c_ixL (by lcg_src) (by rfl) ?_)
  | ((with_reducible show rIxT _ _ _ _ _); refine c_ixT (by lcg_src) (by rfl) ?_)
  | ((with_reducible show rSetL _ _ _ _ _); refine c_setL (by lcg_sub) (by rfl) ?_)
  | ((with_reducible show rLenQ _ _ _ _); first | (refine c_lenL (by lcg_src) ?_) | (refine c_lenT (by lcg_src) ?_))
  | ((with_reducible show rSlL _ _ _ _ _ _); refine c_slL (by lcg_src) ?_)
  | ((with_reducible show rListQ _ _ _ _); first | (refine c_listL (by lcg_src) ?_) | (refine c_listT (by lcg_src) ?_))
  | ((with_reducible show rI _ _ _ _ _ _); refine c_IC (by first | assumption | decide | omega) ?_)
  | ((with_reducible show rIsi _ _ _ _); refine c_isi (by kp_flats) (by first | assumption | decide +kernel) ?_)
  | ((with_reducible show rIx _ _ _ _ _); refine c_ix (by first | exact .inl ⟨by lcg_src, by first | assumption | rfl⟩ | exact .inr ⟨by lcg_src, by first | assumption | rfl⟩) ?_)
  | ((with_reducible show NewW _ _ _ _); refine newW ?_)
  | ((with_reducible show rCat _ _ _ _); refine c_cat (by lcg_sub) (by lcg_sub) (le_line (by first | decide | (simp only [List.length_append, List.length_cons, List.length_nil]; omega))) ?_)
  | ((with_reducible show aAddS _ _ _ _); refine c_adds (le_line (by first | decide +kernel | assumption)) ?_)
  | ((with_reducible show rIn _ false _ _ _ _); refine c_inL (by lcg_src) (by rfl) (by rfl) ?_)
  | ((with_reducible show rIn _ true _ _ _ _); refine c_niL (by lcg_src) (by rfl) (by rfl) ?_))
/-- one step, with the new object's names -/
local macro_rules | `(tactic| k_offL) => `(tactic| first | lcg_off | ((with_reducible show ∀ _ _, New _ _ _ _ → _); intro _ _ _))
/-- an error that is held -/
local macro_rules | `(tactic| one_item) => `(tactic| first | assumption | (refine ErrV.same ?_ (New.same (by assumption)); one_item) | (refine ErrV.same ?_ (by assumption); one_item))
/-- nothing was changed -/
local macro_rules | `(tactic| one_place) => `(tactic| first | assumption | exact fun _ _ h => h | exact New.same (by assumption) | (refine Same.trans ?_ (New.same (by assumption)); one_place) | (refine Same.trans ?_ (by assumption); one_place))
namespace TD
open PySem PySem.Spec L2 PySem.Calls
open PyProof.Rows hiding St
/-- the end: the law's def keeps a promise under which it returns True, nothing gets out -/
theorem law_end {l : PySem.W.OpenLaw} {n k : Nat} {q : Program} {loose : List Str} {XP : (Str → Option Value) → Heap → Prop} {YP : World → Heap → Prop} {d : DefRec} {x : Str} (hn : l.most = some n) (hn2 : n ≤ sizeLine) (hdf : d.params.defaults = []) (hr : Room k callerA)
    (F : ∀ (w : World) (mg : Str → Option Value) (fa : Addr) (h : Heap), YP w h → h.Ns mainGlobals mg → mg d.name = some (.ref fa) → ∃ (K : PySem.W.Frag) (fd : FuncData) (sp : Sp), K.In h ∧ (∀ (s : Shared) (u : Value), BindsTo s fd ⟨[u], []⟩ [(x, u)]) ∧
      (∀ (H : Hp) (a : Addr) (ns : List Int), ns.length ≤ n → SqL K H a (ns.map V.int) → sp [.ref a] H (fun v _ => v = .bl true) fun _ _ _ => False) ∧ ∀ base : Heap, K.In base → base.Ns mainGlobals mg → FnOk l.prog w K mg base (L2.CX l.prog w) k fa fd [x] sp) :
    PySem.W.WalkO q loose XP YP l.row.toRowW d [] (fun f vs => PySem.call f vs) := by
  refine Att.attach_call hn hdf fun w s₀ s₁ mg mb fa o pm cd doc a vs ns G Y ho hd hcd hmg hobj hints hlen hg => ?_
  obtain ⟨K, fd, sp, KX, hb, hsp, hF⟩ := F w mg fa _ Y G.T.g hmg
  refine law_call KX G.T.g G.T.b G.T.builtins G.T.nolimit hg hobj hints (Nat.le_trans hlen hn2) hr hF hb (fun H _ hS => hsp H a ns hlen hS) fun H e s' h => ?_
  obtain ⟨_, _, _, _, _, _, _, _, _, _, _, _, z⟩ := h
  exact z
/-- what is known of the written part -/
structure EnvK (chk : PySem.W.Frag → Bool) (fn : List He.DefD) (K : PySem.W.Frag) (mg : Str → Option Value) : Prop where
  at_ : ∃ h : Heap, K.In h ∧ h.Ns mainGlobals mg
  c : obsK chk fn K = valK fn
/-- a test of the module's names and one of one's own -/
def chkF (fa : List He.Fa) (chk : PySem.W.Frag → Bool) (K : PySem.W.Frag) : Bool := fa.all (fun f => f.ok K) && chk K
section
variable {fa : List He.Fa} {chk : PySem.W.Frag → Bool} {fn : List He.DefD} {K : PySem.W.Frag} {mg : Str → Option Value} (M : EnvK (chkF fa chk) fn K mg)
include M
theorem EnvK.fact (i : Nat) {f : He.Fa} (h : fa[i]? = some f := by rfl) : f.ok K = true := by
  have c := saysK_chk M.c
  unfold chkF at c
  simp only [Bool.and_eq_true, List.all_eq_true] at c
  exact c.1 _ (List.mem_of_getElem? h)
theorem EnvK.test : chk K = true := by
  have c := saysK_chk M.c
  unfold chkF at c
  exact (Bool.and_eq_true_iff.mp c).2
theorem EnvK.free (i : Nat) {x : Str} (h : fa[i]? = some (.free x) := by rfl) : mg x = none := by
  obtain ⟨hp, X, G⟩ := M.at_
  exact He.free_ok X G (M.fact i h)
theorem EnvK.glo (i : Nat) {x : Str} (h : fa[i]? = some (.glo x) := by rfl) : mg x = some (.ref (He.ga K x)) := by
  obtain ⟨hp, X, G⟩ := M.at_
  exact He.glo_ok X G (M.fact i h)
theorem EnvK.int (i : Nat) {x : Str} {n : Int} (h : fa[i]? = some (.int x n) := by rfl) : ∃ t, mg x = some (.int n t) := by
  obtain ⟨hp, X, G⟩ := M.at_
  exact He.int_ok X G (M.fact i h)
theorem EnvK.str (i : Nat) {x z : Str} (h : fa[i]? = some (.str x z) := by rfl) : ∃ t, mg x = some (.str z t) := by
  obtain ⟨hp, X, G⟩ := M.at_
  exact He.str_ok X G (M.fact i h)
end
theorem law_of {P : Program} {w : World} {K : PySem.W.Frag} {mg : Str → Option Value} {k : Nat} {x : Str} {f : Addr} {ar : Arguments} {bd : List Stmt} {sc : Scope} {N : List Str} {sp : Sp} (F : ∃ fd, FunD K "law" "law" ar bd sc [] [] f fd) (S : FnScope N [x] sc)
    (hb : ∀ (kV doc pm : Value) (an : Option Addr) (cdv ct : Value) (us : List Value), us.length = [x].length → bindArgs (PySem.W.fnOf "law" "law" ar bd sc .none kV doc pm an cdv ct) ⟨us, []⟩ = pure ([x].zip us)) (len : ∀ vs H Q E, sp vs H Q E → vs.length = [x].length)
    (body : ∀ (base : Heap) (cdv : Value) (A : Around) (outer : List Env) (s : Shared) (H : Hp) (vs : List V) (Q : VK) (E : XK), Room k (A.deeper (envOfC "law" sc s.heap.objs.size f cdv)) → sp vs H Q E →
      ∃ t, PSs (cxOf (L2.CX P w) P w K mg base N "law" sc f cdv A outer s H E) bd t ∧ t { nx := fun _ H' => Q .non H', rt := Q } (start N vs) H) :
    ∃ fd : FuncData, (∀ (s : Shared) (u : Value), BindsTo s fd ⟨[u], []⟩ [(x, u)]) ∧ ∀ base : Heap, FnOk P w K mg base (L2.CX P w) (k + 1) f fd [x] sp := by
  obtain ⟨fd, F⟩ := F
  exact ⟨fd, fun s u => F.bindsA hb s [u] rfl, fun base => F.ok S len (body base)⟩
end TD

end
section
open TD L2
/-- what stands at an address -/
local macro_rules | `(tactic| lcg_sub) => `(tactic| first | assumption | exact upd_same | exact New.at_ (by assumption) | (refine New.same (by assumption) _ _ ?_; lcg_sub) | (refine (show Same _ _ from by assumption) _ _ ?_; lcg_sub) | (refine Eq.trans (upd_ne (by first | assumption | exact Ne.symm (by assumption))) ?_; lcg_sub))
/-- a list, a tuple to be read -/
local macro_rules | `(tactic| lcg_src) => `(tactic| first | assumption | exact SqL.of (by lcg_sub) | exact SqT.of (by lcg_sub) | (refine Same.seq (New.same (by assumption)) ?_; lcg_src) | (refine Same.seq (by assumption) ?_; lcg_src) | (refine sameT (New.same (by assumption)) ?_; lcg_src) | (refine sameT (by assumption) ?_; lcg_src))
/-- data at a value -/
local macro_rules | `(tactic| kp_flats) => `(tactic| first | assumption | exact Dp.str _ | exact Dp.int _ | exact Dp.non | exact Dp.bl _ | (refine dp_same (New.same (by assumption)) ?_; kp_flats) | (refine dp_same (by assumption) ?_; kp_flats))
/-- one step of a reading -/
local macro_rules | `(tactic| lcg_off) => `(tactic| first
  | with_reducible refine Stp.go ?_
  | ((with_reducible show tVar _ _ _ _); refine c_var (by rfl) ?_)
  | ((with_reducible show rIxL _ _ _ _ _); refine c_ixL (by lcg_src) (by rfl) ?_)
  | ((with_reducible show rIxT _ _ _ _ _); refine c_ixT (by lcg_src) (by rfl) ?_)
  | ((with_reducible show rSetL _ _ _ _ _); refine c_setL (by lcg_sub) (by rfl) ?_)
  | ((with_reducible show rLenQ _ _ _ _); first | (refine c_lenL (by lcg_src) ?_) | (refine c_lenT (by lcg_src) ?_))
  | ((with_reducible show rSlL _ _ _ _ _ _); refine c_slL (by lcg_src) ?_)
  | ((with_reducible show rListQ _ _ _ _); first | (refine c_listL (by lcg_src) ?_) | (refine c_listT (by lcg_src) ?_))
  | ((with_reducible show rI _ _ _ _ _ _); refine c_IC (by first | assumption | decide | omega) ?_)
  | ((with_reducible show rIsi _ _ _ _); refine c_isi (by kp_flats) (by first | assumption | decide +kernel) ?_)
  | ((with_reducible show rIx _ _ _ _ _); refine c_ix (by first | exact .inl ⟨by lcg_src, by first | assumption | rfl⟩ | exact .inr ⟨by lcg_src, by first | assumption | rfl⟩) ?_)
  | ((with_reducible show NewW _ _ _ _); refine newW ?_)
  | ((with_reducible show rCat _ _ _ _); refine c_cat (by lcg_sub) (by lcg_sub) (le_line (by first | decide | (simp only [List.length_append, List.length_cons, List.length_nil]; omega))) ?_)
  | ((with_reducible show aAddS _ _ _ _); refine c_adds (le_line (by first | decide +kernel | assumption)) ?_)
  | ((with_reducible show rIn _ false _ _ _ _); refine c_inL (by lcg_src) (by rfl) (by rfl) ?_)
  | ((with_reducible show rIn _ true _ _ _ _); refine c_niL (by lcg_src) (by rfl) (by rfl) ?_))
/-- one step, with the new object's names -/
local macro_rules | `(tactic| k_offL) => `(tactic| first | lcg_off | ((with_reducible show ∀ _ _, New _ _ _ _ → _); intro _ _ _))
/-- an error that is held -/
local macro_rules | `(tactic| one_item) => `(tactic| first | assumption | (refine ErrV.same ?_ (New.same (by assumption)); one_item) | (refine ErrV.same ?_ (by assumption); one_item))
/-- nothing was changed -/
local macro_rules | `(tactic| one_place) => `(tactic| first | assumption | exact fun _ _ h => h | exact New.same (by assumption) | (refine Same.trans ?_ (New.same (by assumption)); one_place) | (refine Same.trans ?_ (by assumption); one_place))
namespace TD
open PySem PySem.Spec L2 PySem.Calls PySem.TDX
open PyProof.Rows hiding St
abbrev s_BadTree : Stmt := inClass (top 3) 0
theorem sc_BadTree : FnScope ["self"] ["self"] (defScope s_BadTree) := ⟨rfl, rfl, rfl, by decide +kernel, rfl, by decide +kernel, by decide +kernel⟩
abbrev s_BadClass : Stmt := inClass (top 4) 0
theorem sc_BadClass : FnScope ["self"] ["self"] (defScope s_BadClass) := ⟨rfl, rfl, rfl, by decide +kernel, rfl, by decide +kernel, by decide +kernel⟩
abbrev s_BadOwner : Stmt := inClass (top 5) 0
theorem sc_BadOwner : FnScope ["self", "owner"] ["self", "owner"] (defScope s_BadOwner) := ⟨rfl, rfl, rfl, by decide +kernel, rfl, by decide +kernel, by decide +kernel⟩
abbrev s_BadStep : Stmt := inClass (top 6) 0
theorem sc_BadStep : FnScope ["self", "at"] ["self", "at"] (defScope s_BadStep) := ⟨rfl, rfl, rfl, by decide +kernel, rfl, by decide +kernel, by decide +kernel⟩
abbrev s_TooLarge : Stmt := inClass (top 7) 0
theorem sc_TooLarge : FnScope ["self", "most"] ["self", "most"] (defScope s_TooLarge) := ⟨rfl, rfl, rfl, by decide +kernel, rfl, by decide +kernel, by decide +kernel⟩
abbrev s_TooLong : Stmt := inClass (top 8) 0
theorem sc_TooLong : FnScope ["self", "most"] ["self", "most"] (defScope s_TooLong) := ⟨rfl, rfl, rfl, by decide +kernel, rfl, by decide +kernel, by decide +kernel⟩
abbrev s_NotEqual : Stmt := inClass (top 9) 0
theorem sc_NotEqual : FnScope ["self", "item"] ["self", "item"] (defScope s_NotEqual) := ⟨rfl, rfl, rfl, by decide +kernel, rfl, by decide +kernel, by decide +kernel⟩
abbrev s_OutOfRange : Stmt := inClass (top 10) 0
theorem sc_OutOfRange : FnScope ["self", "number"] ["self", "number"] (defScope s_OutOfRange) := ⟨rfl, rfl, rfl, by decide +kernel, rfl, by decide +kernel, by decide +kernel⟩
abbrev s_BadStamp : Stmt := inClass (top 11) 0
theorem sc_BadStamp : FnScope ["self"] ["self"] (defScope s_BadStamp) := ⟨rfl, rfl, rfl, by decide +kernel, rfl, by decide +kernel, by decide +kernel⟩
abbrev s_Taken : Stmt := inClass (top 12) 0
theorem sc_Taken : FnScope ["self", "stamp"] ["self", "stamp"] (defScope s_Taken) := ⟨rfl, rfl, rfl, by decide +kernel, rfl, by decide +kernel, by decide +kernel⟩
abbrev s_Clash : Stmt := inClass (top 13) 0
theorem sc_Clash : FnScope ["self", "stamp"] ["self", "stamp"] (defScope s_Clash) := ⟨rfl, rfl, rfl, by decide +kernel, rfl, by decide +kernel, by decide +kernel⟩
abbrev s_OtherBase : Stmt := inClass (top 14) 0
theorem sc_OtherBase : FnScope ["self"] ["self"] (defScope s_OtherBase) := ⟨rfl, rfl, rfl, by decide +kernel, rfl, by decide +kernel, by decide +kernel⟩
abbrev s_Full : Stmt := inClass (top 15) 0
theorem sc_Full : FnScope ["self", "most"] ["self", "most"] (defScope s_Full) := ⟨rfl, rfl, rfl, by decide +kernel, rfl, by decide +kernel, by decide +kernel⟩
abbrev s_BadName : Stmt := inClass (top 16) 0
theorem sc_BadName : FnScope ["self", "name"] ["self", "name"] (defScope s_BadName) := ⟨rfl, rfl, rfl, by decide +kernel, rfl, by decide +kernel, by decide +kernel⟩
abbrev s_BadFormula : Stmt := inClass (top 17) 0
theorem sc_BadFormula : FnScope ["self"] ["self"] (defScope s_BadFormula) := ⟨rfl, rfl, rfl, by decide +kernel, rfl, by decide +kernel, by decide +kernel⟩
abbrev s_BadCommand : Stmt := inClass (top 18) 0
theorem sc_BadCommand : FnScope ["self", "at"] ["self", "at"] (defScope s_BadCommand) := ⟨rfl, rfl, rfl, by decide +kernel, rfl, by decide +kernel, by decide +kernel⟩
abbrev s_BadText : Stmt := inClass (top 19) 0
theorem sc_BadText : FnScope ["self", "at"] ["self", "at"] (defScope s_BadText) := ⟨rfl, rfl, rfl, by decide +kernel, rfl, by decide +kernel, by decide +kernel⟩
abbrev s_BadPage : Stmt := inClass (top 20) 0
theorem sc_BadPage : FnScope ["self", "row"] ["self", "row"] (defScope s_BadPage) := ⟨rfl, rfl, rfl, by decide +kernel, rfl, by decide +kernel, by decide +kernel⟩
abbrev s_Unknown : Stmt := inClass (top 21) 0
theorem sc_Unknown : FnScope ["self", "name"] ["self", "name"] (defScope s_Unknown) := ⟨rfl, rfl, rfl, by decide +kernel, rfl, by decide +kernel, by decide +kernel⟩
abbrev s_NoStamp : Stmt := inClass (top 22) 0
theorem sc_NoStamp : FnScope ["self", "stamp"] ["self", "stamp"] (defScope s_NoStamp) := ⟨rfl, rfl, rfl, by decide +kernel, rfl, by decide +kernel, by decide +kernel⟩
abbrev s_NoItem : Stmt := inClass (top 23) 0
theorem sc_NoItem : FnScope ["self", "owner"] ["self", "owner"] (defScope s_NoItem) := ⟨rfl, rfl, rfl, by decide +kernel, rfl, by decide +kernel, by decide +kernel⟩
abbrev s_NoRoom : Stmt := inClass (top 24) 0
theorem sc_NoRoom : FnScope ["self", "step"] ["self", "step"] (defScope s_NoRoom) := ⟨rfl, rfl, rfl, by decide +kernel, rfl, by decide +kernel, by decide +kernel⟩
abbrev s_NothingLeft : Stmt := inClass (top 25) 0
theorem sc_NothingLeft : FnScope ["self"] ["self"] (defScope s_NothingLeft) := ⟨rfl, rfl, rfl, by decide +kernel, rfl, by decide +kernel, by decide +kernel⟩
def fnT : List He.DefD := ([dmt "BadTree" "__init__" "BadTree.__init__" s_BadTree, dmt "BadClass" "__init__" "BadClass.__init__" s_BadClass, dmt "BadOwner" "__init__" "BadOwner.__init__" s_BadOwner, dmt "BadStep" "__init__" "BadStep.__init__" s_BadStep, dmt "TooLarge" "__init__" "TooLarge.__init__" s_TooLarge, dmt "TooLong" "__init__" "TooLong.__init__" s_TooLong, dmt "NotEqual" "__init__" "NotEqual.__init__" s_NotEqual, dmt "OutOfRange" "__init__" "OutOfRange.__init__" s_OutOfRange, dmt "BadStamp" "__init__" "BadStamp.__init__" s_BadStamp, dmt "Taken" "__init__" "Taken.__init__" s_Taken, dmt "Clash" "__init__" "Clash.__init__" s_Clash, dmt "OtherBase" "__init__" "OtherBase.__init__" s_OtherBase, dmt "Full" "__init__" "Full.__init__" s_Full, dmt "BadName" "__init__" "BadName.__init__" s_BadName, dmt "BadFormula" "__init__" "BadFormula.__init__" s_BadFormula, dmt "BadCommand" "__init__" "BadCommand.__init__" s_BadCommand, dmt "BadText" "__init__" "BadText.__init__" s_BadText, dmt "BadPage" "__init__" "BadPage.__init__" s_BadPage, dmt "Unknown" "__init__" "Unknown.__init__" s_Unknown, dmt "NoStamp" "__init__" "NoStamp.__init__" s_NoStamp, dmt "NoItem" "__init__" "NoItem.__init__" s_NoItem, dmt "NoRoom" "__init__" "NoRoom.__init__" s_NoRoom, dmt "NothingLeft" "__init__" "NothingLeft.__init__" s_NothingLeft, dfn "_law_bag" s_l_bag, dfn "_law_pull" s_l_pull, dfn "_law_like" s_l_like, dfn "_law_field" s_l_field, dfn "_law_flags" s_l_flags, dfn "_law_all" s_l_all, dfn "law" s_law] : List He.DefD)
def faT : List He.Fa := ([.glo "BadTree", .glo "BadClass", .glo "BadOwner", .glo "BadStep", .glo "TooLarge", .glo "TooLong", .glo "NotEqual", .glo "OutOfRange", .glo "BadStamp", .glo "Taken", .glo "Clash", .glo "OtherBase", .glo "Full", .glo "BadName", .glo "BadFormula", .glo "BadCommand", .glo "BadText", .glo "BadPage", .glo "Unknown", .glo "NoStamp", .glo "NoItem", .glo "NoRoom", .glo "NothingLeft", .free "list", .glo "_law_bag", .free "len", .glo "_law_pull", .glo "_law_like", .free "tuple", .free "isinstance"] : List He.Fa) ++ ([.free "dict", .free "bool", .free "range", .free "all", .glo "_law_field", .glo "_law_flags", .glo "_law_all", .free "LookupError", .glo "TurnMissing", .free "ValueError", .glo "TurnError", .glo "law"] : List He.Fa)
abbrev chkT : PySem.W.Frag → Bool := chkF faT (chk72)
section
variable {P : Program} {w : World} {K : PySem.W.Frag} {mg : Str → Option Value} {base : Heap} (M : EnvK chkT fnT K mg)
include M
theorem ok_BadTree : OkX P w K mg base 1 "BadTree" ["self"] (spE0 K (He.ga K "BadTree") "BadTree") :=
  okX_of (err72 M.test 0 (by decide)) (saysK_def M.c 0 (d := dmt "BadTree" "__init__" "BadTree.__init__" s_BadTree) rfl) sc_BadTree (M.glo 0) (fun _ _ _ _ _ _ us hl => match us, hl with | [_], _ => rfl) (fun vs H Q E h => by obtain ⟨_, rfl, _⟩ := h; rfl)
    (fun cdv A outer s H vs Q E hr h => ⟨t_i0 K "BadTree", pss_one (ps_gst (pv 0) pe_str), pure_i0 h⟩)
theorem ok_BadClass : OkX P w K mg base 1 "BadClass" ["self"] (spE0 K (He.ga K "BadClass") "BadClass") :=
  okX_of (err72 M.test 1 (by decide)) (saysK_def M.c 1 (d := dmt "BadClass" "__init__" "BadClass.__init__" s_BadClass) rfl) sc_BadClass (M.glo 1) (fun _ _ _ _ _ _ us hl => match us, hl with | [_], _ => rfl) (fun vs H Q E h => by obtain ⟨_, rfl, _⟩ := h; rfl)
    (fun cdv A outer s H vs Q E hr h => ⟨t_i0 K "BadClass", pss_one (ps_gst (pv 0) pe_str), pure_i0 h⟩)
theorem ok_BadOwner : OkX P w K mg base 1 "BadOwner" ["self", "owner"] (spE1 K (He.ga K "BadOwner") "BadOwner" "owner") :=
  okX_of (err72 M.test 2 (by decide)) (saysK_def M.c 2 (d := dmt "BadOwner" "__init__" "BadOwner.__init__" s_BadOwner) rfl) sc_BadOwner (M.glo 2) (fun _ _ _ _ _ _ us hl => match us, hl with | [_, _], _ => rfl) (fun vs H Q E h => by obtain ⟨_, _, rfl, _⟩ := h; rfl)
    (fun cdv A outer s H vs Q E hr h => ⟨t_i1 K "BadOwner" "owner", pss_cons (ps_gst (pv 0) pe_str) (pss_one (ps_gst (pv 0) (pv 1))), pure_i1 h⟩)
theorem ok_BadStep : OkX P w K mg base 1 "BadStep" ["self", "at"] (spE1 K (He.ga K "BadStep") "BadStep" "at") :=
  okX_of (err72 M.test 3 (by decide)) (saysK_def M.c 3 (d := dmt "BadStep" "__init__" "BadStep.__init__" s_BadStep) rfl) sc_BadStep (M.glo 3) (fun _ _ _ _ _ _ us hl => match us, hl with | [_, _], _ => rfl) (fun vs H Q E h => by obtain ⟨_, _, rfl, _⟩ := h; rfl)
    (fun cdv A outer s H vs Q E hr h => ⟨t_i1 K "BadStep" "at", pss_cons (ps_gst (pv 0) pe_str) (pss_one (ps_gst (pv 0) (pv 1))), pure_i1 h⟩)
theorem ok_TooLarge : OkX P w K mg base 1 "TooLarge" ["self", "most"] (spE1 K (He.ga K "TooLarge") "TooLarge" "most") :=
  okX_of (err72 M.test 4 (by decide)) (saysK_def M.c 4 (d := dmt "TooLarge" "__init__" "TooLarge.__init__" s_TooLarge) rfl) sc_TooLarge (M.glo 4) (fun _ _ _ _ _ _ us hl => match us, hl with | [_, _], _ => rfl) (fun vs H Q E h => by obtain ⟨_, _, rfl, _⟩ := h; rfl)
    (fun cdv A outer s H vs Q E hr h => ⟨t_i1 K "TooLarge" "most", pss_cons (ps_gst (pv 0) pe_str) (pss_one (ps_gst (pv 0) (pv 1))), pure_i1 h⟩)
theorem ok_TooLong : OkX P w K mg base 1 "TooLong" ["self", "most"] (spE1 K (He.ga K "TooLong") "TooLong" "most") :=
  okX_of (err72 M.test 5 (by decide)) (saysK_def M.c 5 (d := dmt "TooLong" "__init__" "TooLong.__init__" s_TooLong) rfl) sc_TooLong (M.glo 5) (fun _ _ _ _ _ _ us hl => match us, hl with | [_, _], _ => rfl) (fun vs H Q E h => by obtain ⟨_, _, rfl, _⟩ := h; rfl)
    (fun cdv A outer s H vs Q E hr h => ⟨t_i1 K "TooLong" "most", pss_cons (ps_gst (pv 0) pe_str) (pss_one (ps_gst (pv 0) (pv 1))), pure_i1 h⟩)
theorem ok_NotEqual : OkX P w K mg base 1 "NotEqual" ["self", "item"] (spE1 K (He.ga K "NotEqual") "NotEqual" "item") :=
  okX_of (err72 M.test 6 (by decide)) (saysK_def M.c 6 (d := dmt "NotEqual" "__init__" "NotEqual.__init__" s_NotEqual) rfl) sc_NotEqual (M.glo 6) (fun _ _ _ _ _ _ us hl => match us, hl with | [_, _], _ => rfl) (fun vs H Q E h => by obtain ⟨_, _, rfl, _⟩ := h; rfl)
    (fun cdv A outer s H vs Q E hr h => ⟨t_i1 K "NotEqual" "item", pss_cons (ps_gst (pv 0) pe_str) (pss_one (ps_gst (pv 0) (pv 1))), pure_i1 h⟩)
theorem ok_OutOfRange : OkX P w K mg base 1 "OutOfRange" ["self", "number"] (spE1 K (He.ga K "OutOfRange") "OutOfRange" "number") :=
  okX_of (err72 M.test 7 (by decide)) (saysK_def M.c 7 (d := dmt "OutOfRange" "__init__" "OutOfRange.__init__" s_OutOfRange) rfl) sc_OutOfRange (M.glo 7) (fun _ _ _ _ _ _ us hl => match us, hl with | [_, _], _ => rfl) (fun vs H Q E h => by obtain ⟨_, _, rfl, _⟩ := h; rfl)
    (fun cdv A outer s H vs Q E hr h => ⟨t_i1 K "OutOfRange" "number", pss_cons (ps_gst (pv 0) pe_str) (pss_one (ps_gst (pv 0) (pv 1))), pure_i1 h⟩)
theorem ok_BadStamp : OkX P w K mg base 1 "BadStamp" ["self"] (spE0 K (He.ga K "BadStamp") "BadStamp") :=
  okX_of (err72 M.test 8 (by decide)) (saysK_def M.c 8 (d := dmt "BadStamp" "__init__" "BadStamp.__init__" s_BadStamp) rfl) sc_BadStamp (M.glo 8) (fun _ _ _ _ _ _ us hl => match us, hl with | [_], _ => rfl) (fun vs H Q E h => by obtain ⟨_, rfl, _⟩ := h; rfl)
    (fun cdv A outer s H vs Q E hr h => ⟨t_i0 K "BadStamp", pss_one (ps_gst (pv 0) pe_str), pure_i0 h⟩)
theorem ok_Taken : OkX P w K mg base 1 "Taken" ["self", "stamp"] (spE1 K (He.ga K "Taken") "Taken" "stamp") :=
  okX_of (err72 M.test 9 (by decide)) (saysK_def M.c 9 (d := dmt "Taken" "__init__" "Taken.__init__" s_Taken) rfl) sc_Taken (M.glo 9) (fun _ _ _ _ _ _ us hl => match us, hl with | [_, _], _ => rfl) (fun vs H Q E h => by obtain ⟨_, _, rfl, _⟩ := h; rfl)
    (fun cdv A outer s H vs Q E hr h => ⟨t_i1 K "Taken" "stamp", pss_cons (ps_gst (pv 0) pe_str) (pss_one (ps_gst (pv 0) (pv 1))), pure_i1 h⟩)
theorem ok_Clash : OkX P w K mg base 1 "Clash" ["self", "stamp"] (spE1 K (He.ga K "Clash") "Clash" "stamp") :=
  okX_of (err72 M.test 10 (by decide)) (saysK_def M.c 10 (d := dmt "Clash" "__init__" "Clash.__init__" s_Clash) rfl) sc_Clash (M.glo 10) (fun _ _ _ _ _ _ us hl => match us, hl with | [_, _], _ => rfl) (fun vs H Q E h => by obtain ⟨_, _, rfl, _⟩ := h; rfl)
    (fun cdv A outer s H vs Q E hr h => ⟨t_i1 K "Clash" "stamp", pss_cons (ps_gst (pv 0) pe_str) (pss_one (ps_gst (pv 0) (pv 1))), pure_i1 h⟩)
theorem ok_OtherBase : OkX P w K mg base 1 "OtherBase" ["self"] (spE0 K (He.ga K "OtherBase") "OtherBase") :=
  okX_of (err72 M.test 11 (by decide)) (saysK_def M.c 11 (d := dmt "OtherBase" "__init__" "OtherBase.__init__" s_OtherBase) rfl) sc_OtherBase (M.glo 11) (fun _ _ _ _ _ _ us hl => match us, hl with | [_], _ => rfl) (fun vs H Q E h => by obtain ⟨_, rfl, _⟩ := h; rfl)
    (fun cdv A outer s H vs Q E hr h => ⟨t_i0 K "OtherBase", pss_one (ps_gst (pv 0) pe_str), pure_i0 h⟩)
theorem ok_Full : OkX P w K mg base 1 "Full" ["self", "most"] (spE1 K (He.ga K "Full") "Full" "most") :=
  okX_of (err72 M.test 12 (by decide)) (saysK_def M.c 12 (d := dmt "Full" "__init__" "Full.__init__" s_Full) rfl) sc_Full (M.glo 12) (fun _ _ _ _ _ _ us hl => match us, hl with | [_, _], _ => rfl) (fun vs H Q E h => by obtain ⟨_, _, rfl, _⟩ := h; rfl)
    (fun cdv A outer s H vs Q E hr h => ⟨t_i1 K "Full" "most", pss_cons (ps_gst (pv 0) pe_str) (pss_one (ps_gst (pv 0) (pv 1))), pure_i1 h⟩)
theorem ok_BadName : OkX P w K mg base 1 "BadName" ["self", "name"] (spE1 K (He.ga K "BadName") "BadName" "name") :=
  okX_of (err72 M.test 13 (by decide)) (saysK_def M.c 13 (d := dmt "BadName" "__init__" "BadName.__init__" s_BadName) rfl) sc_BadName (M.glo 13) (fun _ _ _ _ _ _ us hl => match us, hl with | [_, _], _ => rfl) (fun vs H Q E h => by obtain ⟨_, _, rfl, _⟩ := h; rfl)
    (fun cdv A outer s H vs Q E hr h => ⟨t_i1 K "BadName" "name", pss_cons (ps_gst (pv 0) pe_str) (pss_one (ps_gst (pv 0) (pv 1))), pure_i1 h⟩)
theorem ok_BadFormula : OkX P w K mg base 1 "BadFormula" ["self"] (spE0 K (He.ga K "BadFormula") "BadFormula") :=
  okX_of (err72 M.test 14 (by decide)) (saysK_def M.c 14 (d := dmt "BadFormula" "__init__" "BadFormula.__init__" s_BadFormula) rfl) sc_BadFormula (M.glo 14) (fun _ _ _ _ _ _ us hl => match us, hl with | [_], _ => rfl) (fun vs H Q E h => by obtain ⟨_, rfl, _⟩ := h; rfl)
    (fun cdv A outer s H vs Q E hr h => ⟨t_i0 K "BadFormula", pss_one (ps_gst (pv 0) pe_str), pure_i0 h⟩)
theorem ok_BadCommand : OkX P w K mg base 1 "BadCommand" ["self", "at"] (spE1 K (He.ga K "BadCommand") "BadCommand" "at") :=
  okX_of (err72 M.test 15 (by decide)) (saysK_def M.c 15 (d := dmt "BadCommand" "__init__" "BadCommand.__init__" s_BadCommand) rfl) sc_BadCommand (M.glo 15) (fun _ _ _ _ _ _ us hl => match us, hl with | [_, _], _ => rfl) (fun vs H Q E h => by obtain ⟨_, _, rfl, _⟩ := h; rfl)
    (fun cdv A outer s H vs Q E hr h => ⟨t_i1 K "BadCommand" "at", pss_cons (ps_gst (pv 0) pe_str) (pss_one (ps_gst (pv 0) (pv 1))), pure_i1 h⟩)
theorem ok_BadText : OkX P w K mg base 1 "BadText" ["self", "at"] (spE1 K (He.ga K "BadText") "BadText" "at") :=
  okX_of (err72 M.test 16 (by decide)) (saysK_def M.c 16 (d := dmt "BadText" "__init__" "BadText.__init__" s_BadText) rfl) sc_BadText (M.glo 16) (fun _ _ _ _ _ _ us hl => match us, hl with | [_, _], _ => rfl) (fun vs H Q E h => by obtain ⟨_, _, rfl, _⟩ := h; rfl)
    (fun cdv A outer s H vs Q E hr h => ⟨t_i1 K "BadText" "at", pss_cons (ps_gst (pv 0) pe_str) (pss_one (ps_gst (pv 0) (pv 1))), pure_i1 h⟩)
theorem ok_BadPage : OkX P w K mg base 1 "BadPage" ["self", "row"] (spE1 K (He.ga K "BadPage") "BadPage" "row") :=
  okX_of (err72 M.test 17 (by decide)) (saysK_def M.c 17 (d := dmt "BadPage" "__init__" "BadPage.__init__" s_BadPage) rfl) sc_BadPage (M.glo 17) (fun _ _ _ _ _ _ us hl => match us, hl with | [_, _], _ => rfl) (fun vs H Q E h => by obtain ⟨_, _, rfl, _⟩ := h; rfl)
    (fun cdv A outer s H vs Q E hr h => ⟨t_i1 K "BadPage" "row", pss_cons (ps_gst (pv 0) pe_str) (pss_one (ps_gst (pv 0) (pv 1))), pure_i1 h⟩)
theorem ok_Unknown : OkX P w K mg base 1 "Unknown" ["self", "name"] (spE1 K (He.ga K "Unknown") "Unknown" "name") :=
  okX_of (err72 M.test 18 (by decide)) (saysK_def M.c 18 (d := dmt "Unknown" "__init__" "Unknown.__init__" s_Unknown) rfl) sc_Unknown (M.glo 18) (fun _ _ _ _ _ _ us hl => match us, hl with | [_, _], _ => rfl) (fun vs H Q E h => by obtain ⟨_, _, rfl, _⟩ := h; rfl)
    (fun cdv A outer s H vs Q E hr h => ⟨t_i1 K "Unknown" "name", pss_cons (ps_gst (pv 0) pe_str) (pss_one (ps_gst (pv 0) (pv 1))), pure_i1 h⟩)
theorem ok_NoStamp : OkX P w K mg base 1 "NoStamp" ["self", "stamp"] (spE1 K (He.ga K "NoStamp") "NoStamp" "stamp") :=
  okX_of (err72 M.test 19 (by decide)) (saysK_def M.c 19 (d := dmt "NoStamp" "__init__" "NoStamp.__init__" s_NoStamp) rfl) sc_NoStamp (M.glo 19) (fun _ _ _ _ _ _ us hl => match us, hl with | [_, _], _ => rfl) (fun vs H Q E h => by obtain ⟨_, _, rfl, _⟩ := h; rfl)
    (fun cdv A outer s H vs Q E hr h => ⟨t_i1 K "NoStamp" "stamp", pss_cons (ps_gst (pv 0) pe_str) (pss_one (ps_gst (pv 0) (pv 1))), pure_i1 h⟩)
theorem ok_NoItem : OkX P w K mg base 1 "NoItem" ["self", "owner"] (spE1 K (He.ga K "NoItem") "NoItem" "owner") :=
  okX_of (err72 M.test 20 (by decide)) (saysK_def M.c 20 (d := dmt "NoItem" "__init__" "NoItem.__init__" s_NoItem) rfl) sc_NoItem (M.glo 20) (fun _ _ _ _ _ _ us hl => match us, hl with | [_, _], _ => rfl) (fun vs H Q E h => by obtain ⟨_, _, rfl, _⟩ := h; rfl)
    (fun cdv A outer s H vs Q E hr h => ⟨t_i1 K "NoItem" "owner", pss_cons (ps_gst (pv 0) pe_str) (pss_one (ps_gst (pv 0) (pv 1))), pure_i1 h⟩)
theorem ok_NoRoom : OkX P w K mg base 1 "NoRoom" ["self", "step"] (spE1 K (He.ga K "NoRoom") "NoRoom" "step") :=
  okX_of (err72 M.test 21 (by decide)) (saysK_def M.c 21 (d := dmt "NoRoom" "__init__" "NoRoom.__init__" s_NoRoom) rfl) sc_NoRoom (M.glo 21) (fun _ _ _ _ _ _ us hl => match us, hl with | [_, _], _ => rfl) (fun vs H Q E h => by obtain ⟨_, _, rfl, _⟩ := h; rfl)
    (fun cdv A outer s H vs Q E hr h => ⟨t_i1 K "NoRoom" "step", pss_cons (ps_gst (pv 0) pe_str) (pss_one (ps_gst (pv 0) (pv 1))), pure_i1 h⟩)
theorem ok_NothingLeft : OkX P w K mg base 1 "NothingLeft" ["self"] (spE0 K (He.ga K "NothingLeft") "NothingLeft") :=
  okX_of (err72 M.test 22 (by decide)) (saysK_def M.c 22 (d := dmt "NothingLeft" "__init__" "NothingLeft.__init__" s_NothingLeft) rfl) sc_NothingLeft (M.glo 22) (fun _ _ _ _ _ _ us hl => match us, hl with | [_], _ => rfl) (fun vs H Q E h => by obtain ⟨_, rfl, _⟩ := h; rfl)
    (fun cdv A outer s H vs Q E hr h => ⟨t_i0 K "NothingLeft", pss_one (ps_gst (pv 0) pe_str), pure_i0 h⟩)
theorem ok_l_bag : OkF P w K mg base 1 "_law_bag" ["_law_script"] (spBag K) :=
  okF_of (saysK_def M.c 23 (d := dfn "_law_bag" s_l_bag) rfl) sc_l_bag (M.glo 24) (fun _ _ _ _ _ _ us hl => match us, hl with | [_], _ => rfl) (fun vs H Q E h => by first | (obtain ⟨_, rfl, _⟩ := h; rfl) | (obtain ⟨_, _, rfl, _⟩ := h; rfl) | (obtain ⟨_, _, _, rfl, _⟩ := h; rfl) | (obtain ⟨_, _, _, _, rfl, _⟩ := h; rfl) | (obtain ⟨_, _, _, _, _, rfl, _⟩ := h; rfl) | (obtain ⟨_, _, _, _, _, _, rfl, _⟩ := h; rfl) | (obtain ⟨_, _, _, _, _, _, _, rfl, _⟩ := h; rfl))
    (fun cdv A outer s H vs Q E hr h => ⟨t_l_bag K, b_l_bag hr (M.free 23), pure_l_bag _ _ _ _ h⟩)
theorem ok_l_pull : OkF P w K mg base 1 "_law_pull" ["_law_bag_here", "_law_amount"] (spPull K) :=
  okF_of (saysK_def M.c 24 (d := dfn "_law_pull" s_l_pull) rfl) sc_l_pull (M.glo 26) (fun _ _ _ _ _ _ us hl => match us, hl with | [_, _], _ => rfl) (fun vs H Q E h => by first | (obtain ⟨_, rfl, _⟩ := h; rfl) | (obtain ⟨_, _, rfl, _⟩ := h; rfl) | (obtain ⟨_, _, _, rfl, _⟩ := h; rfl) | (obtain ⟨_, _, _, _, rfl, _⟩ := h; rfl) | (obtain ⟨_, _, _, _, _, rfl, _⟩ := h; rfl) | (obtain ⟨_, _, _, _, _, _, rfl, _⟩ := h; rfl) | (obtain ⟨_, _, _, _, _, _, _, rfl, _⟩ := h; rfl))
    (fun cdv A outer s H vs Q E hr h => ⟨t_l_pull K, b_l_pull hr (M.free 25), pure_l_pull _ _ _ _ h⟩)
theorem ok_l_like : ∀ n, n ≤ 60 → OkF P w K mg base (n + 1) "_law_like" ["_law_found", "_law_due"] (spLikeP K n)
  | 0, _ => okF_of (saysK_def M.c 25 (d := dfn "_law_like" s_l_like) rfl) sc_l_like (M.glo 27) (fun _ _ _ _ _ _ us hl => match us, hl with | [_, _], _ => rfl) (fun vs H Q E h => h.elim) (fun cdv A outer s H vs Q E hr h => h.elim)
  | n + 1, hn => okF_of (saysK_def M.c 25 (d := dfn "_law_like" s_l_like) rfl) sc_l_like (M.glo 27) (fun _ _ _ _ _ _ us hl => match us, hl with | [_, _], _ => rfl) (fun vs H Q E h => by first | (obtain ⟨_, rfl, _⟩ := h; rfl) | (obtain ⟨_, _, rfl, _⟩ := h; rfl) | (obtain ⟨_, _, _, rfl, _⟩ := h; rfl) | (obtain ⟨_, _, _, _, rfl, _⟩ := h; rfl) | (obtain ⟨_, _, _, _, _, rfl, _⟩ := h; rfl) | (obtain ⟨_, _, _, _, _, _, rfl, _⟩ := h; rfl) | (obtain ⟨_, _, _, _, _, _, _, rfl, _⟩ := h; rfl))
    (fun cdv A outer s H vs Q E hr h => ⟨t_l_like K (spLikeP K n), b_l_like hr (M.free 28) (M.free 29) (M.free 23) (M.free 30) (M.free 31) (M.free 25) (M.free 32) (ok_l_like n (by omega)) (by omega) (M.free 33), pure_l_like (E := E) (by omega) h⟩)
theorem ok_l_field : OkF P w K mg base 1 "_law_field" ["_law_e"] (spField K) :=
  okF_of (saysK_def M.c 26 (d := dfn "_law_field" s_l_field) rfl) sc_l_field (M.glo 34) (fun _ _ _ _ _ _ us hl => match us, hl with | [_], _ => rfl) (fun vs H Q E h => by first | (obtain ⟨_, rfl, _⟩ := h; rfl) | (obtain ⟨_, _, rfl, _⟩ := h; rfl) | (obtain ⟨_, _, _, rfl, _⟩ := h; rfl) | (obtain ⟨_, _, _, _, rfl, _⟩ := h; rfl) | (obtain ⟨_, _, _, _, _, rfl, _⟩ := h; rfl) | (obtain ⟨_, _, _, _, _, _, rfl, _⟩ := h; rfl) | (obtain ⟨_, _, _, _, _, _, _, rfl, _⟩ := h; rfl))
    (fun cdv A outer s H vs Q E hr h => ⟨t_l_field K, b_l_field hr , pure_l_field (f72 M.test) h⟩)
theorem ok_l_flags : OkF P w K mg base 1 "_law_flags" ["_law_e"] (spFlags K) :=
  okF_of (saysK_def M.c 27 (d := dfn "_law_flags" s_l_flags) rfl) sc_l_flags (M.glo 35) (fun _ _ _ _ _ _ us hl => match us, hl with | [_], _ => rfl) (fun vs H Q E h => by first | (obtain ⟨_, rfl, _⟩ := h; rfl) | (obtain ⟨_, _, rfl, _⟩ := h; rfl) | (obtain ⟨_, _, _, rfl, _⟩ := h; rfl) | (obtain ⟨_, _, _, _, rfl, _⟩ := h; rfl) | (obtain ⟨_, _, _, _, _, rfl, _⟩ := h; rfl) | (obtain ⟨_, _, _, _, _, _, rfl, _⟩ := h; rfl) | (obtain ⟨_, _, _, _, _, _, _, rfl, _⟩ := h; rfl))
    (fun cdv A outer s H vs Q E hr h => ⟨t_l_flags K, b_l_flags hr (M.glo 4) (M.free 29) (M.glo 3) (M.glo 2) (M.glo 1) (M.glo 0) (M.glo 7) (M.glo 6) (M.glo 5) (M.glo 9) (M.glo 8) (M.glo 14) (M.glo 13) (M.glo 12) (M.glo 11) (M.glo 10) (M.glo 17) (M.glo 16) (M.glo 15) (M.glo 19) (M.glo 18) (M.glo 22) (M.glo 21) (M.glo 20), pure_l_flags (f72 M.test) h⟩)
theorem ok_l_all : OkF P w K mg base 4 "_law_all" ["_law_n"] (spAll K) :=
  okF_of (saysK_def M.c 28 (d := dfn "_law_all" s_l_all) rfl) sc_l_all (M.glo 36) (fun _ _ _ _ _ _ us hl => match us, hl with | [_], _ => rfl) (fun vs H Q E h => by first | (obtain ⟨_, rfl, _⟩ := h; rfl) | (obtain ⟨_, _, rfl, _⟩ := h; rfl) | (obtain ⟨_, _, _, rfl, _⟩ := h; rfl) | (obtain ⟨_, _, _, _, rfl, _⟩ := h; rfl) | (obtain ⟨_, _, _, _, _, rfl, _⟩ := h; rfl) | (obtain ⟨_, _, _, _, _, _, rfl, _⟩ := h; rfl) | (obtain ⟨_, _, _, _, _, _, _, rfl, _⟩ := h; rfl))
    (fun cdv A outer s H vs Q E hr h => ⟨t_l_all K, b_l_all hr (ok_Clash M) (by omega) (ok_Taken M) (by omega) (ok_BadStamp M) (by omega) (ok_OutOfRange M) (by omega) (ok_NotEqual M) (by omega) (ok_TooLong M) (by omega) (ok_TooLarge M) (by omega) (ok_BadStep M) (by omega) (ok_BadOwner M) (by omega) (ok_BadClass M) (by omega) (ok_BadTree M) (by omega) (ok_BadPage M) (by omega) (ok_BadText M) (by omega) (ok_BadCommand M) (by omega) (ok_BadFormula M) (by omega) (ok_BadName M) (by omega) (ok_Full M) (by omega) (ok_OtherBase M) (by omega) (ok_NothingLeft M) (by omega) (ok_NoRoom M) (by omega) (ok_NoItem M) (by omega) (ok_NoStamp M) (by omega) (ok_Unknown M) (by omega), pure_l_all (f72 M.test) h⟩)
theorem ok_law : ∃ fd : FuncData, (∀ (s : Shared) (u : Value), BindsTo s fd ⟨[u], []⟩ [("_law_script", u)]) ∧ ∀ base : Heap, FnOk P w K mg base (L2.CX P w) 9 (He.ga K "law") fd ["_law_script"] (spLaw K) :=
  law_of (saysK_def M.c 29 (d := dfn "law" s_law) rfl) sc_law (fun _ _ _ _ _ _ us hl => match us, hl with | [_], _ => rfl) (fun vs H Q E h => by first | (obtain ⟨_, rfl, _⟩ := h; rfl) | (obtain ⟨_, _, rfl, _⟩ := h; rfl) | (obtain ⟨_, _, _, rfl, _⟩ := h; rfl) | (obtain ⟨_, _, _, _, rfl, _⟩ := h; rfl) | (obtain ⟨_, _, _, _, _, rfl, _⟩ := h; rfl) | (obtain ⟨_, _, _, _, _, _, rfl, _⟩ := h; rfl) | (obtain ⟨_, _, _, _, _, _, _, rfl, _⟩ := h; rfl)) (fun base cdv A outer s H vs Q E hr h => ⟨t_law K (spAll K) (spBag K) (spField K) (spFlags K) (spLike K 5) (spPull K), b_law hr (ok_l_bag M) (by omega) (ok_l_pull M) (by omega) (ok_l_all M) (by omega) (M.free 32) (ok_l_flags M) (by omega) (ok_l_like M 6 (by decide)) (by omega) (M.free 37) (M.free 29) (M.glo 38) (M.free 39) (M.glo 40) (ok_l_field M) (by omega), pure_law (f72 M.test) h⟩)
end
end TD

end
section
open TD L2
/-- what stands at an address -/
local macro_rules | `(tactic| lcg_sub) => `(tactic| first | assumption | exact upd_same | exact New.at_ (by assumption) | (refine New.same (by assumption) _ _ ?_; lcg_sub) | (refine (show Same _ _ from by assumption) _ _ ?_; lcg_sub) | (refine Eq.trans (upd_ne (by first | assumption | exact Ne.symm (by assumption))) ?_; lcg_sub))
/-- a list, a tuple to be read -/
local macro_rules | `(tactic| lcg_src) => `(tactic| first | assumption | exact SqL.of (by lcg_sub) | exact SqT.of (by lcg_sub) | (refine Same.seq (New.same (by assumption)) ?_; lcg_src) | (refine Same.seq (by assumption) ?_; lcg_src) | (refine sameT (New.same (by assumption)) ?_; lcg_src) | (refine sameT (by assumption) ?_; lcg_src))
/-- data at a value -/
local macro_rules | `(tactic| kp_flats) => `(tactic| first | assumption | exact Dp.str _ | exact Dp.int _ | exact Dp.non | exact Dp.bl _ | (refine dp_same (New.same (by assumption)) ?_; kp_flats) | (refine dp_same (by assumption) ?_; kp_flats))
/-- one step of a reading -/
local macro_rules | `(tactic| lcg_off) => `(tactic| first
  | with_reducible refine Stp.go ?_
  | ((with_reducible show tVar _ _ _ _); refine c_var (by rfl) ?_)
  | ((with_reducible show rIxL _ _ _ _ _); refine c_ixL (by lcg_src) (by rfl) ?_)
  | ((with_reducible show rIxT _ _ _ _ _); refine c_ixT (by lcg_src) (by rfl) ?_)
  | ((with_reducible show rSetL _ _ _ _ _); refine c_setL (by lcg_sub) (by rfl) ?_)
  | ((with_reducible show rLenQ _ _ _ _); first | (refine c_lenL (by lcg_src) ?_) | (refine c_lenT (by lcg_src) ?_))
  | ((with_reducible show rSlL _ _ _ _ _ _); refine c_slL (by lcg_src) ?_)
  | ((with_reducible show rListQ _ _ _ _); first | (refine c_listL (by lcg_src) ?_) | (refine c_listT (by lcg_src) ?_))
  | ((with_reducible show rI _ _ _ _ _ _); refine c_IC (by first | assumption | decide | omega) ?_)
  | ((with_reducible show rIsi _ _ _ _); refine c_isi (by kp_flats) (by first | assumption | decide +kernel) ?_)
  | ((with_reducible show rIx _ _ _ _ _); refine c_ix (by first | exact .inl ⟨by lcg_src, by first | assumption | rfl⟩ | exact .inr ⟨by lcg_src, by first | assumption | rfl⟩) ?_)
  | ((with_reducible show NewW _ _ _ _); refine newW ?_)
  | ((with_reducible show rCat _ _ _ _); refine c_cat (by lcg_sub) (by lcg_sub) (le_line (by first | decide | (simp only [List.length_append, List.length_cons, List.length_nil]; omega))) ?_)
  | ((with_reducible show aAddS _ _ _ _); refine c_adds (le_line (by first | decide +kernel | assumption)) ?_)
  | ((with_reducible show rIn _ false _ _ _ _); refine c_inL (by lcg_src) (by rfl) (by rfl) ?_)
  | ((with_reducible show rIn _ true _ _ _ _); refine c_niL (by lcg_src) (by rfl) (by rfl) ?_))
/-- one step, with the new object's names -/
local macro_rules | `(tactic| k_offL) => `(tactic| first | lcg_off | ((with_reducible show ∀ _ _, New _ _ _ _ → _); intro _ _ _))
/-- an error that is held -/
local macro_rules | `(tactic| one_item) => `(tactic| first | assumption | (refine ErrV.same ?_ (New.same (by assumption)); one_item) | (refine ErrV.same ?_ (by assumption); one_item))
/-- nothing was changed -/
local macro_rules | `(tactic| one_place) => `(tactic| first | assumption | exact fun _ _ h => h | exact New.same (by assumption) | (refine Same.trans ?_ (New.same (by assumption)); one_place) | (refine Same.trans ?_ (by assumption); one_place))
namespace TD
open PySem PySem.Spec L2 PySem.Calls PySem.TDX
open PyProof.Rows hiding St
/-! ### the head -/
abbrev R : PySem.W.OpenRow := PySem.W.OpenLaw.row PySem.Challenge.rw_turndeal_k72_error_classes
abbrev qv : Program := PySem.W.view R.prog [33]
abbrev hk : PySem.W.Hook := hookK 4 chkT fnT
def ob (s : PySem.W.SharedT) : AlT := obsKG 4 chkT fnT (HandSHeadRun.getT s)
theorem ob_eq (s : PySem.W.SharedT) : ob s = hk.obs s.abs := obsKG_eq
def names : List Str := (["TurnError", "TurnMissing", "BadTree", "BadClass", "BadOwner", "BadStep", "TooLarge", "TooLong", "NotEqual", "OutOfRange", "BadStamp", "Taken", "Clash", "OtherBase", "Full", "BadName", "BadFormula", "BadCommand", "BadText", "BadPage", "Unknown", "NoStamp", "NoItem", "NoRoom", "NothingLeft", "_law_bag", "_law_pull", "_law_like", "_law_field", "_law_all"] : List Str) ++ (["_law_flags"] : List Str)
theorem run (w : World) : HandSHeadRun.RunEq R qv hk ob 40000 names w := by
  intro os
  kernel_rfl
end TD
open PySem PySem.W PySem.Calls PyProof.Rows
theorem PySem.Challenge.cw_turndeal_k72_error_classes_holds : PySem.Challenge.rw_turndeal_k72_error_classes.Holds := by
  w_on; o_law
  refine HandSHeadRun.head_any (r := OpenLaw.row PySem.Challenge.rw_turndeal_k72_error_classes) (q := view (OpenLaw.row PySem.Challenge.rw_turndeal_k72_error_classes).prog [33]) (H := TD.hk) (ob := TD.ob) (M := 40000) (loose := TD.names) (d := HandSHeadRun.topDef (OpenLaw.row PySem.Challenge.rw_turndeal_k72_error_classes).prog 33) (kwd := []) TD.ob_eq
    (by kernel_rfl) (fun s => by kernel_rfl) TD.run (by kernel_rfl) (by kernel_rfl) (by kernel_rfl) (by rfl) (by first | assumption | decide +kernel) (by decide +kernel) ⟨rfl, rfl, rfl, rfl, rfl, by decide +kernel⟩ ?hw ?hc
  case hw => w_witness2
  case hc =>
    refine TD.law_end (l := PySem.Challenge.rw_turndeal_k72_error_classes) (n := 63) (k := 9) (x := "_law_script") rfl (by decide) (by kernel_rfl) ⟨rfl, by decide, by decide⟩ ?F
    intro w mg fa h Y G hmg0
    obtain ⟨K, KX, c⟩ := Y
    have hmg : mg ("law" : PySem.Str) = some (.ref fa) := by
      have e : (HandSHeadRun.topDef (OpenLaw.row PySem.Challenge.rw_turndeal_k72_error_classes).prog 33).name = ("law" : PySem.Str) := by kernel_rfl
      rw [← e]
      exact hmg0
    have M : TD.EnvK TD.chkT TD.fnT K mg := ⟨⟨h, KX, G⟩, c⟩
    have e := hmg.symm.trans (M.glo 41)
    cases e
    obtain ⟨fd, hb, hF⟩ := TD.ok_law (P := (PySem.Challenge.rw_turndeal_k72_error_classes).prog) (w := w) M
    exact ⟨K, fd, TD.spLaw K, KX, hb, fun H a ns hl hS => ⟨a, ns, rfl, hS, fun _ => rfl⟩, fun base _ _ => hF base⟩

end
