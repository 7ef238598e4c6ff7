import PyProof.Rows.All
import Wide.All
import OpenK.AllK
import Wide.FinOn
import HandS.ForMost
import HandS.Exc
import HandS.ExcOwn
import HandS.TryOnly
import HandS.WordsExc
import HandS.IsInst
import PySem.Challenge.RW_hillsight_k01_slopes
set_option Elab.async false
set_option linter.all false
set_option maxRecDepth 100000
set_option maxHeartbeats 4000000
namespace Hs
open PySem PySem.Spec PyProof.Rows L2
/-! ## readings, step by step -/
theorem rd_var {i : Nat} {σ : L2.St} {H : Hp} {Q : VK} {v : V} (h : σ[i]? = some (some v)) (q : Q v H) : tVar i σ H Q := ⟨v, h, q⟩
theorem rd_c {v : V} {σ : L2.St} {H : Hp} {Q : VK} (q : Q v H) : tC v σ H Q := q
theorem rd_op {r : R2} {ta tb : TE} {σ : L2.St} {H : Hp} {Q : VK} (q : ta σ H fun x H1 => tb σ H1 fun y H2 => r x y H2 Q) : tOp r ta tb σ H Q := q
theorem rd_un {r : V → Hp → VK → Prop} {ta : TE} {σ : L2.St} {H : Hp} {Q : VK} (q : ta σ H fun x H1 => r x H1 Q) : tUn r ta σ H Q := q
theorem rd_U {g : Int → V} {i : Int} {H : Hp} {Q : VK} (q : Q (g i) H) : rU g (.int i) H Q := ⟨i, rfl, q⟩
theorem rd_I0 {g : Int → Int → V} {i j : Int} {H : Hp} {Q : VK} (q : Q (g i j) H) : rI0 g (.int i) (.int j) H Q := ⟨i, j, rfl, rfl, q⟩
theorem rd_I {C : Int → Int → Prop} {g : Int → Int → V} {i j : Int} {H : Hp} {Q : VK} (c : C i j) (q : Q (g i j) H) : rI C g (.int i) (.int j) H Q := ⟨i, j, rfl, rfl, c, q⟩
theorem rd_eq {x y : V} {H : Hp} {Q : VK} (c : scal x y = true) (q : Q (.bl (decide (x = y))) H) : rEq x y H Q := ⟨c, q⟩
theorem rd_ne {x y : V} {H : Hp} {Q : VK} (c : scal x y = true) (q : Q (.bl (!decide (x = y))) H) : rNe x y H Q := ⟨c, q⟩
theorem rd_nil {σ : L2.St} {H : Hp} {Q : List V → Hp → Prop} (q : Q [] H) : tNil σ H Q := q
theorem rd_cons {ta : TE} {tr : TA} {σ : L2.St} {H : Hp} {Q : List V → Hp → Prop} (q : ta σ H fun x H1 => tr σ H1 fun xs H2 => Q (x :: xs) H2) : tCons ta tr σ H Q := q
theorem rd_cb {r : List V → Hp → VK → Prop} {ta : TA} {σ : L2.St} {H : Hp} {Q : VK} (q : ta σ H fun xs H1 => r xs H1 Q) : tCB r ta σ H Q := q
theorem rd_call {sp : Sp} {E : XK} {ta : TA} {σ : L2.St} {H : Hp} {Q : VK} (q : ta σ H fun xs H1 => sp (xs ++ []) H1 Q E) : tCall sp [] E ta σ H Q := q
theorem rd_callS {sp : Sp} {E : L2.St → XK} {ta : TA} {σ : L2.St} {H : Hp} {Q : VK} (q : ta σ H fun xs H1 => sp xs H1 Q (E σ)) : tCallS sp E ta σ H Q := q
theorem rd_test {t : TE} {σ : L2.St} {H : Hp} {Q : Bool → Hp → Prop} (q : t σ H fun x H' => ∃ k, x = .bl k ∧ Q k H') : tTest t σ H Q := q
theorem rd_tB {t : TE} {σ : L2.St} {H : Hp} {Q : Bool → Hp → Prop} (q : t σ H fun x H' => ∃ k, x = .bl k ∧ Q k H') : tB t σ H Q := q
theorem rd_bl {k : Bool} {R : Bool → Prop} (q : R k) : ∃ k', V.bl k = .bl k' ∧ R k' := ⟨k, rfl, q⟩
theorem rd_not {t : TT} {σ : L2.St} {H : Hp} {Q : Bool → Hp → Prop} (q : t σ H fun c H1 => Q (!c) H1) : tNot t σ H Q := q
theorem rd_and {t u : TT} {σ : L2.St} {H : Hp} {Q : Bool → Hp → Prop} (q : t σ H fun c H1 => if c = true then u σ H1 Q else Q false H1) : tAnd t u σ H Q := q
theorem rd_or {t u : TT} {σ : L2.St} {H : Hp} {Q : Bool → Hp → Prop} (q : t σ H fun c H1 => if c = true then Q true H1 else u σ H1 Q) : tOr t u σ H Q := q
theorem rd_andV {t u : TE} {σ : L2.St} {H : Hp} {Q : VK} (q : t σ H fun x H1 => ∃ c, x = .bl c ∧ if c = true then u σ H1 Q else Q (.bl false) H1) : tAndV t u σ H Q := q
theorem rd_orV {t u : TE} {σ : L2.St} {H : Hp} {Q : VK} (q : t σ H fun x H1 => ∃ c, x = .bl c ∧ if c = true then Q (.bl true) H1 else u σ H1 Q) : tOrV t u σ H Q := q
theorem rd_notV {t : TE} {σ : L2.St} {H : Hp} {Q : VK} (q : t σ H fun x H1 => ∃ c, x = .bl c ∧ Q (.bl (!c)) H1) : tNotV t σ H Q := q
theorem rd_if {c : TT} {ta tb : TE} {σ : L2.St} {H : Hp} {Q : VK} (q : c σ H fun b H1 => if b = true then ta σ H1 Q else tb σ H1 Q) : tIf c ta tb σ H Q := q
theorem rd_seq {t u : TS} {D : Ends} {σ : L2.St} {H : Hp} (q : t { D with nx := u D } σ H) : tSeq t u D σ H := q
theorem rd_asg {te : TE} {g : TG} {D : Ends} {σ : L2.St} {H : Hp} (q : te σ H fun x H1 => g x σ H1 D.nx) : tAsg te g D σ H := q
theorem rd_name {i : Nat} {v : V} {σ : L2.St} {H : Hp} {Q : L2.St → Hp → Prop} (q : Q (σ.set i (some v)) H) : gName i v σ H Q := q
theorem rd_ret {te : TE} {D : Ends} {σ : L2.St} {H : Hp} (q : te σ H D.rt) : tRet te D σ H := q
theorem rd_drop {te : TE} {D : Ends} {σ : L2.St} {H : Hp} (q : te σ H fun _ H1 => D.nx σ H1) : tDrop te D σ H := q
theorem rd_ifS {c : TT} {t u : TS} {D : Ends} {σ : L2.St} {H : Hp} (q : c σ H fun b H1 => if b = true then t D σ H1 else u D σ H1) : tIfS c t u D σ H := q
theorem rd_next {D : Ends} {σ : L2.St} {H : Hp} (q : D.nx σ H) : tNext D σ H := q
theorem rd_cont {D : Ends} {σ : L2.St} {H : Hp} (q : D.ct σ H) : tCont D σ H := q
theorem rd_tup {ta : TA} {σ : L2.St} {H : Hp} {Q : VK} (q : ta σ H fun xs H1 => xs.length ≤ sizeLine ∧ ∀ p, H1 p = none → Q (.ref p) (upd H1 p (.tup xs))) : tTup ta σ H Q := q
theorem rd_lst {ta : TA} {σ : L2.St} {H : Hp} {Q : VK} (q : ta σ H fun xs H1 => xs.length ≤ sizeLine ∧ ∀ p, H1 p = none → Q (.ref p) (upd H1 p (.lst xs))) : tLst ta σ H Q := q
theorem rd_ixL {K : PySem.W.Frag} {p : Addr} {xs : List V} {i : Int} {v : V} {H : Hp} {Q : VK} (h : SqL K H p xs) (a : atI xs i = some v) (q : Q v H) : rIxL K (.ref p) (.int i) H Q := ⟨p, xs, i, v, rfl, rfl, h, a, q⟩
theorem rd_ixT {K : PySem.W.Frag} {p : Addr} {xs : List V} {i : Int} {v : V} {H : Hp} {Q : VK} (h : SqT K H p xs) (a : atI xs i = some v) (q : Q v H) : rIxT K (.ref p) (.int i) H Q := ⟨p, xs, i, v, rfl, rfl, h, a, q⟩
theorem rd_yes {c A B : Prop} [Decidable c] (hc : c) (q : A) : if c then A else B := by rw [if_pos hc]; exact q
theorem rd_no {c A B : Prop} [Decidable c] (hc : ¬ c) (q : B) : if c then A else B := by rw [if_neg hc]; exact q
/-! ## heaps -/
theorem same_upd {H : Hp} {p : Addr} {o : HO} (h : H p = none) : Same H (upd H p o) := fun b x e => by
  rw [upd_ne (ne_of_none e h)]
  exact e
theorem Same.seqT {K : PySem.W.Frag} {H H' : Hp} {a : Addr} {xs : List V} (e : Same H H') (h : SqT K H a xs) : SqT K H' a xs := by
  rcases h with (h | ⟨o, h⟩) | h
  · exact .inl (.inl (e _ _ h))
  · exact .inl (.inr ⟨o, e _ _ h⟩)
  · exact .inr h
theorem sz (n : Nat) (h : n ≤ 100000 := by decide) : n ≤ sizeLine := Nat.le_trans h (by decide)
theorem szlt {n : Nat} (h : n < 100000) : n < sizeLine := Nat.lt_of_lt_of_le h (by decide)
abbrev IL (ns : List Int) : List V := ns.map V.int
theorem IL_get {ns : List Int} {k : Nat} (h : k < ns.length) : (IL ns)[k]? = some (V.int (ns.getD k 0)) := by
  rw [List.getElem?_map, List.getElem?_eq_getElem h, List.getD_eq_getElem?_getD, List.getElem?_eq_getElem h]
  rfl
theorem IL_at {ns : List Int} {i : Int} (h0 : 0 ≤ i) (h : i < ns.length) : atI (IL ns) i = some (V.int (ns.getD i.toNat 0)) := by
  obtain ⟨k, rfl⟩ : ∃ k : Nat, i = (k : Int) := ⟨i.toNat, by omega⟩
  have hk : k < ns.length := by omega
  exact atI_nat (IL_get hk)
/-! ## the law's cells -/
def cell (ns : List Int) (k : Nat) : Int := ns.getD k 0
/-! ## loops, cuts, methods -/
theorem rd_cut {t u : TS} {D : Ends} {σ : L2.St} {H : Hp} (J : L2.St → Hp → Prop) (h : ∀ N : L2.St → Hp → Prop, (∀ σ' H', J σ' H' → N σ' H') → t { D with nx := N } σ H) (k : ∀ σ' H', J σ' H' → u D σ' H') : tSeq t u D σ H := h (u D) k
theorem rd_for {wi : TI} {g : TG} {tb : TS} {D : Ends} {σ : L2.St} {H : Hp} (q : wi σ H fun J H1 => ∃ W : Nat → Nat → L2.St → Hp → Prop, (∃ m, W 0 m σ H1) ∧ ∀ i m σ H, W i m σ H →
    (J.stop i H ∧ D.nx σ H) ∨ (J.go i H ∧ ∃ N : L2.St → Hp → Prop, (∀ σ' H', N σ' H' → ∃ m', m' < m ∧ W (i + 1) m' σ' H') ∧ ∀ x H', J.yld i H x H' → g x σ H' fun σ2 H2 => tb { D with nx := N, ct := N, bk := D.nx } σ2 H2)) : tFor wi g tb D σ H := q
/-- what a for over a range asks, its bound known -/
abbrev LoopR (lo : Int) (n : Nat) (g : TG) (tb : TS) (D : Ends) (σ : L2.St) (H : Hp) : Prop := ∃ W : Nat → Nat → L2.St → Hp → Prop, (∃ m, W 0 m σ H) ∧ ∀ i m σ H, W i m σ H →
    ((Itr lo n).stop i H ∧ D.nx σ H) ∨ ((Itr lo n).go i H ∧ ∃ N : L2.St → Hp → Prop, (∀ σ' H', N σ' H' → ∃ m', m' < m ∧ W (i + 1) m' σ' H') ∧ ∀ x H', (Itr lo n).yld i H x H' → g x σ H' fun σ2 H2 => tb { D with nx := N, ct := N, bk := D.nx } σ2 H2)
theorem rd_rng1 {ta : TA} {σ : L2.St} {H : Hp} {R : It → Hp → Prop} (q : ta σ H fun vs H1 => ∃ j : Int, vs = [.int j] ∧ -(2 ^ 62) ≤ j ∧ j < 2 ^ 62 ∧ R (Itr 0 j.toNat) H1) : iRng1 ta σ H R := q
theorem rd_rng2 {ta : TA} {σ : L2.St} {H : Hp} {R : It → Hp → Prop} (q : ta σ H fun vs H1 => ∃ i j : Int, vs = [.int i, .int j] ∧ (-(2 ^ 62) ≤ i ∧ i < 2 ^ 62 ∧ -(2 ^ 62) ≤ j ∧ j < 2 ^ 62) ∧ R (Itr i (j - i).toNat) H1) : iRng2 ta σ H R := q
theorem rd_iList {K : PySem.W.Frag} {tl : TE} {σ : L2.St} {H : Hp} {R : It → Hp → Prop} (q : tl σ H fun x H1 => ∃ a, x = .ref a ∧ (∃ xs, SqL K H1 a xs) ∧ R (Itl K a) H1) : iList K tl σ H R := q
theorem rd_iTup {K : PySem.W.Frag} {tl : TE} {σ : L2.St} {H : Hp} {R : It → Hp → Prop} (q : tl σ H fun x H1 => ∃ a, x = .ref a ∧ (∃ xs, SqT K H1 a xs) ∧ R (Itt K a) H1) : iTup K tl σ H R := q
/-- behind the argument of range: the bound, an invariant by the turn -/
theorem rng1 {n : Int} {g : TG} {tb : TS} {D : Ends} {σ : L2.St} {H : Hp} (b : -1000000 ≤ n ∧ n ≤ 1000000) (Pv : Nat → L2.St → Hp → Prop) (h0 : Pv 0 σ H)
    (hs : ∀ (k : Nat) σ' H', (k : Int) < n → Pv k σ' H' → g (.int (k : Int)) σ' H' fun σ2 H2 => tb { D with nx := Pv (k + 1), ct := Pv (k + 1), bk := D.nx } σ2 H2) (hd : ∀ σ' H', Pv n.toNat σ' H' → D.nx σ' H') :
    ∃ j : Int, [V.int n] = [.int j] ∧ -(2 ^ 62) ≤ j ∧ j < 2 ^ 62 ∧ LoopR 0 j.toNat g tb D σ H := by
  refine ⟨n, rfl, by omega, by omega, for_range (lo := 0) (n := n.toNat) Pv h0 (fun i σ' H' hi p => ?_) hd⟩
  have e0 : (0 : Int) + (i : Int) = (i : Int) := Int.zero_add _
  rw [e0]
  exact hs i σ' H' (by omega) p
theorem rng2 {lo n : Int} {g : TG} {tb : TS} {D : Ends} {σ : L2.St} {H : Hp} (b : (-1000000 ≤ lo ∧ lo ≤ 1000000) ∧ -1000000 ≤ n ∧ n ≤ 1000000) (Pv : Nat → L2.St → Hp → Prop) (h0 : Pv 0 σ H)
    (hs : ∀ (k : Nat) σ' H', lo + (k : Int) < n → Pv k σ' H' → g (.int (lo + (k : Int))) σ' H' fun σ2 H2 => tb { D with nx := Pv (k + 1), ct := Pv (k + 1), bk := D.nx } σ2 H2) (hd : ∀ σ' H', Pv (n - lo).toNat σ' H' → D.nx σ' H') :
    ∃ i j : Int, [V.int lo, V.int n] = [.int i, .int j] ∧ (-(2 ^ 62) ≤ i ∧ i < 2 ^ 62 ∧ -(2 ^ 62) ≤ j ∧ j < 2 ^ 62) ∧ LoopR i (j - i).toNat g tb D σ H := by
  refine ⟨lo, n, rfl, ⟨by omega, by omega, by omega, by omega⟩, for_range (lo := lo) (n := (n - lo).toNat) Pv h0 (fun i σ' H' hi p => hs i σ' H' (by omega) p) hd⟩
theorem rd_bm {K : PySem.W.Frag} {T : String} {r : V → List V → Hp → VK → Prop} {to : TE} {t : TA} {σ : L2.St} {H : Hp} {Q : VK} (q : to σ H fun x H1 => tyV K T x H1 ∧ t σ H1 fun xs H2 => r x xs H2 Q) : tBM K T r to t σ H Q := q
theorem rd_bm0 {K : PySem.W.Frag} {T : String} {r : V → List V → Hp → VK → Prop} {to : TE} {σ : L2.St} {H : Hp} {Q : VK} (q : to σ H fun x H1 => tyV K T x H1 ∧ r x [] H1 Q) : tBM0 K T r to σ H Q := q
theorem ty_list {K : PySem.W.Frag} {H : Hp} {l : Addr} {xs : List V} (h : SqL K H l xs) : tyV K "list" (.ref l) H := .inl ⟨rfl, _, h⟩
theorem rd_append {H : Hp} {l : Addr} {xs : List V} {y : V} {Q : VK} (h : H l = some (.lst xs)) (hz : xs.length < 100000) (q : Q .non (upd H l (.lst (xs ++ [y])))) : rAppend (.ref l) [y] H Q := ⟨l, xs, y, rfl, rfl, h, szlt hz, q⟩
theorem rd_gTup2 {K : PySem.W.Frag} {i j : Nat} {a : Addr} {x y : V} {σ : L2.St} {H : Hp} {Q : L2.St → Hp → Prop} (h : SqT K H a [x, y]) (q : Q ((σ.set i (some x)).set j (some y)) H) : gTup K 2 (gCons (gName i) (gCons (gName j) gNil)) (.ref a) σ H Q :=
  ⟨a, [x, y], rfl, h, rfl, x, [y], rfl, y, [], rfl, rfl, q⟩
theorem same_sq {K : PySem.W.Frag} {H H' : Hp} {a : Addr} {xs : List V} (e : Same H H') (h : SqL K H a xs) : SqL K H' a xs := e.seq h
theorem upd_keep {H : Hp} {a b : Addr} {o u : HO} (h : H a = some o) (n : H b = none) : upd H b u a = some o := by rw [upd_ne (ne_of_none h n)]; exact h
/-! ## the law's cells -/
def spCell (K : PySem.W.Frag) : Sp := fun vs H Q _ => ∃ (l : Addr) (ns : List Int) (k : Int), vs = [.ref l, .int k] ∧ 0 ≤ k ∧ SqL K H l (IL ns) ∧ Q (.int (cell ns k.toNat)) H
theorem rd_cell {K : PySem.W.Frag} {l : Addr} {ns : List Int} {k : Int} {H : Hp} {Q : VK} {E : XK} (h0 : 0 ≤ k) (h : SqL K H l (IL ns)) (q : Q (.int (cell ns k.toNat)) H) : spCell K ([V.ref l, V.int k] ++ []) H Q E := ⟨l, ns, k, rfl, h0, h, q⟩
theorem rd_isi {K : PySem.W.Frag} {H : Hp} {x : V} {t n : String} {b : Bool} {Q : VK} (ty : TyX K H x (.type t)) (e : kitB t n = some b) (q : Q (.bl b) H) : rIsi K [x, .ty n] H Q := ⟨x, .ty n, _, _, b, rfl, .ty _, ty, kit_ty e, q⟩
theorem ty_lst {K : PySem.W.Frag} {H : Hp} {a : Addr} {xs : List V} (h : H a = some (.lst xs)) : TyX K H (.ref a) (.type "list") := .base (.lst h)
theorem ty_tup {K : PySem.W.Frag} {H : Hp} {a : Addr} {xs : List V} (h : H a = some (.tup xs)) : TyX K H (.ref a) (.type "tuple") := .base (.tup h)
theorem rd_lenL {K : PySem.W.Frag} {H : Hp} {a : Addr} {xs : List V} {Q : VK} (h : SqL K H a xs) (q : Q (.int xs.length) H) : ∃ p ys, [V.ref a] = [.ref p] ∧ (SqL K H p ys ∨ SqT K H p ys) ∧ Q (.int ys.length) H := ⟨a, xs, rfl, .inl h, q⟩
theorem rd_lenT {K : PySem.W.Frag} {H : Hp} {a : Addr} {xs : List V} {Q : VK} (h : SqT K H a xs) (q : Q (.int xs.length) H) : ∃ p ys, [V.ref a] = [.ref p] ∧ (SqL K H p ys ∨ SqT K H p ys) ∧ Q (.int ys.length) H := ⟨a, xs, rfl, .inr h, q⟩
theorem emod_b {x n : Int} (h : 0 < n) : 0 ≤ x % n ∧ x % n < n := ⟨Int.emod_nonneg _ (by omega), Int.emod_lt_of_pos _ h⟩
theorem IL_snoc (zs : List Int) (z : Int) : IL zs ++ [V.int z] = IL (zs ++ [z]) := by simp [IL]
theorem upd_snoc {H : Hp} {L : Addr} {o : HO} {zs : List Int} {z : Int} : upd (upd H L o) L (.lst (IL zs ++ [V.int z])) = upd H L (.lst (IL (zs ++ [z]))) := by rw [upd_upd, IL_snoc]
theorem len_snoc {α : Type} {zs : List α} {z : α} {i : Nat} (h : zs.length = i) : (zs ++ [z]).length = i + 1 := by rw [List.length_append, h]; rfl

/-! ## the steps -/
local macro_rules | `(tactic| walk_at "rd1") => `(tactic| first
  | ((with_reducible refine rd_var (v := ?v) ?h ?_); (case h => rfl))
  | with_reducible refine rd_c ?_
  | with_reducible refine rd_op ?_
  | with_reducible refine rd_I0 ?_
  | with_reducible refine rd_cons ?_
  | with_reducible refine rd_nil ?_
  | with_reducible refine rd_un ?_
  | with_reducible refine rd_U ?_
  | ((with_reducible refine rd_eq ?h ?_); (case h => rfl))
  | ((with_reducible refine rd_ne ?h ?_); (case h => rfl))
  | with_reducible refine rd_cb ?_
  | with_reducible refine rd_call ?_
  | with_reducible refine rd_callS ?_
  | with_reducible refine rd_test ?_
  | with_reducible refine rd_tB ?_
  | with_reducible refine rd_bl ?_
  | with_reducible refine rd_not ?_
  | with_reducible refine rd_and ?_
  | with_reducible refine rd_or ?_
  | with_reducible refine rd_andV ?_
  | with_reducible refine rd_orV ?_
  | with_reducible refine rd_notV ?_
  | with_reducible refine rd_if ?_
  | with_reducible refine rd_seq ?_
  | with_reducible refine rd_asg ?_
  | with_reducible refine rd_name ?_
  | with_reducible refine rd_ret ?_
  | with_reducible refine rd_drop ?_
  | with_reducible refine rd_ifS ?_
  | with_reducible refine rd_next ?_
  | with_reducible refine rd_cont ?_
  | with_reducible refine rd_tup ?_
  | with_reducible refine rd_lst ?_
  | with_reducible refine rd_for ?_
  | with_reducible refine rd_rng1 ?_
  | with_reducible refine rd_rng2 ?_
  | with_reducible refine rd_iList ?_
  | with_reducible refine rd_iTup ?_
  | with_reducible refine rd_bm ?_
  | with_reducible refine rd_bm0 ?_
  | ((with_reducible refine rd_I (C := CPow) ?c ?_); (case c => exact ⟨by decide, by decide, by decide⟩))
  | ((with_reducible refine rd_I (C := fun _ j => 0 < j) ?c ?_); (case c => (show (0 : Int) < _); first | omega | decide +kernel))
  | ((with_reducible refine rd_I (C := CDiv) ?c ?_); (case c => first | exact ⟨by decide, by decide⟩ | exact ⟨by omega, by omega⟩))
  | ((with_reducible refine rd_I (C := CMul) ?c ?_); (case c => first | exact .inr ⟨by omega, by omega⟩ | exact .inl ⟨by omega, by omega⟩))
  | ((with_reducible refine rd_cell (ns := ?ns) ?h0 ?h ?_); (case h => assumption); (case h0 => first | decide | omega)))
local macro_rules | `(tactic| walk_at "rd") => `(tactic| repeat walk_at "rd1")
local macro_rules | `(tactic| walk_at "rq1") => `(tactic| first
  | ((with_reducible refine rd_var (v := ?v) ?h ?_); (case h => rfl))
  | with_reducible refine rd_c ?_
  | with_reducible refine rd_op ?_
  | with_reducible refine rd_I0 ?_
  | with_reducible refine rd_cons ?_
  | with_reducible refine rd_nil ?_
  | with_reducible refine rd_un ?_
  | with_reducible refine rd_U ?_
  | ((with_reducible refine rd_eq ?h ?_); (case h => rfl))
  | ((with_reducible refine rd_ne ?h ?_); (case h => rfl))
  | with_reducible refine rd_cb ?_
  | with_reducible refine rd_call ?_
  | with_reducible refine rd_callS ?_
  | with_reducible refine rd_test ?_
  | with_reducible refine rd_tB ?_
  | with_reducible refine rd_bl ?_
  | with_reducible refine rd_not ?_
  | with_reducible refine rd_and ?_
  | with_reducible refine rd_or ?_
  | with_reducible refine rd_andV ?_
  | with_reducible refine rd_orV ?_
  | with_reducible refine rd_notV ?_
  | with_reducible refine rd_if ?_
  | with_reducible refine rd_asg ?_
  | with_reducible refine rd_name ?_
  | with_reducible refine rd_ret ?_
  | with_reducible refine rd_drop ?_
  | with_reducible refine rd_ifS ?_
  | with_reducible refine rd_next ?_
  | with_reducible refine rd_cont ?_
  | with_reducible refine rd_tup ?_
  | with_reducible refine rd_lst ?_
  | with_reducible refine rd_for ?_
  | with_reducible refine rd_rng1 ?_
  | with_reducible refine rd_rng2 ?_
  | with_reducible refine rd_iList ?_
  | with_reducible refine rd_iTup ?_
  | with_reducible refine rd_bm ?_
  | with_reducible refine rd_bm0 ?_
  | ((with_reducible refine rd_I (C := CPow) ?c ?_); (case c => exact ⟨by decide, by decide, by decide⟩))
  | ((with_reducible refine rd_I (C := fun _ j => 0 < j) ?c ?_); (case c => (show (0 : Int) < _); first | omega | decide +kernel))
  | ((with_reducible refine rd_I (C := CDiv) ?c ?_); (case c => first | exact ⟨by decide, by decide⟩ | exact ⟨by omega, by omega⟩))
  | ((with_reducible refine rd_I (C := CMul) ?c ?_); (case c => first | exact .inr ⟨by omega, by omega⟩ | exact .inl ⟨by omega, by omega⟩))
  | ((with_reducible refine rd_cell (ns := ?ns) ?h0 ?h ?_); (case h => assumption); (case h0 => first | decide | omega)))
local macro_rules | `(tactic| walk_at "rq") => `(tactic| repeat walk_at "rq1")

/-! ## lists of ints, lists of pairs, compared -/
def dI (ns : List Int) : PyData := .list (ns.map PyData.int)
theorem depthAll_ints : ∀ ns : List Int, PyData.depthAll (ns.map PyData.int) ≤ 1
  | [] => by simp [PyData.depthAll]
  | n :: ns => by
    have ih := depthAll_ints ns
    simp only [List.map_cons, PyData.depthAll, PyData.depth]
    omega
theorem layAll_ints : ∀ ns : List Int, PyData.canLayAll0 (ns.map PyData.int) = true
  | [] => by simp [PyData.canLayAll0]
  | n :: ns => by
    have ih := layAll_ints ns
    simp [PyData.canLayAll0, PyData.canLay0, ih]
theorem shaped_dI (ns : List Int) : SeqAt.shaped (dI ns) = true := by
  have h := depthAll_ints ns
  have h2 := layAll_ints ns
  unfold SeqAt.shaped dI
  rw [Bool.and_eq_true]
  refine ⟨by simpa only [PyData.canLay0] using h2, decide_eq_true ?_⟩
  show PyData.depthAll (ns.map PyData.int) + 1 ≤ 64
  omega
theorem eqvAll_ints : ∀ xs ys : List Int, PyData.eqvAll (xs.map PyData.int) (ys.map PyData.int) = decide (xs = ys)
  | [], [] => by simp [PyData.eqvAll]
  | [], y :: ys => by simp [PyData.eqvAll]
  | x :: xs, [] => by simp [PyData.eqvAll]
  | x :: xs, y :: ys => by
    have ih := eqvAll_ints xs ys
    simp only [List.map_cons, PyData.eqvAll, PyData.eqv, ih]
    by_cases h : x = y <;> by_cases h2 : xs = ys <;> simp [h, h2]
theorem eqv_dI (xs ys : List Int) : PyData.eqv (dI xs) (dI ys) = decide (xs = ys) := by
  unfold dI
  rw [PyData.eqv]
  exact eqvAll_ints xs ys
theorem dpAll_ints {K : PySem.W.Frag} {H : Hp} : ∀ ns : List Int, DpAll K H (IL ns) (ns.map PyData.int)
  | [] => .nil
  | n :: ns => .cons (.int n) (dpAll_ints ns)
theorem dp_ints {K : PySem.W.Frag} {H : Hp} {a : Addr} {ns : List Int} (h : SqL K H a (IL ns)) : Dp K H (.ref a) (dI ns) := .lst h (dpAll_ints ns)
theorem rd_neI {K : PySem.W.Frag} {H : Hp} {a b : Addr} {xs ys : List Int} {Q : VK} (ha : SqL K H a (IL xs)) (hb : SqL K H b (IL ys)) (q : Q (.bl (!decide (xs = ys))) H) : rNeD K (.ref a) (.ref b) H Q :=
  ⟨_, _, dp_ints ha, dp_ints hb, shaped_dI _, shaped_dI _, by rw [eqv_dI]; exact q⟩
theorem rd_eqI {K : PySem.W.Frag} {H : Hp} {a b : Addr} {xs ys : List Int} {Q : VK} (ha : SqL K H a (IL xs)) (hb : SqL K H b (IL ys)) (q : Q (.bl (decide (xs = ys))) H) : rEqD K (.ref a) (.ref b) H Q :=
  ⟨_, _, dp_ints ha, dp_ints hb, shaped_dI _, shaped_dI _, by rw [eqv_dI]; exact q⟩
/-- a list of pairs of ints -/
def Prs (K : PySem.W.Frag) (H : Hp) (vs : List V) (ps : List (Int × Int)) : Prop := Paired (fun v p => ∃ t, v = V.ref t ∧ SqT K H t [.int p.1, .int p.2]) vs ps
def dpr (p : Int × Int) : PyData := .tuple [.int p.1, .int p.2]
def dP (ps : List (Int × Int)) : PyData := .list (ps.map dpr)
theorem Prs.mono {K : PySem.W.Frag} {H H' : Hp} {vs : List V} {ps : List (Int × Int)} (s : Same H H') (h : Prs K H vs ps) : Prs K H' vs ps := by
  unfold Prs at h ⊢
  exact Paired.mapP h fun v p ⟨t, e, q⟩ => ⟨t, e, Same.seqT s q⟩
theorem depthAll_prs : ∀ ps : List (Int × Int), PyData.depthAll (ps.map dpr) ≤ 3
  | [] => by simp [PyData.depthAll]
  | p :: ps => by
    have ih := depthAll_prs ps
    simp only [List.map_cons, PyData.depthAll, PyData.depth, dpr]
    omega
theorem layAll_prs : ∀ ps : List (Int × Int), PyData.canLayAll0 (ps.map dpr) = true
  | [] => by simp [PyData.canLayAll0]
  | p :: ps => by
    have ih := layAll_prs ps
    simp [PyData.canLayAll0, PyData.canLay0, dpr, ih]
theorem shaped_dP (ps : List (Int × Int)) : SeqAt.shaped (dP ps) = true := by
  have h := depthAll_prs ps
  have h2 := layAll_prs ps
  unfold SeqAt.shaped dP
  rw [Bool.and_eq_true]
  refine ⟨by simpa only [PyData.canLay0] using h2, decide_eq_true ?_⟩
  show PyData.depthAll (ps.map dpr) + 1 ≤ 64
  omega
theorem eqv_dpr (p q : Int × Int) : PyData.eqv (dpr p) (dpr q) = decide (p = q) := by
  obtain ⟨a, b⟩ := p
  obtain ⟨c, d⟩ := q
  unfold dpr
  simp only [PyData.eqv, PyData.eqvAll, Bool.and_true]
  by_cases h : a = c <;> by_cases h2 : b = d <;> simp [h, h2]
theorem eqvAll_prs : ∀ xs ys : List (Int × Int), PyData.eqvAll (xs.map dpr) (ys.map dpr) = decide (xs = ys)
  | [], [] => by simp [PyData.eqvAll]
  | [], y :: ys => by simp [PyData.eqvAll]
  | x :: xs, [] => by simp [PyData.eqvAll]
  | x :: xs, y :: ys => by
    have ih := eqvAll_prs xs ys
    simp only [List.map_cons, PyData.eqvAll, eqv_dpr, ih]
    by_cases h : x = y <;> by_cases h2 : xs = ys <;> simp [h, h2]
theorem eqv_dP (xs ys : List (Int × Int)) : PyData.eqv (dP xs) (dP ys) = decide (xs = ys) := by
  unfold dP
  rw [PyData.eqv]
  exact eqvAll_prs xs ys
theorem dp_pr {K : PySem.W.Frag} {H : Hp} {t : Addr} {p : Int × Int} (h : SqT K H t [.int p.1, .int p.2]) : Dp K H (.ref t) (dpr p) := .tup h (.cons (.int _) (.cons (.int _) .nil))
theorem dpAll_prs {K : PySem.W.Frag} {H : Hp} {vs : List V} {ps : List (Int × Int)} (h : Prs K H vs ps) : DpAll K H vs (ps.map dpr) := by
  unfold Prs at h
  induction h with
  | nil => exact .nil
  | cons r t ih =>
    obtain ⟨a, rfl, q⟩ := r
    exact .cons (dp_pr q) ih
theorem dp_prs {K : PySem.W.Frag} {H : Hp} {a : Addr} {vs : List V} {ps : List (Int × Int)} (h : SqL K H a vs) (hp : Prs K H vs ps) : Dp K H (.ref a) (dP ps) := .lst h (dpAll_prs hp)
theorem rd_neP {K : PySem.W.Frag} {H : Hp} {a b : Addr} {vs us : List V} {xs ys : List (Int × Int)} {Q : VK} (ha : SqL K H a vs) (pa : Prs K H vs xs) (hb : SqL K H b us) (pb : Prs K H us ys) (q : Q (.bl (!decide (xs = ys))) H) : rNeD K (.ref a) (.ref b) H Q :=
  ⟨_, _, dp_prs ha pa, dp_prs hb pb, shaped_dP _, shaped_dP _, by rw [eqv_dP]; exact q⟩
theorem rd_eqP {K : PySem.W.Frag} {H : Hp} {a b : Addr} {vs us : List V} {xs ys : List (Int × Int)} {Q : VK} (ha : SqL K H a vs) (pa : Prs K H vs xs) (hb : SqL K H b us) (pb : Prs K H us ys) (q : Q (.bl (decide (xs = ys))) H) : rEqD K (.ref a) (.ref b) H Q :=
  ⟨_, _, dp_prs ha pa, dp_prs hb pb, shaped_dP _, shaped_dP _, by rw [eqv_dP]; exact q⟩

/-! ## isinstance(x, int) and not isinstance(x, bool) -/
/-- what the two questions answer of a value of the type t -/
def wholeT (K : PySem.W.Frag) (t : Value) (r : Bool) : Prop := ∃ b1 b2, PySem.W.kitOne K t (.type "int") = some b1 ∧ PySem.W.kitOne K t (.type "bool") = some b2 ∧ r = (b1 && !b2)
def Whole (K : PySem.W.Frag) (H : Hp) (x : V) (r : Bool) : Prop := ∃ t, TyX K H x t ∧ wholeT K t r
theorem whole_int {K : PySem.W.Frag} {H : Hp} {i : Int} : Whole K H (.int i) true := ⟨_, .base (.int i), true, false, kit_ty (by decide +kernel), kit_ty (by decide +kernel), rfl⟩
theorem whole_bl {K : PySem.W.Frag} {H : Hp} {b : Bool} : Whole K H (.bl b) false := ⟨_, .base (.bl b), true, true, kit_ty (by decide +kernel), kit_ty (by decide +kernel), rfl⟩
theorem whole_non {K : PySem.W.Frag} {H : Hp} : Whole K H .non false := ⟨_, .base .non, false, false, kit_ty (by decide +kernel), kit_ty (by decide +kernel), rfl⟩
theorem whole_str {K : PySem.W.Frag} {H : Hp} {z : Str} : Whole K H (.str z) false := ⟨_, .base (.str z), false, false, kit_ty (by decide +kernel), kit_ty (by decide +kernel), rfl⟩
theorem whole_lst {K : PySem.W.Frag} {H : Hp} {a : Addr} {xs : List V} (h : H a = some (.lst xs)) : Whole K H (.ref a) false := ⟨_, .base (.lst h), false, false, kit_ty (by decide +kernel), kit_ty (by decide +kernel), rfl⟩
theorem whole_tup {K : PySem.W.Frag} {H : Hp} {a : Addr} {xs : List V} (h : H a = some (.tup xs)) : Whole K H (.ref a) false := ⟨_, .base (.tup h), false, false, kit_ty (by decide +kernel), kit_ty (by decide +kernel), rfl⟩
def spWhole (K : PySem.W.Frag) : Sp := fun vs H Q _ => ∃ (x : V) (r : Bool), vs = [x] ∧ Whole K H x r ∧ Q (.bl r) H
theorem whole_run {K : PySem.W.Frag} {D : Ends} {H : Hp} {vs : List V} {E : XK} {N : List Str} (h : spWhole K vs H D.rt E) :
    tRet (tAndV (tCB (rIsi K) (tCons (tVar 0) (tCons (tC (.ty "int")) tNil))) (tNotV (tCB (rIsi K) (tCons (tVar 0) (tCons (tC (.ty "bool")) tNil))))) D (start N vs) H := by
  obtain ⟨x, r, rfl, ⟨t, ty, b1, b2, h1, h2, rfl⟩, q⟩ := h
  walk_at "rd"
  refine ⟨x, .ty "int", t, _, b1, rfl, .ty _, ty, h1, b1, rfl, ?_⟩
  cases b1 with
  | false => exact iteF q
  | true =>
    refine iteT ?_
    walk_at "rd"
    refine ⟨x, .ty "bool", t, _, b2, rfl, .ty _, ty, h2, b2, rfl, ?_⟩
    exact q


def top (i : Nat) : Stmt := PySem.Challenge.pw_hillsight_k01_slopes.main.body.getD i (.Pass ⟨0, 0, 0, 0⟩)
abbrev s_slope : Stmt := top 1
abbrev s_steeper : Stmt := top 2
abbrev s_law_whole : Stmt := top 4
abbrev s_law_cell_at : Stmt := top 5
abbrev s_law : Stmt := top 6
theorem sc_slope : FnScope ["land", "a", "b"] ["land", "a", "b"] (defScope s_slope) := ⟨rfl, rfl, rfl, by decide +kernel, rfl, by decide +kernel, by decide +kernel⟩
theorem sc_steeper : FnScope ["one", "other"] ["one", "other"] (defScope s_steeper) := ⟨rfl, rfl, rfl, by decide +kernel, rfl, by decide +kernel, by decide +kernel⟩
theorem sc_law_whole : FnScope ["_law_found"] ["_law_found"] (defScope s_law_whole) := ⟨rfl, rfl, rfl, by decide +kernel, rfl, by decide +kernel, by decide +kernel⟩
theorem sc_law_cell_at : FnScope ["_law_script", "_law_k"] ["_law_script", "_law_k"] (defScope s_law_cell_at) := ⟨rfl, rfl, rfl, by decide +kernel, rfl, by decide +kernel, by decide +kernel⟩
theorem sc_law : FnScope ["_law_script", "_law_far", "_law_kind", "_law_one", "_law_other", "_law_many", "_law_left", "_law_right", "_law_found", "_law_size", "_law_land", "_law_k", "_law_low", "_law_high", "_law_handed"] ["_law_script"] (defScope s_law) := ⟨rfl, rfl, rfl, by decide +kernel, rfl, by decide +kernel, by decide +kernel⟩
structure Txt (K : PySem.W.Frag) (mg : Str → Option Value) where
  a_slope : Addr
  d_slope : FuncData
  F_slope : Fun K "slope" "slope" s_slope a_slope d_slope
  b_slope : Binds K d_slope ["land", "a", "b"] []
  g_slope : mg "slope" = some (.ref a_slope)
  a_steeper : Addr
  d_steeper : FuncData
  F_steeper : Fun K "steeper" "steeper" s_steeper a_steeper d_steeper
  b_steeper : Binds K d_steeper ["one", "other"] []
  g_steeper : mg "steeper" = some (.ref a_steeper)
  a_law_whole : Addr
  d_law_whole : FuncData
  F_law_whole : Fun K "_law_whole" "_law_whole" s_law_whole a_law_whole d_law_whole
  b_law_whole : Binds K d_law_whole ["_law_found"] []
  g_law_whole : mg "_law_whole" = some (.ref a_law_whole)
  a_law_cell_at : Addr
  d_law_cell_at : FuncData
  F_law_cell_at : Fun K "_law_cell_at" "_law_cell_at" s_law_cell_at a_law_cell_at d_law_cell_at
  b_law_cell_at : Binds K d_law_cell_at ["_law_script", "_law_k"] []
  g_law_cell_at : mg "_law_cell_at" = some (.ref a_law_cell_at)
  a_law : Addr
  d_law : FuncData
  F_law : Fun K "law" "law" s_law a_law d_law
  b_law : Binds K d_law ["_law_script"] []
  g_law : mg "law" = some (.ref a_law)
  n_bool : mg "bool" = none
  n_int : mg "int" = none
  n_isinstance : mg "isinstance" = none
  n_len : mg "len" = none
  n_list : mg "list" = none
  n_range : mg "range" = none
  n_tuple : mg "tuple" = none
section
variable {P : Program} {w : World} {K : PySem.W.Frag} {mg : Str → Option Value} {base : Heap}
theorem ok_law_cell_at (T : Txt K mg) : FnOk P w K mg base CX0 1 T.a_law_cell_at T.d_law_cell_at ["_law_script", "_law_k"] (spCell K) := by
  refine T.F_law_cell_at.ok sc_law_cell_at (fun vs H Q E h => ?_) (fun cdv A outer s H vs Q E hr h => ⟨_, (pss_cons (ps_if (pt_cmpR op_lt (pv 1) (pe_callB call_len_seq rfl T.n_len (by decide +kernel) (pa_cons (pv 0) pa_nil)) (nomark _)) (pss_one (ps_ret (pe_ix ix_list (pv 0) (pv 1) (fun _ _ => rfl)))) pss_nil)
      (pss_one (ps_ret pe_int))), ?_⟩)
  · obtain ⟨l, ns, k, rfl, _⟩ := h
    rfl
  · obtain ⟨l, ns, k, rfl, h0, hS, q⟩ := h
    walk_at "rd"
    refine ⟨l, _, rfl, .inl hS, ?_⟩
    walk_at "rd"
    refine ite2 (fun c => ?_) (fun c => ?_)
    · have c' : k < (ns.length : Int) := by simpa using c
      walk_at "rd"
      exact rd_ixL hS (IL_at h0 c') q
    · have c' : ¬ k < (ns.length : Int) := by simpa using c
      walk_at "rd"
      have e : cell ns k.toNat = 0 := by
        unfold cell
        rw [List.getD_eq_getElem?_getD, List.getElem?_eq_none (by omega)]
        rfl
      rw [e] at q
      exact q

theorem ok_law_whole (T : Txt K mg) : FnOk P w K mg base CX0 1 T.a_law_whole T.d_law_whole ["_law_found"] (spWhole K) := by
  refine T.F_law_whole.ok sc_law_whole (fun vs H Q E h => ?_) (fun cdv A outer s H vs Q E hr h => ⟨_, (pss_one (ps_ret (pe_and (pe_callB call_isi rfl T.n_isinstance (by decide +kernel) (pa_cons (pv 0) (pa_cons (pe_bltn (v := .ty "int") (by rfl) T.n_int (by decide +kernel) rfl) pa_nil))) (pe_one (pe_not (pe_callB call_isi rfl T.n_isinstance (by decide +kernel) (pa_cons (pv 0) (pa_cons (pe_bltn (v := .ty "bool") (by rfl) T.n_bool (by decide +kernel) rfl) pa_nil)))))))), ?_⟩)
  · obtain ⟨x, r, rfl, _⟩ := h
    rfl
  · exact whole_run h

/-! ## slopes -/
def hv (ns : List Int) (i : Int) : Int := ns.getD i.toNat 0
def slO (ns : List Int) (a b : Int) : HO := .tup [.int (hv ns b - hv ns a), .int (b - a)]
def spSlope (K : PySem.W.Frag) : Sp := fun vs H Q _ => ∃ (l : Addr) (ns : List Int) (a b : Int), vs = [.ref l, .int a, .int b] ∧ SqL K H l (IL ns) ∧ (0 ≤ a ∧ a < ns.length ∧ 0 ≤ b ∧ b < ns.length) ∧
  ∀ p, H p = none → Q (.ref p) (upd H p (slO ns a b))
theorem ok_slope (T : Txt K mg) : FnOk P w K mg base CX0 1 T.a_slope T.d_slope ["land", "a", "b"] (spSlope K) := by
  refine T.F_slope.ok sc_slope (fun vs H Q E h => ?_) (fun cdv A outer s H vs Q E hr h => ⟨_, (pss_one (ps_ret (pe_tup (pa_cons (pe_op op_sub (pe_ix ix_list (pv 0) (pv 2) (fun _ _ => rfl)) (pe_ix ix_list (pv 0) (pv 1) (fun _ _ => rfl))) (pa_cons (pe_op op_sub (pv 2) (pv 1)) pa_nil))))), ?_⟩)
  · obtain ⟨l, ns, a, b, rfl, _⟩ := h
    rfl
  · obtain ⟨l, ns, a, b, rfl, hS, ⟨h1, h2, h3, h4⟩, q⟩ := h
    walk_at "rd"
    refine rd_ixL hS (IL_at h3 h4) ?_
    walk_at "rd"
    refine rd_ixL hS (IL_at h1 h2) ?_
    walk_at "rd"
    exact ⟨sz 2, q⟩
def spSteeper (K : PySem.W.Frag) : Sp := fun vs H Q _ => ∃ (p q : Addr) (r1 l1 r2 l2 : Int), vs = [.ref p, .ref q] ∧ SqT K H p [.int r1, .int l1] ∧ SqT K H q [.int r2, .int l2] ∧ CMul r1 l2 ∧ CMul r2 l1 ∧
  Q (.bl (decide (r2 * l1 < r1 * l2))) H
theorem ok_steeper (T : Txt K mg) : FnOk P w K mg base CX0 1 T.a_steeper T.d_steeper ["one", "other"] (spSteeper K) := by
  refine T.F_steeper.ok sc_steeper (fun vs H Q E h => ?_) (fun cdv A outer s H vs Q E hr h => ⟨_, (pss_one (ps_ret (pe_cmpR op_gt (pe_op op_mul (pe_ix ix_tup (pv 0) pe_int (fun _ _ => rfl)) (pe_ix ix_tup (pv 1) pe_int (fun _ _ => rfl))) (pe_op op_mul (pe_ix ix_tup (pv 1) pe_int (fun _ _ => rfl)) (pe_ix ix_tup (pv 0) pe_int (fun _ _ => rfl))) (nomark _)))), ?_⟩)
  · obtain ⟨p, q, r1, l1, r2, l2, rfl, _⟩ := h
    rfl
  · obtain ⟨p, q, r1, l1, r2, l2, rfl, h1, h2, c1, c2, k⟩ := h
    walk_at "rd"
    refine rd_ixT h1 (atI_nat (j := 0) rfl) ?_
    walk_at "rd"
    refine rd_ixT h2 (atI_nat (j := 1) rfl) ?_
    walk_at "rd"
    refine rd_I c1 ?_
    walk_at "rd"
    refine rd_ixT h2 (atI_nat (j := 0) rfl) ?_
    walk_at "rd"
    refine rd_ixT h1 (atI_nat (j := 1) rfl) ?_
    walk_at "rd"
    refine rd_I c2 ?_
    walk_at "rd"
    exact k

/-! ## the law -/
def FAR : Int := (10 : Int) ^ (18 : Int).toNat
theorem FAR_eq : FAR = 1000000000000000000 := by decide +kernel
def spLaw (K : PySem.W.Frag) : Sp := fun vs H Q _ => ∃ (a : Addr) (ns : List Int), vs = [.ref a] ∧ SqL K H a (IL ns) ∧ ns.length ≤ 63 ∧ ∀ H', Q (.bl true) H'
theorem mul3 {x y : Int} (h1 : 0 < x) (h2 : x ≤ 60) (h3 : 0 < y) (h4 : y ≤ 3) : 0 < x * y ∧ x * y ≤ 1000 := by
  have : y = 1 ∨ y = 2 ∨ y = 3 := by omega
  rcases this with h | h | h <;> subst h <;> omega
theorem ok_law (T : Txt K mg) : FnOk P w K mg base CX0 2 T.a_law T.d_law ["_law_script"] (spLaw K) := by
  refine T.F_law.ok sc_law (fun vs H Q E h => ?_) (fun cdv A outer s H vs Q E hr h => ⟨_, (pss_cons (ps_set (i := 1) sc_law.nd rfl (Or.inl rfl) (pe_op op_pow pe_int pe_int))
      (pss_cons (ps_set (i := 2) sc_law.nd rfl (Or.inl rfl) (pe_op op_mod (pe_call (ok_law_cell_at T) (hr.mono (by decide)) rfl T.g_law_cell_at T.F_law_cell_at.kp T.b_law_cell_at .nil pass0 (pa_cons (pv 0) (pa_cons pe_int pa_nil))) pe_int))
      (pss_cons (ps_set (i := 3) sc_law.nd rfl (Or.inl rfl) (pe_tup (pa_cons (pe_op op_sub (pe_op op_mod (pe_op op_mul (pe_call (ok_law_cell_at T) (hr.mono (by decide)) rfl T.g_law_cell_at T.F_law_cell_at.kp T.b_law_cell_at .nil pass0 (pa_cons (pv 0) (pa_cons pe_int pa_nil))) pe_int) (pe_op op_add (pe_op op_mul pe_int (pv 1)) pe_int)) (pe_op op_mul pe_int (pv 1))) (pa_cons (pe_op op_add pe_int (pe_op op_mod (pe_call (ok_law_cell_at T) (hr.mono (by decide)) rfl T.g_law_cell_at T.F_law_cell_at.kp T.b_law_cell_at .nil pass0 (pa_cons (pv 0) (pa_cons pe_int pa_nil))) pe_int)) pa_nil))))
      (pss_cons (ps_set (i := 4) sc_law.nd rfl (Or.inl rfl) (pe_tup (pa_cons (pe_op op_sub (pe_op op_mod (pe_op op_mul (pe_call (ok_law_cell_at T) (hr.mono (by decide)) rfl T.g_law_cell_at T.F_law_cell_at.kp T.b_law_cell_at .nil pass0 (pa_cons (pv 0) (pa_cons pe_int pa_nil))) pe_int) (pe_op op_add (pe_op op_mul pe_int (pv 1)) pe_int)) (pe_op op_mul pe_int (pv 1))) (pa_cons (pe_op op_add pe_int (pe_op op_mod (pe_call (ok_law_cell_at T) (hr.mono (by decide)) rfl T.g_law_cell_at T.F_law_cell_at.kp T.b_law_cell_at .nil pass0 (pa_cons (pv 0) (pa_cons pe_int pa_nil))) pe_int)) pa_nil))))
      (pss_cons (ps_if (pt_cmpR op_eq (pv 2) pe_int (nomark _)) (pss_cons (ps_set (i := 3) sc_law.nd rfl (Or.inl rfl) (pe_tup (pa_cons (pe_op op_sub (pe_op op_mod (pe_call (ok_law_cell_at T) (hr.mono (by decide)) rfl T.g_law_cell_at T.F_law_cell_at.kp T.b_law_cell_at .nil pass0 (pa_cons (pv 0) (pa_cons pe_int pa_nil))) pe_int) pe_int) (pa_cons (pe_op op_add pe_int (pe_op op_mod (pe_call (ok_law_cell_at T) (hr.mono (by decide)) rfl T.g_law_cell_at T.F_law_cell_at.kp T.b_law_cell_at .nil pass0 (pa_cons (pv 0) (pa_cons pe_int pa_nil))) pe_int)) pa_nil))))
        (pss_cons (ps_set (i := 5) sc_law.nd rfl (Or.inl rfl) (pe_op op_add pe_int (pe_op op_mod (pe_call (ok_law_cell_at T) (hr.mono (by decide)) rfl T.g_law_cell_at T.F_law_cell_at.kp T.b_law_cell_at .nil pass0 (pa_cons (pv 0) (pa_cons pe_int pa_nil))) pe_int)))
        (pss_one (ps_set (i := 4) sc_law.nd rfl (Or.inl rfl) (pe_tup (pa_cons (pe_op op_sub (pe_op op_add (pe_op op_mul (pe_ix ix_tup (pv 3) pe_int (fun _ _ => rfl)) (pv 5)) (pe_op op_mod (pe_call (ok_law_cell_at T) (hr.mono (by decide)) rfl T.g_law_cell_at T.F_law_cell_at.kp T.b_law_cell_at .nil pass0 (pa_cons (pv 0) (pa_cons pe_int pa_nil))) pe_int)) pe_int) (pa_cons (pe_op op_mul (pe_ix ix_tup (pv 3) pe_int (fun _ _ => rfl)) (pv 5)) pa_nil))))))) pss_nil)
      (pss_cons (ps_if (pt_cmpR op_eq (pv 2) pe_int (nomark _)) (pss_cons (ps_set (i := 3) sc_law.nd rfl (Or.inl rfl) (pe_tup (pa_cons (pe_op op_sub (pe_op op_mod (pe_call (ok_law_cell_at T) (hr.mono (by decide)) rfl T.g_law_cell_at T.F_law_cell_at.kp T.b_law_cell_at .nil pass0 (pa_cons (pv 0) (pa_cons pe_int pa_nil))) pe_int) pe_int) (pa_cons (pe_op op_add pe_int (pe_op op_mod (pe_call (ok_law_cell_at T) (hr.mono (by decide)) rfl T.g_law_cell_at T.F_law_cell_at.kp T.b_law_cell_at .nil pass0 (pa_cons (pv 0) (pa_cons pe_int pa_nil))) pe_int)) pa_nil))))
        (pss_one (ps_set (i := 4) sc_law.nd rfl (Or.inl rfl) (pe_tup (pa_cons (pe_op op_sub (pe_op op_mod (pe_call (ok_law_cell_at T) (hr.mono (by decide)) rfl T.g_law_cell_at T.F_law_cell_at.kp T.b_law_cell_at .nil pass0 (pa_cons (pv 0) (pa_cons pe_int pa_nil))) pe_int) pe_int) (pa_cons (pe_op op_add pe_int (pe_op op_mod (pe_call (ok_law_cell_at T) (hr.mono (by decide)) rfl T.g_law_cell_at T.F_law_cell_at.kp T.b_law_cell_at .nil pass0 (pa_cons (pv 0) (pa_cons pe_int pa_nil))) pe_int)) pa_nil)))))) pss_nil)
      (pss_cons (ps_for PassesOwn.never rfl (pi_tup (pe_tup (pa_cons (pe_tup (pa_cons (pv 3) (pa_cons (pv 4) pa_nil))) (pa_cons (pe_tup (pa_cons (pv 4) (pa_cons (pv 3) pa_nil))) pa_nil)))) (pg_tup rfl (pgs_cons (pg_name (i := 6) sc_law.nd rfl (Or.inl rfl)) (pgs_cons (pg_name (i := 7) sc_law.nd rfl (Or.inl rfl)) pgs_nil))) (pss_cons (ps_set (i := 8) sc_law.nd rfl (Or.inl rfl) (pe_call (ok_steeper T) (hr.mono (by decide)) rfl T.g_steeper T.F_steeper.kp T.b_steeper .nil pass0 (pa_cons (pv 6) (pa_cons (pv 7) pa_nil))))
        (pss_one (ps_if (PW.pt (pw_or (pt_not (pt_val (pe_callB call_isi rfl T.n_isinstance (by decide +kernel) (pa_cons (pv 8) (pa_cons (pe_bltn (v := .ty "bool") (by rfl) T.n_bool (by decide +kernel) rfl) pa_nil))))) (pw_or1 (pt_cmpR op_ne (pv 8) (pe_cmpR op_gt (pe_op op_mul (pe_ix ix_tup (pv 6) pe_int (fun _ _ => rfl)) (pe_ix ix_tup (pv 7) pe_int (fun _ _ => rfl))) (pe_op op_mul (pe_ix ix_tup (pv 7) pe_int (fun _ _ => rfl)) (pe_ix ix_tup (pv 6) pe_int (fun _ _ => rfl))) (nomark _)) (nomark _))))) (pss_one (ps_ret pe_bl)) pss_nil))))
      (pss_cons (ps_set (i := 9) sc_law.nd rfl (Or.inl rfl) (pe_op op_add pe_int (pe_op op_mod (pe_call (ok_law_cell_at T) (hr.mono (by decide)) rfl T.g_law_cell_at T.F_law_cell_at.kp T.b_law_cell_at .nil pass0 (pa_cons (pv 0) (pa_cons pe_int pa_nil))) pe_int)))
      (pss_cons (ps_set (i := 10) sc_law.nd rfl (Or.inl rfl) (pe_lst pa_nil))
      (pss_cons (ps_for PassesOwn.never rfl (pi_range1 rfl T.n_range (pa_cons (pv 9) pa_nil)) (pg_name (i := 11) sc_law.nd rfl (Or.inl rfl)) (pss_one (ps_expr (pe_bm PySem.F.plainAttrs_list PySem.F.slot_list_append PySem.F.type_list_append mt_append (pv 10) (pa_cons (pe_op op_sub (pe_op op_mod (pe_op op_mul (pe_call (ok_law_cell_at T) (hr.mono (by decide)) rfl T.g_law_cell_at T.F_law_cell_at.kp T.b_law_cell_at .nil pass0 (pa_cons (pv 0) (pa_cons (pe_op op_add pe_int (pe_op op_mod (pv 11) pe_int)) pa_nil))) (pe_op op_add pe_int (pv 11))) (pe_op op_add (pe_op op_mul pe_int (pv 1)) pe_int)) (pv 1)) pa_nil)))))
      (pss_cons (ps_set (i := 12) sc_law.nd rfl (Or.inl rfl) (pe_op op_mod (pe_call (ok_law_cell_at T) (hr.mono (by decide)) rfl T.g_law_cell_at T.F_law_cell_at.kp T.b_law_cell_at .nil pass0 (pa_cons (pv 0) (pa_cons pe_int pa_nil))) (pe_op op_sub (pv 9) pe_int)))
      (pss_cons (ps_set (i := 13) sc_law.nd rfl (Or.inl rfl) (pe_op op_add (pe_op op_add (pv 12) pe_int) (pe_op op_mod (pe_op op_fdiv (pe_call (ok_law_cell_at T) (hr.mono (by decide)) rfl T.g_law_cell_at T.F_law_cell_at.kp T.b_law_cell_at .nil pass0 (pa_cons (pv 0) (pa_cons pe_int pa_nil))) pe_int) (pe_op op_sub (pe_op op_sub (pv 9) pe_int) (pv 12)))))
      (pss_cons (ps_set (i := 14) sc_law.nd rfl (Or.inl rfl) (pe_callTy call_list_of rfl T.n_list (by decide +kernel) (pa_cons (pv 10) pa_nil)))
      (pss_cons (ps_set (i := 8) sc_law.nd rfl (Or.inl rfl) (pe_call (ok_slope T) (hr.mono (by decide)) rfl T.g_slope T.F_slope.kp T.b_slope .nil pass0 (pa_cons (pv 14) (pa_cons (pv 12) (pa_cons (pv 13) pa_nil)))))
      (pss_cons (ps_if (PW.pt (pw_or (pt_not (pt_val (pe_callB call_isi rfl T.n_isinstance (by decide +kernel) (pa_cons (pv 8) (pa_cons (pe_bltn (v := .ty "tuple") (by rfl) T.n_tuple (by decide +kernel) rfl) pa_nil))))) (pw_or (pt_cmpR op_ne (pe_callB call_len_seq rfl T.n_len (by decide +kernel) (pa_cons (pv 8) pa_nil)) pe_int (nomark _)) (pw_or1 (pt_cmpR (op_neD hr.units) (pv 14) (pv 10) (nomark _)))))) (pss_one (ps_ret pe_bl)) pss_nil)
      (pss_cons (ps_if (PW.pt (pw_or (pt_not (pt_val (pe_call (ok_law_whole T) (hr.mono (by decide)) rfl T.g_law_whole T.F_law_whole.kp T.b_law_whole .nil pass0 (pa_cons (pe_ix ix_tup (pv 8) pe_int (fun _ _ => rfl)) pa_nil)))) (pw_or1 (pt_not (pt_val (pe_call (ok_law_whole T) (hr.mono (by decide)) rfl T.g_law_whole T.F_law_whole.kp T.b_law_whole .nil pass0 (pa_cons (pe_ix ix_tup (pv 8) pe_int (fun _ _ => rfl)) pa_nil))))))) (pss_one (ps_ret pe_bl)) pss_nil)
      (pss_one (ps_ret (pe_and (pe_cmpR op_eq (pe_ix ix_tup (pv 8) pe_int (fun _ _ => rfl)) (pe_op op_sub (pe_ix ix_list (pv 10) (pv 13) (fun _ _ => rfl)) (pe_ix ix_list (pv 10) (pv 12) (fun _ _ => rfl))) (nomark _)) (pe_one (pe_cmpR op_eq (pe_ix ix_tup (pv 8) pe_int (fun _ _ => rfl)) (pe_op op_sub (pv 13) (pv 12)) (nomark _)))))))))))))))))))))), ?_⟩)
  · obtain ⟨a, ns, rfl, _⟩ := h
    rfl
  · obtain ⟨a, ns, rfl, hS, hlen, k⟩ := h
    let J : L2.St → Hp → Prop := fun σ' H' => ∃ (p1 p2 : Addr) (r1 l1 r2 l2 : Int) (m : Option V), σ' = [some (.ref a), some (.int FAR), some (.int (cell ns 0 % 3)), some (.ref p1), some (.ref p2), m, none, none, none, none, none, none, none, none, none] ∧ Same H H' ∧
      H' p1 = some (.tup [.int r1, .int l1]) ∧ H' p2 = some (.tup [.int r2, .int l2]) ∧ (0 < l1 ∧ l1 ≤ 1000) ∧ (0 < l2 ∧ l2 ≤ 1000)
    walk_at "rd"
    refine ⟨sz 2, fun p1 n1 => ?_⟩
    have s1 := same_upd (o := .tup [.int (cell ns 1 * 48271 % (4 * FAR + 1) - 2 * FAR), .int (1 + cell ns 2 % 199)]) n1
    have hS1 := s1.seq hS
    walk_at "rd"
    refine ⟨sz 2, fun p2 n2 => ?_⟩
    have s2 := s1.trans (same_upd (o := .tup [.int (cell ns 3 * 48271 % (4 * FAR + 1) - 2 * FAR), .int (1 + cell ns 4 % 199)]) n2)
    have hS2 := s2.seq hS
    walk_at "rq"
    with_reducible refine rd_cut J (fun N hN => ?_) ?k1
    · -- if kind == 1
      walk_at "rd"
      refine ite2 (fun c => ?_) (fun c => ?_)
      · walk_at "rd"
        refine ⟨sz 2, fun p3 n3 => ?_⟩
        have s3 := s2.trans (same_upd (o := .tup [.int (cell ns 1 % 1000 - 500), .int (1 + cell ns 2 % 60)]) n3)
        have hS3 := s3.seq hS
        walk_at "rd"
        refine rd_ixT (.of upd_same) (atI_nat (j := 0) rfl) ?_
        walk_at "rd"
        refine rd_ixT (.of upd_same) (atI_nat (j := 1) rfl) ?_
        walk_at "rd"
        refine ⟨sz 2, fun p4 n4 => ?_⟩
        have s4 := s3.trans (same_upd (o := .tup [.int ((cell ns 1 % 1000 - 500) * (1 + cell ns 3 % 3) + cell ns 4 % 3 - 1), .int ((1 + cell ns 2 % 60) * (1 + cell ns 3 % 3))]) n4)
        refine hN _ _ ⟨p3, p4, _, _, _, _, _, rfl, s4, upd_keep upd_same n4, upd_same, ⟨by omega, by omega⟩, ?_⟩
        exact mul3 (by omega) (by omega) (by omega) (by omega)
      · walk_at "rd"
        exact hN _ _ ⟨p1, p2, _, _, _, _, _, rfl, s2, upd_keep upd_same n2, upd_same, ⟨by omega, by omega⟩, ⟨by omega, by omega⟩⟩
    case k1 =>
      rintro σ1 H1 ⟨p1, p2, r1, l1, r2, l2, m, rfl, s1, h1, h2, b1, b2⟩
      clear n1 hS1 s2 hS2
      have hS1 := s1.seq hS
      walk_at "rq"
      with_reducible refine rd_cut J (fun N hN => ?_) ?k2
      · -- if kind == 2
        walk_at "rd"
        refine ite2 (fun c => ?_) (fun c => ?_)
        · walk_at "rd"
          refine ⟨sz 2, fun p3 n3 => ?_⟩
          have s3 := s1.trans (same_upd (o := .tup [.int (cell ns 1 % 9 - 4), .int (1 + cell ns 2 % 4)]) n3)
          have hS3 := s3.seq hS
          walk_at "rd"
          refine ⟨sz 2, fun p4 n4 => ?_⟩
          have s4 := s3.trans (same_upd (o := .tup [.int (cell ns 3 % 9 - 4), .int (1 + cell ns 4 % 4)]) n4)
          exact hN _ _ ⟨p3, p4, _, _, _, _, _, rfl, s4, upd_keep upd_same n4, upd_same, ⟨by omega, by omega⟩, ⟨by omega, by omega⟩⟩
        · walk_at "rd"
          exact hN _ _ ⟨p1, p2, _, _, _, _, _, rfl, s1, h1, h2, b1, b2⟩
      case k2 =>
        clear hS1 h1 h2 b1 b2 s1
        rintro σ1 H1 ⟨p1, p2, r1, l1, r2, l2, m, rfl, s1, h1, h2, b1, b2⟩
        have hS1 := s1.seq hS
        walk_at "rd"
        refine ⟨sz 2, fun q1 m1 => ?_⟩
        walk_at "rd"
        refine ⟨sz 2, fun q2 m2 => ?_⟩
        walk_at "rd"
        refine ⟨sz 2, fun q3 m3 => ?_⟩
        have t1 := same_upd (o := .tup [.ref p1, .ref p2]) m1
        have t2 := same_upd (o := .tup [.ref p2, .ref p1]) m2
        have t3 := same_upd (o := .tup [.ref q1, .ref q2]) m3
        generalize hH4 : upd (upd (upd H1 q1 (.tup [.ref p1, .ref p2])) q2 (.tup [.ref p2, .ref p1])) q3 (.tup [.ref q1, .ref q2]) = H4
        have s4 : Same H1 H4 := by rw [← hH4]; exact (t1.trans t2).trans t3
        have e1 : H4 q1 = some (.tup [.ref p1, .ref p2]) := by rw [← hH4]; exact t3 _ _ (t2 _ _ upd_same)
        have e2 : H4 q2 = some (.tup [.ref p2, .ref p1]) := by rw [← hH4]; exact t3 _ _ upd_same
        have e3 : H4 q3 = some (.tup [.ref q1, .ref q2]) := by rw [← hH4]; exact upd_same
        have g1 := s4 _ _ h1
        have g2 := s4 _ _ h2
        have sA := s1.trans s4
        have hS4 := sA.seq hS
        have step : ∀ (i : Nat) (x : V), [V.ref q1, V.ref q2][i]? = some x → ∃ (qq t u : Addr) (rt lt ru lu : Int), x = .ref qq ∧ H4 qq = some (.tup [.ref t, .ref u]) ∧ H4 t = some (.tup [.int rt, .int lt]) ∧ H4 u = some (.tup [.int ru, .int lu]) ∧ (0 < lt ∧ lt ≤ 1000) ∧ (0 < lu ∧ lu ≤ 1000) := by
          intro i x hx
          match i, hx with
          | 0, hx => exact ⟨q1, p1, p2, _, _, _, _, (Option.some.inj hx).symm, e1, g1, g2, b1, b2⟩
          | 1, hx => exact ⟨q2, p2, p1, _, _, _, _, (Option.some.inj hx).symm, e2, g2, g1, b2, b1⟩
          | i + 2, hx => simp at hx
        refine ⟨q3, rfl, ⟨_, .of e3⟩, for_tup (K := K) (a := q3) (xs := [.ref q1, .ref q2]) (fun i σ H' => ∃ v6 v7 v8 : Option V, σ = [some (.ref a), some (.int FAR), some (.int (cell ns 0 % 3)), some (.ref p1), some (.ref p2), m, v6, v7, v8, none, none, none, none, none, none] ∧ H' = H4)
          ⟨none, none, none, rfl, rfl⟩ (fun i σ H' _ ⟨_, _, _, _, e⟩ => by rw [e]; exact .of e3) ?_ ?_⟩
        · rintro i x σ H' hx ⟨v6, v7, v8, rfl, rfl⟩
          obtain ⟨qq, t, u, rt, lt, ru, lu, rfl, f1, f2, f3, c1, c2⟩ := step i x hx
          refine rd_gTup2 (.of f1) ?_
          walk_at "rd"
          refine ⟨t, u, rt, lt, ru, lu, rfl, .of f2, .of f3, .inr ⟨by omega, by omega⟩, .inr ⟨by omega, by omega⟩, ?_⟩
          walk_at "rd"
          refine rd_isi (b := true) (.base (.bl _)) (by decide +kernel) ?_
          walk_at "rd"
          refine iteF ?_
          walk_at "rd"
          refine rd_ixT (.of f2) (atI_nat (j := 0) rfl) ?_
          walk_at "rd"
          refine rd_ixT (.of f3) (atI_nat (j := 1) rfl) ?_
          walk_at "rd"
          refine rd_ixT (.of f3) (atI_nat (j := 0) rfl) ?_
          walk_at "rd"
          refine rd_ixT (.of f2) (atI_nat (j := 1) rfl) ?_
          walk_at "rd"
          refine rd_no (by simp) ?_
          exact ⟨_, _, _, rfl, rfl⟩
        · rintro σ H' ⟨v6, v7, v8, rfl, hH⟩
          subst H'
          walk_at "rd"
          refine ⟨sz 0, fun L nL => ?_⟩
          have s5 := same_upd (o := .lst []) nL
          walk_at "rd"
          obtain ⟨z, hz⟩ : ∃ z, z = 2 + cell ns (Int.toNat 5) % 59 := ⟨_, rfl⟩
          have hz1 : 2 ≤ z ∧ z ≤ 60 := by omega
          rw [← hz]
          refine rng1 ⟨by omega, by omega⟩ (fun i σ H' => ∃ (zs : List Int) (v11 : Option V), σ = [some (.ref a), some (.int FAR), some (.int (cell ns 0 % 3)), some (.ref p1), some (.ref p2), m, v6, v7, v8, some (.int z), some (.ref L), v11, none, none, none] ∧ zs.length = i ∧ H' = upd H4 L (.lst (IL zs))) ⟨[], none, by rw [hz]; rfl, rfl, rfl⟩ ?_ ?_
          · rintro i σ H' hi ⟨zs, v11, rfl, hl, rfl⟩
            have hS5 := (sA.trans (same_upd (o := .lst (IL zs)) nL)).seq hS
            walk_at "rd"
            refine ⟨ty_list (.of upd_same), ?_⟩
            walk_at "rd"
            refine rd_append upd_same (by rw [List.length_map]; omega) ?_
            exact ⟨_, _, rfl, len_snoc hl, upd_snoc⟩
          · rintro σ H' ⟨zs, v11, rfl, hl, rfl⟩
            have s6 := sA.trans (same_upd (o := .lst (IL zs)) nL)
            have hS6 := s6.seq hS
            have hL6 : (upd H4 L (.lst (IL zs))) L = some (.lst (IL zs)) := upd_same
            have hlz : (zs.length : Int) = z := by omega
            walk_at "rd"
            have m1 := emod_b (x := cell ns (Int.toNat 6)) (n := z - 1) (by omega)
            generalize cell ns (Int.toNat 6) % (z - 1) = lw at *
            have m2 := emod_b (x := cell ns (Int.toNat 6) / 60) (n := z - 1 - lw) (by omega)
            walk_at "rd"
            refine ⟨L, _, rfl, .inl (.of upd_same), fun M nM => ?_⟩
            have hM : (upd (upd H4 L (.lst (IL zs))) M (.lst (IL zs))) M = some (.lst (IL zs)) := upd_same
            have hL7 : (upd (upd H4 L (.lst (IL zs))) M (.lst (IL zs))) L = some (.lst (IL zs)) := upd_keep upd_same nM
            generalize upd (upd H4 L (.lst (IL zs))) M (.lst (IL zs)) = H7 at hM hL7
            walk_at "rd"
            generalize cell ns (Int.toNat 6) / 60 % (z - 1 - lw) = dd at *
            obtain ⟨hw, ehw⟩ : ∃ hw, hw = lw + 1 + dd := ⟨_, rfl⟩
            rw [← ehw]
            have bl : 0 ≤ lw ∧ lw < (zs.length : Int) := ⟨by omega, by omega⟩
            have bh : 0 ≤ hw ∧ hw < (zs.length : Int) := ⟨by omega, by omega⟩
            refine ⟨M, zs, lw, hw, rfl, .of hM, ⟨bl.1, bl.2, bh.1, bh.2⟩, fun p np => ?_⟩
            have hp : (upd H7 p (slO zs lw hw)) p = some (.tup [.int (hv zs hw - hv zs lw), .int (hw - lw)]) := upd_same
            have hM8 := upd_keep (u := slO zs lw hw) hM np
            have hL8 := upd_keep (u := slO zs lw hw) hL7 np
            generalize upd H7 p (slO zs lw hw) = H8 at hp hM8 hL8
            walk_at "rd"
            refine rd_isi (b := true) (ty_tup hp) (by decide +kernel) ?_
            walk_at "rd"
            refine iteF ?_
            walk_at "rd"
            refine ⟨p, _, rfl, .inr (.of hp), ?_⟩
            walk_at "rd"
            refine rd_no (by simp) ?_
            walk_at "rd"
            refine rd_neI (.of hM8) (.of hL8) ?_
            walk_at "rd"
            refine rd_no (by simp) ?_
            walk_at "rd"
            refine rd_ixT (.of hp) (atI_nat (j := 0) rfl) ?_
            walk_at "rd"
            refine ⟨_, true, rfl, whole_int, ?_⟩
            walk_at "rd"
            refine iteF ?_
            walk_at "rd"
            refine rd_ixT (.of hp) (atI_nat (j := 1) rfl) ?_
            walk_at "rd"
            refine ⟨_, true, rfl, whole_int, ?_⟩
            walk_at "rd"
            refine iteF ?_
            walk_at "rd"
            refine rd_ixT (.of hp) (atI_nat (j := 0) rfl) ?_
            walk_at "rd"
            refine rd_ixL (.of hL8) (IL_at bh.1 bh.2) ?_
            walk_at "rd"
            refine rd_ixL (.of hL8) (IL_at bl.1 bl.2) ?_
            walk_at "rd"
            refine rd_yes (by simp [hv]) ?_
            walk_at "rd"
            refine rd_ixT (.of hp) (atI_nat (j := 1) rfl) ?_
            walk_at "rd"
            have ef : decide (V.int (hw - lw) = V.int (hw - lw)) = true := decide_eq_true rfl
            rw [ef]
            exact k _


end
theorem all_mk {l : PySem.W.OpenLaw} {w : World} {K : PySem.W.Frag} {h : Heap} {mg : Str → Option Value} {fa : Addr} (X : K.In h) (G : h.Ns mainGlobals mg) (hfa : mg "law" = some (.ref fa))
    {f_slope : Addr} {od_slope an_slope : Option Addr} {sl_slope : Array (Option Value)} {oc_slope kV_slope dc_slope pm_slope cd_slope ct_slope : Value} {f_steeper : Addr} {od_steeper an_steeper : Option Addr} {sl_steeper : Array (Option Value)} {oc_steeper kV_steeper dc_steeper pm_steeper cd_steeper ct_steeper : Value} {f_law_whole : Addr} {od_law_whole an_law_whole : Option Addr} {sl_law_whole : Array (Option Value)} {oc_law_whole kV_law_whole dc_law_whole pm_law_whole cd_law_whole ct_law_whole : Value} {f_law_cell_at : Addr} {od_law_cell_at an_law_cell_at : Option Addr} {sl_law_cell_at : Array (Option Value)} {oc_law_cell_at kV_law_cell_at dc_law_cell_at pm_law_cell_at cd_law_cell_at ct_law_cell_at : Value} {f_law : Addr} {od_law an_law : Option Addr} {sl_law : Array (Option Value)} {oc_law kV_law dc_law pm_law cd_law ct_law : Value}
    (a_slope : PySem.W.nsIn K mainGlobals "slope" = some (some (.ref f_slope)))
    (l_slope : K.lookup f_slope = some ⟨oc_slope, od_slope, .func (PySem.W.fnOf "slope" "slope" (defArgs s_slope) (defBody s_slope) (defScope s_slope) .none kV_slope dc_slope pm_slope an_slope cd_slope ct_slope), sl_slope⟩)
    (q_slope : PySem.W.codeIn K cd_slope "slope" = true)
    (k_slope : PySem.W.keepIn K (.ref f_slope) = true)
    (a_steeper : PySem.W.nsIn K mainGlobals "steeper" = some (some (.ref f_steeper)))
    (l_steeper : K.lookup f_steeper = some ⟨oc_steeper, od_steeper, .func (PySem.W.fnOf "steeper" "steeper" (defArgs s_steeper) (defBody s_steeper) (defScope s_steeper) .none kV_steeper dc_steeper pm_steeper an_steeper cd_steeper ct_steeper), sl_steeper⟩)
    (q_steeper : PySem.W.codeIn K cd_steeper "steeper" = true)
    (k_steeper : PySem.W.keepIn K (.ref f_steeper) = true)
    (a_law_whole : PySem.W.nsIn K mainGlobals "_law_whole" = some (some (.ref f_law_whole)))
    (l_law_whole : K.lookup f_law_whole = some ⟨oc_law_whole, od_law_whole, .func (PySem.W.fnOf "_law_whole" "_law_whole" (defArgs s_law_whole) (defBody s_law_whole) (defScope s_law_whole) .none kV_law_whole dc_law_whole pm_law_whole an_law_whole cd_law_whole ct_law_whole), sl_law_whole⟩)
    (q_law_whole : PySem.W.codeIn K cd_law_whole "_law_whole" = true)
    (k_law_whole : PySem.W.keepIn K (.ref f_law_whole) = true)
    (a_law_cell_at : PySem.W.nsIn K mainGlobals "_law_cell_at" = some (some (.ref f_law_cell_at)))
    (l_law_cell_at : K.lookup f_law_cell_at = some ⟨oc_law_cell_at, od_law_cell_at, .func (PySem.W.fnOf "_law_cell_at" "_law_cell_at" (defArgs s_law_cell_at) (defBody s_law_cell_at) (defScope s_law_cell_at) .none kV_law_cell_at dc_law_cell_at pm_law_cell_at an_law_cell_at cd_law_cell_at ct_law_cell_at), sl_law_cell_at⟩)
    (q_law_cell_at : PySem.W.codeIn K cd_law_cell_at "_law_cell_at" = true)
    (k_law_cell_at : PySem.W.keepIn K (.ref f_law_cell_at) = true)
    (a_law : PySem.W.nsIn K mainGlobals "law" = some (some (.ref f_law)))
    (l_law : K.lookup f_law = some ⟨oc_law, od_law, .func (PySem.W.fnOf "law" "law" (defArgs s_law) (defBody s_law) (defScope s_law) .none kV_law dc_law pm_law an_law cd_law ct_law), sl_law⟩)
    (q_law : PySem.W.codeIn K cd_law "law" = true)
    (k_law : PySem.W.keepIn K (.ref f_law) = true)
    (n_bool : PySem.W.nsIn K mainGlobals "bool" = some none)
    (n_int : PySem.W.nsIn K mainGlobals "int" = some none)
    (n_isinstance : PySem.W.nsIn K mainGlobals "isinstance" = some none)
    (n_len : PySem.W.nsIn K mainGlobals "len" = some none)
    (n_list : PySem.W.nsIn K mainGlobals "list" = some none)
    (n_range : PySem.W.nsIn K mainGlobals "range" = some none)
    (n_tuple : PySem.W.nsIn K mainGlobals "tuple" = some none)
    : ∃ fd : FuncData, (∀ (s : Shared) (v : Value), BindsTo s fd ⟨[v], []⟩ [("_law_script", v)]) ∧ ∀ base : Heap, K.In base → base.Ns mainGlobals mg → FnOk l.prog w K mg base CX0 2 fa fd ["_law_script"] (spLaw K) := by
  have e : fa = f_law := Value.ref.inj (Option.some.inj (hfa.symm.trans (PySem.W.mg_of X G a_law)))
  rw [e]
  have T : ∃ T : Txt K mg, T.a_law = f_law ∧ T.d_law = PySem.W.fnOf "law" "law" (defArgs s_law) (defBody s_law) (defScope s_law) .none kV_law dc_law pm_law an_law cd_law ct_law := ⟨{
    a_slope := f_slope, d_slope := PySem.W.fnOf "slope" "slope" (defArgs s_slope) (defBody s_slope) (defScope s_slope) .none kV_slope dc_slope pm_slope an_slope cd_slope ct_slope, F_slope := fun_mk (st := s_slope) l_slope q_slope k_slope,
    b_slope := (fun_mk (st := s_slope) l_slope q_slope k_slope).binds (ps := ["land", "a", "b"]) fun _ _ _ _ _ _ us hl => match us, hl with | [_, _, _], _ => rfl,
    g_slope := PySem.W.mg_of X G a_slope,
    a_steeper := f_steeper, d_steeper := PySem.W.fnOf "steeper" "steeper" (defArgs s_steeper) (defBody s_steeper) (defScope s_steeper) .none kV_steeper dc_steeper pm_steeper an_steeper cd_steeper ct_steeper, F_steeper := fun_mk (st := s_steeper) l_steeper q_steeper k_steeper,
    b_steeper := (fun_mk (st := s_steeper) l_steeper q_steeper k_steeper).binds (ps := ["one", "other"]) fun _ _ _ _ _ _ us hl => match us, hl with | [_, _], _ => rfl,
    g_steeper := PySem.W.mg_of X G a_steeper,
    a_law_whole := f_law_whole, d_law_whole := PySem.W.fnOf "_law_whole" "_law_whole" (defArgs s_law_whole) (defBody s_law_whole) (defScope s_law_whole) .none kV_law_whole dc_law_whole pm_law_whole an_law_whole cd_law_whole ct_law_whole, F_law_whole := fun_mk (st := s_law_whole) l_law_whole q_law_whole k_law_whole,
    b_law_whole := (fun_mk (st := s_law_whole) l_law_whole q_law_whole k_law_whole).binds (ps := ["_law_found"]) fun _ _ _ _ _ _ us hl => match us, hl with | [_], _ => rfl,
    g_law_whole := PySem.W.mg_of X G a_law_whole,
    a_law_cell_at := f_law_cell_at, d_law_cell_at := PySem.W.fnOf "_law_cell_at" "_law_cell_at" (defArgs s_law_cell_at) (defBody s_law_cell_at) (defScope s_law_cell_at) .none kV_law_cell_at dc_law_cell_at pm_law_cell_at an_law_cell_at cd_law_cell_at ct_law_cell_at, F_law_cell_at := fun_mk (st := s_law_cell_at) l_law_cell_at q_law_cell_at k_law_cell_at,
    b_law_cell_at := (fun_mk (st := s_law_cell_at) l_law_cell_at q_law_cell_at k_law_cell_at).binds (ps := ["_law_script", "_law_k"]) fun _ _ _ _ _ _ us hl => match us, hl with | [_, _], _ => rfl,
    g_law_cell_at := PySem.W.mg_of X G a_law_cell_at,
    a_law := f_law, d_law := PySem.W.fnOf "law" "law" (defArgs s_law) (defBody s_law) (defScope s_law) .none kV_law dc_law pm_law an_law cd_law ct_law, F_law := fun_mk (st := s_law) l_law q_law k_law,
    b_law := (fun_mk (st := s_law) l_law q_law k_law).binds (ps := ["_law_script"]) fun _ _ _ _ _ _ us hl => match us, hl with | [_], _ => rfl,
    g_law := PySem.W.mg_of X G a_law,
    n_bool := PySem.W.mg_none_of X G n_bool,
    n_int := PySem.W.mg_none_of X G n_int,
    n_isinstance := PySem.W.mg_none_of X G n_isinstance,
    n_len := PySem.W.mg_none_of X G n_len,
    n_list := PySem.W.mg_none_of X G n_list,
    n_range := PySem.W.mg_none_of X G n_range,
    n_tuple := PySem.W.mg_none_of X G n_tuple }, rfl, rfl⟩
  obtain ⟨T, e1, e2⟩ := T
  refine ⟨PySem.W.fnOf "law" "law" (defArgs s_law) (defBody s_law) (defScope s_law) .none kV_law dc_law pm_law an_law cd_law ct_law, fun s v => .of_eq rfl, fun base _ _ => ?_⟩
  rw [← e1, ← e2]
  exact ok_law T
end Hs
open PySem PySem.W PyProof.Rows
set_option maxRecDepth 100000 in
set_option maxHeartbeats 0 in
theorem PySem.Challenge.cw_hillsight_k01_slopes_holds : PySem.Challenge.rw_hillsight_k01_slopes.Holds := by
  w_on; o_law; k_head; (case hw => w_witness2)
  k_fill
  refine L2.walk_ofK (l := PySem.Challenge.rw_hillsight_k01_slopes) (n := 63) (k := 2) (x := "_law_script") (CX := L2.CX0) (sp := Hs.spLaw) rfl (by decide) rfl ⟨rfl, by decide, by decide⟩ (fun w h Y => PySem.W.kIn_of Y) ?F (fun _ _ a ns hl _ hS => ⟨a, ns, rfl, hS, hl, fun _ => rfl⟩) (fun _ _ _ _ h => h)
  case F =>
    intro w mg fa h KX G hmg
    refine' Hs.all_mk KX G hmg ?a_slope ?l_slope ?q_slope ?k_slope ?a_steeper ?l_steeper ?q_steeper ?k_steeper ?a_law_whole ?l_law_whole ?q_law_whole ?k_law_whole ?a_law_cell_at ?l_law_cell_at ?q_law_cell_at ?k_law_cell_at ?a_law ?l_law ?q_law ?k_law ?n_bool ?n_int ?n_isinstance ?n_len ?n_list ?n_range ?n_tuple
    (case a_slope => first | k_is | rfl)
    (case l_slope => first | k_is | rfl)
    (case q_slope => first | k_is | rfl)
    (case k_slope => first | k_is | rfl)
    (case a_steeper => first | k_is | rfl)
    (case l_steeper => first | k_is | rfl)
    (case q_steeper => first | k_is | rfl)
    (case k_steeper => first | k_is | rfl)
    (case a_law_whole => first | k_is | rfl)
    (case l_law_whole => first | k_is | rfl)
    (case q_law_whole => first | k_is | rfl)
    (case k_law_whole => first | k_is | rfl)
    (case a_law_cell_at => first | k_is | rfl)
    (case l_law_cell_at => first | k_is | rfl)
    (case q_law_cell_at => first | k_is | rfl)
    (case k_law_cell_at => first | k_is | rfl)
    (case a_law => first | k_is | rfl)
    (case l_law => first | k_is | rfl)
    (case q_law => first | k_is | rfl)
    (case k_law => first | k_is | rfl)
    (case n_bool => first | k_is | rfl)
    (case n_int => first | k_is | rfl)
    (case n_isinstance => first | k_is | rfl)
    (case n_len => first | k_is | rfl)
    (case n_list => first | k_is | rfl)
    (case n_range => first | k_is | rfl)
    (case n_tuple => first | k_is | rfl)
