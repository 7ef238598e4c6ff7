import PyProof.Rows.All
import Wide.All
import OpenK.AllK
import Wide.FinOn
import HandS.ForMost
import HandS.Exc
import HandS.ExcOwn
import HandS.TryOnly
import HandS.TryMany
import HandS.WordsExc
import HandS.IsInst
import HandS.Steps
import HandS.Style
import HandS.ExcCtx
import HandS.HotCalls
import HandS.ExcIs
import HandS.SortInts
import PySem.Challenge.RW_hillsight_k10_whole_changes
set_option Elab.async false
set_option linter.all false
set_option maxRecDepth 100000
set_option maxHeartbeats 4000000
namespace Hs
open PySem PySem.Spec PyProof.Rows L2
/-! ## readings, step by step -/
theorem rd_var {i : Nat} {σ : L2.St} {H : Hp} {Q : VK} {v : V} (h : σ[i]? = some (some v)) (q : Q v H) : tVar i σ H Q := ⟨v, h, q⟩
theorem rd_c {v : V} {σ : L2.St} {H : Hp} {Q : VK} (q : Q v H) : tC v σ H Q := q
theorem rd_op {r : R2} {ta tb : TE} {σ : L2.St} {H : Hp} {Q : VK} (q : ta σ H fun x H1 => tb σ H1 fun y H2 => r x y H2 Q) : tOp r ta tb σ H Q := q
theorem rd_un {r : V → Hp → VK → Prop} {ta : TE} {σ : L2.St} {H : Hp} {Q : VK} (q : ta σ H fun x H1 => r x H1 Q) : tUn r ta σ H Q := q
theorem rd_U {g : Int → V} {i : Int} {H : Hp} {Q : VK} (q : Q (g i) H) : rU g (.int i) H Q := ⟨i, rfl, q⟩
theorem rd_I0 {g : Int → Int → V} {i j : Int} {H : Hp} {Q : VK} (q : Q (g i j) H) : rI0 g (.int i) (.int j) H Q := ⟨i, j, rfl, rfl, q⟩
theorem rd_I {C : Int → Int → Prop} {g : Int → Int → V} {i j : Int} {H : Hp} {Q : VK} (c : C i j) (q : Q (g i j) H) : rI C g (.int i) (.int j) H Q := ⟨i, j, rfl, rfl, c, q⟩
theorem rd_eq {x y : V} {H : Hp} {Q : VK} (c : scal x y = true) (q : Q (.bl (decide (x = y))) H) : rEq x y H Q := ⟨c, q⟩
theorem rd_ne {x y : V} {H : Hp} {Q : VK} (c : scal x y = true) (q : Q (.bl (!decide (x = y))) H) : rNe x y H Q := ⟨c, q⟩
theorem rd_nil {σ : L2.St} {H : Hp} {Q : List V → Hp → Prop} (q : Q [] H) : tNil σ H Q := q
theorem rd_cons {ta : TE} {tr : TA} {σ : L2.St} {H : Hp} {Q : List V → Hp → Prop} (q : ta σ H fun x H1 => tr σ H1 fun xs H2 => Q (x :: xs) H2) : tCons ta tr σ H Q := q
theorem rd_cb {r : List V → Hp → VK → Prop} {ta : TA} {σ : L2.St} {H : Hp} {Q : VK} (q : ta σ H fun xs H1 => r xs H1 Q) : tCB r ta σ H Q := q
theorem rd_call {sp : Sp} {E : XK} {ta : TA} {σ : L2.St} {H : Hp} {Q : VK} (q : ta σ H fun xs H1 => sp (xs ++ []) H1 Q E) : tCall sp [] E ta σ H Q := q
theorem rd_callS {sp : Sp} {E : L2.St → XK} {ta : TA} {σ : L2.St} {H : Hp} {Q : VK} (q : ta σ H fun xs H1 => sp xs H1 Q (E σ)) : tCallS sp E ta σ H Q := q
theorem rd_test {t : TE} {σ : L2.St} {H : Hp} {Q : Bool → Hp → Prop} (q : t σ H fun x H' => ∃ k, x = .bl k ∧ Q k H') : tTest t σ H Q := q
theorem rd_tB {t : TE} {σ : L2.St} {H : Hp} {Q : Bool → Hp → Prop} (q : t σ H fun x H' => ∃ k, x = .bl k ∧ Q k H') : tB t σ H Q := q
theorem rd_bl {k : Bool} {R : Bool → Prop} (q : R k) : ∃ k', V.bl k = .bl k' ∧ R k' := ⟨k, rfl, q⟩
theorem rd_not {t : TT} {σ : L2.St} {H : Hp} {Q : Bool → Hp → Prop} (q : t σ H fun c H1 => Q (!c) H1) : tNot t σ H Q := q
theorem rd_and {t u : TT} {σ : L2.St} {H : Hp} {Q : Bool → Hp → Prop} (q : t σ H fun c H1 => if c = true then u σ H1 Q else Q false H1) : tAnd t u σ H Q := q
theorem rd_or {t u : TT} {σ : L2.St} {H : Hp} {Q : Bool → Hp → Prop} (q : t σ H fun c H1 => if c = true then Q true H1 else u σ H1 Q) : tOr t u σ H Q := q
theorem rd_andV {t u : TE} {σ : L2.St} {H : Hp} {Q : VK} (q : t σ H fun x H1 => ∃ c, x = .bl c ∧ if c = true then u σ H1 Q else Q (.bl false) H1) : tAndV t u σ H Q := q
theorem rd_orV {t u : TE} {σ : L2.St} {H : Hp} {Q : VK} (q : t σ H fun x H1 => ∃ c, x = .bl c ∧ if c = true then Q (.bl true) H1 else u σ H1 Q) : tOrV t u σ H Q := q
theorem rd_notV {t : TE} {σ : L2.St} {H : Hp} {Q : VK} (q : t σ H fun x H1 => ∃ c, x = .bl c ∧ Q (.bl (!c)) H1) : tNotV t σ H Q := q
theorem rd_if {c : TT} {ta tb : TE} {σ : L2.St} {H : Hp} {Q : VK} (q : c σ H fun b H1 => if b = true then ta σ H1 Q else tb σ H1 Q) : tIf c ta tb σ H Q := q
theorem rd_seq {t u : TS} {D : Ends} {σ : L2.St} {H : Hp} (q : t { D with nx := u D } σ H) : tSeq t u D σ H := q
theorem rd_asg {te : TE} {g : TG} {D : Ends} {σ : L2.St} {H : Hp} (q : te σ H fun x H1 => g x σ H1 D.nx) : tAsg te g D σ H := q
theorem rd_name {i : Nat} {v : V} {σ : L2.St} {H : Hp} {Q : L2.St → Hp → Prop} (q : Q (σ.set i (some v)) H) : gName i v σ H Q := q
theorem rd_ret {te : TE} {D : Ends} {σ : L2.St} {H : Hp} (q : te σ H D.rt) : tRet te D σ H := q
theorem rd_drop {te : TE} {D : Ends} {σ : L2.St} {H : Hp} (q : te σ H fun _ H1 => D.nx σ H1) : tDrop te D σ H := q
theorem rd_ifS {c : TT} {t u : TS} {D : Ends} {σ : L2.St} {H : Hp} (q : c σ H fun b H1 => if b = true then t D σ H1 else u D σ H1) : tIfS c t u D σ H := q
theorem rd_next {D : Ends} {σ : L2.St} {H : Hp} (q : D.nx σ H) : tNext D σ H := q
theorem rd_cont {D : Ends} {σ : L2.St} {H : Hp} (q : D.ct σ H) : tCont D σ H := q
theorem rd_tup {ta : TA} {σ : L2.St} {H : Hp} {Q : VK} (q : ta σ H fun xs H1 => xs.length ≤ sizeLine ∧ ∀ p, H1 p = none → Q (.ref p) (upd H1 p (.tup xs))) : tTup ta σ H Q := q
theorem rd_lst {ta : TA} {σ : L2.St} {H : Hp} {Q : VK} (q : ta σ H fun xs H1 => xs.length ≤ sizeLine ∧ ∀ p, H1 p = none → Q (.ref p) (upd H1 p (.lst xs))) : tLst ta σ H Q := q
theorem rd_ixL {K : PySem.W.Frag} {p : Addr} {xs : List V} {i : Int} {v : V} {H : Hp} {Q : VK} (h : SqL K H p xs) (a : atI xs i = some v) (q : Q v H) : rIxL K (.ref p) (.int i) H Q := ⟨p, xs, i, v, rfl, rfl, h, a, q⟩
theorem rd_ixT {K : PySem.W.Frag} {p : Addr} {xs : List V} {i : Int} {v : V} {H : Hp} {Q : VK} (h : SqT K H p xs) (a : atI xs i = some v) (q : Q v H) : rIxT K (.ref p) (.int i) H Q := ⟨p, xs, i, v, rfl, rfl, h, a, q⟩
theorem rd_yes {c A B : Prop} [Decidable c] (hc : c) (q : A) : if c then A else B := by rw [if_pos hc]; exact q
theorem rd_no {c A B : Prop} [Decidable c] (hc : ¬ c) (q : B) : if c then A else B := by rw [if_neg hc]; exact q
/-! ## heaps -/
theorem same_upd {H : Hp} {p : Addr} {o : HO} (h : H p = none) : Same H (upd H p o) := fun b x e => by
  rw [upd_ne (ne_of_none e h)]
  exact e
theorem Same.seqT {K : PySem.W.Frag} {H H' : Hp} {a : Addr} {xs : List V} (e : Same H H') (h : SqT K H a xs) : SqT K H' a xs := by
  rcases h with (h | ⟨o, h⟩) | h
  · exact .inl (.inl (e _ _ h))
  · exact .inl (.inr ⟨o, e _ _ h⟩)
  · exact .inr h
theorem sz (n : Nat) (h : n ≤ 100000 := by decide) : n ≤ sizeLine := Nat.le_trans h (by decide)
theorem szlt {n : Nat} (h : n < 100000) : n < sizeLine := Nat.lt_of_lt_of_le h (by decide)
abbrev IL (ns : List Int) : List V := ns.map V.int
theorem IL_get {ns : List Int} {k : Nat} (h : k < ns.length) : (IL ns)[k]? = some (V.int (ns.getD k 0)) := by
  rw [List.getElem?_map, List.getElem?_eq_getElem h, List.getD_eq_getElem?_getD, List.getElem?_eq_getElem h]
  rfl
theorem IL_at {ns : List Int} {i : Int} (h0 : 0 ≤ i) (h : i < ns.length) : atI (IL ns) i = some (V.int (ns.getD i.toNat 0)) := by
  obtain ⟨k, rfl⟩ : ∃ k : Nat, i = (k : Int) := ⟨i.toNat, by omega⟩
  have hk : k < ns.length := by omega
  exact atI_nat (IL_get hk)
/-! ## the law's cells -/
def cell (ns : List Int) (k : Nat) : Int := ns.getD k 0
/-! ## loops, cuts, methods -/
theorem rd_cut {t u : TS} {D : Ends} {σ : L2.St} {H : Hp} (J : L2.St → Hp → Prop) (h : ∀ N : L2.St → Hp → Prop, (∀ σ' H', J σ' H' → N σ' H') → t { D with nx := N } σ H) (k : ∀ σ' H', J σ' H' → u D σ' H') : tSeq t u D σ H := h (u D) k
theorem rd_for {wi : TI} {g : TG} {tb : TS} {D : Ends} {σ : L2.St} {H : Hp} (q : wi σ H fun J H1 => ∃ W : Nat → Nat → L2.St → Hp → Prop, (∃ m, W 0 m σ H1) ∧ ∀ i m σ H, W i m σ H →
    (J.stop i H ∧ D.nx σ H) ∨ (J.go i H ∧ ∃ N : L2.St → Hp → Prop, (∀ σ' H', N σ' H' → ∃ m', m' < m ∧ W (i + 1) m' σ' H') ∧ ∀ x H', J.yld i H x H' → g x σ H' fun σ2 H2 => tb { D with nx := N, ct := N, bk := D.nx } σ2 H2)) : tFor wi g tb D σ H := q
/-- what a for over a range asks, its bound known -/
abbrev LoopR (lo : Int) (n : Nat) (g : TG) (tb : TS) (D : Ends) (σ : L2.St) (H : Hp) : Prop := ∃ W : Nat → Nat → L2.St → Hp → Prop, (∃ m, W 0 m σ H) ∧ ∀ i m σ H, W i m σ H →
    ((Itr lo n).stop i H ∧ D.nx σ H) ∨ ((Itr lo n).go i H ∧ ∃ N : L2.St → Hp → Prop, (∀ σ' H', N σ' H' → ∃ m', m' < m ∧ W (i + 1) m' σ' H') ∧ ∀ x H', (Itr lo n).yld i H x H' → g x σ H' fun σ2 H2 => tb { D with nx := N, ct := N, bk := D.nx } σ2 H2)
theorem rd_rng1 {ta : TA} {σ : L2.St} {H : Hp} {R : It → Hp → Prop} (q : ta σ H fun vs H1 => ∃ j : Int, vs = [.int j] ∧ -(2 ^ 62) ≤ j ∧ j < 2 ^ 62 ∧ R (Itr 0 j.toNat) H1) : iRng1 ta σ H R := q
theorem rd_rng2 {ta : TA} {σ : L2.St} {H : Hp} {R : It → Hp → Prop} (q : ta σ H fun vs H1 => ∃ i j : Int, vs = [.int i, .int j] ∧ (-(2 ^ 62) ≤ i ∧ i < 2 ^ 62 ∧ -(2 ^ 62) ≤ j ∧ j < 2 ^ 62) ∧ R (Itr i (j - i).toNat) H1) : iRng2 ta σ H R := q
theorem rd_iList {K : PySem.W.Frag} {tl : TE} {σ : L2.St} {H : Hp} {R : It → Hp → Prop} (q : tl σ H fun x H1 => ∃ a, x = .ref a ∧ (∃ xs, SqL K H1 a xs) ∧ R (Itl K a) H1) : iList K tl σ H R := q
theorem rd_iTup {K : PySem.W.Frag} {tl : TE} {σ : L2.St} {H : Hp} {R : It → Hp → Prop} (q : tl σ H fun x H1 => ∃ a, x = .ref a ∧ (∃ xs, SqT K H1 a xs) ∧ R (Itt K a) H1) : iTup K tl σ H R := q
/-- behind the argument of range: the bound, an invariant by the turn -/
theorem rng1 {n : Int} {g : TG} {tb : TS} {D : Ends} {σ : L2.St} {H : Hp} (b : -1000000 ≤ n ∧ n ≤ 1000000) (Pv : Nat → L2.St → Hp → Prop) (h0 : Pv 0 σ H)
    (hs : ∀ (k : Nat) σ' H', (k : Int) < n → Pv k σ' H' → g (.int (k : Int)) σ' H' fun σ2 H2 => tb { D with nx := Pv (k + 1), ct := Pv (k + 1), bk := D.nx } σ2 H2) (hd : ∀ σ' H', Pv n.toNat σ' H' → D.nx σ' H') :
    ∃ j : Int, [V.int n] = [.int j] ∧ -(2 ^ 62) ≤ j ∧ j < 2 ^ 62 ∧ LoopR 0 j.toNat g tb D σ H := by
  refine ⟨n, rfl, by omega, by omega, for_range (lo := 0) (n := n.toNat) Pv h0 (fun i σ' H' hi p => ?_) hd⟩
  have e0 : (0 : Int) + (i : Int) = (i : Int) := Int.zero_add _
  rw [e0]
  exact hs i σ' H' (by omega) p
theorem rng2 {lo n : Int} {g : TG} {tb : TS} {D : Ends} {σ : L2.St} {H : Hp} (b : (-1000000 ≤ lo ∧ lo ≤ 1000000) ∧ -1000000 ≤ n ∧ n ≤ 1000000) (Pv : Nat → L2.St → Hp → Prop) (h0 : Pv 0 σ H)
    (hs : ∀ (k : Nat) σ' H', lo + (k : Int) < n → Pv k σ' H' → g (.int (lo + (k : Int))) σ' H' fun σ2 H2 => tb { D with nx := Pv (k + 1), ct := Pv (k + 1), bk := D.nx } σ2 H2) (hd : ∀ σ' H', Pv (n - lo).toNat σ' H' → D.nx σ' H') :
    ∃ i j : Int, [V.int lo, V.int n] = [.int i, .int j] ∧ (-(2 ^ 62) ≤ i ∧ i < 2 ^ 62 ∧ -(2 ^ 62) ≤ j ∧ j < 2 ^ 62) ∧ LoopR i (j - i).toNat g tb D σ H := by
  refine ⟨lo, n, rfl, ⟨by omega, by omega, by omega, by omega⟩, for_range (lo := lo) (n := (n - lo).toNat) Pv h0 (fun i σ' H' hi p => hs i σ' H' (by omega) p) hd⟩
theorem rd_bm {K : PySem.W.Frag} {T : String} {r : V → List V → Hp → VK → Prop} {to : TE} {t : TA} {σ : L2.St} {H : Hp} {Q : VK} (q : to σ H fun x H1 => tyV K T x H1 ∧ t σ H1 fun xs H2 => r x xs H2 Q) : tBM K T r to t σ H Q := q
theorem rd_bm0 {K : PySem.W.Frag} {T : String} {r : V → List V → Hp → VK → Prop} {to : TE} {σ : L2.St} {H : Hp} {Q : VK} (q : to σ H fun x H1 => tyV K T x H1 ∧ r x [] H1 Q) : tBM0 K T r to σ H Q := q
theorem ty_list {K : PySem.W.Frag} {H : Hp} {l : Addr} {xs : List V} (h : SqL K H l xs) : tyV K "list" (.ref l) H := .inl ⟨rfl, _, h⟩
theorem rd_append {H : Hp} {l : Addr} {xs : List V} {y : V} {Q : VK} (h : H l = some (.lst xs)) (hz : xs.length < 100000) (q : Q .non (upd H l (.lst (xs ++ [y])))) : rAppend (.ref l) [y] H Q := ⟨l, xs, y, rfl, rfl, h, szlt hz, q⟩
theorem rd_gTup2 {K : PySem.W.Frag} {i j : Nat} {a : Addr} {x y : V} {σ : L2.St} {H : Hp} {Q : L2.St → Hp → Prop} (h : SqT K H a [x, y]) (q : Q ((σ.set i (some x)).set j (some y)) H) : gTup K 2 (gCons (gName i) (gCons (gName j) gNil)) (.ref a) σ H Q :=
  ⟨a, [x, y], rfl, h, rfl, x, [y], rfl, y, [], rfl, rfl, q⟩
theorem same_sq {K : PySem.W.Frag} {H H' : Hp} {a : Addr} {xs : List V} (e : Same H H') (h : SqL K H a xs) : SqL K H' a xs := e.seq h
theorem upd_keep {H : Hp} {a b : Addr} {o u : HO} (h : H a = some o) (n : H b = none) : upd H b u a = some o := by rw [upd_ne (ne_of_none h n)]; exact h
/-! ## the law's cells -/
def spCell (K : PySem.W.Frag) : Sp := fun vs H Q _ => ∃ (l : Addr) (ns : List Int) (k : Int), vs = [.ref l, .int k] ∧ 0 ≤ k ∧ SqL K H l (IL ns) ∧ Q (.int (cell ns k.toNat)) H
theorem rd_cell {K : PySem.W.Frag} {l : Addr} {ns : List Int} {k : Int} {H : Hp} {Q : VK} {E : XK} (h0 : 0 ≤ k) (h : SqL K H l (IL ns)) (q : Q (.int (cell ns k.toNat)) H) : spCell K ([V.ref l, V.int k] ++ []) H Q E := ⟨l, ns, k, rfl, h0, h, q⟩
theorem rd_isi {K : PySem.W.Frag} {H : Hp} {x : V} {t n : String} {b : Bool} {Q : VK} (ty : TyX K H x (.type t)) (e : kitB t n = some b) (q : Q (.bl b) H) : rIsi K [x, .ty n] H Q := ⟨x, .ty n, _, _, b, rfl, .ty _, ty, kit_ty e, q⟩
theorem ty_lst {K : PySem.W.Frag} {H : Hp} {a : Addr} {xs : List V} (h : H a = some (.lst xs)) : TyX K H (.ref a) (.type "list") := .base (.lst h)
theorem ty_tup {K : PySem.W.Frag} {H : Hp} {a : Addr} {xs : List V} (h : H a = some (.tup xs)) : TyX K H (.ref a) (.type "tuple") := .base (.tup h)
theorem emod_b {x n : Int} (h : 0 < n) : 0 ≤ x % n ∧ x % n < n := ⟨Int.emod_nonneg _ (by omega), Int.emod_lt_of_pos _ h⟩
theorem IL_snoc (zs : List Int) (z : Int) : IL zs ++ [V.int z] = IL (zs ++ [z]) := by simp [IL]
theorem upd_snoc {H : Hp} {L : Addr} {o : HO} {zs : List Int} {z : Int} : upd (upd H L o) L (.lst (IL zs ++ [V.int z])) = upd H L (.lst (IL (zs ++ [z]))) := by rw [upd_upd, IL_snoc]
theorem len_snoc {α : Type} {zs : List α} {z : α} {i : Nat} (h : zs.length = i) : (zs ++ [z]).length = i + 1 := by rw [List.length_append, h]; rfl
/-! ## what stands over a change -/
theorem Same.mut {H H' : Hp} {p : Addr} {o : HO} (e : Same H H') (h : H p = none) : Same H (upd H' p o) := fun a u ha => by
  rw [upd_ne (ne_of_none ha h)]
  exact e a u ha
theorem SqT.upd {K : PySem.W.Frag} {H : Hp} {D t : Addr} {ys xs : List V} {o : HO} (hD : H D = some (.lst ys)) (h : SqT K H t xs) : SqT K (upd H D o) t xs := by
  rcases h with (h | ⟨u, h⟩) | h
  · exact .inl (.inl (by rw [upd_ne (ne_of h hD (by intro z; cases z))]; exact h))
  · exact .inl (.inr ⟨u, by rw [upd_ne (ne_of h hD (by intro z; cases z))]; exact h⟩)
  · exact .inr h
theorem SqL.upd {K : PySem.W.Frag} {H : Hp} {D t : Addr} {xs : List V} {o : HO} (hD : t ≠ D) (h : SqL K H t xs) : SqL K (upd H D o) t xs := by
  rcases h with (h | ⟨u, h⟩) | h
  · exact .inl (.inl (by rw [upd_ne hD]; exact h))
  · exact .inl (.inr ⟨u, by rw [upd_ne hD]; exact h⟩)
  · exact .inr h
theorem rd_lc {wi : TI} {g : TG} {tt : TT} {te : TE} {vs : List Nat} {σ : L2.St} {H : Hp} {Q : VK} (q : wi σ H fun J H1 => ∀ D, H1 D = none → ∃ W : Nat → Nat → Hp → Prop, (∃ m, W 0 m (upd H1 D (.lst []))) ∧ ∀ i m H, W i m H →
  (J.stop i H ∧ Q (.ref D) H) ∨ (J.go i H ∧ ∃ Nx : Hp → Prop, (∀ H', Nx H' → ∃ m', m' < m ∧ W (i + 1) m' H') ∧ ∀ x H', J.yld i H x H' → g x (wipe σ vs) H' fun σ2 H2 => wipe σ2 vs = wipe σ vs ∧ tt σ2 H2 fun b H3 =>
    if b = true then te σ2 H3 fun y H4 => ∃ acc, H4 D = some (.lst acc) ∧ acc.length < sizeLine ∧ Nx (upd H4 D (.lst (acc ++ [y]))) else Nx H3)) : tLc wi g tt te vs σ H Q := q
theorem rd_tYes {σ : L2.St} {H : Hp} {Q : Bool → Hp → Prop} (q : Q true H) : tYes σ H Q := q
theorem rd_isN {x : V} {H : Hp} {Q : VK} (q : Q (.bl (decide (x = .non))) H) : rIsN x .non H Q := ⟨rfl, q⟩
theorem rd_notN {x : V} {H : Hp} {Q : VK} (q : Q (.bl (!decide (x = .non))) H) : rNotN x .non H Q := ⟨rfl, q⟩
theorem rd_chain {r r' : R2} {ta tb tc : TE} {σ : L2.St} {H : Hp} {Q : VK} (q : ta σ H fun x H1 => tb σ H1 fun y H2 => r x y H2 fun z H3 => ∃ k, z = .bl k ∧ (if k = true then tc σ H3 fun w' H4 => r' y w' H4 Q else Q (.bl false) H3)) : tChain r r' ta tb tc σ H Q := q
theorem iteNT {A B : Prop} (h : B) : if (!true) = true then A else B := iteF h
theorem iteNF {A B : Prop} (h : A) : if (!false) = true then A else B := iteT h
/-- what a while asks: a word with its measure -/
theorem rd_while {c : TT} {tb : TS} {D : Ends} {σ : L2.St} {H : Hp} (W : Nat → L2.St → Hp → Prop) (m : Nat) (h0 : W m σ H)
    (hs : ∀ m σ H, W m σ H → ∀ N : L2.St → Hp → Prop, (∀ m' σ' H', m' < m → W m' σ' H' → N σ' H') → c σ H fun b H1 => if b = true then tb { D with nx := N, ct := N, bk := D.nx } σ H1 else D.nx σ H1)
    (mono : ∀ σ H Q Q', (∀ b H1, Q b H1 → Q' b H1) → c σ H Q → c σ H Q') : tWhile c tb D σ H := by
  refine ⟨W, ⟨m, h0⟩, fun m σ H w => ?_⟩
  refine mono σ H _ _ (fun b H1 q => ?_) (hs m σ H w (fun σ' H' => ∃ m', m' < m ∧ W m' σ' H') (fun m' σ' H' h w' => ⟨m', h, w'⟩))
  cases b with
  | true => exact iteT ⟨_, fun σ' H' n => n, q⟩
  | false => exact q
/-! ## storing at an index -/
theorem rd_gSub {to ti : TE} {t : TSet} {v : V} {σ : L2.St} {H : Hp} {Q : L2.St → Hp → Prop} (q : to σ H fun o H1 => ti σ H1 fun i H2 => t o i v H2 fun H3 => Q σ H3) : gSub to ti t v σ H Q := q
theorem rd_setL {H : Hp} {p : Addr} {xs : List V} {i : Nat} {v : V} {Q : Hp → Prop} (h : H p = some (.lst xs)) (hi : i < xs.length) (q : Q (upd H p (.lst (xs.set i v)))) : rSetL (.ref p) (.int (i : Int)) v H Q :=
  ⟨p, xs, (i : Int), i, rfl, rfl, h, by unfold ixN; rw [if_pos (by omega), if_pos (by omega)]; rfl, q⟩
theorem rd_aug {i : Nat} {te : TE} {ti : TIp} {D : Ends} {σ : L2.St} {H : Hp} {x : V} (h : σ[i]? = some (some x)) (q : te σ H fun y H1 => ti x y H1 fun z H2 => D.nx (σ.set i (some z)) H2) : tAug i te ti D σ H := ⟨x, h, q⟩
theorem rd_ipI {f : Int → Int → Int} {i j : Int} {H : Hp} {Q : VK} (q : Q (.int (f i j)) H) : ipI f (.int i) (.int j) H Q := ⟨i, j, rfl, rfl, q⟩

/-! ## the rules with K said -/
section
variable {X : Cx} {K : PySem.W.Frag}
theorem ix_listK (h : X.K = K) : IxR X (rIxL K) := by subst h; exact ix_list
theorem ix_tupK (h : X.K = K) : IxR X (rIxT K) := by subst h; exact ix_tup
theorem call_isiK0 (h : X.K = K) : CallR X (.builtin "isinstance") (rIsi K) := by subst h; exact call_isi
def rLenK (K : PySem.W.Frag) : List V → Hp → VK → Prop := fun xs H Q => ∃ p ys, xs = [.ref p] ∧ (SqL K H p ys ∨ SqT K H p ys) ∧ Q (.int ys.length) H
theorem call_lenK (h : X.K = K) : CallR X (.builtin "len") (rLenK K) := by subst h; exact call_len_seq
def rListK (K : PySem.W.Frag) : List V → Hp → VK → Prop := fun xs H Q => ∃ p ys, xs = [.ref p] ∧ (SqL K H p ys ∨ SqT K H p ys) ∧ ∀ l, H l = none → Q (.ref l) (upd H l (.lst ys))
theorem call_listK (h : X.K = K) : CallR X (.type "list") (rListK K) := by subst h; exact call_list_of
theorem op_eqDK (h : X.K = K) (hu : X.A.units + 64 < cLine) : OpR X (compareOp .Eq) (rEqD K) := by subst h; exact op_eqD hu
theorem op_neDK (h : X.K = K) (hu : X.A.units + 64 < cLine) : OpR X (compareOp .NotEq) (rNeD K) := by subst h; exact op_neD hu
theorem sl_listK (h : X.K = K) : SlR X (rSlL K) := by subst h; exact sl_list
theorem cr_allK (h : X.K = K) (hc : X.calm = true) : CallR X (.builtin "all") (rAll K) := by subst h; exact cr_all hc
theorem cr_anyK (h : X.K = K) (hc : X.calm = true) : CallR X (.builtin "any") (rAny K) := by subst h; exact cr_any hc
theorem cr_minK (h : X.K = K) (hc : X.calm = true) : CallR X (.builtin "min") (rMin K) := by subst h; exact cr_min hc
theorem op_ltTK (h : X.K = K) (hu : X.A.units < cLine) : OpR X (compareOp .Lt) (rLtT K) := by subst h; exact op_ltT hu
theorem op_inK (h : X.K = K) : OpR X (compareOp .In) (rIn K false) := by subst h; exact op_in_seq
theorem pi_listK {tg l : Expr} {tl : TE} (h : X.K = K) (hl : PE X l tl) : PI X tg l (iList K tl) := by subst h; exact pi_list hl
theorem pi_tupK {tg l : Expr} {tl : TE} (h : X.K = K) (hl : PE X l tl) : PI X tg l (iTup K tl) := by subst h; exact pi_tup hl
theorem pg_tupK {es : List Expr} {k : Nat} {t : TGs} {n : Nat} {pos : Pos} (h : X.K = K) (hc : X.calm = true) (hg : PGs X es t)
    (hn : (assignEach es X.env).length = n := by rfl) (hst : (assignEach es X.env).findIdx? (·.1) = none := by rfl) : PG X (.Tuple es k pos) (gTup K n t) := by subst h; exact pg_tup hc hg hn hst
section
variable {o e : Expr} {es : List Expr} {to : TE} {t : TA} {name : Str} {apos cpos : Pos} {T id : String} {r : V → List V → Hp → VK → Prop}
theorem pe_bm0K (h : X.K = K) (pa : PlainAttrs T) (slot : Slot T name id) (hty : typeOf (.builtin id) = pure (.type "method_descriptor")) (hm : MtR X id r) (ho : PE X o to)
    (hbase : attributeBase o name X.env (eval o X.env) = eval o X.env := by rfl) (hline : (apos.endLine == cpos.line) = true := by rfl) : PE X (.Call (.Attribute o name apos) [] [] cpos) (tBM0 K T r to) := by
  subst h; exact pe_bm0 pa slot hty hm ho hbase hline
theorem pe_bmK (h : X.K = K) (pa : PlainAttrs T) (slot : Slot T name id) (hty : typeOf (.builtin id) = pure (.type "method_descriptor")) (hm : MtR X id r) (ho : PE X o to) (ha : PA X (e :: es) t)
    (hbase : attributeBase o name X.env (eval o X.env) = eval o X.env := by rfl)
    (hfew : ((backTo cpos (starEach (e :: es) X.env)).all (fun x => !x.1) && (backToKw cpos (keywordEach [] X.env)).all (fun x => x.1.isSome)
      && decide ((e :: es).length + ([] : List Keyword).length + (if ([] : List Keyword).isEmpty then 0 else 1) < 30)) = true := by rfl)
    (hline : (apos.endLine == cpos.line) = true := by rfl) (hs : starEach (e :: es) X.env = (false, eval e X.env) :: starEach es X.env := by rfl) (hplain : (backTo cpos (starEach es X.env)).any (·.1) = false := by rfl) :
    PE X (.Call (.Attribute o name apos) (e :: es) [] cpos) (tBM K T r to t) := by
  subst h; exact pe_bm pa slot hty hm ho ha hbase hfew hline hs hplain
end
end
def rMin2 : List V → Hp → VK → Prop := fun xs H Q => ∃ i j, xs = [.int i, .int j] ∧ Q (.int (if j < i then j else i)) H
def rMax2 : List V → Hp → VK → Prop := fun xs H Q => ∃ i j, xs = [.int i, .int j] ∧ Q (.int (if j > i then j else i)) H
theorem call_min2K {X : Cx} (hc : X.calm = true) : CallR X (.builtin "min") rMin2 := call_min2 hc
theorem call_max2K {X : Cx} (hc : X.calm = true) : CallR X (.builtin "max") rMax2 := call_max2 hc
theorem rd_min2 {a b : Nat} {H : Hp} {Q : VK} (q : Q (.int ((min a b : Nat) : Int)) H) : rMin2 [.int (a : Int), .int (b : Int)] H Q := by
  refine ⟨_, _, rfl, ?_⟩
  have m1 : ((min a b : Nat) : Int) = if (b : Int) < (a : Int) then (b : Int) else (a : Int) := by split <;> omega
  rw [m1] at q
  exact q
theorem rd_max2 {a b : Nat} {H : Hp} {Q : VK} (q : Q (.int ((max a b : Nat) : Int)) H) : rMax2 [.int (a : Int), .int (b : Int)] H Q := by
  refine ⟨_, _, rfl, ?_⟩
  have m2 : ((max a b : Nat) : Int) = if (b : Int) > (a : Int) then (b : Int) else (a : Int) := by split <;> omega
  rw [m2] at q
  exact q
def rAbs : List V → Hp → VK → Prop := fun xs H Q => ∃ i, xs = [.int i] ∧ Q (.int (if i < 0 then -i else i)) H
theorem call_absK {X : Cx} : CallR X (.builtin "abs") rAbs := call_abs
theorem rd_abs {i : Int} {H : Hp} {Q : VK} (q : Q (.int (i.natAbs : Int)) H) : rAbs [.int i] H Q := by
  refine ⟨i, rfl, ?_⟩
  have : ((i.natAbs : Nat) : Int) = if i < 0 then -i else i := by split <;> omega
  rw [this] at q
  exact q

/-! ## comprehensions -/
theorem rd_len {K : PySem.W.Frag} {H : Hp} {a : Addr} {xs : List V} {Q : VK} (h : SqL K H a xs) (q : Q (.int xs.length) H) : rLenK K [.ref a] H Q := ⟨a, xs, rfl, .inl h, q⟩
theorem rd_lenT {K : PySem.W.Frag} {H : Hp} {a : Addr} {xs : List V} {Q : VK} (h : SqT K H a xs) (q : Q (.int xs.length) H) : rLenK K [.ref a] H Q := ⟨a, xs, rfl, .inr h, q⟩
theorem rd_list {K : PySem.W.Frag} {H : Hp} {a : Addr} {xs : List V} {Q : VK} (h : SqL K H a xs) (q : ∀ l, H l = none → Q (.ref l) (upd H l (.lst xs))) : rListK K [.ref a] H Q := ⟨a, xs, rfl, .inl h, q⟩
/-- what a comprehension over a list, over a range asks of its block -/
abbrev CompO (J : It) (g : TG) (tt : TT) (te : TE) (vs : List Nat) (σ : L2.St) (H1 : Hp) (D : Addr) (Qd : Hp → Prop) : Prop :=
  ∃ W : Nat → Nat → Hp → Prop, (∃ m, W 0 m (upd H1 D (.lst []))) ∧ ∀ i m H, W i m H →
    (J.stop i H ∧ Qd H) ∨ (J.go i H ∧ ∃ Nx : Hp → Prop, (∀ H', Nx H' → ∃ m', m' < m ∧ W (i + 1) m' H') ∧ ∀ x H', J.yld i H x H' → g x (wipe σ vs) H' fun σ2 H2 => wipe σ2 vs = wipe σ vs ∧ tt σ2 H2 fun b H3 =>
      if b = true then te σ2 H3 fun y H4 => ∃ acc, H4 D = some (.lst acc) ∧ acc.length < sizeLine ∧ Nx (upd H4 D (.lst (acc ++ [y]))) else Nx H3)
theorem filter_range_succ {p : Nat → Bool} {i : Nat} : (List.range (i + 1)).filter p = (List.range i).filter p ++ (if p i = true then [i] else []) := by
  rw [List.range_succ, List.filter_append]
  congr 1
  by_cases h : p i = true <;> simp [h]
theorem filter_len {α : Type} (p : α → Bool) (l : List α) : (l.filter p).length ≤ l.length := List.length_filter_le p l
theorem lc_rangeF {n : Nat} {D : Addr} {σ : L2.St} {vs : List Nat} {s : Nat} {tt : TT} {te : TE} {H1 : Hp} {Qd : Hp → Prop} (p : Nat → Bool) (f : Nat → V) (nD : H1 D = none) (hlen : n < 100000) (hw : ∀ v, wipe ((wipe σ vs).set s (some v)) vs = wipe σ vs)
    (ht : ∀ (i : Nat) H' (R : Bool → Hp → Prop), i < n → Same H1 H' → (∀ H'', Same H' H'' → R (p i) H'') → tt ((wipe σ vs).set s (some (.int (i : Int)))) H' R)
    (he : ∀ (i : Nat) H' (R : VK), i < n → p i = true → Same H1 H' → (∀ H'', Same H' H'' → R (f i) H'') → te ((wipe σ vs).set s (some (.int (i : Int)))) H' R)
    (hd : ∀ H', Same H1 H' → H' D = some (.lst (((List.range n).filter p).map f)) → Qd H') : CompO (Itr 0 n) (gName s) tt te vs σ H1 D Qd := by
  refine lc_range (lo := 0) (n := n) (fun i H' => Same H1 H' ∧ H' D = some (.lst (((List.range i).filter p).map f))) ⟨same_upd nD, upd_same⟩ (fun i H' hi ⟨s1, hD⟩ => ?_) (fun H' ⟨s1, hD⟩ => hd H' s1 hD)
  show wipe ((wipe σ vs).set s (some (.int (0 + (i : Int))))) vs = wipe σ vs ∧ _
  rw [show (0 : Int) + (i : Int) = (i : Int) by omega]
  refine ⟨hw _, ht i H' _ hi s1 fun H2 s2 => ?_⟩
  cases hp : p i with
  | true =>
    refine iteT ?_
    refine he i H2 _ hi hp (s1.trans s2) fun H3 s3 => ?_
    refine ⟨_, s3 _ _ (s2 _ _ hD), ?_, Same.mut ((s1.trans s2).trans s3) nD, ?_⟩
    · have := filter_len p (List.range i)
      rw [List.length_map]
      rw [List.length_range] at this
      exact szlt (by omega)
    · rw [upd_same, filter_range_succ, hp, if_pos rfl, List.map_append]
      rfl
  | false =>
    refine iteF ?_
    refine ⟨s1.trans s2, ?_⟩
    rw [s2 _ _ hD, filter_range_succ, hp, if_neg (by decide), List.append_nil]
theorem lc_rangeM {n : Nat} {D : Addr} {σ : L2.St} {vs : List Nat} {s : Nat} {te : TE} {H1 : Hp} {Qd : Hp → Prop} (f : Nat → V) (nD : H1 D = none) (hlen : n < 100000) (hw : ∀ v, wipe ((wipe σ vs).set s (some v)) vs = wipe σ vs)
    (he : ∀ (i : Nat) H' (R : VK), i < n → Same H1 H' → (∀ H'', Same H' H'' → R (f i) H'') → te ((wipe σ vs).set s (some (.int (i : Int)))) H' R)
    (hd : ∀ H', Same H1 H' → H' D = some (.lst ((List.range n).map f)) → Qd H') : CompO (Itr 0 n) (gName s) tYes te vs σ H1 D Qd :=
  lc_rangeF (fun _ => true) f nD hlen hw (fun i H' R _ _ q => q H' (Same.refl _)) (fun i H' R hi _ s1 q => he i H' R hi s1 q) (fun H' s1 h => hd H' s1 (by rw [h, List.filter_eq_self.mpr (fun _ _ => rfl)]))
theorem take_filter_succ {α : Type} {p : α → Bool} {xs : List α} {i : Nat} {x : α} (h : xs[i]? = some x) : (xs.take (i + 1)).filter p = (xs.take i).filter p ++ (if p x = true then [x] else []) := by
  rw [List.take_add_one, h, List.filter_append]
  congr 1
  by_cases hp : p x = true <;> simp [hp]
/-- over a list: the target of any form stores at some slots; T: what it leaves -/
theorem lc_listG {K : PySem.W.Frag} {a D : Addr} {xs : List V} {g : TG} {σ : L2.St} {vs : List Nat} {tt : TT} {te : TE} {H1 : Hp} {Qd : Hp → Prop} (T : V → L2.St) (p : V → Bool) (f : V → V) (hL : SqL K H1 a xs) (nD : H1 D = none) (hlen : xs.length < 100000)
    (hg : ∀ x H' (R : L2.St → Hp → Prop), x ∈ xs → Same H1 H' → R (T x) H' → g x (wipe σ vs) H' R) (hw : ∀ x ∈ xs, wipe (T x) vs = wipe σ vs)
    (ht : ∀ x H' (R : Bool → Hp → Prop), x ∈ xs → Same H1 H' → (∀ H'', Same H' H'' → R (p x) H'') → tt (T x) H' R)
    (he : ∀ x H' (R : VK), x ∈ xs → p x = true → Same H1 H' → (∀ H'', Same H' H'' → R (f x) H'') → te (T x) H' R)
    (hd : ∀ H', Same H1 H' → H' D = some (.lst ((xs.filter p).map f)) → Qd H') : CompO (Itl K a) g tt te vs σ H1 D Qd := by
  refine lc_list (K := K) (a := a) (xs := xs) (fun i H' => Same H1 H' ∧ H' D = some (.lst (((xs.take i).filter p).map f))) ⟨same_upd nD, upd_same⟩ (fun i H' _ ⟨s1, _⟩ => s1.seq hL) (fun i x H' hx ⟨s1, hD⟩ => ?_) (fun H' ⟨s1, hD⟩ => hd H' s1 (by rw [hD, List.take_length]))
  have hm := List.mem_of_getElem? hx
  refine hg x H' _ hm s1 ⟨hw x hm, ht x H' _ hm s1 fun H2 s2 => ?_⟩
  have hi : i < xs.length := (List.getElem?_eq_some_iff.mp hx).1
  cases hp : p x with
  | true =>
    refine iteT ?_
    refine he x H2 _ hm hp (s1.trans s2) fun H3 s3 => ?_
    refine ⟨_, s3 _ _ (s2 _ _ hD), ?_, Same.mut ((s1.trans s2).trans s3) nD, ?_⟩
    · have := filter_len p (xs.take i)
      rw [List.length_map]
      rw [List.length_take] at this
      exact szlt (by omega)
    · rw [upd_same, take_filter_succ hx, hp, if_pos rfl, List.map_append]
      rfl
  | false =>
    refine iteF ?_
    refine ⟨s1.trans s2, ?_⟩
    rw [s2 _ _ hD, take_filter_succ hx, hp, if_neg (by decide), List.append_nil]
theorem lc_listM {K : PySem.W.Frag} {a D : Addr} {xs : List V} {s : Nat} {σ : L2.St} {vs : List Nat} {te : TE} {H1 : Hp} {Qd : Hp → Prop} (f : V → V) (hL : SqL K H1 a xs) (nD : H1 D = none) (hlen : xs.length < 100000)
    (hw : ∀ v, wipe ((wipe σ vs).set s (some v)) vs = wipe σ vs)
    (he : ∀ x H' (R : VK), x ∈ xs → Same H1 H' → (∀ H'', Same H' H'' → R (f x) H'') → te ((wipe σ vs).set s (some x)) H' R)
    (hd : ∀ H', Same H1 H' → H' D = some (.lst (xs.map f)) → Qd H') : CompO (Itl K a) (gName s) tYes te vs σ H1 D Qd :=
  lc_listG (fun x => (wipe σ vs).set s (some x)) (fun _ => true) f hL nD hlen (fun x H' R _ _ q => q) (fun x _ => hw x) (fun x H' R _ _ q => q H' (Same.refl _)) (fun x H' R hx _ s1 q => he x H' R hx s1 q)
    (fun H' s1 h => hd H' s1 (by rw [h, List.filter_eq_self.mpr (fun _ _ => rfl)]))
theorem IL_mapR (n : Nat) (f : Nat → Int) : (List.range n).map (fun i => V.int (f i)) = IL ((List.range n).map f) := by rw [IL, List.map_map]; rfl
theorem IL_mapL (xs : List Int) (f : V → V) (h : Int → Int) (e : ∀ x, f (.int x) = .int (h x)) : (IL xs).map f = IL (xs.map h) := by
  rw [IL, IL, List.map_map, List.map_map]
  exact List.map_congr_left fun x _ => e x
theorem lc_range2M {lo : Int} {n : Nat} {D : Addr} {σ : L2.St} {vs : List Nat} {s : Nat} {te : TE} {H1 : Hp} {Qd : Hp → Prop} (f : Nat → V) (nD : H1 D = none) (hlen : n < 100000) (hw : ∀ v, wipe ((wipe σ vs).set s (some v)) vs = wipe σ vs)
    (he : ∀ (i : Nat) H' (R : VK), i < n → Same H1 H' → (∀ H'', Same H' H'' → R (f i) H'') → te ((wipe σ vs).set s (some (.int (lo + (i : Int))))) H' R)
    (hd : ∀ H', Same H1 H' → H' D = some (.lst ((List.range n).map f)) → Qd H') : CompO (Itr lo n) (gName s) tYes te vs σ H1 D Qd := by
  refine lc_range (lo := lo) (n := n) (fun i H' => Same H1 H' ∧ H' D = some (.lst ((List.range i).map f))) ⟨same_upd nD, upd_same⟩ (fun i H' hi ⟨s1, hD⟩ => ?_) (fun H' ⟨s1, hD⟩ => hd H' s1 hD)
  refine ⟨hw _, ?_⟩
  refine rd_tYes ?_
  refine iteT ?_
  refine he i H' _ hi s1 fun H3 s3 => ?_
  refine ⟨_, s3 _ _ hD, ?_, Same.mut (s1.trans s3) nD, ?_⟩
  · rw [List.length_map, List.length_range]
    exact szlt (by omega)
  · rw [upd_same, List.range_succ, List.map_append]
    rfl

/-! ## zip, slices, all -/
theorem for_zipS {K : PySem.W.Frag} {a b : Addr} {xs ys : List V} {g : TG} {tb : TS} {D : Ends} {σ : L2.St} {H : Hp} (hl : ys.length ≤ xs.length) (Pv : Nat → L2.St → Hp → Prop) (h0 : Pv 0 σ H) (hq : ∀ i σ H, Pv i σ H → SqL K H a xs ∧ SqL K H b ys)
    (hs : ∀ (i : Nat) (x y : V) (T : Addr) (σ : L2.St) (H : Hp), xs[i]? = some x → ys[i]? = some y → Pv i σ H → H T = none → g (.ref T) σ (upd H T (.tup [x, y])) fun σ2 H2 => tb { D with nx := Pv (i + 1), ct := Pv (i + 1), bk := D.nx } σ2 H2) (hd : ∀ σ H, Pv ys.length σ H → D.nx σ H) :
    ∃ W : Nat → Nat → L2.St → Hp → Prop, (∃ m, W 0 m σ H) ∧ ∀ i m σ H, W i m σ H →
      ((Itz K a b).stop i H ∧ D.nx σ H) ∨ ((Itz K a b).go i H ∧ ∃ N : L2.St → Hp → Prop, (∀ σ' H', N σ' H' → ∃ m', m' < m ∧ W (i + 1) m' σ' H') ∧ ∀ v H', (Itz K a b).yld i H v H' → g v σ H' fun σ2 H2 => tb { D with nx := N, ct := N, bk := D.nx } σ2 H2) := by
  refine ⟨fun i m σ H => m = ys.length - i ∧ i ≤ ys.length ∧ Pv i σ H, ⟨ys.length, rfl, Nat.zero_le _, h0⟩, ?_⟩
  rintro i m σ H ⟨rfl, hi, p⟩
  obtain ⟨qx, qy⟩ := hq i σ H p
  by_cases hlt : i < ys.length
  · have hlt2 : i < xs.length := by omega
    have hx : xs[i]? = some xs[i] := List.getElem?_eq_getElem hlt2
    have hy : ys[i]? = some ys[i] := List.getElem?_eq_getElem hlt
    refine .inr ⟨⟨xs, ys, _, _, qx, qy, hx, hy⟩, Pv (i + 1), fun σ' H' p' => ⟨ys.length - (i + 1), by omega, rfl, hlt, p'⟩, fun v H' y => ?_⟩
    obtain ⟨T, x', y', rfl, hT, rfl, f1, f2⟩ := y
    exact hs i x' y' T σ H (f1 xs qx) (f2 ys qy) p hT
  · have e : i = ys.length := by omega
    subst e
    exact .inl ⟨⟨xs, ys, qx, qy, Or.inr (Nat.le_refl _)⟩, hd σ H p⟩
theorem cut1 (xs : List V) : cutV xs (some 1) none = xs.drop 1 := by
  unfold cutV
  rw [show HT.sIx xs.length 0 (some 1) = min 1 xs.length from HT.sIx_nat xs.length 0 1, HT.sIx_none]
  cases xs with
  | nil => rfl
  | cons x r =>
    rw [show min 1 (x :: r).length = 1 by
      rw [List.length_cons]
      omega]
    show (List.take ((x :: r).length - 1) r) = r
    rw [List.length_cons, Nat.add_sub_cancel]
    exact List.take_length
theorem cutL (xs : List V) (h : xs ≠ []) : cutV xs none (some (-1)) = xs.dropLast := by
  unfold cutV
  rw [HT.sIx_none]
  have : 0 < xs.length := List.length_pos_iff.mpr h
  have e : HT.sIx xs.length xs.length (some (-1)) = xs.length - 1 := by
    unfold HT.sIx
    simp only
    rw [if_pos (by decide)]
    omega
  rw [e, List.drop_zero, Nat.sub_zero, List.dropLast_eq_take]
theorem rd_sl {K : PySem.W.Frag} {te : TE} {tl th : TO} {σ : L2.St} {H : Hp} {Q : VK} (q : te σ H fun x H1 => tl σ H1 fun l H2 => th σ H2 fun u H3 => rSlL K x l u H3 Q) : tSl (rSlL K) te tl th σ H Q := q
theorem rd_noPart {σ : L2.St} {H : Hp} {Q : Option Int → Hp → Prop} (q : Q none H) : tNoPart σ H Q := q
theorem rd_part {t : TE} {σ : L2.St} {H : Hp} {Q : Option Int → Hp → Prop} (q : t σ H fun x H1 => ∃ i, x = .int i ∧ Q (some i) H1) : tPart t σ H Q := q
theorem rd_cut0 {K : PySem.W.Frag} {a : Addr} {xs : List V} {lo hi : Option Int} {H : Hp} {Q : VK} (h : SqL K H a xs) (q : ∀ p, H p = none → Q (.ref p) (upd H p (.lst (cutV xs lo hi)))) : rSlL K (.ref a) lo hi H Q := ⟨a, xs, rfl, h, q⟩
theorem rd_allP {α : Type} {K : PySem.W.Frag} {H : Hp} {a : Addr} {Q : VK} {l : List α} {f : α → V} (p : α → Bool) (hf : ∀ x ∈ l, f x = .bl (p x)) (h : H a = some (.lst (l.map f))) (q : Q (.bl (l.all p)) H) : rAll K [.ref a] H Q := by
  refine ⟨a, l.map p, rfl, .of ?_, ?_⟩
  · rw [h, List.map_map]
    exact congrArg (fun z => some (HO.lst z)) (List.map_congr_left hf)
  · rw [List.all_map]
    exact q
theorem rd_anyP {α : Type} {K : PySem.W.Frag} {H : Hp} {a : Addr} {Q : VK} {l : List α} {f : α → V} (p : α → Bool) (hf : ∀ x ∈ l, f x = .bl (p x)) (h : H a = some (.lst (l.map f))) (q : Q (.bl (l.any p)) H) : rAny K [.ref a] H Q := by
  refine ⟨a, l.map p, rfl, .of ?_, ?_⟩
  · rw [h, List.map_map]
    exact congrArg (fun z => some (HO.lst z)) (List.map_congr_left hf)
  · rw [List.any_map]
    exact q
theorem pi_zipK {X : Cx} {K : PySem.W.Frag} {e e2 : Expr} {ta : TA} {p pos tpos : Pos} {elts : List Expr} {kk : Nat} (h : X.K = K) (hg : Gl X "zip") (hm : X.mg "zip" = none) (ha : PA X [e, e2] ta)
    (hs : starEach [e, e2] X.env = (false, eval e X.env) :: starEach [e2] X.env := by rfl) (hpl : (backTo pos (starEach [e2] X.env)).any (·.1) = false := by rfl) :
    PI X (.Tuple elts kk tpos) (.Call (.Name "zip" p) [e, e2] [] pos) (iZip K ta) := by subst h; exact pi_zip hg hm ha hs hpl
theorem rd_zip {K : PySem.W.Frag} {ta : TA} {σ : L2.St} {H : Hp} {R : It → Hp → Prop} (q : ta σ H fun vs H1 => ∃ a b xs ys, vs = [.ref a, .ref b] ∧ SqL K H1 a xs ∧ SqL K H1 b ys ∧ R (Itz K a b) H1) : iZip K ta σ H R := q
theorem rd_in1 {i : Int} {R : Int → Prop} (q : R i) : ∃ j, V.int i = .int j ∧ R j := ⟨i, rfl, q⟩

/-! ## a <= b < c < d as a test -/
def tChain3 (r r' r'' : R2) (ta tb tc td : TE) : TE := fun σ H Q => ta σ H fun x H1 => tb σ H1 fun y H2 => r x y H2 fun z H3 => ∃ k, z = .bl k ∧
  (if k = true then tc σ H3 fun u H4 => r' y u H4 fun z2 H5 => ∃ k2, z2 = .bl k2 ∧ (if k2 = true then td σ H5 fun u2 H6 => r'' u u2 H6 Q else Q (.bl false) H5) else Q (.bl false) H3)
theorem pt_chain3 {X : Cx} {a b c d : Expr} {ta tb tc td : TE} {pos : Pos} {op op' op'' : CmpOp} {r r' r'' : R2} (ho : OpR X (compareOp op) r) (ho' : OpR X (compareOp op') r') (ho'' : OpR X (compareOp op'') r'') (ha : PE X a ta) (hb : PE X b tb) (hc : PE X c tc) (hd : PE X d td)
    (hm : lastMarks [op, op', op''] [b, c, d] = false := by with_unfolding_all rfl) : PT X (.Compare a [op, op', op''] [b, c, d] pos) (tTest (tChain3 r r' r'' ta tb tc td)) := by
  refine ⟨fun pins s σ H Q I h => ?_⟩
  refine isTrue_chain (thn (ha.run pins s σ H _ I h) fun v s1 ⟨x, H1, I1, r1, q1⟩ => test_link (thn (hb.run pins s1 σ H1 _ I1 q1) fun u s2 ⟨y, H2, I2, r2, q2⟩ =>
    thn (ho pins s2 σ H2 x y v u _ I2 r1 r2 q2) fun d s3 ⟨z, H3, I3, r3, k, e, q3⟩ => ?_)) hm
  subst e
  cases r3
  refine wpAny_truthy_bool ?_
  cases k with
  | false =>
    obtain ⟨k', e', q'⟩ := q3
    cases e'
    exact ite_ff ⟨H3, I3, q'⟩
  | true =>
    refine ite_tt (test_link (thn (hc.run pins s3 σ H3 _ I3 q3) fun w' s4 ⟨z', H4, I4, r4, q4⟩ => thn (ho' pins s4 σ H4 y z' u w' _ I4 r2 r4 q4) fun d' s5 ⟨z2, H5, I5, r5, k2, e2, q5⟩ => ?_))
    subst e2
    cases r5
    refine wpAny_truthy_bool ?_
    cases k2 with
    | false =>
      obtain ⟨k', e', q'⟩ := q5
      cases e'
      exact ite_ff ⟨H5, I5, q'⟩
    | true =>
      refine ite_tt (test_last (thn (hd.run pins s5 σ H5 _ I5 q5) fun w2 s6 ⟨z6, H6, I6, r6, q6⟩ => thn (ho'' pins s6 σ H6 z' z6 w' w2 _ I6 r4 r6 q6) fun d3 s7 ⟨z7, H7, I7, r7, k7, e7, q7⟩ => ?_))
      subst e7
      cases r7
      exact wpAny_truthy_bool ⟨H7, I7, q7⟩
theorem rd_chain3 {r r' r'' : R2} {ta tb tc td : TE} {σ : L2.St} {H : Hp} {Q : VK} (q : ta σ H fun x H1 => tb σ H1 fun y H2 => r x y H2 fun z H3 => ∃ k, z = .bl k ∧
  (if k = true then tc σ H3 fun u H4 => r' y u H4 fun z2 H5 => ∃ k2, z2 = .bl k2 ∧ (if k2 = true then td σ H5 fun u2 H6 => r'' u u2 H6 Q else Q (.bl false) H5) else Q (.bl false) H3)) : tChain3 r r' r'' ta tb tc td σ H Q := q

/-! ## lists of ints, lists of pairs, compared -/
def dI (ns : List Int) : PyData := .list (ns.map PyData.int)
theorem depthAll_ints : ∀ ns : List Int, PyData.depthAll (ns.map PyData.int) ≤ 1
  | [] => by simp [PyData.depthAll]
  | n :: ns => by
    have ih := depthAll_ints ns
    simp only [List.map_cons, PyData.depthAll, PyData.depth]
    omega
theorem layAll_ints : ∀ ns : List Int, PyData.canLayAll0 (ns.map PyData.int) = true
  | [] => by simp [PyData.canLayAll0]
  | n :: ns => by
    have ih := layAll_ints ns
    simp [PyData.canLayAll0, PyData.canLay0, ih]
theorem shaped_dI (ns : List Int) : SeqAt.shaped (dI ns) = true := by
  have h := depthAll_ints ns
  have h2 := layAll_ints ns
  unfold SeqAt.shaped dI
  rw [Bool.and_eq_true]
  refine ⟨by simpa only [PyData.canLay0] using h2, decide_eq_true ?_⟩
  show PyData.depthAll (ns.map PyData.int) + 1 ≤ 64
  omega
theorem eqvAll_ints : ∀ xs ys : List Int, PyData.eqvAll (xs.map PyData.int) (ys.map PyData.int) = decide (xs = ys)
  | [], [] => by simp [PyData.eqvAll]
  | [], y :: ys => by simp [PyData.eqvAll]
  | x :: xs, [] => by simp [PyData.eqvAll]
  | x :: xs, y :: ys => by
    have ih := eqvAll_ints xs ys
    simp only [List.map_cons, PyData.eqvAll, PyData.eqv, ih]
    by_cases h : x = y <;> by_cases h2 : xs = ys <;> simp [h, h2]
theorem eqv_dI (xs ys : List Int) : PyData.eqv (dI xs) (dI ys) = decide (xs = ys) := by
  unfold dI
  rw [PyData.eqv]
  exact eqvAll_ints xs ys
theorem dpAll_ints {K : PySem.W.Frag} {H : Hp} : ∀ ns : List Int, DpAll K H (IL ns) (ns.map PyData.int)
  | [] => .nil
  | n :: ns => .cons (.int n) (dpAll_ints ns)
theorem dp_ints {K : PySem.W.Frag} {H : Hp} {a : Addr} {ns : List Int} (h : SqL K H a (IL ns)) : Dp K H (.ref a) (dI ns) := .lst h (dpAll_ints ns)
theorem rd_neI {K : PySem.W.Frag} {H : Hp} {a b : Addr} {xs ys : List Int} {Q : VK} (ha : SqL K H a (IL xs)) (hb : SqL K H b (IL ys)) (q : Q (.bl (!decide (xs = ys))) H) : rNeD K (.ref a) (.ref b) H Q :=
  ⟨_, _, dp_ints ha, dp_ints hb, shaped_dI _, shaped_dI _, by rw [eqv_dI]; exact q⟩
theorem rd_eqI {K : PySem.W.Frag} {H : Hp} {a b : Addr} {xs ys : List Int} {Q : VK} (ha : SqL K H a (IL xs)) (hb : SqL K H b (IL ys)) (q : Q (.bl (decide (xs = ys))) H) : rEqD K (.ref a) (.ref b) H Q :=
  ⟨_, _, dp_ints ha, dp_ints hb, shaped_dI _, shaped_dI _, by rw [eqv_dI]; exact q⟩
/-- a list of pairs of ints -/
def Prs (K : PySem.W.Frag) (H : Hp) (vs : List V) (ps : List (Int × Int)) : Prop := Paired (fun v p => ∃ t, v = V.ref t ∧ SqT K H t [.int p.1, .int p.2]) vs ps
def dpr (p : Int × Int) : PyData := .tuple [.int p.1, .int p.2]
def dP (ps : List (Int × Int)) : PyData := .list (ps.map dpr)
theorem Prs.mono {K : PySem.W.Frag} {H H' : Hp} {vs : List V} {ps : List (Int × Int)} (s : Same H H') (h : Prs K H vs ps) : Prs K H' vs ps := by
  unfold Prs at h ⊢
  exact Paired.mapP h fun v p ⟨t, e, q⟩ => ⟨t, e, Same.seqT s q⟩
theorem depthAll_prs : ∀ ps : List (Int × Int), PyData.depthAll (ps.map dpr) ≤ 3
  | [] => by simp [PyData.depthAll]
  | p :: ps => by
    have ih := depthAll_prs ps
    simp only [List.map_cons, PyData.depthAll, PyData.depth, dpr]
    omega
theorem layAll_prs : ∀ ps : List (Int × Int), PyData.canLayAll0 (ps.map dpr) = true
  | [] => by simp [PyData.canLayAll0]
  | p :: ps => by
    have ih := layAll_prs ps
    simp [PyData.canLayAll0, PyData.canLay0, dpr, ih]
theorem shaped_dP (ps : List (Int × Int)) : SeqAt.shaped (dP ps) = true := by
  have h := depthAll_prs ps
  have h2 := layAll_prs ps
  unfold SeqAt.shaped dP
  rw [Bool.and_eq_true]
  refine ⟨by simpa only [PyData.canLay0] using h2, decide_eq_true ?_⟩
  show PyData.depthAll (ps.map dpr) + 1 ≤ 64
  omega
theorem eqv_dpr (p q : Int × Int) : PyData.eqv (dpr p) (dpr q) = decide (p = q) := by
  obtain ⟨a, b⟩ := p
  obtain ⟨c, d⟩ := q
  unfold dpr
  simp only [PyData.eqv, PyData.eqvAll, Bool.and_true]
  by_cases h : a = c <;> by_cases h2 : b = d <;> simp [h, h2]
theorem eqvAll_prs : ∀ xs ys : List (Int × Int), PyData.eqvAll (xs.map dpr) (ys.map dpr) = decide (xs = ys)
  | [], [] => by simp [PyData.eqvAll]
  | [], y :: ys => by simp [PyData.eqvAll]
  | x :: xs, [] => by simp [PyData.eqvAll]
  | x :: xs, y :: ys => by
    have ih := eqvAll_prs xs ys
    simp only [List.map_cons, PyData.eqvAll, eqv_dpr, ih]
    by_cases h : x = y <;> by_cases h2 : xs = ys <;> simp [h, h2]
theorem eqv_dP (xs ys : List (Int × Int)) : PyData.eqv (dP xs) (dP ys) = decide (xs = ys) := by
  unfold dP
  rw [PyData.eqv]
  exact eqvAll_prs xs ys
theorem dp_pr {K : PySem.W.Frag} {H : Hp} {t : Addr} {p : Int × Int} (h : SqT K H t [.int p.1, .int p.2]) : Dp K H (.ref t) (dpr p) := .tup h (.cons (.int _) (.cons (.int _) .nil))
theorem dpAll_prs {K : PySem.W.Frag} {H : Hp} {vs : List V} {ps : List (Int × Int)} (h : Prs K H vs ps) : DpAll K H vs (ps.map dpr) := by
  unfold Prs at h
  induction h with
  | nil => exact .nil
  | cons r t ih =>
    obtain ⟨a, rfl, q⟩ := r
    exact .cons (dp_pr q) ih
theorem dp_prs {K : PySem.W.Frag} {H : Hp} {a : Addr} {vs : List V} {ps : List (Int × Int)} (h : SqL K H a vs) (hp : Prs K H vs ps) : Dp K H (.ref a) (dP ps) := .lst h (dpAll_prs hp)
theorem rd_neP {K : PySem.W.Frag} {H : Hp} {a b : Addr} {vs us : List V} {xs ys : List (Int × Int)} {Q : VK} (ha : SqL K H a vs) (pa : Prs K H vs xs) (hb : SqL K H b us) (pb : Prs K H us ys) (q : Q (.bl (!decide (xs = ys))) H) : rNeD K (.ref a) (.ref b) H Q :=
  ⟨_, _, dp_prs ha pa, dp_prs hb pb, shaped_dP _, shaped_dP _, by rw [eqv_dP]; exact q⟩
theorem rd_eqP {K : PySem.W.Frag} {H : Hp} {a b : Addr} {vs us : List V} {xs ys : List (Int × Int)} {Q : VK} (ha : SqL K H a vs) (pa : Prs K H vs xs) (hb : SqL K H b us) (pb : Prs K H us ys) (q : Q (.bl (decide (xs = ys))) H) : rEqD K (.ref a) (.ref b) H Q :=
  ⟨_, _, dp_prs ha pa, dp_prs hb pb, shaped_dP _, shaped_dP _, by rw [eqv_dP]; exact q⟩
theorem Prs.upd {K : PySem.W.Frag} {H : Hp} {D : Addr} {ys vs : List V} {o : HO} {ps : List (Int × Int)} (hD : H D = some (.lst ys)) (h : Prs K H vs ps) : Prs K (upd H D o) vs ps := by
  unfold Prs at h ⊢
  exact Paired.mapP h fun v p ⟨t, e, q⟩ => ⟨t, e, SqT.upd hD q⟩
theorem Prs.snoc {K : PySem.W.Frag} {H : Hp} {vs : List V} {ps : List (Int × Int)} {t : Addr} {p : Int × Int} (h : Prs K H vs ps) (ht : SqT K H t [.int p.1, .int p.2]) : Prs K H (vs ++ [.ref t]) (ps ++ [p]) :=
  Paired.snoc h ⟨t, rfl, ht⟩
theorem Prs.length {K : PySem.W.Frag} {H : Hp} {vs : List V} {ps : List (Int × Int)} (h : Prs K H vs ps) : vs.length = ps.length := Paired.length h

/-! ## pairs that are tracked -/
def PrsH (H : Hp) (vs : List V) (ps : List (Int × Int)) : Prop := Paired (fun v p => ∃ t, v = V.ref t ∧ H t = some (.tup [.int p.1, .int p.2])) vs ps
theorem PrsH.prs {K : PySem.W.Frag} {H : Hp} {vs : List V} {ps : List (Int × Int)} (h : PrsH H vs ps) : Prs K H vs ps := by
  unfold PrsH at h
  unfold Prs
  exact Paired.mapP h fun v p ⟨t, e, q⟩ => ⟨t, e, .of q⟩
theorem PrsH.mono {H H' : Hp} {vs : List V} {ps : List (Int × Int)} (s : Same H H') (h : PrsH H vs ps) : PrsH H' vs ps := by
  unfold PrsH at h ⊢
  exact Paired.mapP h fun v p ⟨t, e, q⟩ => ⟨t, e, s _ _ q⟩
theorem PrsH.upd {H : Hp} {D : Addr} {ys vs : List V} {o : HO} {ps : List (Int × Int)} (hD : H D = some (.lst ys)) (h : PrsH H vs ps) : PrsH (upd H D o) vs ps := by
  unfold PrsH at h ⊢
  exact Paired.mapP h fun v p ⟨t, e, q⟩ => ⟨t, e, by rw [upd_ne (ne_of q hD (by intro z; cases z))]; exact q⟩
theorem PrsH.snoc {H : Hp} {vs : List V} {ps : List (Int × Int)} {t : Addr} {p : Int × Int} (h : PrsH H vs ps) (ht : H t = some (.tup [.int p.1, .int p.2])) : PrsH H (vs ++ [.ref t]) (ps ++ [p]) := Paired.snoc h ⟨t, rfl, ht⟩
theorem Prs.get {K : PySem.W.Frag} {H : Hp} {vs : List V} {ps : List (Int × Int)} (h : Prs K H vs ps) : ∀ {i : Nat} {v : V}, vs[i]? = some v → ∃ t p, ps[i]? = some p ∧ v = .ref t ∧ SqT K H t [.int p.1, .int p.2] := by
  unfold Prs at h
  induction h with
  | nil => intro i v h; simp at h
  | cons r t ih =>
    intro i v hv
    cases i with
    | zero =>
      obtain ⟨a, rfl, q⟩ := r
      exact ⟨a, _, rfl, (Option.some.inj hv).symm, q⟩
    | succ i => exact ih hv
theorem PrsH.get {H : Hp} {vs : List V} {ps : List (Int × Int)} (h : PrsH H vs ps) : ∀ {i : Nat} {v : V}, vs[i]? = some v → ∃ t p, ps[i]? = some p ∧ v = .ref t ∧ H t = some (.tup [.int p.1, .int p.2]) := by
  unfold PrsH at h
  induction h with
  | nil => intro i v h; simp at h
  | cons r t ih =>
    intro i v hv
    cases i with
    | zero =>
      obtain ⟨a, rfl, q⟩ := r
      exact ⟨a, _, rfl, (Option.some.inj hv).symm, q⟩
    | succ i => exact ih hv
theorem PrsH.length {H : Hp} {vs : List V} {ps : List (Int × Int)} (h : PrsH H vs ps) : vs.length = ps.length := Paired.length h
theorem lc_rangeP {n : Nat} {D : Addr} {σ : L2.St} {vs : List Nat} {s : Nat} {te : TE} {H1 : Hp} {Qd : Hp → Prop} (f : Nat → Int × Int) (nD : H1 D = none) (hlen : n < 100000) (hw : ∀ v, wipe ((wipe σ vs).set s (some v)) vs = wipe σ vs)
    (he : ∀ (i : Nat) H' (R : VK), i < n → Same H1 H' → (∀ t, H' t = none → R (.ref t) (L2.upd H' t (.tup [.int (f i).1, .int (f i).2]))) → te ((wipe σ vs).set s (some (.int (i : Int)))) H' R)
    (hd : ∀ H' ys, Same H1 H' → H' D = some (.lst ys) → PrsH H' ys ((List.range n).map f) → Qd H') : CompO (Itr 0 n) (gName s) tYes te vs σ H1 D Qd := by
  refine lc_range (lo := 0) (n := n) (fun i H' => Same H1 H' ∧ ∃ ys, H' D = some (.lst ys) ∧ PrsH H' ys ((List.range i).map f)) ⟨same_upd nD, [], upd_same, .nil⟩ (fun i H' hi ⟨s1, ys, hD, hp⟩ => ?_) (fun H' ⟨s1, ys, hD, hp⟩ => hd H' ys s1 hD hp)
  show wipe ((wipe σ vs).set s (some (.int (0 + (i : Int))))) vs = wipe σ vs ∧ _
  rw [show (0 : Int) + (i : Int) = (i : Int) by omega]
  refine ⟨hw _, ?_⟩
  refine rd_tYes ?_
  refine iteT ?_
  refine he i H' _ hi s1 fun t nt => ?_
  have s2 := same_upd (o := .tup [.int (f i).1, .int (f i).2]) nt
  have ht : (L2.upd H' t (.tup [.int (f i).1, .int (f i).2])) t = some (.tup [.int (f i).1, .int (f i).2]) := upd_same
  refine ⟨_, s2 _ _ hD, ?_, Same.mut (s1.trans s2) nD, ys ++ [.ref t], upd_same, ?_⟩
  · rw [hp.length, List.length_map, List.length_range]
    exact szlt (by omega)
  · rw [List.range_succ, List.map_append]
    refine ((hp.mono s2).upd (s2 _ _ hD)).snoc ?_
    rw [upd_ne (ne_of ht (s2 _ _ hD) (by intro z; cases z))]
    exact ht
/-! ## dicts of pairs -/
theorem rd_dIn {ty td : TE} {σ : L2.St} {H : Hp} {Q : VK} (q : ty σ H fun y H1 => td σ H1 fun x H2 => ∃ a o, x = .ref a ∧ DGet H2 a y o ∧ Q (.bl o.isSome) H2) : tDIn ty td σ H Q := q
theorem rd_dNotIn {ty td : TE} {σ : L2.St} {H : Hp} {Q : VK} (q : ty σ H fun y H1 => td σ H1 fun x H2 => ∃ a o, x = .ref a ∧ DGet H2 a y o ∧ Q (.bl (!o.isSome)) H2) : tDNotIn ty td σ H Q := q
theorem rd_dput {td ty tv : TE} {D : Ends} {σ : L2.St} {H : Hp} (q : tv σ H fun v H1 => td σ H1 fun x H2 => ty σ H2 fun y H3 => ∃ a H4, x = .ref a ∧ DPut H3 a y v H4 ∧ D.nx σ H4) : sDPut td ty tv D σ H := q
theorem rd_dnewT {σ : L2.St} {H : Hp} {Q : VK} (q : ∀ p, H p = none → Q (.ref p) (L2.upd H p (.dT []))) : tDNewT σ H Q := q
/-- the keys of a dict are just these pairs -/
def Keys (kvs : List (List L2.Key × V)) (ps : List (Int × Int)) : Prop := kvs.length ≤ ps.length ∧ ∀ p : Int × Int, (valV kvs [.inl p.1, .inl p.2]).isSome = decide (p ∈ ps)
theorem Keys.nil : Keys [] [] := ⟨Nat.le_refl _, fun p => by simp [valV]⟩
theorem len_put {kvs : List (List L2.Key × V)} {k : List L2.Key} {v : V} : (putK kvs k v).length ≤ kvs.length + 1 := by
  unfold putK
  split
  · rw [List.length_map]
    omega
  · rw [List.length_append]
    exact Nat.le_refl _
theorem Keys.put {kvs : List (List L2.Key × V)} {ps : List (Int × Int)} {v : V} (h : Keys kvs ps) (p : Int × Int) : Keys (putK kvs [.inl p.1, .inl p.2] v) (ps ++ [p]) := by
  refine ⟨?_, fun q => ?_⟩
  · have := len_put (kvs := kvs) (k := [.inl p.1, .inl p.2]) (v := v)
    have := h.1
    rw [List.length_append]
    simp
    omega
  · rw [valV_put]
    by_cases e : q = p
    · subst e
      rw [if_pos rfl]
      simp
    · have : ¬ ([Sum.inl q.1, Sum.inl q.2] : List L2.Key) = [.inl p.1, .inl p.2] := fun z => e (by
        have h1 := List.cons.inj z
        have h2 := List.cons.inj h1.2
        exact Prod.ext (Sum.inl.inj h1.1) (Sum.inl.inj h2.1))
      rw [if_neg this, h.2 q]
      simp [e]
theorem keys_get {H : Hp} {a t : Addr} {kvs : List (List L2.Key × V)} {p : Int × Int} (hd : H a = some (.dT kvs)) (ht : H t = some (.tup [.int p.1, .int p.2])) : DGet H a (.ref t) (valV kvs [.inl p.1, .inl p.2]) := .t hd ht
theorem keys_put {H : Hp} {a t : Addr} {kvs : List (List L2.Key × V)} {p : Int × Int} {v : V} (hd : H a = some (.dT kvs)) (ht : H t = some (.tup [.int p.1, .int p.2])) (hl : kvs.length < 100000) :
    DPut H a (.ref t) v (L2.upd H a (.dT (putK kvs [.inl p.1, .inl p.2] v))) := .t hd ht (szlt hl)
theorem PrsH.updD {H : Hp} {D : Addr} {ks : List (List L2.Key × V)} {vs : List V} {o : HO} {ps : List (Int × Int)} (hD : H D = some (.dT ks)) (h : PrsH H vs ps) : PrsH (L2.upd H D o) vs ps := by
  unfold PrsH at h ⊢
  exact Paired.mapP h fun v p ⟨t, e, q⟩ => ⟨t, e, by rw [upd_ne (ne_of q hD (by intro z; cases z))]; exact q⟩

/-! ## the steps -/
local macro_rules | `(tactic| walk_at "rd1") => `(tactic| first
  | ((with_reducible refine' rd_var ?h ?_); (case h => rfl))
  | with_reducible refine rd_c ?_
  | with_reducible refine rd_op ?_
  | with_reducible refine rd_I0 ?_
  | with_reducible refine rd_cons ?_
  | with_reducible refine rd_nil ?_
  | with_reducible refine rd_un ?_
  | with_reducible refine rd_U ?_
  | ((with_reducible refine rd_eq ?h ?_); (case h => rfl))
  | ((with_reducible refine rd_ne ?h ?_); (case h => rfl))
  | with_reducible refine rd_cb ?_
  | with_reducible refine rd_call ?_
  | with_reducible refine rd_callS ?_
  | with_reducible refine rd_test ?_
  | with_reducible refine rd_tB ?_
  | with_reducible refine rd_bl ?_
  | with_reducible refine rd_not ?_
  | with_reducible refine rd_and ?_
  | with_reducible refine rd_or ?_
  | with_reducible refine rd_andV ?_
  | with_reducible refine rd_orV ?_
  | with_reducible refine rd_notV ?_
  | with_reducible refine rd_if ?_
  | with_reducible refine rd_seq ?_
  | with_reducible refine rd_asg ?_
  | with_reducible refine rd_name ?_
  | ((with_reducible refine' rd_aug ?h ?_); (case h => rfl))
  | with_reducible refine rd_ipI ?_
  | with_reducible refine rd_gSub ?_
  | with_reducible refine rd_ret ?_
  | with_reducible refine rd_drop ?_
  | with_reducible refine rd_ifS ?_
  | with_reducible refine rd_next ?_
  | with_reducible refine rd_cont ?_
  | with_reducible refine rd_tup ?_
  | with_reducible refine rd_lst ?_
  | with_reducible refine rd_for ?_
  | with_reducible refine rd_lc ?_
  | with_reducible refine rd_min2 ?_
  | with_reducible refine rd_max2 ?_
  | with_reducible refine rd_abs ?_
  | with_reducible refine rd_dIn ?_
  | with_reducible refine rd_dNotIn ?_
  | with_reducible refine rd_dput ?_
  | with_reducible refine rd_dnewT ?_
  | with_reducible refine rd_chain3 ?_
  | with_reducible refine rd_sl ?_
  | with_reducible refine rd_noPart ?_
  | with_reducible refine rd_part ?_
  | with_reducible refine rd_zip ?_
  | with_reducible refine rd_in1 ?_
  | ((with_reducible refine' rd_cut0 ?h ?_); (case h => first | assumption | exact SqL.of (by assumption) | exact SqL.of upd_same))
  | with_reducible refine rd_chain ?_
  | ((with_reducible refine' rd_len ?h ?_); (case h => first | assumption | exact SqL.of (by assumption) | exact SqL.of upd_same))
  | ((with_reducible refine' rd_list ?h ?_); (case h => first | assumption | exact SqL.of (by assumption) | exact SqL.of upd_same))
  | with_reducible refine rd_isN ?_
  | with_reducible refine rd_notN ?_
  | with_reducible refine rd_tYes ?_
  | with_reducible refine iteT ?_
  | with_reducible refine iteF ?_
  | with_reducible refine iteNT ?_
  | with_reducible refine iteNF ?_
  | with_reducible refine rd_rng1 ?_
  | with_reducible refine rd_rng2 ?_
  | with_reducible refine rd_iList ?_
  | with_reducible refine rd_iTup ?_
  | with_reducible refine rd_bm ?_
  | with_reducible refine rd_bm0 ?_
  | ((with_reducible refine rd_I (C := CPow) ?c ?_); (case c => exact ⟨by decide, by decide, by decide⟩))
  | ((with_reducible refine rd_I (C := fun _ j => 0 < j) ?c ?_); (case c => (show (0 : Int) < _); first | omega | decide +kernel))
  | ((with_reducible refine rd_I (C := CDiv) ?c ?_); (case c => first | exact ⟨by decide, by decide⟩ | exact ⟨by omega, by omega⟩))
  | ((with_reducible refine rd_I (C := CMul) ?c ?_); (case c => first | exact .inr ⟨by omega, by omega⟩ | exact .inl ⟨by omega, by omega⟩))
  | ((with_reducible refine' rd_cell ?h0 ?h ?_); (case h => assumption); (case h0 => first | decide | omega)))
local macro_rules | `(tactic| walk_at "rd") => `(tactic| repeat walk_at "rd1")
local macro_rules | `(tactic| walk_at "rq1") => `(tactic| first
  | ((with_reducible refine' rd_var ?h ?_); (case h => rfl))
  | with_reducible refine rd_c ?_
  | with_reducible refine rd_op ?_
  | with_reducible refine rd_I0 ?_
  | with_reducible refine rd_cons ?_
  | with_reducible refine rd_nil ?_
  | with_reducible refine rd_un ?_
  | with_reducible refine rd_U ?_
  | ((with_reducible refine rd_eq ?h ?_); (case h => rfl))
  | ((with_reducible refine rd_ne ?h ?_); (case h => rfl))
  | with_reducible refine rd_cb ?_
  | with_reducible refine rd_call ?_
  | with_reducible refine rd_callS ?_
  | with_reducible refine rd_test ?_
  | with_reducible refine rd_tB ?_
  | with_reducible refine rd_bl ?_
  | with_reducible refine rd_not ?_
  | with_reducible refine rd_and ?_
  | with_reducible refine rd_or ?_
  | with_reducible refine rd_andV ?_
  | with_reducible refine rd_orV ?_
  | with_reducible refine rd_notV ?_
  | with_reducible refine rd_if ?_
  | with_reducible refine rd_asg ?_
  | with_reducible refine rd_name ?_
  | ((with_reducible refine' rd_aug ?h ?_); (case h => rfl))
  | with_reducible refine rd_ipI ?_
  | with_reducible refine rd_gSub ?_
  | with_reducible refine rd_ret ?_
  | with_reducible refine rd_drop ?_
  | with_reducible refine rd_ifS ?_
  | with_reducible refine rd_next ?_
  | with_reducible refine rd_cont ?_
  | with_reducible refine rd_tup ?_
  | with_reducible refine rd_lst ?_
  | with_reducible refine rd_for ?_
  | with_reducible refine rd_lc ?_
  | with_reducible refine rd_min2 ?_
  | with_reducible refine rd_max2 ?_
  | with_reducible refine rd_abs ?_
  | with_reducible refine rd_dIn ?_
  | with_reducible refine rd_dNotIn ?_
  | with_reducible refine rd_dput ?_
  | with_reducible refine rd_dnewT ?_
  | with_reducible refine rd_chain3 ?_
  | with_reducible refine rd_sl ?_
  | with_reducible refine rd_noPart ?_
  | with_reducible refine rd_part ?_
  | with_reducible refine rd_zip ?_
  | with_reducible refine rd_in1 ?_
  | ((with_reducible refine' rd_cut0 ?h ?_); (case h => first | assumption | exact SqL.of (by assumption) | exact SqL.of upd_same))
  | with_reducible refine rd_chain ?_
  | ((with_reducible refine' rd_len ?h ?_); (case h => first | assumption | exact SqL.of (by assumption) | exact SqL.of upd_same))
  | ((with_reducible refine' rd_list ?h ?_); (case h => first | assumption | exact SqL.of (by assumption) | exact SqL.of upd_same))
  | with_reducible refine rd_isN ?_
  | with_reducible refine rd_notN ?_
  | with_reducible refine rd_tYes ?_
  | with_reducible refine iteT ?_
  | with_reducible refine iteF ?_
  | with_reducible refine iteNT ?_
  | with_reducible refine iteNF ?_
  | with_reducible refine rd_rng1 ?_
  | with_reducible refine rd_rng2 ?_
  | with_reducible refine rd_iList ?_
  | with_reducible refine rd_iTup ?_
  | with_reducible refine rd_bm ?_
  | with_reducible refine rd_bm0 ?_
  | ((with_reducible refine rd_I (C := CPow) ?c ?_); (case c => exact ⟨by decide, by decide, by decide⟩))
  | ((with_reducible refine rd_I (C := fun _ j => 0 < j) ?c ?_); (case c => (show (0 : Int) < _); first | omega | decide +kernel))
  | ((with_reducible refine rd_I (C := CDiv) ?c ?_); (case c => first | exact ⟨by decide, by decide⟩ | exact ⟨by omega, by omega⟩))
  | ((with_reducible refine rd_I (C := CMul) ?c ?_); (case c => first | exact .inr ⟨by omega, by omega⟩ | exact .inl ⟨by omega, by omega⟩))
  | ((with_reducible refine' rd_cell ?h0 ?h ?_); (case h => assumption); (case h0 => first | decide | omega)))
local macro_rules | `(tactic| walk_at "rq") => `(tactic| repeat walk_at "rq1")

/-! ## isinstance(x, int) and not isinstance(x, bool) -/
/-- what the two questions answer of a value of the type t -/
def wholeT (K : PySem.W.Frag) (t : Value) (r : Bool) : Prop := ∃ b1 b2, PySem.W.kitOne K t (.type "int") = some b1 ∧ PySem.W.kitOne K t (.type "bool") = some b2 ∧ r = (b1 && !b2)
def Whole (K : PySem.W.Frag) (H : Hp) (x : V) (r : Bool) : Prop := ∃ t, TyX K H x t ∧ wholeT K t r
theorem whole_int {K : PySem.W.Frag} {H : Hp} {i : Int} : Whole K H (.int i) true := ⟨_, .base (.int i), true, false, kit_ty (by decide +kernel), kit_ty (by decide +kernel), rfl⟩
theorem whole_bl {K : PySem.W.Frag} {H : Hp} {b : Bool} : Whole K H (.bl b) false := ⟨_, .base (.bl b), true, true, kit_ty (by decide +kernel), kit_ty (by decide +kernel), rfl⟩
theorem whole_non {K : PySem.W.Frag} {H : Hp} : Whole K H .non false := ⟨_, .base .non, false, false, kit_ty (by decide +kernel), kit_ty (by decide +kernel), rfl⟩
theorem whole_str {K : PySem.W.Frag} {H : Hp} {z : Str} : Whole K H (.str z) false := ⟨_, .base (.str z), false, false, kit_ty (by decide +kernel), kit_ty (by decide +kernel), rfl⟩
theorem whole_lst {K : PySem.W.Frag} {H : Hp} {a : Addr} {xs : List V} (h : H a = some (.lst xs)) : Whole K H (.ref a) false := ⟨_, .base (.lst h), false, false, kit_ty (by decide +kernel), kit_ty (by decide +kernel), rfl⟩
theorem whole_tup {K : PySem.W.Frag} {H : Hp} {a : Addr} {xs : List V} (h : H a = some (.tup xs)) : Whole K H (.ref a) false := ⟨_, .base (.tup h), false, false, kit_ty (by decide +kernel), kit_ty (by decide +kernel), rfl⟩
def spWhole (K : PySem.W.Frag) : Sp := fun vs H Q _ => ∃ (x : V) (r : Bool), vs = [x] ∧ Whole K H x r ∧ Q (.bl r) H
theorem whole_run {K : PySem.W.Frag} {D : Ends} {H : Hp} {vs : List V} {E : XK} {N : List Str} (h : spWhole K vs H D.rt E) :
    tRet (tAndV (tCB (rIsi K) (tCons (tVar 0) (tCons (tC (.ty "int")) tNil))) (tNotV (tCB (rIsi K) (tCons (tVar 0) (tCons (tC (.ty "bool")) tNil))))) D (start N vs) H := by
  obtain ⟨x, r, rfl, ⟨t, ty, b1, b2, h1, h2, rfl⟩, q⟩ := h
  walk_at "rd"
  refine ⟨x, .ty "int", t, _, b1, rfl, .ty _, ty, h1, b1, rfl, ?_⟩
  cases b1 with
  | false => exact iteF q
  | true =>
    refine iteT ?_
    walk_at "rd"
    refine ⟨x, .ty "bool", t, _, b2, rfl, .ty _, ty, h2, b2, rfl, ?_⟩
    exact q

/-! ## slopes, by places -/
def g (ns : List Int) (i : Nat) : Int := ns.getD i 0
/-- from a, x is steeper than y -/
abbrev Stp (ns : List Int) (a x y : Nat) : Prop := (g ns y - g ns a) * ((x : Int) - (a : Int)) < (g ns x - g ns a) * ((y : Int) - (a : Int))
theorem cross {x y z p q r : Int} (hp : 0 < p) (hq : 0 < q) (hr : 0 < r) (h1 : y * p < x * q) (h2 : z * q ≤ y * r) : z * p < x * r := by
  have e1 : z * q * p ≤ y * r * p := Int.mul_le_mul_of_nonneg_right h2 (by omega)
  have e2 : y * p * r < x * q * r := Int.mul_lt_mul_of_pos_right h1 hr
  have e3 : z * p * q < x * r * q := by
    have a1 : z * p * q = z * q * p := by rw [Int.mul_assoc, Int.mul_comm p q, ← Int.mul_assoc]
    have a2 : x * r * q = x * q * r := by rw [Int.mul_assoc, Int.mul_comm r q, ← Int.mul_assoc]
    have a3 : y * p * r = y * r * p := by rw [Int.mul_assoc, Int.mul_comm p r, ← Int.mul_assoc]
    omega
  exact Int.lt_of_mul_lt_mul_right e3 (by omega)
theorem stp_trans {ns : List Int} {a x y z : Nat} (hx : a < x) (hy : a < y) (hz : a < z) (h1 : Stp ns a x y) (h2 : ¬ Stp ns a z y) : Stp ns a x z := by
  unfold Stp at *
  exact cross (p := (x : Int) - a) (q := (y : Int) - a) (r := (z : Int) - a) (by omega) (by omega) (by omega) h1 (by omega)
theorem stp_asymm {ns : List Int} {a x y : Nat} (h : Stp ns a x y) : ¬ Stp ns a y x := by
  unfold Stp at *
  omega
theorem stp_irrefl {ns : List Int} {a x : Nat} : ¬ Stp ns a x x := by
  unfold Stp
  omega
/-- every top between lies below the line from a to b -/
def seeB (ns : List Int) (a b : Nat) : Bool := decide (∀ k, k < b → a < k → Stp ns a b k)
theorem seeB_iff {ns : List Int} {a b : Nat} : seeB ns a b = true ↔ ∀ k, k < b → a < k → Stp ns a b k := by
  unfold seeB
  exact decide_eq_true_iff
theorem seeB_next {ns : List Int} {a : Nat} : seeB ns a (a + 1) = true := seeB_iff.mpr fun k h1 h2 => by omega
/-- m is the steepest of those between a and n -/
structure Steep (ns : List Int) (a n m : Nat) : Prop where
  lo : a < m
  hi : m < n
  top : ∀ k, k < n → a < k → ¬ Stp ns a k m
theorem Steep.see {ns : List Int} {a n m : Nat} (s : Steep ns a n m) : seeB ns a n = true ↔ Stp ns a n m := by
  rw [seeB_iff]
  constructor
  · intro h
    exact h m s.hi s.lo
  · intro h k hk ha
    exact stp_trans (Nat.lt_trans s.lo s.hi) s.lo ha h (s.top k hk ha)
theorem Steep.up {ns : List Int} {a n m : Nat} (s : Steep ns a n m) (h : Stp ns a n m) : Steep ns a (n + 1) n := by
  refine ⟨Nat.lt_trans s.lo s.hi, Nat.lt_succ_self n, fun k hk ha => ?_⟩
  by_cases e : k = n
  · subst e
    exact stp_irrefl
  · exact stp_asymm (stp_trans (Nat.lt_trans s.lo s.hi) s.lo ha h (s.top k (by omega) ha))
theorem Steep.stay {ns : List Int} {a n m : Nat} (s : Steep ns a n m) (h : ¬ Stp ns a n m) : Steep ns a (n + 1) m := by
  refine ⟨s.lo, Nat.lt_succ_of_lt s.hi, fun k hk ha => ?_⟩
  by_cases e : k = n
  · subst e
    exact h
  · exact s.top k (by omega) ha
theorem Steep.first {ns : List Int} {a : Nat} : Steep ns a (a + 1 + 1) (a + 1) := by
  refine ⟨Nat.lt_succ_self _, Nat.lt_succ_self _, fun k hk ha => ?_⟩
  have e : k = a + 1 := by omega
  subst e
  exact stp_irrefl
/-- the later places that a sees, below n -/
def behN (ns : List Int) (a n : Nat) : List Nat := (List.range n).filter fun b => decide (a < b) && seeB ns a b
theorem behN_low {ns : List Int} {a n : Nat} (h : n ≤ a + 1) : behN ns a n = [] := by
  unfold behN
  rw [List.filter_eq_nil_iff]
  intro b hb
  have := List.mem_range.mp hb
  simp
  omega
theorem behN_succ {ns : List Int} {a n : Nat} : behN ns a (n + 1) = behN ns a n ++ (if a < n ∧ seeB ns a n = true then [n] else []) := by
  unfold behN
  rw [List.range_succ, List.filter_append]
  congr 1
  by_cases h1 : a < n <;> by_cases h2 : seeB ns a n = true <;> simp [h1, h2]
theorem behN_yes {ns : List Int} {a n : Nat} (h1 : a < n) (h2 : seeB ns a n = true) : behN ns a (n + 1) = behN ns a n ++ [n] := by rw [behN_succ, if_pos ⟨h1, h2⟩]
theorem behN_no {ns : List Int} {a n : Nat} (h2 : ¬ seeB ns a n = true) : behN ns a (n + 1) = behN ns a n := by rw [behN_succ, if_neg (fun z => h2 z.2), List.append_nil]
theorem mem_behN {ns : List Int} {a n b : Nat} : b ∈ behN ns a n ↔ a < b ∧ b < n ∧ seeB ns a b = true := by
  unfold behN
  rw [List.mem_filter, List.mem_range]
  simp
  exact ⟨fun ⟨h, h1, h2⟩ => ⟨h1, h, h2⟩, fun ⟨h1, h, h2⟩ => ⟨h, h1, h2⟩⟩
abbrev NI (l : List Nat) : List Int := l.map fun (n : Nat) => ((n : Nat) : Int)
abbrev NP (l : List (Nat × Nat)) : List (Int × Int) := l.map fun (p : Nat × Nat) => (((p.1 : Nat) : Int), ((p.2 : Nat) : Int))
/-- the pairs of the first n places -/
def sigN (ns : List Int) (n : Nat) : List (Nat × Nat) := (List.range n).flatMap fun a => (behN ns a ns.length).map fun b => (a, b)
theorem sigN_succ {ns : List Int} {n : Nat} : sigN ns (n + 1) = sigN ns n ++ (behN ns n ns.length).map fun b => (n, b) := by
  unfold sigN
  rw [List.range_succ, List.flatMap_append]
  simp
abbrev sights (ns : List Int) : List (Nat × Nat) := sigN ns ns.length
theorem mem_sights {ns : List Int} {a b : Nat} : (a, b) ∈ sights ns ↔ a < b ∧ b < ns.length ∧ seeB ns a b = true := by
  unfold sights sigN
  rw [List.mem_flatMap]
  constructor
  · rintro ⟨a', _, h⟩
    obtain ⟨b', hb, e⟩ := List.mem_map.mp h
    cases e
    exact mem_behN.mp hb
  · rintro ⟨h1, h2, h3⟩
    exact ⟨a, List.mem_range.mpr (Nat.lt_trans h1 h2), List.mem_map.mpr ⟨b, mem_behN.mpr ⟨h1, h2, h3⟩, rfl⟩⟩
/-- the steepest of the first i places behind a, the earliest of equals -/
def stM (ns : List Int) (a : Nat) : Nat → Option Nat
  | 0 => none
  | i + 1 => match stM ns a i with
    | none => some (a + 1 + i)
    | some m => if Stp ns a (a + 1 + i) m then some (a + 1 + i) else some m
theorem stM_none {ns : List Int} {a i : Nat} (h : stM ns a i = none) : i = 0 := by
  cases i with
  | zero => rfl
  | succ i =>
    unfold stM at h
    split at h
    · cases h
    · split at h <;> cases h
theorem stM_some {ns : List Int} {a : Nat} : ∀ {i m : Nat}, stM ns a i = some m → Steep ns a (a + 1 + i) m
  | 0, m, h => by cases h
  | i + 1, m, h => by
    unfold stM at h
    split at h
    · rename_i h0
      have e := stM_none h0
      subst e
      cases h
      exact Steep.first
    · rename_i m' h0
      have s := stM_some h0
      split at h
      · rename_i h1
        cases h
        exact s.up h1
      · rename_i h1
        cases h
        exact s.stay h1
/-- the hider -/
def hidM (ns : List Int) (a b : Nat) : Option Nat := match stM ns a (b - a - 1) with
  | none => none
  | some m => if Stp ns a b m then none else some m
theorem hidM_none {ns : List Int} {a b : Nat} (h : a < b) : hidM ns a b = none ↔ seeB ns a b = true := by
  unfold hidM
  split
  · rename_i h0
    have e := stM_none h0
    have e2 : b = a + 1 := by omega
    subst e2
    exact ⟨fun _ => seeB_next, fun _ => rfl⟩
  · rename_i m h0
    have s := stM_some h0
    rw [show a + 1 + (b - a - 1) = b by omega] at s
    rw [s.see]
    split
    · rename_i h1
      exact ⟨fun _ => h1, fun _ => rfl⟩
    · rename_i h1
      exact ⟨fun q => (by cases q), fun q => absurd q h1⟩
theorem hidM_some {ns : List Int} {a b m : Nat} (h : a < b) (e : hidM ns a b = some m) : a < m ∧ m < b ∧ ¬ Stp ns a b m := by
  unfold hidM at e
  split at e
  · cases e
  · rename_i m' h0
    have s := stM_some h0
    rw [show a + 1 + (b - a - 1) = b by omega] at s
    split at e
    · cases e
    · rename_i h1
      cases e
      exact ⟨s.lo, s.hi, h1⟩

/-! ## what stands but for the lists at M -/
theorem same_fresh {H H' : Hp} {t : Addr} (s : Same H H') (h : H' t = none) : H t = none := by
  cases e : H t with
  | none => rfl
  | some u => exact absurd (s _ _ e) (by rw [h]; intro z; cases z)
structure Keep (M : List Addr) (H H' : Hp) : Prop where
  st : ∀ a u, H a = some u → (a ∈ M → ∀ xs, u ≠ .lst xs) → H' a = some u
  al : ∀ a, H' a = none → H a = none
section
variable {M M' : List Addr} {H H' H1 : Hp} {a : Addr} {xs ys : List V} {o : HO}
theorem Keep.of (s : Same H H') : Keep M H H' := ⟨fun a u h _ => s a u h, fun _ h => same_fresh s h⟩
theorem Keep.refl : Keep M H H := Keep.of (Same.refl H)
theorem Keep.trans (k1 : Keep M H H1) (k2 : Keep M H1 H') : Keep M H H' := ⟨fun a u h n => k2.st a u (k1.st a u h n) n, fun a h => k1.al a (k2.al a h)⟩
theorem Keep.same (k1 : Keep M H H1) (s : Same H1 H') : Keep M H H' := k1.trans (Keep.of s)
theorem Keep.mono (k : Keep M H H') (hm : ∀ a ∈ M, a ∈ M') : Keep M' H H' := ⟨fun a u h n => k.st a u h (fun z => n (hm a z)), k.al⟩
theorem Keep.lst {u : HO} (k : Keep M H H') (n : a ∉ M) (h : H a = some u) : H' a = some u := k.st a u h (fun z => absurd z n)
theorem Keep.tup (k : Keep M H H') (h : H a = some (.tup xs)) : H' a = some (.tup xs) := k.st _ _ h (fun _ _ z => by cases z)
theorem Keep.ins {C dx : Addr} {fs : List (Str × V)} (k : Keep M H H') (h : H a = some (.ins C dx fs)) : H' a = some (.ins C dx fs) := k.st _ _ h (fun _ _ z => by cases z)
theorem Keep.mut (k : Keep M H H') (m : a ∈ M) (h : H' a = some (.lst xs)) : Keep M H (upd H' a (.lst ys)) := by
  refine ⟨fun b u hb n => ?_, fun b hb => ?_⟩
  · by_cases e : b = a
    · subst e
      have := k.st b u hb n
      rw [h] at this
      exact absurd (Option.some.inj this).symm (n m xs)
    · rw [upd_ne e]
      exact k.st b u hb n
  · by_cases e : b = a
    · subst e
      rw [upd_same] at hb
      cases hb
    · rw [upd_ne e] at hb
      exact k.al b hb
theorem Keep.fresh (k : Keep M H H') (h : H a = none) : Keep M H (upd H' a o) := by
  refine ⟨fun b u hb n => ?_, fun b hb => ?_⟩
  · have e : b ≠ a := fun z => by rw [z, h] at hb; cases hb
    rw [upd_ne e]
    exact k.st b u hb n
  · by_cases e : b = a
    · subst e
      exact h
    · rw [upd_ne e] at hb
      exact k.al b hb
theorem Keep.new (k : Keep M H H') (h : H' a = none) : Keep M H (upd H' a o) := k.fresh (k.al a h)
theorem Keep.seqL {K : PySem.W.Frag} (k : Keep M H H') (n : a ∉ M) (h : SqL K H a xs) : SqL K H' a xs := by
  rcases h with (h | ⟨o, h⟩) | h
  · exact .inl (.inl (k.lst n h))
  · exact .inl (.inr ⟨o, k.lst n h⟩)
  · exact .inr h
theorem Keep.prsH {vs : List V} {ps : List (Int × Int)} (k : Keep M H H') (h : PrsH H vs ps) : PrsH H' vs ps := by
  unfold PrsH at h ⊢
  exact Paired.mapP h fun v p ⟨t, e, q⟩ => ⟨t, e, k.tup q⟩
theorem Keep.ne (h : H a ≠ none) (k : Keep M H H') : H' a ≠ none := fun z => h (k.al a z)
end
theorem Keep.fresh2 {M : List Addr} {H H5 H6 : Hp} {l1 l2 : Addr} (k : Keep M H H5) (k6 : Keep [l1, l2] H5 H6) (n1 : H l1 = none) (n2 : H l2 = none) : Keep M H H6 := by
  refine ⟨fun a u h n => ?_, fun a h => k.al a (k6.al a h)⟩
  refine k6.lst (fun z => ?_) (k.st a u h n)
  simp only [List.mem_cons, List.mem_nil_iff, or_false] at z
  rcases z with rfl | rfl
  · rw [n1] at h; cases h
  · rw [n2] at h; cases h
/-- a list of pairs -/
def PLs (H : Hp) (a : Addr) (ps : List (Int × Int)) : Prop := ∃ vs, H a = some (.lst vs) ∧ PrsH H vs ps
theorem PLs.keep {M : List Addr} {H H' : Hp} {a : Addr} {ps : List (Int × Int)} (h : PLs H a ps) (k : Keep M H H') (n : a ∉ M) : PLs H' a ps := by
  obtain ⟨vs, h1, h2⟩ := h
  exact ⟨vs, k.lst n h1, k.prsH h2⟩
theorem PLs.mono {H H' : Hp} {a : Addr} {ps : List (Int × Int)} (h : PLs H a ps) (s : Same H H') : PLs H' a ps := h.keep (M := []) (Keep.of s) (fun z => by cases z)
theorem PLs.ne {H : Hp} {a : Addr} {ps : List (Int × Int)} (h : PLs H a ps) : H a ≠ none := by
  obtain ⟨vs, h1, _⟩ := h
  rw [h1]
  intro z
  cases z
theorem PLs.snoc {H : Hp} {a t : Addr} {vs : List V} {ps : List (Int × Int)} {p : Int × Int} (h : H a = some (.lst vs)) (hp : PrsH H vs ps) (ht : H t = some (.tup [.int p.1, .int p.2])) : PLs (upd H a (.lst (vs ++ [.ref t]))) a (ps ++ [p]) :=
  ⟨_, upd_same, (hp.upd h).snoc (by rw [upd_ne (ne_of ht h (by intro z; cases z))]; exact ht)⟩
/-- a tuple of two lists of pairs -/
structure Two (H : Hp) (t l1 l2 : Addr) (P1 P2 : List (Int × Int)) : Prop where
  tp : H t = some (.tup [.ref l1, .ref l2])
  ne : l1 ≠ l2
  p1 : PLs H l1 P1
  p2 : PLs H l2 P2
theorem Two.keep {M : List Addr} {H H' : Hp} {t l1 l2 : Addr} {P1 P2 : List (Int × Int)} (h : Two H t l1 l2 P1 P2) (k : Keep M H H') (n1 : l1 ∉ M) (n2 : l2 ∉ M) : Two H' t l1 l2 P1 P2 := ⟨k.tup h.tp, h.ne, h.p1.keep k n1, h.p2.keep k n2⟩
theorem Two.mono {H H' : Hp} {t l1 l2 : Addr} {P1 P2 : List (Int × Int)} (h : Two H t l1 l2 P1 P2) (s : Same H H') : Two H' t l1 l2 P1 P2 := h.keep (M := []) (Keep.of s) (fun z => by cases z) (fun z => by cases z)
/-- a Land at y: its hills at D, its deeds at F -/
structure LandS (H : Hp) (CL y D F : Addr) (hs : List Int) (dn : List (Int × Int)) : Prop where
  ins : ∃ dx, H y = some (.ins CL dx [("hills", .ref D), ("done", .ref F)])
  hl : H D = some (.lst (IL hs))
  ne : D ≠ F
  dn : PLs H F dn
theorem LandS.keep {M : List Addr} {H H' : Hp} {CL y D F : Addr} {hs : List Int} {dn : List (Int × Int)} (h : LandS H CL y D F hs dn) (k : Keep M H H') (n1 : D ∉ M) (n2 : F ∉ M) : LandS H' CL y D F hs dn := by
  obtain ⟨dx, e⟩ := h.ins
  exact ⟨⟨dx, k.ins e⟩, k.lst n1 h.hl, h.ne, h.dn.keep k n2⟩
theorem LandS.mono {H H' : Hp} {CL y D F : Addr} {hs : List Int} {dn : List (Int × Int)} (h : LandS H CL y D F hs dn) (s : Same H H') : LandS H' CL y D F hs dn := h.keep (M := []) (Keep.of s) (fun z => by cases z) (fun z => by cases z)
/-! ## the pairs that are lacking -/
def lackN (ps qs : List (Int × Int)) : List (Int × Int) := ps.filter fun p => !decide (p ∈ qs)
theorem lackN_len (ps qs : List (Int × Int)) : (lackN ps qs).length ≤ ps.length := List.length_filter_le _ _
abbrev S0 (ns : List Int) : List (Int × Int) := NP (sights ns)
theorem behN_len (ns : List Int) (a n : Nat) : (behN ns a n).length ≤ n := by
  have h := List.length_filter_le (fun b => decide (a < b) && seeB ns a b) (List.range n)
  rw [List.length_range] at h
  exact h
theorem sigN_len (ns : List Int) (n : Nat) : (sigN ns n).length ≤ n * ns.length := by
  induction n with
  | zero => simp [sigN]
  | succ n ih =>
    rw [sigN_succ, List.length_append, List.length_map, Nat.succ_mul]
    have := behN_len ns n ns.length
    omega
theorem S0_len {ns : List Int} (h : ns.length ≤ 200) : (S0 ns).length ≤ 40000 := by
  rw [List.length_map]
  have h1 := sigN_len ns ns.length
  have : ns.length * ns.length ≤ 200 * 200 := Nat.mul_le_mul h h
  unfold sights
  omega
/-- what a lift by z of the i-th brings -/
abbrev upH (hs : List Int) (i : Nat) (z : Int) : List Int := hs.set i (hs.getD i 0 + z)
/-! ## the heights and what was done -/
theorem upH_len (hs : List Int) (i : Nat) (z : Int) : (upH hs i z).length = hs.length := List.length_set ..
theorem upH_get {hs : List Int} {i : Nat} (h : i < hs.length) (z : Int) : (upH hs i z).getD i 0 = hs.getD i 0 + z := by
  rw [List.getD_eq_getElem?_getD, List.getElem?_set_self h]
  rfl
theorem upH_back {hs : List Int} {i : Nat} (h : i < hs.length) (z : Int) : upH (upH hs i z) i (-z) = hs := by
  unfold upH
  rw [show (hs.set i (hs.getD i 0 + z)).getD i 0 = hs.getD i 0 + z from upH_get h z, List.set_set, Int.add_neg_cancel_right]
  rw [List.getD_eq_getElem?_getD, List.getElem?_eq_getElem h]
  exact List.set_getElem_self h
def Bd (z : Int) : Prop := -1000000000000000000 ≤ z ∧ z ≤ 1000000000000000000
def AllBd (hs : List Int) : Prop := ∀ z ∈ hs, Bd z
theorem AllBd.up {hs : List Int} {i : Nat} {z : Int} (h : AllBd hs) (b : Bd (hs.getD i 0 + z)) : AllBd (upH hs i z) := fun y hy => by
  rcases List.mem_or_eq_of_mem_set hy with e | e
  · exact h y e
  · rw [e]
    exact b
theorem AllBd.at {hs : List Int} {i : Nat} (h : AllBd hs) (hi : i < hs.length) : Bd (hs.getD i 0) := by
  rw [List.getD_eq_getElem?_getD, List.getElem?_eq_getElem hi]
  exact h _ (List.getElem_mem hi)
/-- hs came of b0 by the deeds dn -/
inductive Hist (b0 : List Int) : List Int → List (Int × Int) → Prop
  | nil (h : AllBd b0) : Hist b0 b0 []
  | snoc {hs : List Int} {dn : List (Int × Int)} {i : Nat} {z : Int} (h : Hist b0 hs dn) (hi : i < hs.length) (hb : Bd (hs.getD i 0 + z)) : Hist b0 (upH hs i z) (dn ++ [((i : Int), z)])
theorem Hist.bd {b0 hs : List Int} {dn : List (Int × Int)} (h : Hist b0 hs dn) : AllBd hs := by
  induction h with
  | nil h => exact h
  | snoc h hi hb ih => exact ih.up hb
theorem Hist.len {b0 hs : List Int} {dn : List (Int × Int)} (h : Hist b0 hs dn) : hs.length = b0.length := by
  induction h with
  | nil h => rfl
  | snoc h hi hb ih => rw [upH_len, ih]
theorem Hist.last {b0 hs : List Int} {dn : List (Int × Int)} {p : Int × Int} (h : Hist b0 hs (dn ++ [p])) : ∃ (i : Nat) (z : Int), p = ((i : Int), z) ∧ i < hs.length ∧ Hist b0 (upH hs i (-z)) dn ∧ Bd (hs.getD i 0 + -z) := by
  generalize e : dn ++ [p] = dn' at h
  cases h with
  | nil h => simp at e
  | @snoc hs0 dn0 i z h hi hb =>
    have e1 := List.append_inj' e rfl
    obtain ⟨rfl, e2⟩ := e1
    have e3 := (List.cons.inj e2).1
    refine ⟨i, z, e3, by rw [upH_len]; exact hi, by rw [upH_back hi]; exact h, ?_⟩
    rw [upH_get hi, Int.add_neg_cancel_right]
    exact h.bd.at hi
theorem Hist.nil_eq {b0 hs : List Int} (h : Hist b0 hs []) : hs = b0 := by
  generalize e : ([] : List (Int × Int)) = dn at h
  cases h with
  | nil h => rfl
  | snoc h hi hb => simp at e
/-- the law's own list of the heights behind -/
theorem map_up {hs : List Int} {i : Nat} {z : Int} (hi : i < hs.length) : (List.range hs.length).map (fun (k : Nat) => if k = i then hs.getD i 0 + z else hs.getD k 0) = upH hs i z := by
  refine List.ext_getElem (by rw [List.length_map, List.length_range, upH_len]) fun k h1 h2 => ?_
  rw [List.length_map, List.length_range] at h1
  rw [List.getElem_map, List.getElem_range]
  unfold upH
  rw [List.getElem_set]
  by_cases c : k = i
  · rw [if_pos c, if_pos c.symm]
  · rw [if_neg c, if_neg (fun z => c z.symm), List.getD_eq_getElem?_getD, List.getElem?_eq_getElem h1]
    rfl
/-! ## rules -/
section
variable {X : Cx} {K : PySem.W.Frag}
def rGetL (K : PySem.W.Frag) : V → V → Hp → VK → Prop := fun o i H Q => ∃ p xs k v, o = .ref p ∧ i = .int ((k : Nat) : Int) ∧ SqL K H p xs ∧ xs[k]? = some v ∧ Q v H
theorem pget_list : PGet X (rGetL X.K) := by
  intro pins s σ H o i ov iv Q I ro ri h
  obtain ⟨p, xs, k, v, rfl, rfl, hq, he, q⟩ := h
  cases ro
  obtain ⟨t, rfl⟩ := ri
  obtain ⟨its, r, pl, hz⟩ := I.list hq
  obtain ⟨w, ew, rw'⟩ := r.get he
  have hn := line63
  have hl := r.length
  have hk := (List.getElem?_eq_some_iff.mp he).1
  exact wpAny_getItem_list pl.isList (by omega) (by omega) (by simpa using ew) ⟨v, H, I, rw', q⟩
theorem pget_listK (h : X.K = K) : PGet X (rGetL K) := by subst h; exact pget_list
theorem passT {W : WX} {n : Nat} (tk : L2N.Takes X W) (hn : X.N.length = n) : Passes (L2N.CX X.prog X.w) X (fun cls d H' => ∀ σ : L2.St, σ.length = n → W cls d σ H') :=
  fun _ σ _ _ u s' I c => tk u s' (L2N.XE.of_call I (fun _ _ _ h => h σ (I.len.trans hn)) c)
def rMulS : R2 := fun x y H Q => ∃ a n, x = .str a ∧ y = .int n ∧ MulOk a n ∧ Q (.str (Txt.mul a n)) H
theorem op_mulS : OpR X (binaryOp .Mult) rMulS := by
  intro pins s σ H x y v u Q I rx ry h
  obtain ⟨a, n, rfl, rfl, ok, q⟩ := h
  obtain ⟨t, rfl⟩ := rx
  obtain ⟨t', rfl⟩ := ry
  exact SB.mul ok fun t' k => ⟨.str (Txt.mul a n), H, I.tok _, ⟨_, rfl⟩, q⟩
end
theorem rd_mul1 {a : Str} {H : Hp} {Q : VK} (q : Q (.str a) H) : rMulS (.str a) (.int 1) H Q := by
  refine ⟨a, 1, rfl, rfl, ⟨by decide, fun _ h => ?_, fun _ h => ?_⟩, ?_⟩
  · simp at h
  · simp at h
  · have : Txt.mul a 1 = a := by
      unfold Txt.mul
      rw [if_neg (by decide), if_pos (by simp)]
    rw [this]
    exact q
theorem rd_fld {K : PySem.W.Frag} {ta : TE} {f : Str} {σ : L2.St} {H : Hp} {Q : VK} (q : ta σ H fun x H1 => ∃ a C dx fs v, x = .ref a ∧ H1 a = some (.ins C dx fs) ∧ Cls K C ∧ NoAttr K C f ∧ fs.lookup f = some v ∧ Q v H1) : tFld K ta f σ H Q := q
theorem rd_meth {C : Addr} {m : Str} {sp : Sp} {E : XK} {ta : TE} {t : TA} {σ : L2.St} {H : Hp} {Q : VK} (q : ta σ H fun x H1 => ∃ a dx fs, x = .ref a ∧ H1 a = some (.ins C dx fs) ∧ fs.lookup m = none ∧ t σ H1 fun vs H2 => sp (x :: (vs ++ [])) H2 Q E) : tMeth C m sp [] E ta t σ H Q := q
theorem rd_augS {to ti te : TE} {tget : V → V → Hp → VK → Prop} {tip : TIp} {tset : TSet} {D : Ends} {σ : L2.St} {H : Hp} (q : to σ H fun o H1 => ti σ H1 fun i H2 => tget o i H2 fun x H3 => te σ H3 fun y H4 => tip x y H4 fun z H5 => tset o i z H5 fun H6 => D.nx σ H6) : tAugS to ti te tget tip tset D σ H := q
theorem rd_getI {K : PySem.W.Frag} {p : Addr} {hs : List Int} {i : Nat} {H : Hp} {Q : VK} (h : SqL K H p (IL hs)) (hi : i < hs.length) (q : Q (.int (hs.getD i 0)) H) : rGetL K (.ref p) (.int (i : Int)) H Q := ⟨p, IL hs, i, _, rfl, rfl, h, IL_get hi, q⟩
theorem rd_setI {H : Hp} {p : Addr} {hs : List Int} {i : Nat} {v : Int} {Q : Hp → Prop} (h : H p = some (.lst (IL hs))) (hi : i < hs.length) (q : Q (upd H p (.lst (IL (hs.set i v))))) : rSetL (.ref p) (.int (i : Int)) (.int v) H Q := by
  refine rd_setL h (by rw [List.length_map]; exact hi) ?_
  rw [show (IL hs).set i (V.int v) = IL (hs.set i v) by rw [IL, IL, List.map_set]]
  exact q
theorem rd_pop {H : Hp} {p : Addr} {vs : List V} {y : V} {Q : VK} (h : H p = some (.lst (vs ++ [y]))) (q : Q y (upd H p (.lst vs))) : rPop (.ref p) [] H Q := by
  refine ⟨p, vs ++ [y], y, rfl, rfl, h, by simp, ?_⟩
  rw [List.dropLast_concat]
  exact q
theorem rd_gTup3 {K : PySem.W.Frag} {i j k : Nat} {a : Addr} {x y z : V} {σ : L2.St} {H : Hp} {Q : L2.St → Hp → Prop} (h : SqT K H a [x, y, z]) (q : Q (((σ.set i (some x)).set j (some y)).set k (some z)) H) : gTup K 3 (gCons (gName i) (gCons (gName j) (gCons (gName k) gNil))) (.ref a) σ H Q :=
  ⟨a, [x, y, z], rfl, h, rfl, x, [y, z], rfl, y, [z], rfl, z, [], rfl, rfl, q⟩
theorem prsH_last {H : Hp} {p : Int × Int} : ∀ {ps : List (Int × Int)} {vs : List V}, PrsH H vs (ps ++ [p]) → ∃ vs0 t, vs = vs0 ++ [.ref t] ∧ PrsH H vs0 ps ∧ H t = some (.tup [.int p.1, .int p.2]) := by
  intro ps
  induction ps with
  | nil =>
    intro vs h
    unfold PrsH at h
    cases h with
    | cons r h =>
      cases h
      obtain ⟨t, rfl, e⟩ := r
      exact ⟨[], t, rfl, .nil, e⟩
  | cons q ps ih =>
    intro vs h
    unfold PrsH at h
    cases h with
    | cons r h =>
      obtain ⟨vs0, t, rfl, h0, e⟩ := ih h
      exact ⟨_ :: vs0, t, rfl, .cons r h0, e⟩

/-! ## errors caught where nothing else is handled: several clauses, with a name -/
theorem passLN {X : Cx} : Passes (L2N.CX X.prog X.w) X E0 := fun _ _ _ _ _ _ _ h => by
  obtain ⟨_, _, _, _, _, _, _, _, _, _, _, _, z⟩ := h
  exact z.elim
theorem takes0N {X : Cx} : L2N.Takes X (fun _ _ _ _ => False) := fun _ _ x => by
  obtain ⟨_, _, _, _, _, _, _, _, _, _, _, _, _, _, _, _, z⟩ := x
  exact z.elim
theorem okN {P : Program} {w : World} {K : PySem.W.Frag} {mg : Str → Option Value} {base : Heap} {x qual : Str} {st : Stmt} {f : Addr} {fd : FuncData} {N ps : List Str} {k : Nat} {sp : Sp} (F : Fun K x qual st f fd) (S : FnScope N ps (defScope st)) (len : ∀ vs H Q E, sp vs H Q E → vs.length = ps.length)
    (hbody : ∀ (cdv : Value) (A : Around) (outer : List Env) (s : Shared) (H : Hp) (vs : List V) (Q : VK) (E : XK), Room k (A.deeper (envOfC qual (defScope st) s.heap.objs.size f cdv)) → sp vs H Q E →
      ∃ t, PSs (cxOf (L2N.CX P w) P w K mg base N qual (defScope st) f cdv A outer s H E) (defBody st) t ∧ t { nx := fun _ H' => Q .non H', rt := Q } (L2.start N vs) H) : FnOk P w K mg base (L2N.CX P w) (k + 1) f fd ps sp := by
  obtain ⟨oc, od, kV, doc, pm, an, cdv, ct, osl, rfl, lk, hcd⟩ := F.ex
  exact fn_of lk hcd S len fun A outer s H vs Q E hr hsp => hbody cdv A outer s H vs Q E hr hsp
/-- one clause: the class, the slot of its name, its suite -/
abbrev Clause : Type := Value × Option Nat × (Addr → Value → Option Addr → TS)
def endsOf (D : Ends) : Option Nat → Ends
  | none => D
  | some i => { nx := fun σ H => D.nx (σ.set i none) H, rt := D.rt, bk := fun σ H => D.bk (σ.set i none) H, ct := fun σ H => D.ct (σ.set i none) H }
def slotOf (σ : L2.St) (a : Addr) : Option Nat → L2.St
  | none => σ
  | some i => σ.set i (some (.ref a))
def wManyA (K : PySem.W.Frag) (Wout : WX) (D : Ends) : List Clause → WX
  | [] => Wout
  | (c, n, ts) :: r => fun cls d σ H => ∃ b, PySem.W.exmOne K cls c = some b ∧ (b = true → ∀ a, H a = none → ts a cls d (endsOf D n) (slotOf σ a n) H) ∧ (b = false → wManyA K Wout D r cls d σ H)
inductive HdsA (X : Cx) : List ExceptHandler → List Clause → Prop
  | nil : HdsA X [] []
  | cons {x : Str} {c : Value} {ts : Addr → Value → Option Addr → TS} {b₀ : Stmt} {suite : List Stmt} {np pos' : Pos} {hds : List ExceptHandler} {l : List Clause} (hc : Names X x c)
      (hsu : ∀ (a : Addr) (oe : Obj) (cls : Value) (d : Option Addr) (pn : List (Addr × Obj)), L2N.Zn cls d oe → (∃ vs, oe.data = .fields vs) → PSs (X.suite a ((a, oe) :: pn)) (b₀ :: suite) (ts a cls d)) (r : HdsA X hds l) :
      HdsA X (.ExceptHandler (some (.Name x np)) none (b₀ :: suite) pos' :: hds) ((c, none, ts) :: l)
  | consA {i : Nat} {x n : Str} {c : Value} {ts : Addr → Value → Option Addr → TS} {b₀ : Stmt} {suite : List Stmt} {np pos' : Pos} {hds : List ExceptHandler} {l : List Clause} (hi : X.N[i]? = some n) (hln : X.env.kindOf n = some .local) (hc : Names X x c)
      (hsu : ∀ (a : Addr) (oe : Obj) (cls : Value) (d : Option Addr) (pn : List (Addr × Obj)), L2N.Zn cls d oe → (∃ vs, oe.data = .fields vs) → PSs (X.suite a ((a, oe) :: pn)) (b₀ :: suite) (ts a cls d)) (r : HdsA X hds l) :
      HdsA X (.ExceptHandler (some (.Name x np)) (some n) (b₀ :: suite) pos' :: hds) ((c, some i, ts) :: l)
section
variable {X : Cx} {body : List Stmt} {h₀ : ExceptHandler} {hds : List ExceptHandler} {l : List Clause} {pos : Pos} {tb : WX → TS} {Wout : WX}
theorem ps_try_manyA (hs : X.stack = X.env :: X.outer) (hf : X.env.frame = some X.env.locals) (hN : X.N.Nodup) (tk : L2N.Takes X Wout)
    (hb : ∀ (W : WX) (pn : List (Addr × Obj)) (xe : Value → Shared → Prop), L2N.Takes (X.tr pn xe) W → PassesOwn (model X.prog X.w) X.A X.env xe → PSs (X.tr pn xe) body (tb W))
    (hh : HdsA X (h₀ :: hds) l) : PS X (.Try body (h₀ :: hds) [] [] pos) (fun D σ H => tb (wManyA X.K Wout D l) D σ H) := by
  refine ⟨fun pins s σ H D I h => ?_⟩
  have ok := I.ok
  have hfr : X.A.frames = some (X.env :: X.outer) := by rw [ok.frames, hs]
  refine wpAny_Try_except ?_
  refine wpAny_mono ((hb (wManyA X.K Wout D l) (X.pn ++ pins) (fun e s₁ => wpAny (model X.prog X.w) X.A (noteFrame e X.env) (fun _ s₂ => wpAny (model X.prog X.w) X.A (setFlight e none) (fun _ s₃ =>
    wpAny (model X.prog X.w) X.A (handleBy e X.env (h₀ :: hds)) (SP X pins D) X.xe s₃) X.xe s₂) X.xe s₁) (fun u s' xx => ?_) PassesOwn.looking).run [] s σ H D (I.toTry _) h) (fun f s1 hsp => ?_) (fun e s1 he => he)
  · obtain ⟨a, B, sI, pins', σ', H', cls, d, rfl, J', nb, up, sky, na, os, ag, w⟩ := xx
    have J : Inv X pins σ' H' sI := J'.ofTry ok
    have sky' : Sky B (X.env :: X.outer) a (L2N.Zn cls d) X.env.locals s'.heap := by rw [← hs]; exact sky
    show wpAny (model X.prog X.w) X.A (noteFrame (.ref a) X.env) _ _ _
    refine L2N.Sky.land L2N.Zn.steady hfr hf sky' fun h3 fl3 up3 => ?_
    have J3 : Inv X pins σ' H' { s' with heap := h3 } := J.landed nb fl3.1 (up.trans up3) os ag
    obtain ⟨oe3, vs3, he3, hz3, hd3⟩ := fl3.there
    have nfr : a ∉ frs (X.env :: X.outer) := fun hm => by
      obtain ⟨_, o', e', hnf⟩ := fl3.2.2.1.mem hm
      rw [he3] at e'; cases e'
      exact hnf _ hd3
    have nL : a ≠ X.env.locals := fun z => nfr (List.mem_filterMap.mpr ⟨X.env, List.mem_cons_self, by rw [hf, z]⟩)
    have nF : a ∉ X.fs := fun hm => by
      obtain ⟨e, he, q⟩ := List.mem_filterMap.mp hm
      exact nfr (List.mem_filterMap.mpr ⟨e, List.mem_cons_of_mem _ he, q⟩)
    have S3 := J3.suite he3 hd3 na nL nF
    have LT : PySem.W.Looks (model X.prog X.w) h3 (typeOf (.ref a)) cls := fun A Q E s k q => wpAny_typeOf_ref (k _ _ he3) (by rw [hz3.1]; exact q)
    have test : ∀ {x : Str} {c : Value} {np : Pos} {Q : Value → Shared → Prop} {E : Value → Shared → Prop}, Names X x c → Q c { s' with heap := h3 } → wpAny (model X.prog X.w) (X.A.mark (some (.ref a))) (eval (.Name x np) X.env) Q E { s' with heap := h3 } := fun {x c np Q E} hc q => by
      obtain ⟨hg, hdbg, hm | ⟨hm, hv, hnn⟩⟩ := hc
      · exact ld_glob (X := X.suite a ((a, oe3) :: (X.pn ++ pins))) S3 hg hm q hdbg
      · exact ld_blt (X := X.suite a ((a, oe3) :: (X.pn ++ pins))) S3 hg hm hv q hnn hdbg
    have go : ∀ {hds' : List ExceptHandler} {l' : List Clause}, HdsA X hds' l' → wManyA X.K Wout D l' cls d σ' H' →
        wpAny (model X.prog X.w) X.A (handleBy (.ref a) X.env hds') (SP X pins D) X.xe { s' with heap := h3 } := by
      intro hds' l' hk
      induction hk with
      | nil =>
        intro w
        refine wpAny_handleBy_nil ?_
        obtain ⟨k1, k2, k3, oe, vs, T, oT, ts', he, hz, hd, h1, hr⟩ := id fl3
        unfold PySem.passOn
        refine wpAny_bind (wpAny_field he hd h1 ?_)
        rw [if_neg (show ¬ ((Value.ref T == Value.none) = true) from by simp)]
        have fin : wpAny (model X.prog X.w) X.A (setFlight (.ref a) X.env.frame) (fun _ s4 => wpAny (model X.prog X.w) X.A (throw (.ref a) : Sem Flow) (SP X pins D) X.xe s4) X.xe { s' with heap := h3 } := by
          rw [hf]
          refine HandSPX.setFlight_upZ fl3 fun h4 hh4 up4 => wpAny_throw (tk _ _ ?_)
          exact ⟨a, B, sI, pins, σ', H', cls, d, rfl, J, nb, (up.trans up3).trans up4, .inr (.inr (by rw [hs]; exact hh4)), na, os, ag, w⟩
        first
          | exact wpAny_bind (wpAny_pure (wpAny_bind fin))
          | exact wpAny_bind fin
      | @cons x c ts b₀ suite np pos' hds2 l2 hc hsu r ih =>
        intro w
        obtain ⟨b, hb1, hyes, hno⟩ := w
        refine wpAny_handleBy_cons (codeAny_handlers_test ?_) (by intro q; cases q)
        refine test hc ((PySem.W.exm_one (M := model X.prog X.w) (J3.kIn) LT hb1).here ?_)
        cases b with
        | true =>
          refine codeAny_handlers_suite ?_
          refine HandSPX.lands_againZ fl3 fun h4 fl4 up4 => ?_
          have J4 : Inv X pins σ' H' { s' with heap := h4 } := J.landed nb fl4.1 ((up.trans up3).trans up4) os ag
          obtain ⟨oe4, vs4, he4, hz4, hd4⟩ := fl4.there
          have S4 := J4.suite he4 hd4 na nL nF
          refine wpAny_mono ((hsu a oe4 cls d (X.pn ++ pins) hz4 ⟨_, hd4⟩).run [] _ _ H' _ S4 (hyes rfl a na)) (fun f s6 hsp => ?_) (fun _ _ z => False.elim z)
          cases f with
          | ret u =>
            obtain ⟨v6, σ6, H6, S6, r6, q6⟩ := hsp
            exact ⟨_, _, _, S6.unsuite ok, r6, q6⟩
          | _ =>
            obtain ⟨σ6, H6, S6, q6⟩ := hsp
            exact ⟨_, _, S6.unsuite ok, q6⟩
        | false =>
          show wpAny _ X.A (handleBy (.ref a) X.env hds2) _ _ _
          exact ih (hno rfl)
      | @consA i x n c ts b₀ suite np pos' hds2 l2 hi hln hc hsu r ih =>
        intro w
        obtain ⟨b, hb1, hyes, hno⟩ := w
        refine wpAny_handleBy_cons (codeAny_handlers_test ?_) (by intro q; cases q)
        refine test hc ((PySem.W.exm_one (M := model X.prog X.w) (J3.kIn) LT hb1).here ?_)
        cases b with
        | true =>
          refine codeAny_handlers_suite_as ?_
          refine HandSPX.lands_againZ fl3 fun h4 fl4 up4 => ?_
          have J4 : Inv X pins σ' H' { s' with heap := h4 } := J.landed nb fl4.1 ((up.trans up3).trans up4) os ag
          obtain ⟨oe4, vs4, he4, hz4, hd4⟩ := fl4.there
          have S4 := J4.suite he4 hd4 na nL nF
          refine store_ok (X := X.suite a ((a, oe4) :: (X.pn ++ pins))) (v := .ref a) S4 hN hi (.inl hln) rfl (fun s5 S5 => ?_) (.inr hln)
          refine wpAny_mono ((hsu a oe4 cls d (X.pn ++ pins) hz4 ⟨_, hd4⟩).run [] s5 _ H' _ S5 (hyes rfl a na)) (fun f s6 hsp => ?_) (fun _ _ z => False.elim z)
          have end_ : ∀ {σ6 : L2.St} {H6 : Hp} {Q : Shared → Prop}, Inv (X.suite a ((a, oe4) :: (X.pn ++ pins))) [] σ6 H6 s6 → (∀ s7, Inv X pins (σ6.set i none) H6 s7 → Q s7) →
              wpAny (model X.prog X.w) X.A (do bindName X.env n .none; unbindBehindTheSuite X.env n pos') (fun _ s7 => Q s7) X.xe s6 := fun {σ6 H6 Q} S6 hq => gone_ok (S6.unsuite ok) hN hi hln hq
          cases f with
          | ret u =>
            obtain ⟨v6, σ6, H6, S6, r6, q6⟩ := hsp
            exact end_ S6 fun s7 J7 => ⟨_, _, _, J7, r6, q6⟩
          | _ =>
            obtain ⟨σ6, H6, S6, q6⟩ := hsp
            exact end_ S6 fun s7 J7 => ⟨_, _, J7, q6⟩
        | false =>
          show wpAny _ X.A (handleBy (.ref a) X.env hds2) _ _ _
          exact ih (hno rfl)
    exact go hh w
  · cases f with
    | ret u =>
      obtain ⟨v, σ', H', J', r, q⟩ := hsp
      exact ⟨v, σ', H', J'.ofTry ok, r, q⟩
    | next =>
      obtain ⟨σ', H', J', q⟩ := hsp
      exact wpAny_execs_nil ⟨σ', H', J'.ofTry ok, q⟩
    | _ =>
      obtain ⟨σ', H', J', q⟩ := hsp
      exact ⟨σ', H', J'.ofTry ok, q⟩
end
/-! ## a law's def called on the caught error -/
open L2H in
/-- what such a def promises while p is the error that is handled -/
structure FnP (P : Program) (w : World) (K : PySem.W.Frag) (mg : Str → Option Value) (base : Heap) (k : Nat) (f : Addr) (fd : FuncData) (ps : List Str) (p : Addr × Obj) (sp : Sp) : Prop where
  len : ∀ vs H Q E, sp vs H Q E → vs.length = ps.length
  run : ∀ (A : Around) (outer : List Env) (s : Shared) (H : Hp) (args : Args) (us : List Value) (vs : List V) (Q : VK) (E : XK), RoomH k A → Hot1 A p → PinOk outer H s p → Env0 P w K mg base A outer s H → BindsTo s fd args (ps.zip us) → Vals vs us → sp vs H Q E →
    codeAny (model P w) A (.call (.ref f) args) (CR CX0 outer P w H s Q E) s
open L2H in
theorem okP {P : Program} {w : World} {K : PySem.W.Frag} {mg : Str → Option Value} {base : Heap} {x qual : Str} {st : Stmt} {f : Addr} {fd : FuncData} {N ps : List Str} {k : Nat} {p : Addr × Obj} {sp : Sp} (F : Fun K x qual st f fd) (S : FnScope N ps (defScope st)) (len : ∀ vs H Q E, sp vs H Q E → vs.length = ps.length)
    (hbody : ∀ (cdv : Value) (A : Around) (outer : List Env) (s : Shared) (H : Hp) (vs : List V) (Q : VK) (E : XK), Hot1 A p → RoomH k (A.deeper (envOfC qual (defScope st) s.heap.objs.size f cdv)) → sp vs H Q E →
      ∃ t, PSs (cxH CX0 P w K mg base N qual (defScope st) f cdv A outer s H E p) (defBody st) t ∧ t { nx := fun _ H' => Q .non H', rt := Q } (L2.start N vs) H) : FnP P w K mg base (k + 1) f fd ps p sp := by
  obtain ⟨oc, od, kV, doc, pm, an, cdv, ct, osl, rfl, lk, hcd⟩ := F.ex
  refine ⟨len, fun A outer s H args us vs Q E hr hot hpin e0 hb r hsp => ?_⟩
  have hl := len _ _ _ _ hsp
  have kin : K.In s.heap := e0.mod.kin.keeps fun b o e => (e0.bs b o e).1
  have hkind : ∀ y ∈ ps.zip us, (defScope st).names.lookup y.1 = some .local ∨ ((defScope st).names.lookup y.1 = some .cell ∧ ((cellsFrom (s.heap.objs.size + 1) (defScope st).names []).lookup y.1).isSome = true) := fun ⟨n, v⟩ hy =>
    (S.par n (List.of_mem_zip hy).1).imp id fun q => ⟨q, PySem.W.cellsFrom_some _ _ _ (.inl q)⟩
  refine codeAny_call_function hr.depth (kin _ _ lk) rfl S.co S.gen rfl (PySem.W.codeRec_of kin hcd) (hb _ _ _ _ ?_)
  refine wpAny_newFunctionEnv_cells S.kind hkind fun env he s1 x => ?_
  subst he
  refine ⟨(e0.mod.nolimit.keeps fun b o e => (e0.bs b o e).1).keeps x.toInCall.keep, codeAny_func ?_⟩
  obtain ⟨t, ht, hq⟩ := hbody cdv A outer s H vs Q E hot (hr.deeper _) hsp
  refine wpAny_mono (ht.run [] s1 (L2.start N vs) H _ (inv_startH S hpin e0 hl r x) hq) (fun fl s' hs => ?_) fun e s' hs => hs
  cases fl with
  | ret u =>
    obtain ⟨v, σ', H', J, rv, q⟩ := hs
    exact ⟨v, H', J.os, J.bare, J.base, J.hok, rv, q⟩
  | next =>
    obtain ⟨σ', H', J, q⟩ := hs
    exact ⟨V.non, H', J.os, J.bare, J.base, J.hok, rfl, q⟩
  | brk =>
    obtain ⟨_, _, _, q⟩ := hs
    exact q.elim
  | cont =>
    obtain ⟨_, _, _, q⟩ := hs
    exact q.elim
open L2H in
theorem pe_callP {X : Cx} {k : Nat} {f : Addr} {fd : FuncData} {ps : List Str} {p : Addr × Obj} {sp : Sp} {x : Str} {q pos : Pos} {e : Expr} {es : List Expr} {t : TA} (F : FnP X.prog X.w X.K X.mg X.base k f fd ps p sp) (hr : RoomH k X.A) (hot : Hot1 X.A p) (hp : p ∈ X.pn) (hg : Gl X x) (hm : X.mg x = some (.ref f)) (hk : PySem.W.keepIn X.K (.ref f) = true) (hb : Binds X.K fd ps [])
    (ha : PA X (e :: es) t) (hdb : (x == ("__debug__" : Str)) = false := by decide) (he : starEach (e :: es) X.env = (false, eval e X.env) :: starEach es X.env := by rfl) (hpl : (backTo pos (starEach es X.env)).any (·.1) = false := by rfl) :
    PE X (.Call (.Name x q) (e :: es) [] pos) (tCallS sp (fun _ => E0) t) := by
  refine ⟨fun pins s σ H Q I h => ?_⟩
  refine wpAny_Call_Name_kw (ld_glob I hg hm ?_ hdb)
  refine PySem.W.callWith_K (h₀ := X.base) I.ok.mod.kin hk (thn (ha.run pos pins s σ H _ I h) fun us s1 ⟨vs, H1, I1, r, q⟩ => ⟨I1.kIn, ?_⟩) he hpl
  have hl : us.length = ps.length := by rw [← r.length]; exact F.len _ _ _ _ q
  have b := hb s1 us I1.kIn (by rw [List.append_nil]; exact hl)
  rw [List.append_nil] at b
  obtain ⟨p1, p2, p3, p4, p5⟩ := I1.pin p (List.mem_append_left _ hp)
  refine wpAny_call (codeAny_mono (F.run X.A X.stack s1 H1 ⟨us, []⟩ us vs Q E0 hr hot ⟨p1, p2, fun hm => (List.mem_cons.mp (I1.stkSub p.1 hm)).elim p3 p4, p5⟩ I1.env0 b r q) fun r s' hq => ?_)
  cases r with
  | error e => exact False.elim hq
  | ok fl =>
    cases fl with
    | ret u => exact I1.after hq
    | _ => exact False.elim hq
theorem call_isP {X : Cx} {p : Addr × Obj} {D : Addr} (hp : p ∈ X.pn) (C : ExcC X.K D) (hz : Zc (.ref D) none p.2) (hf : ∃ vs, p.2.data = .fields vs) : CallR X (.builtin "isinstance") (rIsE X.K D p.1) := by
  intro pins s σ H xs us Q I r h
  obtain ⟨c, cv, b, rfl, hcv, e, q⟩ := h
  cases r with
  | cons rx rr =>
    cases rr with
    | cons rt rr =>
      cases rr
      cases rx
      have ec := hcv _ rt
      subst ec
      obtain ⟨hget, _⟩ := I.pin p (List.mem_append_left _ hp)
      obtain ⟨vs, hv⟩ := hf
      have J : PySem.W.InstAt s.heap p.1 p.2 D none := by
        obtain ⟨pa, oc, od, oda, osl⟩ := p
        obtain ⟨h1, h2⟩ := hz
        dsimp only at h1 h2 hv hget ⊢
        subst h1 h2 hv
        exact ⟨hget, rfl, rfl, trivial⟩
      exact PySem.W.kia_one (PySem.W.handS_kitx_exc C.hg C.hk C.hs C.hd C.ha C.hn C.ht C.hm) I.kIn J e (fun z => nomatch z) fun tk => ⟨.bl b, H, I.kept (t' := tk) fun _ _ z => z, rfl, q⟩
theorem hot2 {cls : Value} {d : Option Addr} {oe : Obj} (hz : L2N.Zn cls d oe) (hf : ∃ vs, oe.data = .fields vs) : ∃ vs : Array Value, oe.data = .fields vs ∧ vs[2]? = some .none := by
  obtain ⟨vs, e⟩ := hf
  exact ⟨vs, e, hz.2.2 vs e⟩
theorem rd_isE {K : PySem.W.Frag} {D a C : Addr} {b : Bool} {H : Hp} {Q : VK} (e : PySem.W.kitOne K (.ref D) (.ref C) = some b) (q : Q (.bl b) H) : rIsE K D a [.ref a, .ref C] H Q := ⟨.ref C, .ref C, b, rfl, fun _ r => r, e, q⟩
theorem rd_isT {K : PySem.W.Frag} {D a : Addr} {n : String} {b : Bool} {H : Hp} {Q : VK} (e : PySem.W.kitOne K (.ref D) (.type n) = some b) (q : Q (.bl b) H) : rIsE K D a [.ref a, .ty n] H Q := ⟨.ty n, .type n, b, rfl, fun _ r => r, e, q⟩
theorem roomM {j k : Nat} {A : Around} {v : Option Value} (r : Room k A) (h : j ≤ k) : L2H.RoomH j (A.mark v) := ⟨(r.mono h).dp, (r.mono h).un⟩
/-- a for over a tuple, its body not yet opened -/
abbrev ForT (K : PySem.W.Frag) (a : Addr) (xs : List V) (g : TG) (tb : TS) (D : Ends) (σ : L2.St) (H : Hp) : Prop := ∃ Pv : Nat → L2.St → Hp → Prop, Pv 0 σ H ∧ (∀ i σ H, i ≤ xs.length → Pv i σ H → SqT K H a xs) ∧
  (∀ i x σ H, xs[i]? = some x → Pv i σ H → g x σ H fun σ2 H2 => tb { D with nx := Pv (i + 1), ct := Pv (i + 1), bk := D.nx } σ2 H2) ∧ (∀ σ H, Pv xs.length σ H → D.nx σ H)
theorem rd_forTup {K : PySem.W.Frag} {tl : TE} {g : TG} {tb : TS} {D : Ends} {σ : L2.St} {H : Hp} (mono : ∀ σ H Q Q', (∀ x H1, Q x H1 → Q' x H1) → tl σ H Q → tl σ H Q') (q : tl σ H fun x H1 => ∃ a xs, x = .ref a ∧ SqT K H1 a xs ∧ ForT K a xs g tb D σ H1) : tFor (iTup K tl) g tb D σ H := by
  refine mono σ H _ _ (fun x H1 h => ?_) q
  obtain ⟨a, xs, e, hs, Pv, h0, hl, h1, h2⟩ := h
  exact ⟨a, e, ⟨xs, hs⟩, for_tup Pv h0 hl h1 h2⟩
/-- an instance made within a try -/
theorem pe_makeS {X : Cx} {C f : Addr} {k n : Nat} {fd : FuncData} {ps : List Str} {sp : Sp} {W : WX} {x : Str} {p pos : Pos} {e : Expr} {es : List Expr} {t : TA} (M : Mk X.K C f) (F : FnOk X.prog X.w X.K X.mg X.base (L2N.CX X.prog X.w) k f fd ps sp) (hr : Room (k + 1) X.A) (tk : L2N.Takes X W) (hg : Gl X x) (hm : X.mg x = some (.ref C)) (hb : Binds X.K fd ps [])
    (ha : PA X (e :: es) t) (hn : X.N.length = n := by rfl) (hdb : (x == ("__debug__" : Str)) = false := by decide) (he : starEach (e :: es) X.env = (false, eval e X.env) :: starEach es X.env := by rfl) (hpl : (backTo pos (starEach es X.env)).any (·.1) = false := by rfl) :
    PE X (.Call (.Name x p) (e :: es) [] pos) (tMake C sp [] (fun cls d H' => ∀ σ : L2.St, σ.length = n → W cls d σ H') t) :=
  pe_make (E := fun cls d H' => ∀ σ : L2.St, σ.length = n → W cls d σ H') M F hr hg hm hb .nil (fun _ σ _ _ u s' I c => tk u s' (L2N.XE.of_call I (fun _ _ _ h => h σ (I.len.trans hn)) c)) ha hdb he hpl


def top (i : Nat) : Stmt := PySem.Challenge.pw_hillsight_k10_whole_changes.main.body.getD i (.Pass ⟨0, 0, 0, 0⟩)
abbrev s_is_whole : Stmt := top 8
abbrev s_need_hill : Stmt := top 9
abbrev s_slope : Stmt := top 10
abbrev s_steeper : Stmt := top 11
abbrev s_behind : Stmt := top 13
abbrev s_sights : Stmt := top 14
abbrev s_is_height : Stmt := top 18
abbrev s_checked : Stmt := top 19
abbrev s_lacking : Stmt := top 20
abbrev s_Land___init__ : Stmt := inClass (top 21) 0
abbrev s_Land_told : Stmt := inClass (top 21) 1
abbrev s_Land_seen : Stmt := inClass (top 21) 2
abbrev s_Land_moved : Stmt := inClass (top 21) 3
abbrev s_Land_lift : Stmt := inClass (top 21) 4
abbrev s_Land_back : Stmt := inClass (top 21) 5
abbrev s_law_sole : Stmt := top 23
abbrev s_law_whole : Stmt := top 24
abbrev s_law_cell_at : Stmt := top 25
abbrev s_law_sights_by : Stmt := top 26
abbrev s_law_base : Stmt := top 27
abbrev s_law_told : Stmt := top 28
abbrev s_law_deed_by : Stmt := top 29
abbrev s_law_lacking : Stmt := top 30
abbrev s_law_due_by : Stmt := top 31
abbrev s_law_alike : Stmt := top 32
abbrev s_law_kept : Stmt := top 33
abbrev s_law_stands : Stmt := top 34
abbrev s_law_lifted : Stmt := top 35
abbrev s_law_all_back : Stmt := top 36
abbrev s_law_done : Stmt := top 37
abbrev s_law_goes : Stmt := top 38
abbrev s_law : Stmt := top 39
theorem sc_is_whole : FnScope ["thing"] ["thing"] (defScope s_is_whole) := ⟨rfl, rfl, rfl, by decide +kernel, rfl, by decide +kernel, by decide +kernel⟩
theorem sc_need_hill : FnScope ["land", "place"] ["land", "place"] (defScope s_need_hill) := ⟨rfl, rfl, rfl, by decide +kernel, rfl, by decide +kernel, by decide +kernel⟩
theorem sc_slope : FnScope ["land", "a", "b"] ["land", "a", "b"] (defScope s_slope) := ⟨rfl, rfl, rfl, by decide +kernel, rfl, by decide +kernel, by decide +kernel⟩
theorem sc_steeper : FnScope ["one", "other"] ["one", "other"] (defScope s_steeper) := ⟨rfl, rfl, rfl, by decide +kernel, rfl, by decide +kernel, by decide +kernel⟩
theorem sc_behind : FnScope ["land", "a", "found", "best", "b", "now"] ["land", "a"] (defScope s_behind) := ⟨rfl, rfl, rfl, by decide +kernel, rfl, by decide +kernel, by decide +kernel⟩
theorem sc_sights : FnScope ["land", "found", "a", "b"] ["land"] (defScope s_sights) := ⟨rfl, rfl, rfl, by decide +kernel, rfl, by decide +kernel, by decide +kernel⟩
theorem sc_is_height : FnScope ["thing"] ["thing"] (defScope s_is_height) := ⟨rfl, rfl, rfl, by decide +kernel, rfl, by decide +kernel, by decide +kernel⟩
theorem sc_checked : FnScope ["land", "height"] ["land"] (defScope s_checked) := ⟨rfl, rfl, rfl, by decide +kernel, rfl, by decide +kernel, by decide +kernel⟩
theorem sc_lacking : FnScope ["pairs", "others", "there", "pair"] ["pairs", "others"] (defScope s_lacking) := ⟨rfl, rfl, rfl, by decide +kernel, rfl, by decide +kernel, by decide +kernel⟩
theorem sc_Land___init__ : FnScope ["self", "heights"] ["self", "heights"] (defScope s_Land___init__) := ⟨rfl, rfl, rfl, by decide +kernel, rfl, by decide +kernel, by decide +kernel⟩
theorem sc_Land_told : FnScope ["self"] ["self"] (defScope s_Land_told) := ⟨rfl, rfl, rfl, by decide +kernel, rfl, by decide +kernel, by decide +kernel⟩
theorem sc_Land_seen : FnScope ["self"] ["self"] (defScope s_Land_seen) := ⟨rfl, rfl, rfl, by decide +kernel, rfl, by decide +kernel, by decide +kernel⟩
theorem sc_Land_moved : FnScope ["self", "place", "by", "ahead", "later"] ["self", "place", "by"] (defScope s_Land_moved) := ⟨rfl, rfl, rfl, by decide +kernel, rfl, by decide +kernel, by decide +kernel⟩
theorem sc_Land_lift : FnScope ["self", "place", "by"] ["self", "place", "by"] (defScope s_Land_lift) := ⟨rfl, rfl, rfl, by decide +kernel, rfl, by decide +kernel, by decide +kernel⟩
theorem sc_Land_back : FnScope ["self", "place", "by"] ["self"] (defScope s_Land_back) := ⟨rfl, rfl, rfl, by decide +kernel, rfl, by decide +kernel, by decide +kernel⟩
theorem sc_law_sole : FnScope ["_law_error", "_law_many"] ["_law_error"] (defScope s_law_sole) := ⟨rfl, rfl, rfl, by decide +kernel, rfl, by decide +kernel, by decide +kernel⟩
theorem sc_law_whole : FnScope ["_law_found"] ["_law_found"] (defScope s_law_whole) := ⟨rfl, rfl, rfl, by decide +kernel, rfl, by decide +kernel, by decide +kernel⟩
theorem sc_law_cell_at : FnScope ["_law_script", "_law_k"] ["_law_script", "_law_k"] (defScope s_law_cell_at) := ⟨rfl, rfl, rfl, by decide +kernel, rfl, by decide +kernel, by decide +kernel⟩
theorem sc_law_sights_by : FnScope ["_law_land", "_law_found", "_law_low", "_law_rise", "_law_run", "_law_high", "_law_more"] ["_law_land"] (defScope s_law_sights_by) := ⟨rfl, rfl, rfl, by decide +kernel, rfl, by decide +kernel, by decide +kernel⟩
theorem sc_law_base : FnScope ["_law_error"] ["_law_error"] (defScope s_law_base) := ⟨rfl, rfl, rfl, by decide +kernel, rfl, by decide +kernel, by decide +kernel⟩
theorem sc_law_told : FnScope ["_law_land", "_law_place", "_law_by", "_law_error"] ["_law_land", "_law_place", "_law_by"] (defScope s_law_told) := ⟨rfl, rfl, rfl, by decide +kernel, rfl, by decide +kernel, by decide +kernel⟩
theorem sc_law_deed_by : FnScope ["_law_cell", "_law_heights", "_law_far", "_law_place", "_law_kind", "_law_rest", "_law_some"] ["_law_cell", "_law_heights"] (defScope s_law_deed_by) := ⟨rfl, rfl, rfl, by decide +kernel, rfl, by decide +kernel, by decide +kernel⟩
theorem sc_law_lacking : FnScope ["_law_pairs", "_law_others", "_law_there", "_law_pair"] ["_law_pairs", "_law_others"] (defScope s_law_lacking) := ⟨rfl, rfl, rfl, by decide +kernel, rfl, by decide +kernel, by decide +kernel⟩
theorem sc_law_due_by : FnScope ["_law_heights", "_law_place", "_law_by", "_law_ahead", "_law_later", "_law_k"] ["_law_heights", "_law_place", "_law_by"] (defScope s_law_due_by) := ⟨rfl, rfl, rfl, by decide +kernel, rfl, by decide +kernel, by decide +kernel⟩
theorem sc_law_alike : FnScope ["_law_found", "_law_due"] ["_law_found", "_law_due"] (defScope s_law_alike) := ⟨rfl, rfl, rfl, by decide +kernel, rfl, by decide +kernel, by decide +kernel⟩
theorem sc_law_kept : FnScope ["_law_told_here", "_law_found", "_law_good", "_law_pair", "_law_one", "_law_other"] ["_law_told_here", "_law_found"] (defScope s_law_kept) := ⟨rfl, rfl, rfl, by decide +kernel, rfl, by decide +kernel, by decide +kernel⟩
theorem sc_law_stands : FnScope ["_law_land", "_law_heights", "_law_told_here", "_law_seen"] ["_law_land", "_law_heights"] (defScope s_law_stands) := ⟨rfl, rfl, rfl, by decide +kernel, rfl, by decide +kernel, by decide +kernel⟩
theorem sc_law_lifted : FnScope ["_law_land", "_law_heights", "_law_done_here", "_law_turn", "_law_place"] ["_law_land", "_law_heights", "_law_done_here"] (defScope s_law_lifted) := ⟨rfl, rfl, rfl, by decide +kernel, rfl, by decide +kernel, by decide +kernel⟩
theorem sc_law_all_back : FnScope ["_law_land", "_law_heights", "_law_done_here", "_law_place", "_law_by"] ["_law_land", "_law_heights", "_law_done_here"] (defScope s_law_all_back) := ⟨rfl, rfl, rfl, by decide +kernel, rfl, by decide +kernel, by decide +kernel⟩
theorem sc_law_done : FnScope ["_law_land", "_law_heights", "_law_done_here", "_law_place", "_law_by", "_law_told_here", "_law_ahead", "_law_held"] ["_law_land", "_law_heights", "_law_done_here", "_law_place", "_law_by", "_law_told_here"] (defScope s_law_done) := ⟨rfl, rfl, rfl, by decide +kernel, rfl, by decide +kernel, by decide +kernel⟩
theorem sc_law_goes : FnScope ["_law_land", "_law_heights", "_law_done_here", "_law_place", "_law_by", "_law_told_here", "_law_due", "_law_found"] ["_law_land", "_law_heights", "_law_done_here", "_law_place", "_law_by", "_law_told_here"] (defScope s_law_goes) := ⟨rfl, rfl, rfl, by decide +kernel, rfl, by decide +kernel, by decide +kernel⟩
theorem sc_law : FnScope ["_law_script", "_law_size", "_law_deeds", "_law_tilt", "_law_begun", "_law_k", "_law_handed", "_law_land", "_law_other", "_law_heights", "_law_second", "_law_done_here", "_law_told_here", "_law_cell", "_law_place", "_law_due", "_law_found", "_law_by"] ["_law_script"] (defScope s_law) := ⟨rfl, rfl, rfl, by decide +kernel, rfl, by decide +kernel, by decide +kernel⟩
structure Txt (K : PySem.W.Frag) (mg : Str → Option Value) where
  a_is_whole : Addr
  d_is_whole : FuncData
  F_is_whole : Fun K "is_whole" "is_whole" s_is_whole a_is_whole d_is_whole
  b_is_whole : Binds K d_is_whole ["thing"] []
  g_is_whole : mg "is_whole" = some (.ref a_is_whole)
  a_need_hill : Addr
  d_need_hill : FuncData
  F_need_hill : Fun K "need_hill" "need_hill" s_need_hill a_need_hill d_need_hill
  b_need_hill : Binds K d_need_hill ["land", "place"] []
  g_need_hill : mg "need_hill" = some (.ref a_need_hill)
  a_slope : Addr
  d_slope : FuncData
  F_slope : Fun K "slope" "slope" s_slope a_slope d_slope
  b_slope : Binds K d_slope ["land", "a", "b"] []
  g_slope : mg "slope" = some (.ref a_slope)
  a_steeper : Addr
  d_steeper : FuncData
  F_steeper : Fun K "steeper" "steeper" s_steeper a_steeper d_steeper
  b_steeper : Binds K d_steeper ["one", "other"] []
  g_steeper : mg "steeper" = some (.ref a_steeper)
  a_behind : Addr
  d_behind : FuncData
  F_behind : Fun K "behind" "behind" s_behind a_behind d_behind
  b_behind : Binds K d_behind ["land", "a"] []
  g_behind : mg "behind" = some (.ref a_behind)
  a_sights : Addr
  d_sights : FuncData
  F_sights : Fun K "sights" "sights" s_sights a_sights d_sights
  b_sights : Binds K d_sights ["land"] []
  g_sights : mg "sights" = some (.ref a_sights)
  a_is_height : Addr
  d_is_height : FuncData
  F_is_height : Fun K "is_height" "is_height" s_is_height a_is_height d_is_height
  b_is_height : Binds K d_is_height ["thing"] []
  g_is_height : mg "is_height" = some (.ref a_is_height)
  a_checked : Addr
  d_checked : FuncData
  F_checked : Fun K "checked" "checked" s_checked a_checked d_checked
  b_checked : Binds K d_checked ["land"] []
  g_checked : mg "checked" = some (.ref a_checked)
  a_lacking : Addr
  d_lacking : FuncData
  F_lacking : Fun K "lacking" "lacking" s_lacking a_lacking d_lacking
  b_lacking : Binds K d_lacking ["pairs", "others"] []
  g_lacking : mg "lacking" = some (.ref a_lacking)
  a_Land___init__ : Addr
  d_Land___init__ : FuncData
  F_Land___init__ : Fun K "__init__" "Land.__init__" s_Land___init__ a_Land___init__ d_Land___init__
  b_Land___init__ : Binds K d_Land___init__ ["self", "heights"] []
  a_Land_told : Addr
  d_Land_told : FuncData
  F_Land_told : Fun K "told" "Land.told" s_Land_told a_Land_told d_Land_told
  b_Land_told : Binds K d_Land_told ["self"] []
  a_Land_seen : Addr
  d_Land_seen : FuncData
  F_Land_seen : Fun K "seen" "Land.seen" s_Land_seen a_Land_seen d_Land_seen
  b_Land_seen : Binds K d_Land_seen ["self"] []
  a_Land_moved : Addr
  d_Land_moved : FuncData
  F_Land_moved : Fun K "moved" "Land.moved" s_Land_moved a_Land_moved d_Land_moved
  b_Land_moved : Binds K d_Land_moved ["self", "place", "by"] []
  a_Land_lift : Addr
  d_Land_lift : FuncData
  F_Land_lift : Fun K "lift" "Land.lift" s_Land_lift a_Land_lift d_Land_lift
  b_Land_lift : Binds K d_Land_lift ["self", "place", "by"] []
  a_Land_back : Addr
  d_Land_back : FuncData
  F_Land_back : Fun K "back" "Land.back" s_Land_back a_Land_back d_Land_back
  b_Land_back : Binds K d_Land_back ["self"] []
  a_law_sole : Addr
  d_law_sole : FuncData
  F_law_sole : Fun K "_law_sole" "_law_sole" s_law_sole a_law_sole d_law_sole
  b_law_sole : Binds K d_law_sole ["_law_error"] []
  g_law_sole : mg "_law_sole" = some (.ref a_law_sole)
  a_law_whole : Addr
  d_law_whole : FuncData
  F_law_whole : Fun K "_law_whole" "_law_whole" s_law_whole a_law_whole d_law_whole
  b_law_whole : Binds K d_law_whole ["_law_found"] []
  g_law_whole : mg "_law_whole" = some (.ref a_law_whole)
  a_law_cell_at : Addr
  d_law_cell_at : FuncData
  F_law_cell_at : Fun K "_law_cell_at" "_law_cell_at" s_law_cell_at a_law_cell_at d_law_cell_at
  b_law_cell_at : Binds K d_law_cell_at ["_law_script", "_law_k"] []
  g_law_cell_at : mg "_law_cell_at" = some (.ref a_law_cell_at)
  a_law_sights_by : Addr
  d_law_sights_by : FuncData
  F_law_sights_by : Fun K "_law_sights_by" "_law_sights_by" s_law_sights_by a_law_sights_by d_law_sights_by
  b_law_sights_by : Binds K d_law_sights_by ["_law_land"] []
  g_law_sights_by : mg "_law_sights_by" = some (.ref a_law_sights_by)
  a_law_base : Addr
  d_law_base : FuncData
  F_law_base : Fun K "_law_base" "_law_base" s_law_base a_law_base d_law_base
  b_law_base : Binds K d_law_base ["_law_error"] []
  g_law_base : mg "_law_base" = some (.ref a_law_base)
  a_law_told : Addr
  d_law_told : FuncData
  F_law_told : Fun K "_law_told" "_law_told" s_law_told a_law_told d_law_told
  b_law_told : Binds K d_law_told ["_law_land", "_law_place", "_law_by"] []
  g_law_told : mg "_law_told" = some (.ref a_law_told)
  a_law_deed_by : Addr
  d_law_deed_by : FuncData
  F_law_deed_by : Fun K "_law_deed_by" "_law_deed_by" s_law_deed_by a_law_deed_by d_law_deed_by
  b_law_deed_by : Binds K d_law_deed_by ["_law_cell", "_law_heights"] []
  g_law_deed_by : mg "_law_deed_by" = some (.ref a_law_deed_by)
  a_law_lacking : Addr
  d_law_lacking : FuncData
  F_law_lacking : Fun K "_law_lacking" "_law_lacking" s_law_lacking a_law_lacking d_law_lacking
  b_law_lacking : Binds K d_law_lacking ["_law_pairs", "_law_others"] []
  g_law_lacking : mg "_law_lacking" = some (.ref a_law_lacking)
  a_law_due_by : Addr
  d_law_due_by : FuncData
  F_law_due_by : Fun K "_law_due_by" "_law_due_by" s_law_due_by a_law_due_by d_law_due_by
  b_law_due_by : Binds K d_law_due_by ["_law_heights", "_law_place", "_law_by"] []
  g_law_due_by : mg "_law_due_by" = some (.ref a_law_due_by)
  a_law_alike : Addr
  d_law_alike : FuncData
  F_law_alike : Fun K "_law_alike" "_law_alike" s_law_alike a_law_alike d_law_alike
  b_law_alike : Binds K d_law_alike ["_law_found", "_law_due"] []
  g_law_alike : mg "_law_alike" = some (.ref a_law_alike)
  a_law_kept : Addr
  d_law_kept : FuncData
  F_law_kept : Fun K "_law_kept" "_law_kept" s_law_kept a_law_kept d_law_kept
  b_law_kept : Binds K d_law_kept ["_law_told_here", "_law_found"] []
  g_law_kept : mg "_law_kept" = some (.ref a_law_kept)
  a_law_stands : Addr
  d_law_stands : FuncData
  F_law_stands : Fun K "_law_stands" "_law_stands" s_law_stands a_law_stands d_law_stands
  b_law_stands : Binds K d_law_stands ["_law_land", "_law_heights"] []
  g_law_stands : mg "_law_stands" = some (.ref a_law_stands)
  a_law_lifted : Addr
  d_law_lifted : FuncData
  F_law_lifted : Fun K "_law_lifted" "_law_lifted" s_law_lifted a_law_lifted d_law_lifted
  b_law_lifted : Binds K d_law_lifted ["_law_land", "_law_heights", "_law_done_here"] []
  g_law_lifted : mg "_law_lifted" = some (.ref a_law_lifted)
  a_law_all_back : Addr
  d_law_all_back : FuncData
  F_law_all_back : Fun K "_law_all_back" "_law_all_back" s_law_all_back a_law_all_back d_law_all_back
  b_law_all_back : Binds K d_law_all_back ["_law_land", "_law_heights", "_law_done_here"] []
  g_law_all_back : mg "_law_all_back" = some (.ref a_law_all_back)
  a_law_done : Addr
  d_law_done : FuncData
  F_law_done : Fun K "_law_done" "_law_done" s_law_done a_law_done d_law_done
  b_law_done : Binds K d_law_done ["_law_land", "_law_heights", "_law_done_here", "_law_place", "_law_by", "_law_told_here"] []
  g_law_done : mg "_law_done" = some (.ref a_law_done)
  a_law_goes : Addr
  d_law_goes : FuncData
  F_law_goes : Fun K "_law_goes" "_law_goes" s_law_goes a_law_goes d_law_goes
  b_law_goes : Binds K d_law_goes ["_law_land", "_law_heights", "_law_done_here", "_law_place", "_law_by", "_law_told_here"] []
  g_law_goes : mg "_law_goes" = some (.ref a_law_goes)
  a_law : Addr
  d_law : FuncData
  F_law : Fun K "law" "law" s_law a_law d_law
  b_law : Binds K d_law ["_law_script"] []
  g_law : mg "law" = some (.ref a_law)
  c_HillError : Addr
  g_HillError : mg "HillError" = some (.ref c_HillError)
  x_HillError : PySem.W.excIn K c_HillError [.type "ValueError", .type "Exception", .type "BaseException", .type "object"] "ValueError.__new__" = true
  k_HillError : PySem.W.keepIn K (.ref c_HillError) = true
  e_HillError : PySem.W.subIn K (.ref c_HillError) (.type "BaseException") = some true
  t_HillError : PySem.W.typeIn K (.ref c_HillError) = some (.type "type")
  i_HillError : PySem.W.isClsIn K c_HillError = true
  c_NoLand : Addr
  g_NoLand : mg "NoLand" = some (.ref c_NoLand)
  x_NoLand : PySem.W.excIn K c_NoLand [.type "ValueError", .type "Exception", .type "BaseException", .type "object"] "ValueError.__new__" = true
  k_NoLand : PySem.W.keepIn K (.ref c_NoLand) = true
  e_NoLand : PySem.W.subIn K (.ref c_NoLand) (.type "BaseException") = some true
  t_NoLand : PySem.W.typeIn K (.ref c_NoLand) = some (.type "type")
  i_NoLand : PySem.W.isClsIn K c_NoLand = true
  c_NoHill : Addr
  g_NoHill : mg "NoHill" = some (.ref c_NoHill)
  x_NoHill : PySem.W.excIn K c_NoHill [.type "ValueError", .type "Exception", .type "BaseException", .type "object"] "ValueError.__new__" = true
  k_NoHill : PySem.W.keepIn K (.ref c_NoHill) = true
  e_NoHill : PySem.W.subIn K (.ref c_NoHill) (.type "BaseException") = some true
  t_NoHill : PySem.W.typeIn K (.ref c_NoHill) = some (.type "type")
  i_NoHill : PySem.W.isClsIn K c_NoHill = true
  c_SameHill : Addr
  g_SameHill : mg "SameHill" = some (.ref c_SameHill)
  x_SameHill : PySem.W.excIn K c_SameHill [.type "ValueError", .type "Exception", .type "BaseException", .type "object"] "ValueError.__new__" = true
  k_SameHill : PySem.W.keepIn K (.ref c_SameHill) = true
  e_SameHill : PySem.W.subIn K (.ref c_SameHill) (.type "BaseException") = some true
  t_SameHill : PySem.W.typeIn K (.ref c_SameHill) = some (.type "type")
  i_SameHill : PySem.W.isClsIn K c_SameHill = true
  c_TooHigh : Addr
  g_TooHigh : mg "TooHigh" = some (.ref c_TooHigh)
  x_TooHigh : PySem.W.excIn K c_TooHigh [.type "ValueError", .type "Exception", .type "BaseException", .type "object"] "ValueError.__new__" = true
  k_TooHigh : PySem.W.keepIn K (.ref c_TooHigh) = true
  e_TooHigh : PySem.W.subIn K (.ref c_TooHigh) (.type "BaseException") = some true
  t_TooHigh : PySem.W.typeIn K (.ref c_TooHigh) = some (.type "type")
  i_TooHigh : PySem.W.isClsIn K c_TooHigh = true
  c_NothingDone : Addr
  g_NothingDone : mg "NothingDone" = some (.ref c_NothingDone)
  x_NothingDone : PySem.W.excIn K c_NothingDone [.type "ValueError", .type "Exception", .type "BaseException", .type "object"] "ValueError.__new__" = true
  k_NothingDone : PySem.W.keepIn K (.ref c_NothingDone) = true
  e_NothingDone : PySem.W.subIn K (.ref c_NothingDone) (.type "BaseException") = some true
  t_NothingDone : PySem.W.typeIn K (.ref c_NothingDone) = some (.type "type")
  i_NothingDone : PySem.W.isClsIn K c_NothingDone = true
  c_Land : Addr
  g_Land : mg "Land" = some (.ref c_Land)
  cl_Land : Cls K c_Land
  mk_Land : Mk K c_Land a_Land___init__
  m_Land___init__ : Meth K c_Land "__init__" a_Land___init__
  m_Land_told : Meth K c_Land "told" a_Land_told
  m_Land_seen : Meth K c_Land "seen" a_Land_seen
  m_Land_moved : Meth K c_Land "moved" a_Land_moved
  m_Land_lift : Meth K c_Land "lift" a_Land_lift
  m_Land_back : Meth K c_Land "back" a_Land_back
  s_NoHill_NoHill : PySem.W.subIn K (.ref c_NoHill) (.ref c_NoHill) = some true
  s_TooHigh_NoHill : PySem.W.subIn K (.ref c_TooHigh) (.ref c_NoHill) = some false
  s_TooHigh_TooHigh : PySem.W.subIn K (.ref c_TooHigh) (.ref c_TooHigh) = some true
  s_NothingDone_NoHill : PySem.W.subIn K (.ref c_NothingDone) (.ref c_NoHill) = some false
  s_NothingDone_TooHigh : PySem.W.subIn K (.ref c_NothingDone) (.ref c_TooHigh) = some false
  s_NothingDone_NothingDone : PySem.W.subIn K (.ref c_NothingDone) (.ref c_NothingDone) = some true
  hn_obj : PySem.W.specialIn K (.builtin "object.__class__") "__get__" = some (some (.builtin "getset_descriptor.__get__"))
  ht_obj : PySem.W.takesIn K (.builtin "object.__class__") = some true
  hg_NoHill : PySem.W.findIn K (.ref c_NoHill) "__getattribute__" = some (some (.builtin "BaseException.__getattribute__"))
  hk_NoHill : PySem.W.findIn K (.ref c_NoHill) "__getattr__" = some none
  hd_NoHill : PySem.W.hasDictIn K c_NoHill = true
  ha_NoHill : PySem.W.findIn K (.ref c_NoHill) "__class__" = some (some (.builtin "object.__class__"))
  hm_NoHill : PySem.W.mroIn K c_NoHill (.type "object") = some true
  kv_NoHill : PySem.W.kitOne K (.ref c_NoHill) (.type "ValueError") = some true
  kt_NoHill_NoLand : PySem.W.kitOne K (.ref c_NoHill) (.ref c_NoLand) = some false
  kt_NoHill_NoHill : PySem.W.kitOne K (.ref c_NoHill) (.ref c_NoHill) = some true
  kt_NoHill_SameHill : PySem.W.kitOne K (.ref c_NoHill) (.ref c_SameHill) = some false
  kt_NoHill_TooHigh : PySem.W.kitOne K (.ref c_NoHill) (.ref c_TooHigh) = some false
  kt_NoHill_NothingDone : PySem.W.kitOne K (.ref c_NoHill) (.ref c_NothingDone) = some false
  kt_NoHill_HillError : PySem.W.kitOne K (.ref c_NoHill) (.ref c_HillError) = some true
  hg_TooHigh : PySem.W.findIn K (.ref c_TooHigh) "__getattribute__" = some (some (.builtin "BaseException.__getattribute__"))
  hk_TooHigh : PySem.W.findIn K (.ref c_TooHigh) "__getattr__" = some none
  hd_TooHigh : PySem.W.hasDictIn K c_TooHigh = true
  ha_TooHigh : PySem.W.findIn K (.ref c_TooHigh) "__class__" = some (some (.builtin "object.__class__"))
  hm_TooHigh : PySem.W.mroIn K c_TooHigh (.type "object") = some true
  kv_TooHigh : PySem.W.kitOne K (.ref c_TooHigh) (.type "ValueError") = some true
  kt_TooHigh_NoLand : PySem.W.kitOne K (.ref c_TooHigh) (.ref c_NoLand) = some false
  kt_TooHigh_NoHill : PySem.W.kitOne K (.ref c_TooHigh) (.ref c_NoHill) = some false
  kt_TooHigh_SameHill : PySem.W.kitOne K (.ref c_TooHigh) (.ref c_SameHill) = some false
  kt_TooHigh_TooHigh : PySem.W.kitOne K (.ref c_TooHigh) (.ref c_TooHigh) = some true
  kt_TooHigh_NothingDone : PySem.W.kitOne K (.ref c_TooHigh) (.ref c_NothingDone) = some false
  kt_TooHigh_HillError : PySem.W.kitOne K (.ref c_TooHigh) (.ref c_HillError) = some true
  hg_NothingDone : PySem.W.findIn K (.ref c_NothingDone) "__getattribute__" = some (some (.builtin "BaseException.__getattribute__"))
  hk_NothingDone : PySem.W.findIn K (.ref c_NothingDone) "__getattr__" = some none
  hd_NothingDone : PySem.W.hasDictIn K c_NothingDone = true
  ha_NothingDone : PySem.W.findIn K (.ref c_NothingDone) "__class__" = some (some (.builtin "object.__class__"))
  hm_NothingDone : PySem.W.mroIn K c_NothingDone (.type "object") = some true
  kv_NothingDone : PySem.W.kitOne K (.ref c_NothingDone) (.type "ValueError") = some true
  kt_NothingDone_NoLand : PySem.W.kitOne K (.ref c_NothingDone) (.ref c_NoLand) = some false
  kt_NothingDone_NoHill : PySem.W.kitOne K (.ref c_NothingDone) (.ref c_NoHill) = some false
  kt_NothingDone_SameHill : PySem.W.kitOne K (.ref c_NothingDone) (.ref c_SameHill) = some false
  kt_NothingDone_TooHigh : PySem.W.kitOne K (.ref c_NothingDone) (.ref c_TooHigh) = some false
  kt_NothingDone_NothingDone : PySem.W.kitOne K (.ref c_NothingDone) (.ref c_NothingDone) = some true
  kt_NothingDone_HillError : PySem.W.kitOne K (.ref c_NothingDone) (.ref c_HillError) = some true
  na_hills : NoAttr K c_Land "hills"
  na_done : NoAttr K c_Land "done"
  w_MOST_HILLS : Tok
  g_MOST_HILLS : mg "MOST_HILLS" = some (.int 200 w_MOST_HILLS)
  w_MOST_HEIGHT : Tok
  g_MOST_HEIGHT : mg "MOST_HEIGHT" = some (.int 1000000000000000000 w_MOST_HEIGHT)
  n_ValueError : mg "ValueError" = none
  n_all : mg "all" = none
  n_bool : mg "bool" = none
  n_int : mg "int" = none
  n_isinstance : mg "isinstance" = none
  n_len : mg "len" = none
  n_list : mg "list" = none
  n_range : mg "range" = none
  n_str : mg "str" = none
  n_tuple : mg "tuple" = none
section
variable {P : Program} {w : World} {K : PySem.W.Frag} {mg : Str → Option Value} {base : Heap}
theorem exm_of {S C : Addr} {b : Bool} (h1 : PySem.W.subIn K (.ref C) (.type "BaseException") = some true) (h2 : PySem.W.isClsIn K C = true) (h3 : PySem.W.typeIn K (.ref C) = some (.type "type")) (h4 : PySem.W.subIn K (.ref S) (.ref C) = some b) :
    PySem.W.exmOne K (.ref S) (.ref C) = some b := by
  have e1 : (PySem.W.subIn K (.ref C) (.type "BaseException") == some true) = true := by rw [h1] <;> rfl
  have e2 : ((PySem.W.clsIn K C).isSome && PySem.W.typeIn K (.ref C) == some (.type "type")) = true := by
    have h2' : (PySem.W.clsIn K C).isSome = true := h2
    rw [h2', h3] <;> rfl
  show (if (PySem.W.subIn K (.ref C) (.type "BaseException") == some true) = true then (if ((PySem.W.clsIn K C).isSome && PySem.W.typeIn K (.ref C) == some (.type "type")) = true then PySem.W.subIn K (.ref S) (.ref C) else none) else none) = some b
  rw [if_pos e1, if_pos e2]
  exact h4
theorem atI_mem {xs : List V} {i : Int} (h0 : 0 ≤ i) (h : i < xs.length) : ∃ x, x ∈ xs ∧ atI xs i = some x := by
  obtain ⟨k, rfl⟩ : ∃ k : Nat, i = (k : Int) := ⟨i.toNat, by omega⟩
  have hk : k < xs.length := by omega
  exact ⟨xs[k], List.getElem_mem hk, atI_nat (List.getElem?_eq_getElem hk)⟩

/-! ## sole -/
/-- which errors may be asked -/
structure Sole (T : Txt K mg) (D : Addr) (b1 b2 b3 b4 b5 : Bool) : Prop where
  ec : ExcC K D
  k1 : PySem.W.kitOne K (.ref D) (.ref T.c_NoLand) = some b1
  k2 : PySem.W.kitOne K (.ref D) (.ref T.c_NoHill) = some b2
  k3 : PySem.W.kitOne K (.ref D) (.ref T.c_SameHill) = some b3
  k4 : PySem.W.kitOne K (.ref D) (.ref T.c_TooHigh) = some b4
  k5 : PySem.W.kitOne K (.ref D) (.ref T.c_NothingDone) = some b5
  k6 : PySem.W.kitOne K (.ref D) (.ref T.c_HillError) = some true
  k7 : PySem.W.kitOne K (.ref D) (.type "ValueError") = some true
  one : (0 : Int) + (if b1 = true then 1 else 0) + (if b2 = true then 1 else 0) + (if b3 = true then 1 else 0) + (if b4 = true then 1 else 0) + (if b5 = true then 1 else 0) = 1
def spSole (T : Txt K mg) (a : Addr) (cls : Value) (d : Option Addr) : Sp := fun vs H Q _ => vs = [.ref a] ∧ d = none ∧ (∃ D b1 b2 b3 b4 b5, cls = .ref D ∧ Sole T D b1 b2 b3 b4 b5) ∧ Q (.bl true) H
theorem okP_law_sole (T : Txt K mg) {p : Addr × Obj} {cls : Value} {d : Option Addr} (hz : L2N.Zn cls d p.2) (hf : ∃ vs, p.2.data = .fields vs) : FnP P w K mg base 1 T.a_law_sole T.d_law_sole ["_law_error"] p (spSole T p.1 cls d) := by
  refine okP T.F_law_sole sc_law_sole (fun vs H Q E h => ?_) (fun cdv A outer s H vs Q E hot hr h => ?_)
  · obtain ⟨rfl, _⟩ := h
    rfl
  · obtain ⟨rfl, rfl, ⟨D, b1, b2, b3, b4, b5, rfl, S⟩, q⟩ := h
    have C := S.ec
    have hz' : Zc (.ref D) none p.2 := hz.zc
    refine ⟨_, (pss_cons (ps_set (i := 1) sc_law_sole.nd rfl (Or.inl rfl) pe_int)
      (pss_cons (ps_set (i := 1) sc_law_sole.nd rfl (Or.inl rfl) (pe_op op_add (pv 1) (pe_callTy call_int1 rfl T.n_int (by decide +kernel) (pa_cons (pe_callB (call_isP (p := p) (show p ∈ [p] from List.mem_singleton.mpr rfl) C hz' hf) rfl T.n_isinstance (by decide +kernel) (pa_cons (pv 0) (pa_cons (pe_glob (v := .ref T.c_NoLand) rfl T.g_NoLand rfl) pa_nil))) pa_nil))))
      (pss_cons (ps_set (i := 1) sc_law_sole.nd rfl (Or.inl rfl) (pe_op op_add (pv 1) (pe_callTy call_int1 rfl T.n_int (by decide +kernel) (pa_cons (pe_callB (call_isP (p := p) (show p ∈ [p] from List.mem_singleton.mpr rfl) C hz' hf) rfl T.n_isinstance (by decide +kernel) (pa_cons (pv 0) (pa_cons (pe_glob (v := .ref T.c_NoHill) rfl T.g_NoHill rfl) pa_nil))) pa_nil))))
      (pss_cons (ps_set (i := 1) sc_law_sole.nd rfl (Or.inl rfl) (pe_op op_add (pv 1) (pe_callTy call_int1 rfl T.n_int (by decide +kernel) (pa_cons (pe_callB (call_isP (p := p) (show p ∈ [p] from List.mem_singleton.mpr rfl) C hz' hf) rfl T.n_isinstance (by decide +kernel) (pa_cons (pv 0) (pa_cons (pe_glob (v := .ref T.c_SameHill) rfl T.g_SameHill rfl) pa_nil))) pa_nil))))
      (pss_cons (ps_set (i := 1) sc_law_sole.nd rfl (Or.inl rfl) (pe_op op_add (pv 1) (pe_callTy call_int1 rfl T.n_int (by decide +kernel) (pa_cons (pe_callB (call_isP (p := p) (show p ∈ [p] from List.mem_singleton.mpr rfl) C hz' hf) rfl T.n_isinstance (by decide +kernel) (pa_cons (pv 0) (pa_cons (pe_glob (v := .ref T.c_TooHigh) rfl T.g_TooHigh rfl) pa_nil))) pa_nil))))
      (pss_cons (ps_set (i := 1) sc_law_sole.nd rfl (Or.inl rfl) (pe_op op_add (pv 1) (pe_callTy call_int1 rfl T.n_int (by decide +kernel) (pa_cons (pe_callB (call_isP (p := p) (show p ∈ [p] from List.mem_singleton.mpr rfl) C hz' hf) rfl T.n_isinstance (by decide +kernel) (pa_cons (pv 0) (pa_cons (pe_glob (v := .ref T.c_NothingDone) rfl T.g_NothingDone rfl) pa_nil))) pa_nil))))
      (pss_one (ps_ret (pe_and (pe_cmpR op_eq (pv 1) pe_int (nomark _)) (pe_and (pe_callB (call_isP (p := p) (show p ∈ [p] from List.mem_singleton.mpr rfl) C hz' hf) rfl T.n_isinstance (by decide +kernel) (pa_cons (pv 0) (pa_cons (pe_glob (v := .ref T.c_HillError) rfl T.g_HillError rfl) pa_nil))) (pe_one (pe_callB (call_isP (p := p) (show p ∈ [p] from List.mem_singleton.mpr rfl) C hz' hf) rfl T.n_isinstance (by decide +kernel) (pa_cons (pv 0) (pa_cons (pe_bltn (v := .ty "ValueError") (by rfl) T.n_ValueError (by decide +kernel) rfl) pa_nil)))))))))))))), ?_⟩
    walk_at "rd"
    refine rd_isE S.k1 ?_
    refine .inr ⟨_, rfl, ?_⟩
    walk_at "rd"
    refine rd_isE S.k2 ?_
    refine .inr ⟨_, rfl, ?_⟩
    walk_at "rd"
    refine rd_isE S.k3 ?_
    refine .inr ⟨_, rfl, ?_⟩
    walk_at "rd"
    refine rd_isE S.k4 ?_
    refine .inr ⟨_, rfl, ?_⟩
    walk_at "rd"
    refine rd_isE S.k5 ?_
    refine .inr ⟨_, rfl, ?_⟩
    walk_at "rd"
    rw [S.one]
    walk_at "rd"
    refine rd_yes (by simp) ?_
    walk_at "rd"
    refine rd_isE S.k6 ?_
    walk_at "rd"
    refine rd_isT S.k7 ?_
    exact q

theorem ok_law_cell_at (T : Txt K mg) : FnOk P w K mg base CX0 1 T.a_law_cell_at T.d_law_cell_at ["_law_script", "_law_k"] (spCell K) := by
  refine T.F_law_cell_at.ok sc_law_cell_at (fun vs H Q E h => ?_) (fun cdv A outer s H vs Q E hr h => ⟨_, (pss_cons (ps_if (pt_cmpR op_lt (pv 1) (pe_callB (call_lenK (K := K) rfl) rfl T.n_len (by decide +kernel) (pa_cons (pv 0) pa_nil)) (nomark _)) (pss_one (ps_ret (pe_ix (ix_listK (K := K) rfl) (pv 0) (pv 1) (fun _ _ => rfl)))) pss_nil)
      (pss_one (ps_ret pe_int))), ?_⟩)
  · obtain ⟨l, ns, k, rfl, _⟩ := h
    rfl
  · obtain ⟨l, ns, k, rfl, h0, hS, q⟩ := h
    walk_at "rd"
    refine ite2 (fun c => ?_) (fun c => ?_)
    · have c' : k < (ns.length : Int) := by simpa using c
      walk_at "rd"
      exact rd_ixL hS (IL_at h0 c') q
    · have c' : ¬ k < (ns.length : Int) := by simpa using c
      walk_at "rd"
      have e : cell ns k.toNat = 0 := by
        unfold cell
        rw [List.getD_eq_getElem?_getD, List.getElem?_eq_none (by omega)]
        rfl
      rw [e] at q
      exact q

theorem ok_law_whole (T : Txt K mg) : FnOk P w K mg base CX0 1 T.a_law_whole T.d_law_whole ["_law_found"] (spWhole K) := by
  refine T.F_law_whole.ok sc_law_whole (fun vs H Q E h => ?_) (fun cdv A outer s H vs Q E hr h => ⟨_, (pss_one (ps_ret (pe_and (pe_callB (call_isiK0 (K := K) rfl) rfl T.n_isinstance (by decide +kernel) (pa_cons (pv 0) (pa_cons (pe_bltn (v := .ty "int") (by rfl) T.n_int (by decide +kernel) rfl) pa_nil))) (pe_one (pe_not (pe_callB (call_isiK0 (K := K) rfl) rfl T.n_isinstance (by decide +kernel) (pa_cons (pv 0) (pa_cons (pe_bltn (v := .ty "bool") (by rfl) T.n_bool (by decide +kernel) rfl) pa_nil)))))))), ?_⟩)
  · obtain ⟨x, r, rfl, _⟩ := h
    rfl
  · exact whole_run h

theorem ok_is_whole (T : Txt K mg) : FnOk P w K mg base CX0 1 T.a_is_whole T.d_is_whole ["thing"] (spWhole K) := by
  refine T.F_is_whole.ok sc_is_whole (fun vs H Q E h => ?_) (fun cdv A outer s H vs Q E hr h => ⟨_, (pss_one (ps_ret (pe_and (pe_callB (call_isiK0 (K := K) rfl) rfl T.n_isinstance (by decide +kernel) (pa_cons (pv 0) (pa_cons (pe_bltn (v := .ty "int") (by rfl) T.n_int (by decide +kernel) rfl) pa_nil))) (pe_one (pe_not (pe_callB (call_isiK0 (K := K) rfl) rfl T.n_isinstance (by decide +kernel) (pa_cons (pv 0) (pa_cons (pe_bltn (v := .ty "bool") (by rfl) T.n_bool (by decide +kernel) rfl) pa_nil)))))))), ?_⟩)
  · obtain ⟨x, r, rfl, _⟩ := h
    rfl
  · exact whole_run h

/-! ## heights, lists of heights -/
/-- what is_height answers of a value -/
def Ht (K : PySem.W.Frag) (H : Hp) (x : V) (b : Bool) : Prop := ∃ r, Whole K H x r ∧ ((r = false ∧ b = false) ∨ ∃ i : Int, r = true ∧ x = .int i ∧ b = decide (-1000000000000000000 ≤ i ∧ i ≤ 1000000000000000000))
def spIsHt (K : PySem.W.Frag) : Sp := fun vs H Q _ => ∃ x b, vs = [x] ∧ Ht K H x b ∧ Q (.bl b) H
theorem ok_is_height (T : Txt K mg) : FnOk P w K mg base CX0 2 T.a_is_height T.d_is_height ["thing"] (spIsHt K) := by
  refine T.F_is_height.ok sc_is_height (fun vs H Q E h => ?_) (fun cdv A outer s H vs Q E hr h => ⟨_, (pss_one (ps_ret (pe_and (pe_call (ok_is_whole T) (hr.mono (by decide)) rfl T.g_is_whole T.F_is_whole.kp T.b_is_whole .nil pass0 (pa_cons (pv 0) pa_nil)) (pe_one (pe_chain op_le op_le (pe_un un_neg (pe_glob (v := .int 1000000000000000000) rfl T.g_MOST_HEIGHT ⟨_, rfl⟩)) (pv 0) (pe_glob (v := .int 1000000000000000000) rfl T.g_MOST_HEIGHT ⟨_, rfl⟩)))))), ?_⟩)
  · obtain ⟨x, b, rfl, _⟩ := h
    rfl
  · obtain ⟨x, b, rfl, ⟨r, hw, hr⟩, q⟩ := h
    walk_at "rd"
    refine ⟨x, r, rfl, hw, ?_⟩
    rcases hr with ⟨rfl, rfl⟩ | ⟨i, rfl, rfl, rfl⟩
    · walk_at "rd"
      exact q
    · walk_at "rd"
      refine ite2 (fun c => ?_) (fun c => ?_)
      · have c' : -1000000000000000000 ≤ i := of_decide_eq_true c
        walk_at "rd"
        have e : decide (i ≤ 1000000000000000000) = decide (-1000000000000000000 ≤ i ∧ i ≤ 1000000000000000000) := decide_eq_decide.mpr ⟨fun h => ⟨c', h⟩, fun h => h.2⟩
        rw [e]
        exact q
      · have c' : ¬ -1000000000000000000 ≤ i := fun z => c (decide_eq_true z)
        walk_at "rd"
        rw [decide_eq_false (fun h => c' h.1)] at q
        exact q
/-- what checked asks -/
def spChecked (K : PySem.W.Frag) (C : Addr) : Sp := fun vs H Q E => ∃ x, vs = [x] ∧
  ((∃ t, TyX K H x (.type t) ∧ kitB t "list" = some false ∧ E (.ref C) none H) ∨
   (∃ (l : Addr) (xs : List V) (g : V → Bool), x = .ref l ∧ H l = some (.lst xs) ∧ xs.length ≤ 90000 ∧ (∀ H' v, Same H H' → v ∈ xs → Ht K H' v (g v)) ∧
     ((1 ≤ xs.length ∧ xs.length ≤ 200) ∧ xs.all g = true → ∀ D H', Same H H' → H D = none → H' D = some (.lst xs) → Q (.ref D) H') ∧
     (¬ ((1 ≤ xs.length ∧ xs.length ≤ 200) ∧ xs.all g = true) → ∀ H', Same H H' → E (.ref C) none H')))
theorem ok_checked (T : Txt K mg) : FnOk P w K mg base (L2N.CX P w) 3 T.a_checked T.d_checked ["land"] (spChecked K T.c_NoLand) := by
  refine okN T.F_checked sc_checked (fun vs H Q E h => ?_) (fun cdv A outer s H vs Q E hr h => ⟨_, (pss_cons (ps_if (PW.pt (pw_or (pt_not (pt_val (pe_callB (call_isiK0 (K := K) rfl) rfl T.n_isinstance (by decide +kernel) (pa_cons (pv 0) (pa_cons (pe_bltn (v := .ty "list") (by rfl) T.n_list (by decide +kernel) rfl) pa_nil))))) (pw_or1 (pt_not (pt_chain op_le op_le pe_int (pe_callB (call_lenK (K := K) rfl) rfl T.n_len (by decide +kernel) (pa_cons (pv 0) pa_nil)) (pe_glob (v := .int 200) rfl T.g_MOST_HILLS ⟨_, rfl⟩)))))) (pss_one (L2N.ps_raise rfl (L2N.takes_of rfl rfl rfl rfl) (L2N.pmk_own PySem.F.excBase_ValueError T.x_NoLand T.g_NoLand T.k_NoLand (raises_own T.e_NoLand T.t_NoLand) (by rfl)))) pss_nil)
      (pss_cons (ps_if (pt_not (pt_val (pe_callB (cr_allK (K := K) rfl rfl) rfl T.n_all (by decide +kernel) (pa_cons (pe_lc (own := [("height", 1)]) (g := gName 1) rfl sc_checked.nd (pi_listK (K := K) rfl (pv 0)) (blkOk_by (own := [("height", 1)]) (N := ["land", "height"]) (sc := defScope s_checked) (by decide +kernel)) (fun _ _ _ _ _ => (pg_name (i := 1) sc_checked.nd rfl (Or.inl rfl))) (fun _ _ _ _ _ => pts_nil) (fun _ _ _ _ _ => (pe_call (ok_is_height T) (hr.mono (by decide)) rfl T.g_is_height T.F_is_height.kp T.b_is_height .nil pass0 (pa_cons (pv 1) pa_nil)))) pa_nil)))) (pss_one (L2N.ps_raise rfl (L2N.takes_of rfl rfl rfl rfl) (L2N.pmk_own PySem.F.excBase_ValueError T.x_NoLand T.g_NoLand T.k_NoLand (raises_own T.e_NoLand T.t_NoLand) (by rfl)))) pss_nil)
      (pss_one (ps_ret (pe_callTy (call_listK (K := K) rfl) rfl T.n_list (by decide +kernel) (pa_cons (pv 0) pa_nil)))))), ?_⟩)
  · obtain ⟨x, rfl, _⟩ := h
    rfl
  · obtain ⟨x, rfl, ⟨t, ty, kt, e⟩ | ⟨l, xs, g, rfl, hS, hx, hg, q, e⟩⟩ := h
    · walk_at "rd"
      refine rd_isi ty kt ?_
      walk_at "rd"
      exact e
    · walk_at "rd"
      refine rd_isi (b := true) (ty_lst hS) (by decide +kernel) ?_
      have no : (¬ (1 ≤ xs.length ∧ xs.length ≤ 200)) → ∀ H', Same H H' → E (.ref T.c_NoLand) none H' := fun h => e fun z => h z.1
      walk_at "rd"
      refine ite2 (fun c => ?_) (fun c => ?_)
      · have c' : (1 : Int) ≤ (xs.length : Int) := of_decide_eq_true c
        walk_at "rd"
        refine ite2 (fun d => ?_) (fun d => ?_)
        · have d' : ¬ (xs.length : Int) ≤ 200 := by simpa using d
          exact no (by omega) _ (Same.refl _)
        · have d' : (xs.length : Int) ≤ 200 := by simpa using d
          walk_at "rd"
          refine ⟨l, rfl, ⟨_, .of hS⟩, fun D nD => lc_listM (fun v => .bl (g v)) (.of hS) nD (by omega) (fun _ => rfl) (fun v H' R hv s1 q' => ?_) (fun H1 s1 hD => ?_)⟩
          · walk_at "rd"
            exact ⟨v, g v, rfl, hg H' v s1 hv, q' _ (Same.refl _)⟩
          have hS1 := s1 _ _ hS
          walk_at "rd"
          refine rd_allP g (fun _ _ => rfl) hD ?_
          walk_at "rd"
          refine ite2 (fun a => ?_) (fun a => ?_)
          · exact e (fun z => by rw [z.2] at a; cases a) _ s1
          · have a' : xs.all g = true := by simpa using a
            walk_at "rd"
            intro G nG
            exact q ⟨⟨by omega, by omega⟩, a'⟩ G _ (s1.trans (same_upd nG)) (same_fresh s1 nG) upd_same
      · have c' : ¬ (1 : Int) ≤ (xs.length : Int) := fun z => c (decide_eq_true z)
        walk_at "rd"
        exact no (by omega) _ (Same.refl _)
theorem spChecked_mono {K : PySem.W.Frag} {C : Addr} {vs : List V} {H : Hp} {Q Q' : VK} {E : XK} (h : spChecked K C vs H Q E) (m : ∀ v H', Q v H' → Q' v H') : spChecked K C vs H Q' E := by
  obtain ⟨x, rfl, ⟨t, ty, kt, e⟩ | ⟨l, xs, g, rfl, hS, hx, hg, q, e⟩⟩ := h
  · exact ⟨x, rfl, .inl ⟨t, ty, kt, e⟩⟩
  · exact ⟨_, rfl, .inr ⟨l, xs, g, rfl, hS, hx, hg, fun hh D H' s n d => m _ _ (q hh D H' s n d), e⟩⟩
/-- what checked takes, what it refuses -/
def BadAt (K : PySem.W.Frag) (H : Hp) (x : V) : Prop := (∃ t, TyX K H x (.type t) ∧ kitB t "list" = some false) ∨ ∃ (l : Addr) (xs : List V) (g : V → Bool), x = .ref l ∧ H l = some (.lst xs) ∧ xs.length ≤ 90000 ∧ (∀ H' v, Same H H' → v ∈ xs → Ht K H' v (g v)) ∧ ¬ ((1 ≤ xs.length ∧ xs.length ≤ 200) ∧ xs.all g = true)
def BadL (K : PySem.W.Frag) (H : Hp) (x : V) : Prop := ∀ H', Same H H' → BadAt K H' x
theorem BadL.mono {K : PySem.W.Frag} {H H' : Hp} {x : V} (s : Same H H') (h : BadL K H x) : BadL K H' x := fun H2 s2 => h H2 (s.trans s2)
theorem BadAt.checked {K : PySem.W.Frag} {H : Hp} {x : V} {C : Addr} {Q : VK} {E : XK} (h : BadAt K H x) (e : ∀ H', Same H H' → E (.ref C) none H') : spChecked K C [x] H Q E := by
  rcases h with ⟨t, ty, k⟩ | ⟨l, xs, g, rfl, hl, hx, hg, no⟩
  · exact ⟨x, rfl, .inl ⟨t, ty, k, e _ (Same.refl _)⟩⟩
  · exact ⟨_, rfl, .inr ⟨l, xs, g, rfl, hl, hx, hg, fun z => absurd z no, fun _ => e⟩⟩
theorem good_checked {K : PySem.W.Frag} {H : Hp} {l C : Addr} {zs : List Int} {Q : VK} {E : XK} (hl : H l = some (.lst (IL zs))) (hn : 1 ≤ zs.length ∧ zs.length ≤ 200) (hb : ∀ z ∈ zs, -1000000000000000000 ≤ z ∧ z ≤ 1000000000000000000)
    (q : ∀ D H', Same H H' → H D = none → H' D = some (.lst (IL zs)) → Q (.ref D) H') : spChecked K C [.ref l] H Q E := by
  have e : (IL zs).length = zs.length := List.length_map _
  refine ⟨_, rfl, .inr ⟨l, IL zs, fun _ => true, rfl, hl, by omega, fun H' v _ hv => ?_, fun _ => q, fun z => absurd ⟨⟨by omega, by omega⟩, ?_⟩ z⟩⟩
  · obtain ⟨z, hz, rfl⟩ := List.mem_map.mp hv
    exact ⟨true, whole_int, .inr ⟨z, rfl, rfl, (decide_eq_true (hb z hz)).symm⟩⟩
  · rw [List.all_eq_true]
    intro _ _
    rfl

/-! ## the places -/
/-- a place at which a hill stands -/
def Ok (x : V) (n : Nat) : Prop := ∃ i : Nat, x = .int (i : Int) ∧ i < n
theorem ok_int {i : Int} {n : Nat} : Ok (.int i) n ↔ 0 ≤ i ∧ i < n := by
  constructor
  · rintro ⟨k, e, h⟩
    have := V.int.inj e
    omega
  · rintro ⟨h1, h2⟩
    exact ⟨i.toNat, congrArg V.int (by omega), by omega⟩
/-- what x is, as is_whole tells -/
def Wh (K : PySem.W.Frag) (H : Hp) (x : V) : Prop := ∃ r, Whole K H x r ∧ (r = true ↔ ∃ i, x = .int i)
theorem wh_int {K : PySem.W.Frag} {H : Hp} {i : Int} : Wh K H (.int i) := ⟨true, whole_int, by simp⟩
theorem wh_bl {K : PySem.W.Frag} {H : Hp} {b : Bool} : Wh K H (.bl b) := ⟨false, whole_bl, by simp⟩
theorem wh_non {K : PySem.W.Frag} {H : Hp} : Wh K H .non := ⟨false, whole_non, by simp⟩
theorem wh_str {K : PySem.W.Frag} {H : Hp} {z : Str} : Wh K H (.str z) := ⟨false, whole_str, by simp⟩
theorem wh_lst {K : PySem.W.Frag} {H : Hp} {a : Addr} {xs : List V} (h : H a = some (.lst xs)) : Wh K H (.ref a) := ⟨false, whole_lst h, by simp⟩
theorem wh_tup {K : PySem.W.Frag} {H : Hp} {a : Addr} {xs : List V} (h : H a = some (.tup xs)) : Wh K H (.ref a) := ⟨false, whole_tup h, by simp⟩
def spNeed (K : PySem.W.Frag) (C : Addr) : Sp := fun vs H Q E => ∃ (l : Addr) (ns : List Int) (x : V), vs = [.ref l, x] ∧ SqL K H l (IL ns) ∧ Wh K H x ∧
  (¬ Ok x ns.length → E (.ref C) none H) ∧ (Ok x ns.length → Q x H)
theorem ok_need_hill (T : Txt K mg) : FnOk P w K mg base (L2N.CX P w) 2 T.a_need_hill T.d_need_hill ["land", "place"] (spNeed K T.c_NoHill) := by
  refine okN T.F_need_hill sc_need_hill (fun vs H Q E h => ?_) (fun cdv A outer s H vs Q E hr h => ⟨_, (pss_cons (ps_if (PW.pt (pw_or (pt_not (pt_val (pe_call (ok_is_whole T) (hr.mono (by decide)) rfl T.g_is_whole T.F_is_whole.kp T.b_is_whole .nil pass0 (pa_cons (pv 1) pa_nil)))) (pw_or1 (pt_not (pt_chain op_le op_lt pe_int (pv 1) (pe_callB (call_lenK (K := K) rfl) rfl T.n_len (by decide +kernel) (pa_cons (pv 0) pa_nil))))))) (pss_one (L2N.ps_raise rfl (L2N.takes_of rfl rfl rfl rfl) (L2N.pmk_own PySem.F.excBase_ValueError T.x_NoHill T.g_NoHill T.k_NoHill (raises_own T.e_NoHill T.t_NoHill) (by rfl)))) pss_nil)
      (pss_one (ps_ret (pv 1)))), ?_⟩)
  · obtain ⟨l, ns, x, rfl, _⟩ := h
    rfl
  · obtain ⟨l, ns, x, rfl, hS, ⟨r, hx, hi⟩, e, q⟩ := h
    walk_at "rd"
    refine ⟨x, r, rfl, hx, ?_⟩
    walk_at "rd"
    cases r with
    | false =>
      walk_at "rd"
      refine e ?_
      rintro ⟨i, rfl, _⟩
      exact Bool.false_ne_true (hi.mpr ⟨_, rfl⟩)
    | true =>
      obtain ⟨i, rfl⟩ := hi.mp rfl
      walk_at "rd"
      refine ite2 (fun c => ?_) (fun c => ?_)
      · have c' : 0 ≤ i := of_decide_eq_true c
        walk_at "rd"
        rw [List.length_map]
        refine ite2 (fun d => ?_) (fun d => ?_)
        · have d' : ¬ i < (ns.length : Int) := by simpa using d
          exact e fun z => d' (ok_int.mp z).2
        · have d' : i < (ns.length : Int) := by simpa using d
          walk_at "rd"
          exact q (ok_int.mpr ⟨c', d'⟩)
      · have c' : ¬ 0 ≤ i := fun z => c (decide_eq_true z)
        walk_at "rd"
        exact e fun z => c' (ok_int.mp z).1

/-! ## slopes -/
def hv (ns : List Int) (i : Int) : Int := ns.getD i.toNat 0
def slO (ns : List Int) (a b : Int) : HO := .tup [.int (hv ns b - hv ns a), .int (b - a)]
def spSlope (K : PySem.W.Frag) : Sp := fun vs H Q _ => ∃ (l : Addr) (ns : List Int) (a b : Int), vs = [.ref l, .int a, .int b] ∧ SqL K H l (IL ns) ∧ (0 ≤ a ∧ a < ns.length ∧ 0 ≤ b ∧ b < ns.length) ∧
  ∀ p, H p = none → Q (.ref p) (upd H p (slO ns a b))
theorem ok_slope (T : Txt K mg) : FnOk P w K mg base CX0 1 T.a_slope T.d_slope ["land", "a", "b"] (spSlope K) := by
  refine T.F_slope.ok sc_slope (fun vs H Q E h => ?_) (fun cdv A outer s H vs Q E hr h => ⟨_, (pss_one (ps_ret (pe_tup (pa_cons (pe_op op_sub (pe_ix (ix_listK (K := K) rfl) (pv 0) (pv 2) (fun _ _ => rfl)) (pe_ix (ix_listK (K := K) rfl) (pv 0) (pv 1) (fun _ _ => rfl))) (pa_cons (pe_op op_sub (pv 2) (pv 1)) pa_nil))))), ?_⟩)
  · obtain ⟨l, ns, a, b, rfl, _⟩ := h
    rfl
  · obtain ⟨l, ns, a, b, rfl, hS, ⟨h1, h2, h3, h4⟩, q⟩ := h
    walk_at "rd"
    refine rd_ixL hS (IL_at h3 h4) ?_
    walk_at "rd"
    refine rd_ixL hS (IL_at h1 h2) ?_
    walk_at "rd"
    exact ⟨sz 2, q⟩
def spSteeper (K : PySem.W.Frag) : Sp := fun vs H Q _ => ∃ (p q : Addr) (r1 l1 r2 l2 : Int), vs = [.ref p, .ref q] ∧ SqT K H p [.int r1, .int l1] ∧ SqT K H q [.int r2, .int l2] ∧ CMul r1 l2 ∧ CMul r2 l1 ∧
  Q (.bl (decide (r2 * l1 < r1 * l2))) H
theorem ok_steeper (T : Txt K mg) : FnOk P w K mg base CX0 1 T.a_steeper T.d_steeper ["one", "other"] (spSteeper K) := by
  refine T.F_steeper.ok sc_steeper (fun vs H Q E h => ?_) (fun cdv A outer s H vs Q E hr h => ⟨_, (pss_one (ps_ret (pe_cmpR op_gt (pe_op op_mul (pe_ix (ix_tupK (K := K) rfl) (pv 0) pe_int (fun _ _ => rfl)) (pe_ix (ix_tupK (K := K) rfl) (pv 1) pe_int (fun _ _ => rfl))) (pe_op op_mul (pe_ix (ix_tupK (K := K) rfl) (pv 1) pe_int (fun _ _ => rfl)) (pe_ix (ix_tupK (K := K) rfl) (pv 0) pe_int (fun _ _ => rfl))) (nomark _)))), ?_⟩)
  · obtain ⟨p, q, r1, l1, r2, l2, rfl, _⟩ := h
    rfl
  · obtain ⟨p, q, r1, l1, r2, l2, rfl, h1, h2, c1, c2, k⟩ := h
    walk_at "rd"
    refine rd_ixT h1 (atI_nat (j := 0) rfl) ?_
    walk_at "rd"
    refine rd_ixT h2 (atI_nat (j := 1) rfl) ?_
    walk_at "rd"
    refine rd_I c1 ?_
    walk_at "rd"
    refine rd_ixT h2 (atI_nat (j := 0) rfl) ?_
    walk_at "rd"
    refine rd_ixT h1 (atI_nat (j := 1) rfl) ?_
    walk_at "rd"
    refine rd_I c2 ?_
    walk_at "rd"
    exact k

/-! ## behind -/
theorem sl_g (ns : List Int) (a b : Nat) : slO ns (a : Int) (b : Int) = .tup [.int (g ns b - g ns a), .int ((b : Int) - (a : Int))] := rfl
def spBehind (K : PySem.W.Frag) : Sp := fun vs H Q _ => ∃ (l : Addr) (ns : List Int) (a : Nat), vs = [.ref l, .int (a : Int)] ∧ SqL K H l (IL ns) ∧ a < ns.length ∧ ns.length ≤ 1000 ∧
  ∀ D H', Same H H' → H D = none → H' D = some (.lst (IL (NI (behN ns a ns.length)))) → Q (.ref D) H'
theorem ok_behind (T : Txt K mg) : FnOk P w K mg base CX0 2 T.a_behind T.d_behind ["land", "a"] (spBehind K) := by
  refine T.F_behind.ok sc_behind (fun vs H Q E h => ?_) (fun cdv A outer s H vs Q E hr h => ⟨_, (pss_cons (ps_set (i := 2) sc_behind.nd rfl (Or.inl rfl) (pe_lst pa_nil))
      (pss_cons (ps_set (i := 3) sc_behind.nd rfl (Or.inl rfl) pe_non)
      (pss_cons (ps_for PassesOwn.never rfl (pi_range2 rfl T.n_range (pa_cons (pe_op op_add (pv 1) pe_int) (pa_cons (pe_callB (call_lenK (K := K) rfl) rfl T.n_len (by decide +kernel) (pa_cons (pv 0) pa_nil)) pa_nil))) (pg_name (i := 4) sc_behind.nd rfl (Or.inl rfl)) (pss_cons (ps_set (i := 5) sc_behind.nd rfl (Or.inl rfl) (pe_call (ok_slope T) (hr.mono (by decide)) rfl T.g_slope T.F_slope.kp T.b_slope .nil pass0 (pa_cons (pv 0) (pa_cons (pv 1) (pa_cons (pv 4) pa_nil)))))
        (pss_one (ps_if (PW.pt (pw_or (pt_cmpR op_isN1 (pv 3) pe_non (nomark _)) (pw_or1 (pt_val (pe_call (ok_steeper T) (hr.mono (by decide)) rfl T.g_steeper T.F_steeper.kp T.b_steeper .nil pass0 (pa_cons (pv 5) (pa_cons (pv 3) pa_nil))))))) (pss_cons (ps_expr (pe_bmK (K := K) rfl PySem.F.plainAttrs_list PySem.F.slot_list_append PySem.F.type_list_append mt_append (pv 2) (pa_cons (pv 4) pa_nil)))
          (pss_one (ps_set (i := 3) sc_behind.nd rfl (Or.inl rfl) (pv 5)))) pss_nil))))
      (pss_one (ps_ret (pv 2)))))), ?_⟩)
  · obtain ⟨l, ns, a, rfl, _⟩ := h
    rfl
  · obtain ⟨l, ns, a, rfl, hS, ha, hn, q⟩ := h
    walk_at "rd"
    refine ⟨sz 0, fun D nD => ?_⟩
    have hS1 := (same_upd (o := .lst []) nD).seq hS
    walk_at "rd"
    rw [List.length_map]
    refine rng2 ⟨⟨by omega, by omega⟩, by omega, by omega⟩ (fun i σ H' => ∃ (vb vk vn : Option V), σ = [some (.ref l), some (.int a), some (.ref D), vb, vk, vn] ∧ Same H H' ∧ H' D = some (.lst (IL (NI (behN ns a (a + 1 + i))))) ∧
        ((i = 0 ∧ vb = some .non) ∨ ∃ (p : Addr) (m : Nat), vb = some (.ref p) ∧ H' p = some (slO ns a m) ∧ Steep ns a (a + 1 + i) m))
      ⟨some .non, none, none, rfl, (same_upd (o := .lst []) nD), by rw [behN_low (by omega)]; exact upd_same, .inl ⟨rfl, rfl⟩⟩ ?_ ?_
    · rintro i σ H' hi ⟨vb, vk, vn, rfl, s1, hD, hb⟩
      have hS2 := s1.seq hS
      have eb : ((a : Int) + 1 + (i : Int)) = ((a + 1 + i : Nat) : Int) := by omega
      rw [eb]
      generalize hbb : a + 1 + i = b at *
      have hbl : b < ns.length := by omega
      have hab : a < b := by omega
      walk_at "rd"
      refine ⟨l, ns, a, b, rfl, hS2, ⟨by omega, by omega, by omega, by omega⟩, fun p np => ?_⟩
      have s2 := s1.trans (same_upd (o := slO ns a b) np)
      have hD2 := upd_keep (u := slO ns a b) hD np
      have hp : (upd H' p (slO ns a b)) p = some (slO ns a b) := upd_same
      have hm : ∀ q x, H' q = some x → (upd H' p (slO ns a b)) q = some x := fun q x e => upd_keep e np
      generalize upd H' p (slO ns a b) = H2 at *
      have fin : ∀ (tst : Bool) (N : L2.St → Hp → Prop), True := fun _ _ => trivial
      rcases hb with ⟨rfl, rfl⟩ | ⟨pm, m, rfl, hpm, hst⟩
      · have e1 : b = a + 1 := by omega
        walk_at "rd"
        refine rd_yes (by simp) ?_
        walk_at "rd"
        refine ⟨ty_list (.of hD2), ?_⟩
        walk_at "rd"
        refine rd_append hD2 (by rw [List.length_map, behN_low (by omega)]; decide) ?_
        walk_at "rd"
        have hpD : p ≠ D := ne_of hp hD2 (by intro z; cases z)
        refine ⟨_, _, _, rfl, Same.mut s2 nD, ?_, .inr ⟨p, b, rfl, ?_, ?_⟩⟩
        · rw [upd_same, show a + 1 + (0 + 1) = b + 1 by omega, behN_yes hab (by rw [e1]; exact seeB_next)]
          simp [IL, NI]
        · rw [upd_ne hpD]
          exact hp
        · rw [e1]
          exact Steep.first
      · have hpm2 := hm _ _ hpm
        have hlo := hst.lo
        have hhi := hst.hi
        walk_at "rd"
        refine rd_no (by simp) ?_
        walk_at "rd"
        refine ⟨p, pm, _, _, _, _, rfl, .of hp, .of hpm2, .inr ⟨by omega, by omega⟩, .inr ⟨by omega, by omega⟩, ?_⟩
        walk_at "rd"
        refine ite2 (fun c => ?_) (fun c => ?_)
        · have c' : Stp ns a b m := of_decide_eq_true c
          walk_at "rd"
          refine ⟨ty_list (.of hD2), ?_⟩
          walk_at "rd"
          refine rd_append hD2 (by
            rw [List.length_map, List.length_map]
            have : (behN ns a b).length ≤ b := by
              have h := List.length_filter_le (fun b => decide (a < b) && seeB ns a b) (List.range b)
              rw [List.length_range] at h
              exact h
            omega) ?_
          walk_at "rd"
          have hpD : p ≠ D := ne_of hp hD2 (by intro z; cases z)
          refine ⟨_, _, _, rfl, Same.mut s2 nD, ?_, .inr ⟨p, b, rfl, ?_, ?_⟩⟩
          · rw [upd_same, show a + 1 + (i + 1) = b + 1 by omega, behN_yes hab (hst.see.mpr c')]
            simp [IL, NI]
          · rw [upd_ne hpD]
            exact hp
          · rw [show a + 1 + (i + 1) = b + 1 by omega]
            exact hst.up c'
        · have c' : ¬ Stp ns a b m := fun z => c (decide_eq_true z)
          walk_at "rd"
          refine ⟨_, _, _, rfl, s2, ?_, .inr ⟨pm, m, rfl, hpm2, ?_⟩⟩
          · rw [hD2, show a + 1 + (i + 1) = b + 1 by omega, behN_no (fun z => c' (hst.see.mp z))]
          · rw [show a + 1 + (i + 1) = b + 1 by omega]
            exact hst.stay c'
    · rintro σ H' ⟨vb, vk, vn, rfl, s1, hD, hb⟩
      walk_at "rd"
      refine q D H' s1 nD ?_
      rw [hD]
      by_cases h : a + 1 + (((ns.length : Nat) : Int) - ((a : Int) + 1)).toNat = ns.length
      · rw [h]
      · exfalso
        omega

/-! ## sights -/
def spSights (K : PySem.W.Frag) : Sp := fun vs H Q _ => ∃ (l : Addr) (ns : List Int), vs = [.ref l] ∧ SqL K H l (IL ns) ∧ ns.length ≤ 300 ∧
  ∀ D vs' H', Same H H' → H D = none → H' D = some (.lst vs') → PrsH H' vs' (NP (sights ns)) → Q (.ref D) H'
theorem ok_sights (T : Txt K mg) : FnOk P w K mg base CX0 3 T.a_sights T.d_sights ["land"] (spSights K) := by
  refine T.F_sights.ok sc_sights (fun vs H Q E h => ?_) (fun cdv A outer s H vs Q E hr h => ⟨_, (pss_cons (ps_set (i := 1) sc_sights.nd rfl (Or.inl rfl) (pe_lst pa_nil))
      (pss_cons (ps_for PassesOwn.never rfl (pi_range1 rfl T.n_range (pa_cons (pe_callB (call_lenK (K := K) rfl) rfl T.n_len (by decide +kernel) (pa_cons (pv 0) pa_nil)) pa_nil)) (pg_name (i := 2) sc_sights.nd rfl (Or.inl rfl)) (pss_one (ps_for PassesOwn.never rfl (pi_listK (K := K) rfl (pe_call (ok_behind T) (hr.mono (by decide)) rfl T.g_behind T.F_behind.kp T.b_behind .nil pass0 (pa_cons (pv 0) (pa_cons (pv 2) pa_nil)))) (pg_name (i := 3) sc_sights.nd rfl (Or.inl rfl)) (pss_one (ps_expr (pe_bmK (K := K) rfl PySem.F.plainAttrs_list PySem.F.slot_list_append PySem.F.type_list_append mt_append (pv 1) (pa_cons (pe_tup (pa_cons (pv 2) (pa_cons (pv 3) pa_nil))) pa_nil)))))))
      (pss_one (ps_ret (pv 1))))), ?_⟩)
  · obtain ⟨l, ns, rfl, _⟩ := h
    rfl
  · obtain ⟨l, ns, rfl, hS, hn, q⟩ := h
    walk_at "rd"
    refine ⟨sz 0, fun D nD => ?_⟩
    have hS1 := (same_upd (o := .lst []) nD).seq hS
    walk_at "rd"
    rw [List.length_map]
    refine rng1 ⟨by omega, by omega⟩ (fun i σ H' => ∃ (va vb : Option V) (ys : List V), σ = [some (.ref l), some (.ref D), va, vb] ∧ Same H H' ∧ H' D = some (.lst ys) ∧ PrsH H' ys (NP (sigN ns i)))
      ⟨none, none, [], rfl, same_upd nD, upd_same, .nil⟩ ?_ ?_
    · rintro i σ H' hi ⟨va, vb, ys, rfl, s1, hD, hp⟩
      have hS2 := s1.seq hS
      walk_at "rd"
      refine ⟨l, ns, i, rfl, hS2, by omega, by omega, fun B H2 s2 nB hB => ?_⟩
      walk_at "rd"
      have nBD : B ≠ D := fun z => by
        rw [z, hD] at nB
        cases nB
      have hD2 := s2 _ _ hD
      refine ⟨B, rfl, ⟨_, .of hB⟩, for_list (K := K) (a := B) (xs := IL (NI (behN ns i ns.length))) (fun j σ H' => ∃ (vb : Option V) (ys : List V), σ = [some (.ref l), some (.ref D), some (.int i), vb] ∧ Same H H' ∧ H' B = some (.lst (IL (NI (behN ns i ns.length)))) ∧ H' D = some (.lst ys) ∧ PrsH H' ys (NP (sigN ns i ++ ((behN ns i ns.length).take j).map fun b => (i, b))))
        ⟨vb, ys, rfl, s1.trans s2, hB, hD2, by simpa using hp.mono s2⟩ (fun j σ H' _ ⟨_, _, _, _, hB, _⟩ => .of hB) ?_ ?_⟩
      · rintro j x σ H3 hx ⟨vb, zs, rfl, s3, hB3, hD3, hp3⟩
        obtain ⟨b, hbj, rfl⟩ : ∃ b, (behN ns i ns.length)[j]? = some b ∧ x = V.int (b : Int) := by
          rw [List.getElem?_map, List.getElem?_map] at hx
          cases e : (behN ns i ns.length)[j]? with
          | none => rw [e] at hx; cases hx
          | some b => rw [e] at hx; exact ⟨b, rfl, (Option.some.inj hx).symm⟩
        have hj : j < (behN ns i ns.length).length := (List.getElem?_eq_some_iff.mp hbj).1
        have l1 := behN_len ns i ns.length
        have l2 := sigN_len ns i
        walk_at "rd"
        refine ⟨ty_list (.of hD3), ?_⟩
        walk_at "rd"
        refine ⟨sz 2, fun t nt => ?_⟩
        have s4 := same_upd (o := .tup [.int (i : Int), .int (b : Int)]) nt
        have ht : (upd H3 t (.tup [.int (i : Int), .int (b : Int)])) t = some (.tup [.int (i : Int), .int (b : Int)]) := upd_same
        have hD4 := s4 _ _ hD3
        have hB4 := s4 _ _ hB3
        have hp4 := hp3.mono s4
        have s5 := s3.trans s4
        generalize upd H3 t (.tup [.int (i : Int), .int (b : Int)]) = H4 at *
        walk_at "rd"
        refine rd_append hD4 (by
          rw [hp4.length, List.length_map, List.length_append, List.length_map, List.length_take]
          have h1 : i * ns.length ≤ 300 * 300 := Nat.mul_le_mul (by omega) hn
          omega) ?_
        have htk : (behN ns i ns.length).take (j + 1) = (behN ns i ns.length).take j ++ [b] := by rw [List.take_add_one, hbj]; rfl
        refine ⟨_, _, rfl, Same.mut s5 nD, ?_, upd_same, ?_⟩
        · rw [upd_ne nBD]
          exact hB4
        · have h1 := (hp4.upd (o := .lst (zs ++ [.ref t])) hD4).snoc (p := ((i : Int), (b : Int))) (by rw [upd_ne (ne_of ht hD4 (by intro z; cases z))]; exact ht)
          rw [htk]
          simpa [NP, List.append_assoc] using h1
      · rintro σ H3 ⟨vb, zs, rfl, s3, hB3, hD3, hp3⟩
        refine ⟨_, _, _, rfl, s3, hD3, ?_⟩
        rw [sigN_succ]
        rw [List.length_map, List.length_map, List.take_length] at hp3
        exact hp3
    · rintro σ H' ⟨va, vb, ys, rfl, s1, hD, hp⟩
      walk_at "rd"
      exact q D ys H' s1 nD hD (by simpa using hp)

/-! ## lacking -/
def spLack (K : PySem.W.Frag) : Sp := fun vs H Q _ => ∃ (p q : Addr) (ps qs : List (Int × Int)), vs = [.ref p, .ref q] ∧ PLs H p ps ∧ PLs H q qs ∧ ps.length ≤ 60000 ∧ qs.length ≤ 60000 ∧ ∀ D H', Same H H' → H D = none → PLs H' D (lackN ps qs) → Q (.ref D) H'
abbrev tLackLoop (K : PySem.W.Frag) : TS := tSeq (tAsg tDNewT (gName 2)) (tSeq (tFor (iList K (tVar 1)) (gName 3) (sDPut (tVar 2) (tVar 3) (tC (V.bl true))))
  (tRet (tLc (iList K (tVar 0)) (gName 3) (tB (tDNotIn (tVar 3) (tVar 2))) (tVar 3) [3])))
theorem lack_run {D0 : Ends} {H : Hp} {vs : List V} {E : XK} {a b c d : Str} (h : spLack K vs H D0.rt E) : tLackLoop K D0 (start [a, b, c, d] vs) H := by
  obtain ⟨p, q, ps, qs, rfl, ⟨va, hP, pP⟩, ⟨vb, hQ, pQ⟩, l1, l2, k⟩ := h
  walk_at "rd"
  intro Td nTd
  have s1 := same_upd (o := .dT []) nTd
  have hTd : (upd H Td (.dT [])) Td = some (.dT []) := upd_same
  generalize upd H Td (.dT []) = H1 at *
  walk_at "rd"
  refine ⟨q, rfl, ⟨_, .of (s1 _ _ hQ)⟩, for_list (K := K) (a := q) (xs := vb) (fun i σ H' => ∃ (v3 : Option V) (kvs : List (List L2.Key × V)), σ = [some (.ref p), some (.ref q), some (.ref Td), v3] ∧ H' Td = some (.dT kvs) ∧ Keys kvs (qs.take i) ∧ Same H H')
    ⟨none, [], rfl, hTd, Keys.nil, s1⟩ (fun i σ H' _ ⟨_, _, _, _, _, s⟩ => .of (s _ _ hQ)) ?_ ?_⟩
  · rintro i x σ H' hx ⟨v3, kvs, rfl, hTd', hk, s2⟩
    obtain ⟨t, p', hpi, rfl, ht⟩ := (pQ.mono s2).get hx
    walk_at "rd"
    refine ⟨Td, _, rfl, keys_put hTd' ht ?_, ?_⟩
    · have h1 := hk.1
      rw [List.length_take] at h1
      omega
    · refine ⟨_, _, rfl, upd_same, ?_, Same.mut s2 nTd⟩
      rw [List.take_add_one, hpi]
      exact hk.put p'
  · rintro σ H2 ⟨v3, kvs, rfl, hTd', hk, s2⟩
    rw [List.take_of_length_le (Nat.le_of_eq pQ.length.symm)] at hk
    have hP2 := s2 _ _ hP
    have pP2 := pP.mono s2
    walk_at "rd"
    refine ⟨p, rfl, ⟨_, .of hP2⟩, fun D nD => lc_list (K := K) (a := p) (xs := va) (fun i H' => Same H2 H' ∧ ∃ ys, H' D = some (.lst ys) ∧ PrsH H' ys (lackN (ps.take i) qs) ∧ ys.length ≤ i) ⟨same_upd nD, [], upd_same, .nil, Nat.le_refl _⟩ (fun i H' _ ⟨s, _⟩ => .of (s _ _ hP2)) ?_ ?_⟩
    · rintro i x H' hx ⟨s3, ys, hD, hp, hl⟩
      obtain ⟨t, p', hpi, rfl, ht⟩ := pP2.get hx
      have hi := (List.getElem?_eq_some_iff.mp hx).1
      have ht3 := s3 _ _ ht
      refine ⟨rfl, ?_⟩
      walk_at "rd"
      refine ⟨Td, _, rfl, keys_get (s3 _ _ hTd') ht3, ?_⟩
      rw [hk.2 p']
      have e := take_filter_succ (p := fun p => !decide (p ∈ qs)) hpi
      have e' : lackN (ps.take (i + 1)) qs = lackN (ps.take i) qs ++ (if (!decide (p' ∈ qs)) = true then [p'] else []) := e
      walk_at "rd"
      refine ite2 (fun c => ?_) (fun c => ?_)
      · walk_at "rd"
        have := pP.length
        refine ⟨ys, hD, szlt (by omega), Same.mut s3 nD, ys ++ [.ref t], upd_same, ?_, by rw [List.length_append]; show _ + 1 ≤ _; omega⟩
        rw [e', if_pos c]
        exact (hp.upd hD).snoc (by rw [upd_ne (ne_of ht3 hD (by intro z; cases z))]; exact ht3)
      · refine ⟨s3, ys, hD, ?_, by omega⟩
        rw [e', if_neg c, List.append_nil]
        exact hp
    · rintro H' ⟨s3, ys, hD, hp, hl⟩
      rw [List.take_of_length_le (Nat.le_of_eq pP.length.symm)] at hp
      exact k D H' (s2.trans s3) (same_fresh s2 nD) ⟨ys, hD, hp⟩
theorem ok_lacking (T : Txt K mg) : FnOk P w K mg base CX0 1 T.a_lacking T.d_lacking ["pairs", "others"] (spLack K) := by
  refine T.F_lacking.ok sc_lacking (fun vs H Q E h => ?_) (fun cdv A outer s H vs Q E hr h => ⟨_, (pss_cons (ps_set (i := 2) sc_lacking.nd rfl (Or.inr rfl) pe_dnewT)
      (pss_cons (ps_for PassesOwn.never rfl (pi_listK (K := K) rfl (pv 1)) (pg_name (i := 3) sc_lacking.nd rfl (Or.inl rfl)) (pss_one (ps_dput (hu_of hr) (pv 2) (pv 3) pe_bl rfl)))
      (pss_one (ps_ret (pe_lc (own := [("pair", 3)]) (g := gName 3) rfl sc_lacking.nd (pi_listK (K := K) rfl (pv 0)) (blkOk_by (own := [("pair", 3)]) (N := ["pairs", "others", "there", "pair"]) (sc := defScope s_lacking) (by decide +kernel)) (fun _ _ _ _ _ => (pg_name (i := 3) sc_lacking.nd rfl (Or.inl rfl))) (fun _ _ _ _ _ => pts_one (pt_cmp (pc_dnotin (hu_of hr) (pv 3) (pv 2)) rfl)) (fun _ _ _ _ _ => (pv 3))))))), ?_⟩)
  · obtain ⟨p, q, ps, qs, rfl, _⟩ := h
    rfl
  · exact lack_run h
theorem ok_law_lacking (T : Txt K mg) : FnOk P w K mg base CX0 1 T.a_law_lacking T.d_law_lacking ["_law_pairs", "_law_others"] (spLack K) := by
  refine T.F_law_lacking.ok sc_law_lacking (fun vs H Q E h => ?_) (fun cdv A outer s H vs Q E hr h => ⟨_, (pss_cons (ps_set (i := 2) sc_law_lacking.nd rfl (Or.inr rfl) pe_dnewT)
      (pss_cons (ps_for PassesOwn.never rfl (pi_listK (K := K) rfl (pv 1)) (pg_name (i := 3) sc_law_lacking.nd rfl (Or.inl rfl)) (pss_one (ps_dput (hu_of hr) (pv 2) (pv 3) pe_bl rfl)))
      (pss_one (ps_ret (pe_lc (own := [("_law_pair", 3)]) (g := gName 3) rfl sc_law_lacking.nd (pi_listK (K := K) rfl (pv 0)) (blkOk_by (own := [("_law_pair", 3)]) (N := ["_law_pairs", "_law_others", "_law_there", "_law_pair"]) (sc := defScope s_law_lacking) (by decide +kernel)) (fun _ _ _ _ _ => (pg_name (i := 3) sc_law_lacking.nd rfl (Or.inl rfl))) (fun _ _ _ _ _ => pts_one (pt_cmp (pc_dnotin (hu_of hr) (pv 3) (pv 2)) rfl)) (fun _ _ _ _ _ => (pv 3))))))), ?_⟩)
  · obtain ⟨p, q, ps, qs, rfl, _⟩ := h
    rfl
  · exact lack_run h
/-! ## Land -/
def LandAt (H : Hp) (CL y D F : Addr) (xs ds : List V) : Prop := (∃ dx, H y = some (.ins CL dx [("hills", .ref D), ("done", .ref F)])) ∧ H D = some (.lst xs) ∧ H F = some (.lst ds)
theorem rd_sFld {K : PySem.W.Frag} {ta tv : TE} {f : Str} {D : Ends} {σ : L2.St} {H : Hp} (q : tv σ H fun y H1 => ta σ H1 fun x H2 => ∃ a C dx fs, x = .ref a ∧ H2 a = some (.ins C dx fs) ∧ Cls K C ∧ NoAttr K C f ∧ fs.length < 1000 ∧ D.nx σ (upd H2 a (.ins C dx (putF f y fs)))) : sFld K ta tv f D σ H := q
def spInit (K : PySem.W.Frag) (C CL : Addr) : Sp := fun vs H Q E => ∃ (y dx : Addr) (x : V), vs = [.ref y, x] ∧ H y = some (.ins CL dx []) ∧ spChecked K C [x] H (fun v H1 => ∃ D xs, v = .ref D ∧ H D = none ∧ Same H H1 ∧ H1 D = some (.lst xs) ∧
  ∀ H' F, (∀ p u, p ≠ y → H1 p = some u → H' p = some u) → H1 F = none → D ≠ F → LandAt H' CL y D F xs [] → Q .non H') E
theorem ok_Land___init__ (T : Txt K mg) : FnOk P w K mg base (L2N.CX P w) 4 T.a_Land___init__ T.d_Land___init__ ["self", "heights"] (spInit K T.c_NoLand T.c_Land) := by
  refine okN T.F_Land___init__ sc_Land___init__ (fun vs H Q E h => ?_) (fun cdv A outer s H vs Q E hr h => ⟨_, (pss_cons (ps_fld (pv 0) (pe_callS (ok_checked T) (hr.mono (by decide)) rfl T.g_checked T.F_checked.kp T.b_checked (fun σ => L2N.passAt (L2N.takes_of rfl rfl rfl rfl) σ) (pa_cons (pv 1) pa_nil)) rfl)
      (pss_one (ps_fld (pv 0) (pe_lst pa_nil) rfl))), ?_⟩)
  · obtain ⟨y, dx, x, rfl, _⟩ := h
    rfl
  · obtain ⟨y, dx, x, rfl, hy, h⟩ := h
    walk_at "rd"
    with_reducible refine rd_sFld ?_
    walk_at "rd"
    refine spChecked_mono h fun v H1 hv => ?_
    obtain ⟨D, xs, rfl, nD, s1, hD, q⟩ := hv
    have hy1 := s1 _ _ hy
    have yD : D ≠ y := fun z => by
      rw [z, hy] at nD
      cases nD
    walk_at "rd"
    refine ⟨y, _, dx, _, rfl, hy1, T.cl_Land, T.na_hills, by decide, ?_⟩
    walk_at "rd"
    with_reducible refine rd_sFld ?_
    walk_at "rd"
    refine ⟨sz 0, fun F nF => ?_⟩
    have yF : F ≠ y := fun z => by
      rw [z, upd_same] at nF
      cases nF
    rw [upd_ne yF] at nF
    have DF : D ≠ F := fun z => by
      rw [← z, hD] at nF
      cases nF
    walk_at "rd"
    refine ⟨y, _, dx, _, rfl, (by rw [upd_ne (fun z => yF z.symm), upd_same]), T.cl_Land, T.na_done, (by show (1 : Nat) < 1000; decide), ?_⟩
    refine q _ F (fun p u hp hu => ?_) nF DF ⟨⟨dx, ?_⟩, ?_, ?_⟩
    · rw [upd_ne hp, upd_ne (fun z => by
        rw [z, nF] at hu
        cases hu), upd_ne hp]
      exact hu
    · rw [upd_same]
      rfl
    · rw [upd_ne yD, upd_ne DF, upd_ne yD]
      exact hD
    · rw [upd_ne yF, upd_same]
def spTold (CL : Addr) : Sp := fun vs H Q _ => ∃ (y D F : Addr) (hs : List Int) (dn : List (Int × Int)), vs = [.ref y] ∧ LandS H CL y D F hs dn ∧ ∀ l, H l = none → Q (.ref l) (upd H l (.lst (IL hs)))
theorem ok_Land_told (T : Txt K mg) : FnOk P w K mg base CX0 1 T.a_Land_told T.d_Land_told ["self"] (spTold T.c_Land) := by
  refine T.F_Land_told.ok sc_Land_told (fun vs H Q E h => ?_) (fun cdv A outer s H vs Q E hr h => ⟨_, (pss_one (ps_ret (pe_callTy (call_listK (K := K) rfl) rfl T.n_list (by decide +kernel) (pa_cons (pe_fld (pv 0) rfl) pa_nil)))), ?_⟩)
  · obtain ⟨y, D, F, hs, dn, rfl, _⟩ := h
    rfl
  · obtain ⟨y, D, F, hs, dn, rfl, L, q⟩ := h
    obtain ⟨dx, hy⟩ := L.ins
    have hD := L.hl
    walk_at "rd"
    with_reducible refine rd_fld ?_
    walk_at "rd"
    refine ⟨y, _, dx, _, _, rfl, hy, T.cl_Land, T.na_hills, rfl, ?_⟩
    walk_at "rd"
    exact q
def spSeen (CL : Addr) : Sp := fun vs H Q _ => ∃ (y D F : Addr) (hs : List Int) (dn : List (Int × Int)), vs = [.ref y] ∧ LandS H CL y D F hs dn ∧ hs.length ≤ 200 ∧ ∀ l H', Same H H' → H l = none → PLs H' l (S0 hs) → Q (.ref l) H'
theorem ok_Land_seen (T : Txt K mg) : FnOk P w K mg base CX0 4 T.a_Land_seen T.d_Land_seen ["self"] (spSeen T.c_Land) := by
  refine T.F_Land_seen.ok sc_Land_seen (fun vs H Q E h => ?_) (fun cdv A outer s H vs Q E hr h => ⟨_, (pss_one (ps_ret (pe_call (ok_sights T) (hr.mono (by decide)) rfl T.g_sights T.F_sights.kp T.b_sights .nil pass0 (pa_cons (pe_fld (pv 0) rfl) pa_nil)))), ?_⟩)
  · obtain ⟨y, D, F, hs, dn, rfl, _⟩ := h
    rfl
  · obtain ⟨y, D, F, hs, dn, rfl, L, hn, q⟩ := h
    obtain ⟨dx, hy⟩ := L.ins
    have hD := L.hl
    walk_at "rd"
    with_reducible refine rd_fld ?_
    walk_at "rd"
    refine ⟨y, _, dx, _, _, rfl, hy, T.cl_Land, T.na_hills, rfl, ?_⟩
    walk_at "rd"
    exact ⟨D, hs, rfl, .of hD, by omega, fun l vs' H' s nl hl hp => q l H' s nl ⟨vs', hl, hp⟩⟩
/-- what a lift or a taking back gives -/
def Gave (H : Hp) (M : List Addr) (CL y D F : Addr) (hs hs' : List Int) (dn' : List (Int × Int)) (Q : VK) : Prop := ∀ H' t l1 l2, Keep M H H' → H t = none → H l1 = none → H l2 = none → Two H' t l1 l2 (lackN (S0 hs') (S0 hs)) (lackN (S0 hs) (S0 hs')) → LandS H' CL y D F hs' dn' → Q (.ref t) H'
def spMoved (CL : Addr) : Sp := fun vs H Q _ => ∃ (y D F : Addr) (hs : List Int) (dn : List (Int × Int)) (i : Nat) (z : Int), vs = [.ref y, .int (i : Int), .int z] ∧ LandS H CL y D F hs dn ∧ i < hs.length ∧ hs.length ≤ 200 ∧ Gave H [D] CL y D F hs (upH hs i z) dn Q
theorem ok_Land_moved (T : Txt K mg) : FnOk P w K mg base CX0 4 T.a_Land_moved T.d_Land_moved ["self", "place", "by"] (spMoved T.c_Land) := by
  refine T.F_Land_moved.ok sc_Land_moved (fun vs H Q E h => ?_) (fun cdv A outer s H vs Q E hr h => ⟨_, (pss_cons (ps_set (i := 3) sc_Land_moved.nd rfl (Or.inl rfl) (pe_call (ok_sights T) (hr.mono (by decide)) rfl T.g_sights T.F_sights.kp T.b_sights .nil pass0 (pa_cons (pe_fld (pv 0) rfl) pa_nil)))
      (pss_cons (ps_augS (pe_fld (pv 0) rfl) (pv 1) (pget_listK (K := K) rfl) (pv 2) ip_add set_list)
      (pss_cons (ps_set (i := 4) sc_Land_moved.nd rfl (Or.inl rfl) (pe_call (ok_sights T) (hr.mono (by decide)) rfl T.g_sights T.F_sights.kp T.b_sights .nil pass0 (pa_cons (pe_fld (pv 0) rfl) pa_nil)))
      (pss_one (ps_ret (pe_tup (pa_cons (pe_call (ok_lacking T) (hr.mono (by decide)) rfl T.g_lacking T.F_lacking.kp T.b_lacking .nil pass0 (pa_cons (pv 4) (pa_cons (pv 3) pa_nil))) (pa_cons (pe_call (ok_lacking T) (hr.mono (by decide)) rfl T.g_lacking T.F_lacking.kp T.b_lacking .nil pass0 (pa_cons (pv 3) (pa_cons (pv 4) pa_nil))) pa_nil)))))))), ?_⟩)
  · obtain ⟨y, D, F, hs, dn, i, z, rfl, _⟩ := h
    rfl
  · obtain ⟨y, D, F, hs, dn, i, z, rfl, L, hi, hn, q⟩ := h
    obtain ⟨dx, hy⟩ := L.ins
    have hD := L.hl
    walk_at "rd"
    with_reducible refine rd_fld ?_
    walk_at "rd"
    refine ⟨y, _, dx, _, _, rfl, hy, T.cl_Land, T.na_hills, rfl, ?_⟩
    walk_at "rd"
    refine ⟨D, hs, rfl, .of hD, by omega, fun A va H1 s1 nA hA pA => ?_⟩
    have L1 := L.mono s1
    walk_at "rd"
    with_reducible refine rd_augS ?_
    with_reducible refine rd_fld ?_
    obtain ⟨dx1, hy1⟩ := L1.ins
    walk_at "rd"
    refine ⟨y, _, dx1, _, _, rfl, hy1, T.cl_Land, T.na_hills, rfl, ?_⟩
    walk_at "rd"
    refine rd_getI (.of L1.hl) hi ?_
    walk_at "rd"
    refine rd_setI L1.hl hi ?_
    have k2 : Keep [D] H (upd H1 D (.lst (IL (upH hs i z)))) := (Keep.of s1).mut List.mem_cons_self L1.hl
    have k12 : Keep [D] H1 (upd H1 D (.lst (IL (upH hs i z)))) := Keep.refl.mut List.mem_cons_self L1.hl
    have hD2 : (upd H1 D (.lst (IL (upH hs i z)))) D = some (.lst (IL (upH hs i z))) := upd_same
    have nAD : A ∉ [D] := fun e => by
      rw [List.mem_singleton.mp e, hD] at nA
      cases nA
    have nFD : F ∉ [D] := fun e => L.ne (List.mem_singleton.mp e).symm
    generalize upd H1 D (.lst (IL (upH hs i z))) = H2 at *
    have L2 : LandS H2 T.c_Land y D F (upH hs i z) dn := ⟨⟨dx1, k12.ins hy1⟩, hD2, L.ne, L1.dn.keep k12 nFD⟩
    have pA2 := (show PLs H1 A (S0 hs) from ⟨va, hA, pA⟩).keep k12 nAD
    have hu : (upH hs i z).length = hs.length := List.length_set ..
    walk_at "rd"
    with_reducible refine rd_fld ?_
    walk_at "rd"
    refine ⟨y, _, dx1, _, _, rfl, k12.ins hy1, T.cl_Land, T.na_hills, rfl, ?_⟩
    walk_at "rd"
    refine ⟨D, _, rfl, .of hD2, by omega, fun B vb H3 s3 nB hB pB => ?_⟩
    have c1 := S0_len hn
    have c2 := S0_len (ns := upH hs i z) (by omega)
    have pB3 : PLs H3 B (S0 (upH hs i z)) := ⟨vb, hB, pB⟩
    have pA3 := pA2.mono s3
    walk_at "rd"
    refine ⟨B, A, _, _, rfl, pB3, pA3, by omega, by omega, fun R1 H4 s4 nR1 hR1 => ?_⟩
    walk_at "rd"
    refine ⟨A, B, _, _, rfl, pA3.mono s4, pB3.mono s4, by omega, by omega, fun R2 H5 s5 nR2 hR2 => ?_⟩
    walk_at "rd"
    refine ⟨sz 2, fun t nt => ?_⟩
    have s6 := same_upd (o := .tup [.ref R1, .ref R2]) nt
    have ht : (upd H5 t (.tup [.ref R1, .ref R2])) t = some (.tup [.ref R1, .ref R2]) := upd_same
    have k3 := k2.same s3
    have k4 := k3.same s4
    have k5 := k4.same s5
    refine q _ t R1 R2 (k5.same s6) (k5.al _ nt) (k3.al _ nR1) (k4.al _ nR2) ⟨ht, fun e => ?_, (hR1.mono s5).mono s6, hR2.mono s6⟩ (L2.mono (((s3.trans s4).trans s5).trans s6))
    exact hR1.ne (by rw [e]; exact nR2)
def spLift (K : PySem.W.Frag) (CL C1 C2 : Addr) : Sp := fun vs H Q E => ∃ (y D F : Addr) (hs : List Int) (dn : List (Int × Int)) (x b : V), vs = [.ref y, x, b] ∧ LandS H CL y D F hs dn ∧ hs.length ≤ 200 ∧ dn.length ≤ 50000 ∧ Wh K H x ∧ Wh K H b ∧
  (¬ Ok x hs.length → E (.ref C1) none H) ∧ (∀ i : Nat, x = .int (i : Int) → i < hs.length → (¬ ∃ z, b = .int z ∧ Bd (hs.getD i 0 + z)) → E (.ref C2) none H) ∧
  (∀ (i : Nat) (z : Int), x = .int (i : Int) → i < hs.length → b = .int z → Bd (hs.getD i 0 + z) → Gave H [D, F] CL y D F hs (upH hs i z) (dn ++ [((i : Int), z)]) Q)
theorem ok_Land_lift (T : Txt K mg) : FnOk P w K mg base (L2N.CX P w) 5 T.a_Land_lift T.d_Land_lift ["self", "place", "by"] (spLift K T.c_Land T.c_NoHill T.c_TooHigh) := by
  refine okN T.F_Land_lift sc_Land_lift (fun vs H Q E h => ?_) (fun cdv A outer s H vs Q E hr h => ⟨_, (pss_cons (ps_expr (pe_callS (ok_need_hill T) (hr.mono (by decide)) rfl T.g_need_hill T.F_need_hill.kp T.b_need_hill (fun σ => L2N.passAt (L2N.takes_of rfl rfl rfl rfl) σ) (pa_cons (pe_fld (pv 0) rfl) (pa_cons (pv 1) pa_nil))))
      (pss_cons (ps_if (PW.pt (pw_or (pt_not (pt_val (pe_call (ok_is_whole T) (hr.mono (by decide)) rfl T.g_is_whole T.F_is_whole.kp T.b_is_whole .nil pass0 (pa_cons (pv 2) pa_nil)))) (pw_or1 (pt_not (pt_val (pe_call (ok_is_height T) (hr.mono (by decide)) rfl T.g_is_height T.F_is_height.kp T.b_is_height .nil pass0 (pa_cons (pe_op op_add (pe_ix (ix_listK (K := K) rfl) (pe_fld (pv 0) rfl) (pv 1) (fun _ _ => rfl)) (pv 2)) pa_nil))))))) (pss_one (L2N.ps_raise rfl (L2N.takes_of rfl rfl rfl rfl) (L2N.pmk_own PySem.F.excBase_ValueError T.x_TooHigh T.g_TooHigh T.k_TooHigh (raises_own T.e_TooHigh T.t_TooHigh) (by rfl)))) pss_nil)
      (pss_cons (ps_expr (pe_bmK (K := K) rfl PySem.F.plainAttrs_list PySem.F.slot_list_append PySem.F.type_list_append mt_append (pe_fld (pv 0) rfl) (pa_cons (pe_tup (pa_cons (pv 1) (pa_cons (pv 2) pa_nil))) pa_nil)))
      (pss_one (ps_ret (pe_meth (pv 0) T.cl_Land T.m_Land_moved (ok_Land_moved T) (hr.mono (by decide)) T.b_Land_moved .nil pass0 (pa_cons (pv 1) (pa_cons (pv 2) pa_nil)))))))), ?_⟩)
  · obtain ⟨y, D, F, hs, dn, x, b, rfl, _⟩ := h
    rfl
  · obtain ⟨y, D, F, hs, dn, x, b, rfl, L, hn, hdn, hx, ⟨r, hb, hbr⟩, e1, e2, q⟩ := h
    obtain ⟨dx, hy⟩ := L.ins
    have hD := L.hl
    walk_at "rd"
    with_reducible refine rd_fld ?_
    walk_at "rd"
    refine ⟨y, _, dx, _, _, rfl, hy, T.cl_Land, T.na_hills, rfl, ?_⟩
    walk_at "rd"
    refine ⟨D, hs, x, rfl, .of hD, hx, e1, fun o1 => ?_⟩
    obtain ⟨i, rfl, hi⟩ := o1
    walk_at "rd"
    refine ⟨b, r, rfl, hb, ?_⟩
    walk_at "rd"
    cases r with
    | false =>
      walk_at "rd"
      refine e2 i rfl hi ?_
      rintro ⟨z, rfl, _⟩
      exact Bool.false_ne_true (hbr.mpr ⟨_, rfl⟩)
    | true =>
      obtain ⟨z, rfl⟩ := hbr.mp rfl
      walk_at "rd"
      with_reducible refine rd_fld ?_
      walk_at "rd"
      refine ⟨y, _, dx, _, _, rfl, hy, T.cl_Land, T.na_hills, rfl, ?_⟩
      walk_at "rd"
      refine rd_ixL (.of hD) (IL_at (i := (i : Int)) (by omega) (by omega)) ?_
      rw [Int.toNat_natCast]
      walk_at "rd"
      refine ⟨_, _, rfl, ⟨true, whole_int, .inr ⟨_, rfl, rfl, rfl⟩⟩, ?_⟩
      walk_at "rd"
      refine ite2 (fun c => ?_) (fun c => ?_)
      · have c' : ¬ (-1000000000000000000 ≤ hs.getD i 0 + z ∧ hs.getD i 0 + z ≤ 1000000000000000000) := fun h => by rw [decide_eq_true h] at c; cases c
        walk_at "rd"
        refine e2 i rfl hi ?_
        rintro ⟨z', ez, hz⟩
        cases ez
        exact c' hz
      · have c' : -1000000000000000000 ≤ hs.getD i 0 + z ∧ hs.getD i 0 + z ≤ 1000000000000000000 := Classical.byContradiction fun h => c (by rw [decide_eq_false h]; rfl)
        walk_at "rd"
        with_reducible refine rd_fld ?_
        walk_at "rd"
        refine ⟨y, _, dx, _, _, rfl, hy, T.cl_Land, T.na_done, rfl, ?_⟩
        obtain ⟨ds, hF, pF⟩ := L.dn
        refine ⟨ty_list (.of hF), ?_⟩
        walk_at "rd"
        refine ⟨sz 2, fun t nt => ?_⟩
        have s1 := same_upd (o := .tup [.int (i : Int), .int z]) nt
        have ht : (upd H t (.tup [.int (i : Int), .int z])) t = some (.tup [.int (i : Int), .int z]) := upd_same
        generalize upd H t (.tup [.int (i : Int), .int z]) = H1 at *
        have hF1 := s1 _ _ hF
        have pF1 := pF.mono s1
        have L1 := L.mono s1
        have lF := pF.length
        walk_at "rd"
        refine rd_append hF1 (by omega) ?_
        have k2 : Keep [D, F] H (upd H1 F (.lst (ds ++ [.ref t]))) := (Keep.of s1).mut (by simp) hF1
        have k12 : Keep [F] H1 (upd H1 F (.lst (ds ++ [.ref t]))) := Keep.refl.mut (by simp) hF1
        have pF2 := PLs.snoc (p := ((i : Int), z)) hF1 pF1 ht
        generalize upd H1 F (.lst (ds ++ [.ref t])) = H2 at *
        have nDF : D ∉ [F] := fun e => L.ne (List.mem_singleton.mp e)
        have L2 : LandS H2 T.c_Land y D F hs (dn ++ [((i : Int), z)]) := ⟨⟨dx, k12.ins (s1 _ _ hy)⟩, k12.lst nDF L1.hl, L.ne, pF2⟩
        walk_at "rd"
        with_reducible refine rd_meth ?_
        walk_at "rd"
        obtain ⟨dx2, hy2⟩ := L2.ins
        refine ⟨y, dx2, _, rfl, hy2, rfl, ?_⟩
        walk_at "rd"
        refine ⟨y, D, F, hs, _, i, z, rfl, L2, hi, hn, fun H' t' l1 l2 k n1 n2 n3 tw L' => ?_⟩
        exact q i z rfl hi rfl c' H' t' l1 l2 (k2.trans (k.mono (by simp))) (k2.al _ n1) (k2.al _ n2) (k2.al _ n3) tw L'
def spBack (CL C : Addr) : Sp := fun vs H Q E => ∃ (y D F : Addr) (hs : List Int) (dn : List (Int × Int)), vs = [.ref y] ∧ LandS H CL y D F hs dn ∧ hs.length ≤ 200 ∧ (dn = [] → ∀ H', Same H H' → E (.ref C) none H') ∧
  (∀ dn0 p, dn = dn0 ++ [p] → ∃ (i : Nat) (z : Int), p = ((i : Int), z) ∧ i < hs.length ∧ Gave H [D, F] CL y D F hs (upH hs i (-z)) dn0 Q)
theorem ok_Land_back (T : Txt K mg) : FnOk P w K mg base (L2N.CX P w) 5 T.a_Land_back T.d_Land_back ["self"] (spBack T.c_Land T.c_NothingDone) := by
  refine okN T.F_Land_back sc_Land_back (fun vs H Q E h => ?_) (fun cdv A outer s H vs Q E hr h => ⟨_, (pss_cons (ps_if (pt_cmpR (op_eqDK (K := K) rfl hr.units) (pe_fld (pv 0) rfl) (pe_lst pa_nil) (nomark _)) (pss_one (L2N.ps_raise rfl (L2N.takes_of rfl rfl rfl rfl) (L2N.pmk_own PySem.F.excBase_ValueError T.x_NothingDone T.g_NothingDone T.k_NothingDone (raises_own T.e_NothingDone T.t_NothingDone) (by rfl)))) pss_nil)
      (pss_cons (ps_asg (pe_bm0K (K := K) rfl PySem.F.plainAttrs_list PySem.F.slot_list_pop PySem.F.type_list_pop mt_pop (pe_fld (pv 0) rfl)) (pg_tupK (K := K) (n := 2) rfl rfl (pgs_cons (pg_name (i := 1) sc_Land_back.nd rfl (Or.inl rfl)) (pgs_cons (pg_name (i := 2) sc_Land_back.nd rfl (Or.inl rfl)) pgs_nil))))
      (pss_one (ps_ret (pe_meth (pv 0) T.cl_Land T.m_Land_moved (ok_Land_moved T) (hr.mono (by decide)) T.b_Land_moved .nil pass0 (pa_cons (pv 1) (pa_cons (pe_un un_neg (pv 2)) pa_nil))))))), ?_⟩)
  · obtain ⟨y, D, F, hs, dn, rfl, _⟩ := h
    rfl
  · obtain ⟨y, D, F, hs, dn, rfl, L, hn, e, q⟩ := h
    obtain ⟨dx, hy⟩ := L.ins
    have hD := L.hl
    obtain ⟨ds, hF, pF⟩ := L.dn
    walk_at "rd"
    with_reducible refine rd_fld ?_
    walk_at "rd"
    refine ⟨y, _, dx, _, _, rfl, hy, T.cl_Land, T.na_done, rfl, ?_⟩
    walk_at "rd"
    refine ⟨sz 0, fun W nW => ?_⟩
    have s1 := same_upd (o := .lst []) nW
    have hW : (upd H W (.lst [])) W = some (.lst []) := upd_same
    generalize upd H W (.lst []) = H1 at *
    refine rd_eqP (.of (s1 _ _ hF)) (pF.mono s1).prs (.of hW) .nil ?_
    walk_at "rd"
    refine ite2 (fun c => ?_) (fun c => ?_)
    · walk_at "rd"
      exact e (of_decide_eq_true c) _ s1
    · have c' : dn ≠ [] := fun z => c (decide_eq_true z)
      obtain ⟨dn0, p, rfl⟩ : ∃ dn0 p, dn = dn0 ++ [p] := ⟨_, _, (List.dropLast_concat_getLast c').symm⟩
      obtain ⟨i, z, rfl, hi, q⟩ := q dn0 p rfl
      obtain ⟨vs0, t, rfl, p0, ht⟩ := prsH_last pF
      have L1 := L.mono s1
      walk_at "rd"
      with_reducible refine rd_fld ?_
      walk_at "rd"
      refine ⟨y, _, dx, _, _, rfl, s1 _ _ hy, T.cl_Land, T.na_done, rfl, ?_⟩
      have hF1 := s1 _ _ hF
      have p01 := p0.mono s1
      refine ⟨ty_list (.of hF1), ?_⟩
      refine rd_pop hF1 ?_
      have k2 : Keep [D, F] H (upd H1 F (.lst vs0)) := (Keep.of s1).mut (by simp) hF1
      have k12 : Keep [F] H1 (upd H1 F (.lst vs0)) := Keep.refl.mut (by simp) hF1
      have hF2 : (upd H1 F (.lst vs0)) F = some (.lst vs0) := upd_same
      generalize upd H1 F (.lst vs0) = H2 at *
      have ht2 := k12.tup (s1 _ _ ht)
      refine rd_gTup2 (.of ht2) ?_
      have nDF : D ∉ [F] := fun e => L.ne (List.mem_singleton.mp e)
      have L2 : LandS H2 T.c_Land y D F hs dn0 := ⟨⟨dx, k12.ins (s1 _ _ hy)⟩, k12.lst nDF L1.hl, L.ne, vs0, hF2, k12.prsH p01⟩
      walk_at "rd"
      with_reducible refine rd_meth ?_
      walk_at "rd"
      obtain ⟨dx2, hy2⟩ := L2.ins
      refine ⟨y, dx2, _, rfl, hy2, rfl, ?_⟩
      walk_at "rd"
      refine ⟨y, D, F, hs, _, i, -z, rfl, L2, hi, hn, fun H' t' l1 l2 k n1 n2 n3 tw L' => ?_⟩
      exact q H' t' l1 l2 (k2.trans (k.mono (by simp))) (k2.al _ n1) (k2.al _ n2) (k2.al _ n3) tw L'
/-! ## the law's looking -/
def spBy (K : PySem.W.Frag) : Sp := fun vs H Q _ => ∃ (l : Addr) (ns : List Int), vs = [.ref l] ∧ SqL K H l (IL ns) ∧ ns.length ≤ 200 ∧ ∀ D H', Same H H' → H D = none → PLs H' D (S0 ns) → Q (.ref D) H'
theorem ok_law_sights_by (T : Txt K mg) : FnOk P w K mg base CX0 1 T.a_law_sights_by T.d_law_sights_by ["_law_land"] (spBy K) := by
  refine T.F_law_sights_by.ok sc_law_sights_by (fun vs H Q E h => ?_) (fun cdv A outer s H vs Q E hr h => ⟨_, (pss_cons (ps_set (i := 1) sc_law_sights_by.nd rfl (Or.inl rfl) (pe_lst pa_nil))
      (pss_cons (ps_for PassesOwn.never rfl (pi_range1 rfl T.n_range (pa_cons (pe_callB (call_lenK (K := K) rfl) rfl T.n_len (by decide +kernel) (pa_cons (pv 0) pa_nil)) pa_nil)) (pg_name (i := 2) sc_law_sights_by.nd rfl (Or.inl rfl)) (pss_cons (ps_set (i := 3) sc_law_sights_by.nd rfl (Or.inl rfl) pe_non)
        (pss_cons (ps_set (i := 4) sc_law_sights_by.nd rfl (Or.inl rfl) pe_int)
        (pss_one (ps_for PassesOwn.never rfl (pi_range2 rfl T.n_range (pa_cons (pe_op op_add (pv 2) pe_int) (pa_cons (pe_callB (call_lenK (K := K) rfl) rfl T.n_len (by decide +kernel) (pa_cons (pv 0) pa_nil)) pa_nil))) (pg_name (i := 5) sc_law_sights_by.nd rfl (Or.inl rfl)) (pss_cons (ps_set (i := 6) sc_law_sights_by.nd rfl (Or.inl rfl) (pe_op op_sub (pe_ix (ix_listK (K := K) rfl) (pv 0) (pv 5) (fun _ _ => rfl)) (pe_ix (ix_listK (K := K) rfl) (pv 0) (pv 2) (fun _ _ => rfl))))
          (pss_one (ps_if (PW.pt (pw_or (pt_cmpR op_isN1 (pv 3) pe_non (nomark _)) (pw_or1 (pt_cmpR op_gt (pe_op op_mul (pv 6) (pv 4)) (pe_op op_mul (pv 3) (pe_op op_sub (pv 5) (pv 2))) (nomark _))))) (pss_cons (ps_expr (pe_bmK (K := K) rfl PySem.F.plainAttrs_list PySem.F.slot_list_append PySem.F.type_list_append mt_append (pv 1) (pa_cons (pe_tup (pa_cons (pv 2) (pa_cons (pv 5) pa_nil))) pa_nil)))
            (pss_cons (ps_set (i := 3) sc_law_sights_by.nd rfl (Or.inl rfl) (pv 6))
            (pss_one (ps_set (i := 4) sc_law_sights_by.nd rfl (Or.inl rfl) (pe_op op_sub (pv 5) (pv 2)))))) pss_nil))))))))
      (pss_one (ps_ret (pv 1))))), ?_⟩)
  · obtain ⟨l, ns, rfl, _⟩ := h
    rfl
  · obtain ⟨l, ns, rfl, hS, hn, q⟩ := h
    walk_at "rd"
    refine ⟨sz 0, fun D nD => ?_⟩
    have hS1 := (same_upd (o := .lst []) nD).seq hS
    walk_at "rd"
    rw [List.length_map]
    refine rng1 ⟨by omega, by omega⟩ (fun a σ H' => ∃ (v2 v3 v4 v5 v6 : Option V) (ys : List V), σ = [some (.ref l), some (.ref D), v2, v3, v4, v5, v6] ∧ Same H H' ∧ H' D = some (.lst ys) ∧ PrsH H' ys (NP (sigN ns a)))
      ⟨none, none, none, none, none, [], rfl, same_upd nD, upd_same, .nil⟩ ?_ ?_
    · rintro a σ H' ha ⟨v2, v3, v4, v5, v6, ys, rfl, s1, hD, hp⟩
      have hS2 := s1.seq hS
      walk_at "rd"
      rw [List.length_map]
      refine rng2 ⟨⟨by omega, by omega⟩, by omega, by omega⟩ (fun i σ H' => ∃ (v3 v4 v5 v6 : Option V) (ys : List V), σ = [some (.ref l), some (.ref D), some (.int (a : Int)), v3, v4, v5, v6] ∧ Same H H' ∧ H' D = some (.lst ys) ∧ PrsH H' ys (NP (sigN ns a ++ (behN ns a (a + 1 + i)).map fun b => (a, b))) ∧
          ((i = 0 ∧ v3 = some .non ∧ v4 = some (.int 1)) ∨ ∃ m : Nat, v3 = some (.int (g ns m - g ns a)) ∧ v4 = some (.int ((m : Int) - (a : Int))) ∧ Steep ns a (a + 1 + i) m))
        ⟨_, _, v5, v6, ys, rfl, s1, hD, by rw [behN_low (by omega)]; simpa using hp, .inl ⟨rfl, rfl, rfl⟩⟩ ?_ ?_
      · rintro i σ H2 hi ⟨v3, v4, v5, v6, zs, rfl, s2, hD2, hp2, hb⟩
        have hS3 := s2.seq hS
        have eb : ((a : Int) + 1 + (i : Int)) = ((a + 1 + i : Nat) : Int) := by omega
        rw [eb]
        generalize hbb : a + 1 + i = b at *
        have hbl : b < ns.length := by omega
        have hab : a < b := by omega
        have l1 := behN_len ns a b
        have l2 := sigN_len ns a
        have lz : zs.length < 100000 := by
          rw [hp2.length, List.length_map, List.length_append, List.length_map]
          have h1 : a * ns.length ≤ 200 * 200 := Nat.mul_le_mul (by omega) hn
          omega
        walk_at "rd"
        refine rd_ixL hS3 (IL_at (by omega) (by omega)) ?_
        walk_at "rd"
        refine rd_ixL hS3 (IL_at (by omega) (by omega)) ?_
        rw [Int.toNat_natCast, Int.toNat_natCast]
        have snoc : ∀ t, H2 t = none → PrsH (upd (upd H2 t (.tup [.int (a : Int), .int (b : Int)])) D (.lst (zs ++ [.ref t]))) (zs ++ [.ref t]) (NP (sigN ns a ++ ((behN ns a b).map fun b => (a, b)) ++ [(a, b)])) := fun t nt => by
          have s4 := same_upd (o := .tup [.int (a : Int), .int (b : Int)]) nt
          have ht : (upd H2 t (.tup [.int (a : Int), .int (b : Int)])) t = some (.tup [.int (a : Int), .int (b : Int)]) := upd_same
          have h1 := ((hp2.mono s4).upd (o := .lst (zs ++ [.ref t])) (s4 _ _ hD2)).snoc (p := ((a : Int), (b : Int))) (by rw [upd_ne (ne_of ht (s4 _ _ hD2) (by intro z; cases z))]; exact ht)
          rw [NP, List.map_append]
          exact h1
        rcases hb with ⟨rfl, rfl, rfl⟩ | ⟨m, rfl, rfl, hst⟩
        · walk_at "rd"
          refine rd_yes (by simp) ?_
          walk_at "rd"
          refine ⟨ty_list (.of hD2), ?_⟩
          walk_at "rd"
          refine ⟨sz 2, fun t nt => ?_⟩
          have s4 := same_upd (o := .tup [.int (a : Int), .int (b : Int)]) nt
          walk_at "rd"
          refine rd_append (s4 _ _ hD2) lz ?_
          walk_at "rd"
          refine ⟨_, _, _, _, _, rfl, Same.mut (s2.trans s4) nD, upd_same, ?_, .inr ⟨b, rfl, rfl, ?_⟩⟩
          · have e : behN ns a (a + 1 + (0 + 1)) = behN ns a b ++ [b] := by
              rw [show a + 1 + (0 + 1) = b + 1 by omega]
              exact behN_yes hab (by rw [show b = a + 1 by omega]; exact seeB_next)
            rw [e, List.map_append, ← List.append_assoc]
            exact snoc t nt
          · rw [show a + 1 + (0 + 1) = a + 1 + 1 by omega, show b = a + 1 by omega]
            exact Steep.first
        · have hlo := hst.lo
          have hhi := hst.hi
          walk_at "rd"
          refine rd_no (by simp) ?_
          walk_at "rd"
          refine ite2 (fun c => ?_) (fun c => ?_)
          · have c' : Stp ns a b m := of_decide_eq_true c
            walk_at "rd"
            refine ⟨ty_list (.of hD2), ?_⟩
            walk_at "rd"
            refine ⟨sz 2, fun t nt => ?_⟩
            have s4 := same_upd (o := .tup [.int (a : Int), .int (b : Int)]) nt
            walk_at "rd"
            refine rd_append (s4 _ _ hD2) lz ?_
            walk_at "rd"
            refine ⟨_, _, _, _, _, rfl, Same.mut (s2.trans s4) nD, upd_same, ?_, .inr ⟨b, rfl, rfl, ?_⟩⟩
            · have e : behN ns a (a + 1 + (i + 1)) = behN ns a b ++ [b] := by
                rw [show a + 1 + (i + 1) = b + 1 by omega]
                exact behN_yes hab (hst.see.mpr c')
              rw [e, List.map_append, ← List.append_assoc]
              exact snoc t nt
            · rw [show a + 1 + (i + 1) = b + 1 by omega]
              exact hst.up c'
          · have c' : ¬ Stp ns a b m := fun z => c (decide_eq_true z)
            walk_at "rd"
            refine ⟨_, _, _, _, zs, rfl, s2, hD2, ?_, .inr ⟨m, rfl, rfl, ?_⟩⟩
            · rw [show a + 1 + (i + 1) = b + 1 by omega, behN_no (fun z => c' (hst.see.mp z))]
              exact hp2
            · rw [show a + 1 + (i + 1) = b + 1 by omega]
              exact hst.stay c'
      · rintro σ H2 ⟨v3, v4, v5, v6, zs, rfl, s2, hD2, hp2, hb⟩
        refine ⟨_, _, _, _, _, zs, rfl, s2, hD2, ?_⟩
        rw [sigN_succ]
        have e : a + 1 + (((ns.length : Nat) : Int) - ((a : Int) + 1)).toNat = ns.length := by omega
        rw [e] at hp2
        exact hp2
    · rintro σ H' ⟨v2, v3, v4, v5, v6, ys, rfl, s1, hD, hp⟩
      rw [show ((ns.length : Nat) : Int).toNat = ns.length by omega] at hp
      walk_at "rd"
      exact q D H' s1 nD ⟨ys, hD, hp⟩
/-! ## what is due -/
def Refuse (hs : List Int) (x b : V) (z : Str) : Prop := (¬ Ok x hs.length ∧ z = "no hill") ∨ ∃ i : Nat, x = .int (i : Int) ∧ i < hs.length ∧ (¬ ∃ y, b = .int y ∧ Bd (hs.getD i 0 + y)) ∧ z = "too high"
def Good (hs : List Int) (x b : V) (i : Nat) (z : Int) : Prop := x = .int (i : Int) ∧ i < hs.length ∧ b = .int z ∧ Bd (hs.getD i 0 + z)
theorem refuse_or (hs : List Int) (x b : V) : (∃ z, Refuse hs x b z) ∨ ∃ i z, Good hs x b i z := by
  by_cases h : Ok x hs.length
  · obtain ⟨i, rfl, hi⟩ := h
    by_cases c : ∃ y, b = .int y ∧ Bd (hs.getD i 0 + y)
    · obtain ⟨y, rfl, hy⟩ := c
      exact .inr ⟨i, y, rfl, hi, rfl, hy⟩
    · exact .inl ⟨_, .inr ⟨i, rfl, hi, c, rfl⟩⟩
  · exact .inl ⟨_, .inl ⟨h, rfl⟩⟩
/-- the two lists that are due -/
abbrev df1 (hs hs' : List Int) : List (Int × Int) := lackN (S0 hs') (S0 hs)
abbrev df2 (hs hs' : List Int) : List (Int × Int) := lackN (S0 hs) (S0 hs')
def spDueBy (K : PySem.W.Frag) : Sp := fun vs H Q _ => ∃ (l : Addr) (hs : List Int) (x b : V), vs = [.ref l, x, b] ∧ SqL K H l (IL hs) ∧ hs.length ≤ 200 ∧ Wh K H x ∧ Wh K H b ∧
  ((∃ z, Refuse hs x b z ∧ Q (.str z) H) ∨ ∃ i z, Good hs x b i z ∧ ∀ H' t l1 l2, Same H H' → H t = none → H l1 = none → H l2 = none → Two H' t l1 l2 (df1 hs (upH hs i z)) (df2 hs (upH hs i z)) → Q (.ref t) H')
theorem FAR_eq : (10 : Int) ^ (18 : Int).toNat = 1000000000000000000 := by decide +kernel
theorem ok_law_due_by (T : Txt K mg) : FnOk P w K mg base CX0 2 T.a_law_due_by T.d_law_due_by ["_law_heights", "_law_place", "_law_by"] (spDueBy K) := by
  refine T.F_law_due_by.ok sc_law_due_by (fun vs H Q E h => ?_) (fun cdv A outer s H vs Q E hr h => ⟨_, (pss_cons (ps_if (PW.pt (pw_or (pt_not (pt_val (pe_call (ok_law_whole T) (hr.mono (by decide)) rfl T.g_law_whole T.F_law_whole.kp T.b_law_whole .nil pass0 (pa_cons (pv 1) pa_nil)))) (pw_or1 (pt_not (pt_chain op_le op_lt pe_int (pv 1) (pe_callB (call_lenK (K := K) rfl) rfl T.n_len (by decide +kernel) (pa_cons (pv 0) pa_nil))))))) (pss_one (ps_ret pe_str)) pss_nil)
      (pss_cons (ps_if (PW.pt (pw_or (pt_not (pt_val (pe_call (ok_law_whole T) (hr.mono (by decide)) rfl T.g_law_whole T.F_law_whole.kp T.b_law_whole .nil pass0 (pa_cons (pv 2) pa_nil)))) (pw_or1 (pt_not (pt_chain op_le op_le (pe_un un_neg (pe_op op_pow pe_int pe_int)) (pe_op op_add (pe_ix (ix_listK (K := K) rfl) (pv 0) (pv 1) (fun _ _ => rfl)) (pv 2)) (pe_op op_pow pe_int pe_int)))))) (pss_one (ps_ret pe_str)) pss_nil)
      (pss_cons (ps_set (i := 3) sc_law_due_by.nd rfl (Or.inl rfl) (pe_call (ok_law_sights_by T) (hr.mono (by decide)) rfl T.g_law_sights_by T.F_law_sights_by.kp T.b_law_sights_by .nil pass0 (pa_cons (pv 0) pa_nil)))
      (pss_cons (ps_set (i := 4) sc_law_due_by.nd rfl (Or.inl rfl) (pe_call (ok_law_sights_by T) (hr.mono (by decide)) rfl T.g_law_sights_by T.F_law_sights_by.kp T.b_law_sights_by .nil pass0 (pa_cons (pe_lc (own := [("_law_k", 5)]) (g := gName 5) rfl sc_law_due_by.nd (pi_range1 rfl T.n_range (pa_cons (pe_callB (call_lenK (K := K) rfl) rfl T.n_len (by decide +kernel) (pa_cons (pv 0) pa_nil)) pa_nil)) (blkOk_by (own := [("_law_k", 5)]) (N := ["_law_heights", "_law_place", "_law_by", "_law_ahead", "_law_later", "_law_k"]) (sc := defScope s_law_due_by) (by decide +kernel)) (fun _ _ _ _ _ => (pg_name (i := 5) sc_law_due_by.nd rfl (Or.inl rfl))) (fun _ _ _ _ _ => pts_nil) (fun _ _ _ _ _ => (pe_op op_add (pe_ix (ix_listK (K := K) rfl) (pv 0) (pv 5) (fun _ _ => rfl)) (pe_op op_mul (pv 2) (pe_callTy call_int1 rfl T.n_int (by decide +kernel) (pa_cons (pe_cmpR op_eq (pv 5) (pv 1) (nomark _)) pa_nil)))))) pa_nil)))
      (pss_one (ps_ret (pe_tup (pa_cons (pe_call (ok_law_lacking T) (hr.mono (by decide)) rfl T.g_law_lacking T.F_law_lacking.kp T.b_law_lacking .nil pass0 (pa_cons (pv 4) (pa_cons (pv 3) pa_nil))) (pa_cons (pe_call (ok_law_lacking T) (hr.mono (by decide)) rfl T.g_law_lacking T.F_law_lacking.kp T.b_law_lacking .nil pass0 (pa_cons (pv 3) (pa_cons (pv 4) pa_nil))) pa_nil))))))))), ?_⟩)
  · obtain ⟨l, hs, x, b, rfl, _⟩ := h
    rfl
  · obtain ⟨l, hs, x, b, rfl, hS, hn, ⟨r, hx, hxr⟩, ⟨rb, hb, hbr⟩, q⟩ := h
    have hF := FAR_eq
    have hl : (IL hs).length = hs.length := List.length_map _
    walk_at "rd"
    refine ⟨x, r, rfl, hx, ?_⟩
    walk_at "rd"
    have nohill : ¬ Ok x hs.length → Q (.str "no hill") H := fun n => by
      rcases q with ⟨z, ⟨_, rfl⟩ | ⟨i, rfl, hi, _⟩, q⟩ | ⟨i, z, ⟨rfl, hi, _⟩, _⟩
      · exact q
      · exact absurd ⟨i, rfl, hi⟩ n
      · exact absurd ⟨i, rfl, hi⟩ n
    cases r with
    | false =>
      walk_at "rd"
      refine nohill ?_
      rintro ⟨i, rfl, _⟩
      exact Bool.false_ne_true (hxr.mpr ⟨_, rfl⟩)
    | true =>
      obtain ⟨i0, rfl⟩ := hxr.mp rfl
      walk_at "rd"
      refine ite2 (fun c => ?_) (fun c => ?_)
      · have c' : 0 ≤ i0 := of_decide_eq_true c
        walk_at "rd"
        refine ite2 (fun d => ?_) (fun d => ?_)
        · have d' : ¬ i0 < ((IL hs).length : Int) := by simpa using d
          walk_at "rd"
          refine nohill ?_
          rintro ⟨i, e, hi⟩
          cases e
          omega
        · have d' : i0 < ((IL hs).length : Int) := by simpa using d
          obtain ⟨i, rfl⟩ : ∃ i : Nat, i0 = (i : Int) := ⟨i0.toNat, by omega⟩
          have hi : i < hs.length := by omega
          have high : (¬ ∃ y, b = .int y ∧ Bd (hs.getD i 0 + y)) → Q (.str "too high") H := fun n => by
            rcases q with ⟨z, ⟨h, _⟩ | ⟨i, e, hi, _, rfl⟩, q⟩ | ⟨i, z, ⟨e, hi, rfl, hb⟩, _⟩
            · exact absurd ⟨i, rfl, hi⟩ h
            · exact q
            · cases V.int.inj e
              exact absurd ⟨z, rfl, hb⟩ n
          walk_at "rd"
          refine ⟨b, rb, rfl, hb, ?_⟩
          walk_at "rd"
          cases rb with
          | false =>
            walk_at "rd"
            refine high ?_
            rintro ⟨y, rfl, _⟩
            exact Bool.false_ne_true (hbr.mpr ⟨_, rfl⟩)
          | true =>
            obtain ⟨z, rfl⟩ := hbr.mp rfl
            walk_at "rd"
            refine rd_ixL hS (IL_at (i := (i : Int)) (by omega) (by omega)) ?_
            rw [Int.toNat_natCast]
            walk_at "rd"
            rw [hF]
            have fin : Bd (hs.getD i 0 + z) → ∃ i' z', Good hs (.int (i : Int)) (.int z) i' z' ∧ ∀ H' t l1 l2, Same H H' → H t = none → H l1 = none → H l2 = none → Two H' t l1 l2 (df1 hs (upH hs i' z')) (df2 hs (upH hs i' z')) → Q (.ref t) H' := fun hbd => by
              rcases q with ⟨y, ⟨h, _⟩ | ⟨j, e, hj, nb, _⟩, _⟩ | q
              · exact absurd ⟨i, rfl, hi⟩ h
              · cases V.int.inj e
                exact absurd ⟨z, rfl, hbd⟩ nb
              · exact q
            refine ite2 (fun e => ?_) (fun e => ?_)
            · have e' := of_decide_eq_true e
              walk_at "rd"
              rw [hF]
              refine ite2 (fun f => ?_) (fun f => ?_)
              · have f' : ¬ hs.getD i 0 + z ≤ 1000000000000000000 := by simpa using f
                walk_at "rd"
                refine high ?_
                rintro ⟨y, ey, hy⟩
                cases ey
                exact f' hy.2
              · have f' : hs.getD i 0 + z ≤ 1000000000000000000 := by simpa using f
                obtain ⟨i', z', ⟨e1, _, e2, _⟩, q⟩ := fin ⟨e', f'⟩
                have e1 := V.int.inj e1
                have e2 := V.int.inj e2
                have e1 : i' = i := by omega
                subst e1
                subst e2
                clear fin high nohill
                walk_at "rd"
                refine ⟨l, hs, rfl, hS, hn, fun A H1 s1 nA pA => ?_⟩
                have hS1 := s1.seq hS
                walk_at "rd"
                rw [hl]
                refine ⟨(hs.length : Int), rfl, by omega, by omega, fun B nB => lc_rangeM (n := hs.length) (fun k => .int (if k = i' then hs.getD i' 0 + z else hs.getD k 0)) nB (by omega) (fun _ => rfl) (fun k H' R hk s2 q' => ?_) (fun H2 s2 hB => ?_)⟩
                · have hS2 := s2.seq hS1
                  walk_at "rd"
                  refine rd_ixL hS2 (IL_at (i := (k : Int)) (by omega) (by omega)) ?_
                  rw [Int.toNat_natCast]
                  walk_at "rd"
                  refine .inr ⟨_, rfl, ?_⟩
                  have fin := q' _ (Same.refl _)
                  by_cases ck : k = i'
                  · subst ck
                    rw [if_pos rfl] at fin
                    rw [if_pos (decide_eq_true rfl)]
                    walk_at "rd"
                    rw [Int.mul_one]
                    exact fin
                  · rw [if_neg ck] at fin
                    rw [if_neg (fun y => ck (by
                      have := V.int.inj (of_decide_eq_true y)
                      omega))]
                    walk_at "rd"
                    rw [Int.mul_zero, Int.add_zero]
                    exact fin
                rw [IL_mapR, map_up hi] at hB
                have s12 := s1.trans s2
                have pA2 := pA.mono s2
                have hu := upH_len hs i' z
                walk_at "rd"
                refine ⟨B, _, rfl, .of hB, by omega, fun C H3 s3 nC pC => ?_⟩
                have pA3 := pA2.mono s3
                have c1 := S0_len hn
                have c2 := S0_len (ns := upH hs i' z) (by omega)
                walk_at "rd"
                refine ⟨C, A, _, _, rfl, pC, pA3, by omega, by omega, fun R1 H4 s4 nR1 hR1 => ?_⟩
                walk_at "rd"
                refine ⟨A, C, _, _, rfl, pA3.mono s4, pC.mono s4, by omega, by omega, fun R2 H5 s5 nR2 hR2 => ?_⟩
                walk_at "rd"
                refine ⟨sz 2, fun t nt => ?_⟩
                have s6 := same_upd (o := .tup [.ref R1, .ref R2]) nt
                have ht : (upd H5 t (.tup [.ref R1, .ref R2])) t = some (.tup [.ref R1, .ref R2]) := upd_same
                have t3 := s12.trans s3
                have t4 := t3.trans s4
                have t5 := t4.trans s5
                refine q _ t R1 R2 (t5.trans s6) (same_fresh t5 nt) (same_fresh t3 nR1) (same_fresh t4 nR2) ⟨ht, fun e => ?_, (hR1.mono s5).mono s6, hR2.mono s6⟩
                exact hR1.ne (by rw [e]; exact nR2)
            · have e' := fun y => e (decide_eq_true y)
              walk_at "rd"
              refine high ?_
              rintro ⟨y, ey, hy⟩
              cases ey
              exact e' hy.1
      · have c' : ¬ 0 ≤ i0 := fun z => c (decide_eq_true z)
        walk_at "rd"
        refine nohill ?_
        rintro ⟨i, e, hi⟩
        cases e
        omega
/-! ## a refusal, asked -/
theorem so_NoHill (T : Txt K mg) : Sole T T.c_NoHill false true false false false := ⟨⟨T.hg_NoHill, T.hk_NoHill, T.e_NoHill, T.hd_NoHill, T.ha_NoHill, T.hn_obj, T.ht_obj, T.hm_NoHill⟩, T.kt_NoHill_NoLand, T.kt_NoHill_NoHill, T.kt_NoHill_SameHill, T.kt_NoHill_TooHigh, T.kt_NoHill_NothingDone, T.kt_NoHill_HillError, T.kv_NoHill, rfl⟩
theorem so_TooHigh (T : Txt K mg) : Sole T T.c_TooHigh false false false true false := ⟨⟨T.hg_TooHigh, T.hk_TooHigh, T.e_TooHigh, T.hd_TooHigh, T.ha_TooHigh, T.hn_obj, T.ht_obj, T.hm_TooHigh⟩, T.kt_TooHigh_NoLand, T.kt_TooHigh_NoHill, T.kt_TooHigh_SameHill, T.kt_TooHigh_TooHigh, T.kt_TooHigh_NothingDone, T.kt_TooHigh_HillError, T.kv_TooHigh, rfl⟩
theorem so_NothingDone (T : Txt K mg) : Sole T T.c_NothingDone false false false false true := ⟨⟨T.hg_NothingDone, T.hk_NothingDone, T.e_NothingDone, T.hd_NothingDone, T.ha_NothingDone, T.hn_obj, T.ht_obj, T.hm_NothingDone⟩, T.kt_NothingDone_NoLand, T.kt_NothingDone_NoHill, T.kt_NothingDone_SameHill, T.kt_NothingDone_TooHigh, T.kt_NothingDone_NothingDone, T.kt_NothingDone_HillError, T.kv_NothingDone, rfl⟩
theorem okP_law_base (T : Txt K mg) {p : Addr × Obj} {cls : Value} {d : Option Addr} (hz : L2N.Zn cls d p.2) (hf : ∃ vs, p.2.data = .fields vs) : FnP P w K mg base 2 T.a_law_base T.d_law_base ["_law_error"] p (spSole T p.1 cls d) := by
  refine okP T.F_law_base sc_law_base (fun vs H Q E h => ?_) (fun cdv A outer s H vs Q E hot hr h => ?_)
  · obtain ⟨rfl, _⟩ := h
    rfl
  · obtain ⟨rfl, rfl, hS, q⟩ := h
    refine ⟨_, (pss_one (ps_ret (pe_callP (p := p) (okP_law_sole T hz hf) (hr.mono (by decide)) hot (show p ∈ [p] from List.mem_singleton.mpr rfl) rfl T.g_law_sole T.F_law_sole.kp T.b_law_sole (pa_cons (pv 0) pa_nil)))), ?_⟩
    walk_at "rd"
    exact ⟨rfl, rfl, hS, q⟩
def spLTold (K : PySem.W.Frag) (CL : Addr) : Sp := fun vs H Q _ => ∃ (y D F : Addr) (hs : List Int) (dn : List (Int × Int)) (x b : V), vs = [.ref y, x, b] ∧ LandS H CL y D F hs dn ∧ hs.length ≤ 200 ∧ dn.length ≤ 50000 ∧
  ((x = .non ∧ ((dn = [] ∧ ∀ H', Same H H' → Q (.str "nothing done") H') ∨ ∃ dn0 i z, dn = dn0 ++ [(((i : Nat) : Int), z)] ∧ i < hs.length ∧ Gave H [D, F] CL y D F hs (upH hs i (-z)) dn0 Q)) ∨
   (x ≠ .non ∧ Wh K H x ∧ Wh K H b ∧ ((∃ z, Refuse hs x b z ∧ ∀ H', Same H H' → Q (.str z) H') ∨ ∃ i z, Good hs x b i z ∧ Gave H [D, F] CL y D F hs (upH hs i z) (dn ++ [((i : Int), z)]) Q)))
theorem ok_law_told (T : Txt K mg) : FnOk P w K mg base CX0 6 T.a_law_told T.d_law_told ["_law_land", "_law_place", "_law_by"] (spLTold K T.c_Land) := by
  refine T.F_law_told.ok sc_law_told (fun vs H Q E h => ?_) (fun cdv A outer s H vs Q E hr h => ⟨_, (pss_one (ps_try_manyA rfl rfl sc_law_told.nd takes0N (fun W pn xe tk po => (pss_cons (ps_if (pt_cmpR op_isN1 (pv 1) pe_non (nomark _)) (pss_one (ps_ret (pe_meth0 (E := fun cls d H' => ∀ σ : L2.St, σ.length = 4 → W cls d σ H') (pv 0) T.cl_Land T.m_Land_back (ok_Land_back T) (hr.mono (by decide)) T.b_Land_back .nil (passT tk rfl)))) pss_nil)
        (pss_one (ps_ret (pe_meth (E := fun cls d H' => ∀ σ : L2.St, σ.length = 4 → W cls d σ H') (pv 0) T.cl_Land T.m_Land_lift (ok_Land_lift T) (hr.mono (by decide)) T.b_Land_lift .nil (passT tk rfl) (pa_cons (pv 1) (pa_cons (pv 2) pa_nil))))))) (.consA (i := 3) rfl rfl ⟨rfl, by decide, .inl T.g_NoHill⟩ (fun a oe cls d pn hz hf => (pss_one (ps_ret (pe_op op_mulS pe_str (pe_callTy call_int1 rfl T.n_int (by decide +kernel) (pa_cons (pe_callP (p := (a, oe)) (okP_law_base T hz hf) (roomM (j := 2) hr (by decide)) ⟨rfl, hot2 hz hf⟩ List.mem_cons_self rfl T.g_law_base T.F_law_base.kp T.b_law_base (pa_cons (pv 3) pa_nil)) pa_nil)))))) (.consA (i := 3) rfl rfl ⟨rfl, by decide, .inl T.g_TooHigh⟩ (fun a oe cls d pn hz hf => (pss_one (ps_ret (pe_op op_mulS pe_str (pe_callTy call_int1 rfl T.n_int (by decide +kernel) (pa_cons (pe_callP (p := (a, oe)) (okP_law_base T hz hf) (roomM (j := 2) hr (by decide)) ⟨rfl, hot2 hz hf⟩ List.mem_cons_self rfl T.g_law_base T.F_law_base.kp T.b_law_base (pa_cons (pv 3) pa_nil)) pa_nil)))))) (.consA (i := 3) rfl rfl ⟨rfl, by decide, .inl T.g_NothingDone⟩ (fun a oe cls d pn hz hf => (pss_one (ps_ret (pe_op op_mulS pe_str (pe_callTy call_int1 rfl T.n_int (by decide +kernel) (pa_cons (pe_callP (p := (a, oe)) (okP_law_base T hz hf) (roomM (j := 2) hr (by decide)) ⟨rfl, hot2 hz hf⟩ List.mem_cons_self rfl T.g_law_base T.F_law_base.kp T.b_law_base (pa_cons (pv 3) pa_nil)) pa_nil)))))) .nil))))), ?_⟩)
  · obtain ⟨y, D, F, hs, dn, x, b, rfl, _⟩ := h
    rfl
  · obtain ⟨y, D, F, hs, dn, x, b, rfl, L, hn, hdn, q⟩ := h
    obtain ⟨dx, hy⟩ := L.ins
    rcases q with ⟨rfl, q⟩ | ⟨hx, wx, wb, q⟩
    · walk_at "rd"
      refine rd_yes (by simp) ?_
      walk_at "rd"
      with_reducible refine rd_meth ?_
      walk_at "rd"
      refine ⟨y, dx, _, rfl, hy, rfl, ?_⟩
      walk_at "rd"
      refine ⟨y, D, F, hs, dn, rfl, L, hn, fun e H' s1 => ?_, fun dn0 p e => ?_⟩
      · rcases q with ⟨_, q⟩ | ⟨dn0, i, z, e2, _⟩
        · intro σ hσ
          refine ⟨false, exm_of T.e_NoHill T.i_NoHill T.t_NoHill T.s_NothingDone_NoHill, fun z => (by cases z), fun _ => ?_⟩
          refine ⟨false, exm_of T.e_TooHigh T.i_TooHigh T.t_TooHigh T.s_NothingDone_TooHigh, fun z => (by cases z), fun _ => ?_⟩
          refine ⟨true, exm_of T.e_NothingDone T.i_NothingDone T.t_NothingDone T.s_NothingDone_NothingDone, fun _ ae nae => ?_, fun z => (by cases z)⟩
          match σ, hσ with
          | [u1, u2, u3, u4], _ =>
            dsimp only [endsOf, slotOf]
            walk_at "rd"
            refine ⟨rfl, rfl, ⟨T.c_NothingDone, _, _, _, _, _, rfl, so_NothingDone T⟩, ?_⟩
            walk_at "rd"
            refine .inr ⟨_, rfl, ?_⟩
            exact rd_mul1 (q _ s1)
        · rw [e] at e2
          simp at e2
      · rcases q with ⟨e2, q⟩ | ⟨dn0', i, z, e2, hi, q⟩
        · rw [e2] at e
          simp at e
        · rw [e2] at e
          obtain ⟨rfl, e3⟩ := List.append_inj' e rfl
          exact ⟨i, z, (List.cons.inj e3).1.symm, hi, q⟩
    · walk_at "rd"
      refine rd_no (by simpa using hx) ?_
      walk_at "rd"
      with_reducible refine rd_meth ?_
      walk_at "rd"
      refine ⟨y, dx, _, rfl, hy, rfl, ?_⟩
      walk_at "rd"
      have fin : ∀ σ : L2.St, σ.length = 4 → ∃ a b c e, σ = [a, b, c, e] := fun σ hσ => match σ, hσ with | [a, b, c, e], _ => ⟨a, b, c, e, rfl⟩
      refine ⟨y, D, F, hs, dn, x, b, rfl, L, hn, hdn, wx, wb, fun no => ?_, fun i ex hi no => ?_, fun i z ex hi eb hbd => ?_⟩
      · intro σ hσ
        obtain ⟨u1, u2, u3, u4, rfl⟩ := fin σ hσ
        refine ⟨true, exm_of T.e_NoHill T.i_NoHill T.t_NoHill T.s_NoHill_NoHill, fun _ ae nae => ?_, fun z => (by cases z)⟩
        dsimp only [endsOf, slotOf]
        walk_at "rd"
        refine ⟨rfl, rfl, ⟨T.c_NoHill, _, _, _, _, _, rfl, so_NoHill T⟩, ?_⟩
        walk_at "rd"
        refine .inr ⟨_, rfl, ?_⟩
        rcases q with ⟨z, ⟨_, rfl⟩ | ⟨i, e, hi, _⟩, q⟩ | ⟨i, z, ⟨e, hi, _⟩, _⟩
        · exact rd_mul1 (q _ (Same.refl _))
        · exact absurd ⟨i, e, hi⟩ no
        · exact absurd ⟨i, e, hi⟩ no
      · intro σ hσ
        obtain ⟨u1, u2, u3, u4, rfl⟩ := fin σ hσ
        refine ⟨false, exm_of T.e_NoHill T.i_NoHill T.t_NoHill T.s_TooHigh_NoHill, fun z => (by cases z), fun _ => ?_⟩
        refine ⟨true, exm_of T.e_TooHigh T.i_TooHigh T.t_TooHigh T.s_TooHigh_TooHigh, fun _ ae nae => ?_, fun z => (by cases z)⟩
        dsimp only [endsOf, slotOf]
        walk_at "rd"
        refine ⟨rfl, rfl, ⟨T.c_TooHigh, _, _, _, _, _, rfl, so_TooHigh T⟩, ?_⟩
        walk_at "rd"
        refine .inr ⟨_, rfl, ?_⟩
        rcases q with ⟨z, ⟨h, _⟩ | ⟨j, e, hj, _, rfl⟩, q⟩ | ⟨j, z, ⟨e, hj, e2, hb⟩, _⟩
        · exact absurd ⟨i, ex, hi⟩ h
        · exact rd_mul1 (q _ (Same.refl _))
        · refine absurd ⟨z, e2, ?_⟩ no
          rw [ex] at e
          have := V.int.inj e
          rw [show i = j by omega]
          exact hb
      · rcases q with ⟨y', ⟨h, _⟩ | ⟨j, e, hj, nb, _⟩, _⟩ | ⟨j, z', ⟨e, hj, e2, hb⟩, q⟩
        · exact absurd ⟨i, ex, hi⟩ h
        · refine absurd ⟨z, eb, ?_⟩ nb
          rw [ex] at e
          have := V.int.inj e
          rw [show j = i by omega]
          exact hbd
        · rw [ex] at e
          rw [eb] at e2
          have e1 := V.int.inj e
          have e3 : z = z' := V.int.inj e2
          have e1 : i = j := by omega
          subst e1
          subst e3
          exact q

/-! ## alike, kept -/
def spAlike : Sp := fun vs H Q _ => ∃ f d : V, vs = [f, d] ∧ ((∃ z, f = .str z ∧ d = .str z ∧ Q (.bl true) H) ∨ ∃ t l1 l2 t' m1 m2 P1 P2, f = .ref t ∧ d = .ref t' ∧ Two H t l1 l2 P1 P2 ∧ Two H t' m1 m2 P1 P2 ∧ (P1.length ≤ 60000 ∧ P2.length ≤ 60000) ∧
  ∀ H', Keep [l1, l2] H H' → Two H' t l1 l2 (P1 ++ [(0, 0)]) (P2 ++ [(0, 0)]) → Q (.bl true) H')
theorem ok_law_alike (T : Txt K mg) : FnOk P w K mg base CX0 1 T.a_law_alike T.d_law_alike ["_law_found", "_law_due"] spAlike := by
  refine T.F_law_alike.ok sc_law_alike (fun vs H Q E h => ?_) (fun cdv A outer s H vs Q E hr h => ⟨_, (pss_cons (ps_if (pt_val (pe_callB (call_isiK0 (K := K) rfl) rfl T.n_isinstance (by decide +kernel) (pa_cons (pv 1) (pa_cons (pe_bltn (v := .ty "str") (by rfl) T.n_str (by decide +kernel) rfl) pa_nil)))) (pss_one (ps_ret (pe_cmpR op_eq (pv 0) (pv 1) (nomark _)))) pss_nil)
      (pss_cons (ps_if (PW.pt (pw_or (pt_not (pt_val (pe_callB (call_isiK0 (K := K) rfl) rfl T.n_isinstance (by decide +kernel) (pa_cons (pv 0) (pa_cons (pe_bltn (v := .ty "tuple") (by rfl) T.n_tuple (by decide +kernel) rfl) pa_nil))))) (pw_or (pt_cmpR op_ne (pe_callB (call_lenK (K := K) rfl) rfl T.n_len (by decide +kernel) (pa_cons (pv 0) pa_nil)) pe_int (nomark _)) (pw_or1 (pt_not (pt_val (pe_callB (call_isiK0 (K := K) rfl) rfl T.n_isinstance (by decide +kernel) (pa_cons (pe_ix (ix_tupK (K := K) rfl) (pv 0) pe_int (fun _ _ => rfl)) (pa_cons (pe_bltn (v := .ty "list") (by rfl) T.n_list (by decide +kernel) rfl) pa_nil))))))))) (pss_one (ps_ret pe_bl)) pss_nil)
      (pss_cons (ps_if (PW.pt (pw_or (pt_not (pt_val (pe_callB (call_isiK0 (K := K) rfl) rfl T.n_isinstance (by decide +kernel) (pa_cons (pe_ix (ix_tupK (K := K) rfl) (pv 0) pe_int (fun _ _ => rfl)) (pa_cons (pe_bltn (v := .ty "list") (by rfl) T.n_list (by decide +kernel) rfl) pa_nil))))) (pw_or (pt_cmpR (op_neDK (K := K) rfl hr.units) (pe_ix (ix_tupK (K := K) rfl) (pv 0) pe_int (fun _ _ => rfl)) (pe_ix (ix_tupK (K := K) rfl) (pv 1) pe_int (fun _ _ => rfl)) (nomark _)) (pw_or1 (pt_cmpR (op_neDK (K := K) rfl hr.units) (pe_ix (ix_tupK (K := K) rfl) (pv 0) pe_int (fun _ _ => rfl)) (pe_ix (ix_tupK (K := K) rfl) (pv 1) pe_int (fun _ _ => rfl)) (nomark _)))))) (pss_one (ps_ret pe_bl)) pss_nil)
      (pss_cons (ps_expr (pe_bmK (K := K) rfl PySem.F.plainAttrs_list PySem.F.slot_list_append PySem.F.type_list_append mt_append (pe_ix (ix_tupK (K := K) rfl) (pv 0) pe_int (fun _ _ => rfl)) (pa_cons (pe_tup (pa_cons pe_int (pa_cons pe_int pa_nil))) pa_nil)))
      (pss_cons (ps_expr (pe_bmK (K := K) rfl PySem.F.plainAttrs_list PySem.F.slot_list_append PySem.F.type_list_append mt_append (pe_ix (ix_tupK (K := K) rfl) (pv 0) pe_int (fun _ _ => rfl)) (pa_cons (pe_tup (pa_cons pe_int (pa_cons pe_int pa_nil))) pa_nil)))
      (pss_one (ps_ret pe_bl))))))), ?_⟩)
  · obtain ⟨f, d, rfl, _⟩ := h
    rfl
  · obtain ⟨f, d, rfl, ⟨z, rfl, rfl, q⟩ | ⟨t, l1, l2, t', m1, m2, P1, P2, rfl, rfl, tw, tw', ⟨n1, n2⟩, q⟩⟩ := h
    · walk_at "rd"
      refine rd_isi (b := true) (.base (.str _)) (by decide +kernel) ?_
      walk_at "rd"
      rw [decide_eq_true rfl]
      exact q
    · walk_at "rd"
      refine rd_isi (b := false) (ty_tup tw'.tp) (by decide +kernel) ?_
      walk_at "rd"
      refine rd_isi (b := true) (ty_tup tw.tp) (by decide +kernel) ?_
      obtain ⟨v1, h1, p1⟩ := tw.p1
      obtain ⟨v2, h2, p2⟩ := tw.p2
      obtain ⟨w1, g1, r1⟩ := tw'.p1
      obtain ⟨w2, g2, r2⟩ := tw'.p2
      walk_at "rd"
      refine rd_lenT (.of tw.tp) ?_
      walk_at "rd"
      refine rd_no (by simp) ?_
      walk_at "rd"
      refine rd_ixT (.of tw.tp) (atI_nat (j := 0) rfl) ?_
      walk_at "rd"
      refine rd_isi (b := true) (ty_lst h1) (by decide +kernel) ?_
      walk_at "rd"
      refine rd_ixT (.of tw.tp) (atI_nat (j := 1) rfl) ?_
      walk_at "rd"
      refine rd_isi (b := true) (ty_lst h2) (by decide +kernel) ?_
      walk_at "rd"
      refine rd_ixT (.of tw.tp) (atI_nat (j := 0) rfl) ?_
      walk_at "rd"
      refine rd_ixT (.of tw'.tp) (atI_nat (j := 0) rfl) ?_
      refine rd_neP (.of h1) p1.prs (.of g1) r1.prs ?_
      walk_at "rd"
      refine rd_no (by simp) ?_
      walk_at "rd"
      refine rd_ixT (.of tw.tp) (atI_nat (j := 1) rfl) ?_
      walk_at "rd"
      refine rd_ixT (.of tw'.tp) (atI_nat (j := 1) rfl) ?_
      refine rd_neP (.of h2) p2.prs (.of g2) r2.prs ?_
      walk_at "rd"
      refine rd_no (by simp) ?_
      walk_at "rd"
      refine rd_ixT (.of tw.tp) (atI_nat (j := 0) rfl) ?_
      refine ⟨ty_list (.of h1), ?_⟩
      walk_at "rd"
      refine ⟨sz 2, fun u nu => ?_⟩
      have s1 := same_upd (o := .tup [.int 0, .int 0]) nu
      have hu : (upd H u (.tup [.int 0, .int 0])) u = some (.tup [.int 0, .int 0]) := upd_same
      have tw1 := tw.mono s1
      have h11 := s1 _ _ h1
      have p11 := p1.mono s1
      have e1 := p1.length
      have e2 := p2.length
      generalize upd H u (.tup [.int 0, .int 0]) = H1 at *
      walk_at "rd"
      refine rd_append h11 (by omega) ?_
      have k2 : Keep [l1, l2] H (upd H1 l1 (.lst (v1 ++ [.ref u]))) := (Keep.of s1).mut (by simp) h11
      have k12 : Keep [l1] H1 (upd H1 l1 (.lst (v1 ++ [.ref u]))) := Keep.refl.mut (by simp) h11
      have q1 := PLs.snoc (p := (0, 0)) h11 p11 hu
      have n21 : l2 ∉ [l1] := fun e => tw.ne (List.mem_singleton.mp e).symm
      generalize upd H1 l1 (.lst (v1 ++ [.ref u])) = H2 at *
      have tp2 := k12.tup tw1.tp
      have h22 := k12.lst n21 (s1 _ _ h2)
      have p22 := k12.prsH (p2.mono s1)
      walk_at "rd"
      refine rd_ixT (.of tp2) (atI_nat (j := 1) rfl) ?_
      refine ⟨ty_list (.of h22), ?_⟩
      walk_at "rd"
      refine ⟨sz 2, fun u2 nu2 => ?_⟩
      have s3 := same_upd (o := .tup [.int 0, .int 0]) nu2
      have hu2 : (upd H2 u2 (.tup [.int 0, .int 0])) u2 = some (.tup [.int 0, .int 0]) := upd_same
      have h23 := s3 _ _ h22
      have p23 := p22.mono s3
      generalize upd H2 u2 (.tup [.int 0, .int 0]) = H3 at *
      walk_at "rd"
      refine rd_append h23 (by omega) ?_
      have k4 : Keep [l1, l2] H (upd H3 l2 (.lst (v2 ++ [.ref u2]))) := (k2.same s3).mut (by simp) h23
      have k34 : Keep [l2] H3 (upd H3 l2 (.lst (v2 ++ [.ref u2]))) := Keep.refl.mut (by simp) h23
      have q2 := PLs.snoc (p := (0, 0)) h23 p23 hu2
      have n12 : l1 ∉ [l2] := fun e => tw.ne (List.mem_singleton.mp e)
      walk_at "rd"
      exact q _ k4 ⟨k34.tup (s3 _ _ tp2), tw.ne, (q1.mono s3).keep k34 n12, q2⟩
/-- what was told, and what it was when it was told -/
def KeptAt (M : List Addr) (H : Hp) (r : Addr) : Prop := ∃ t l1 l2 m1 m2 P1 P2, H r = some (.tup [.ref t, .ref m1, .ref m2]) ∧ Two H t l1 l2 P1 P2 ∧ PLs H m1 P1 ∧ PLs H m2 P2 ∧ (l1 ∉ M ∧ l2 ∉ M ∧ m1 ∉ M ∧ m2 ∉ M)
theorem KeptAt.keep {M M' : List Addr} {H H' : Hp} {r : Addr} (h : KeptAt M H r) (k : Keep M' H H') (hm : ∀ a ∈ M', a ∈ M) : KeptAt M H' r := by
  obtain ⟨t, l1, l2, m1, m2, P1, P2, h1, h2, h3, h4, n1, n2, n3, n4⟩ := h
  exact ⟨t, l1, l2, m1, m2, P1, P2, k.tup h1, h2.keep k (fun z => n1 (hm _ z)) (fun z => n2 (hm _ z)), h3.keep k (fun z => n3 (hm _ z)), h4.keep k (fun z => n4 (hm _ z)), n1, n2, n3, n4⟩
def ToldH (M : List Addr) (H : Hp) (TH : Addr) (n : Nat) : Prop := ∃ vs, H TH = some (.lst vs) ∧ vs.length ≤ n ∧ ∀ v ∈ vs, ∃ r, v = .ref r ∧ KeptAt M H r
theorem ToldH.keep {M M' : List Addr} {H H' : Hp} {TH : Addr} {n : Nat} (h : ToldH M H TH n) (k : Keep M' H H') (hm : ∀ a ∈ M', a ∈ M) (nT : TH ∉ M') : ToldH M H' TH n := by
  obtain ⟨vs, h1, h2, h3⟩ := h
  refine ⟨vs, k.lst nT h1, h2, fun v hv => ?_⟩
  obtain ⟨r, e, hr⟩ := h3 v hv
  exact ⟨r, e, hr.keep k hm⟩
def spKept : Sp := fun vs H Q _ => ∃ (M : List Addr) (TH : Addr) (f : V) (n : Nat), vs = [.ref TH, f] ∧ ToldH M H TH n ∧ TH ∈ M ∧ n ≤ 1000 ∧ (∀ m ∈ M, H m ≠ none) ∧
  ((f = .non ∨ ∃ z, f = .str z) ∨ ∃ t l1 l2 P1 P2, f = .ref t ∧ Two H t l1 l2 P1 P2 ∧ l1 ∉ M ∧ l2 ∉ M) ∧ ∀ H', Keep [TH] H H' → ToldH M H' TH (n + 1) → Q (.bl true) H'
theorem ok_law_kept (T : Txt K mg) : FnOk P w K mg base CX0 1 T.a_law_kept T.d_law_kept ["_law_told_here", "_law_found"] spKept := by
  refine T.F_law_kept.ok sc_law_kept (fun vs H Q E h => ?_) (fun cdv A outer s H vs Q E hr h => ⟨_, (pss_cons (ps_set (i := 2) sc_law_kept.nd rfl (Or.inl rfl) (pe_callB (cr_allK (K := K) rfl rfl) rfl T.n_all (by decide +kernel) (pa_cons (pe_lc (own := [("_law_pair", 3), ("_law_one", 4), ("_law_other", 5)]) (g := gTup K 3 (gCons (gName 3) (gCons (gName 4) (gCons (gName 5) gNil)))) rfl sc_law_kept.nd (pi_listK (K := K) rfl (pv 0)) (blkOk_by (own := [("_law_pair", 3), ("_law_one", 4), ("_law_other", 5)]) (N := ["_law_told_here", "_law_found", "_law_good", "_law_pair", "_law_one", "_law_other"]) (sc := defScope s_law_kept) (by decide +kernel)) (fun _ _ _ _ _ => (pg_tupK (K := K) (n := 3) rfl rfl (pgs_cons (pg_name (i := 3) sc_law_kept.nd rfl (Or.inl rfl)) (pgs_cons (pg_name (i := 4) sc_law_kept.nd rfl (Or.inl rfl)) (pgs_cons (pg_name (i := 5) sc_law_kept.nd rfl (Or.inl rfl)) pgs_nil))))) (fun _ _ _ _ _ => pts_nil) (fun _ _ _ _ _ => (pe_and (pe_cmpR (op_eqDK (K := K) rfl hr.units) (pe_ix (ix_tupK (K := K) rfl) (pv 3) pe_int (fun _ _ => rfl)) (pv 4) (nomark _)) (pe_one (pe_cmpR (op_eqDK (K := K) rfl hr.units) (pe_ix (ix_tupK (K := K) rfl) (pv 3) pe_int (fun _ _ => rfl)) (pv 5) (nomark _)))))) pa_nil)))
      (pss_cons (ps_if (pt_val (pe_callB (call_isiK0 (K := K) rfl) rfl T.n_isinstance (by decide +kernel) (pa_cons (pv 1) (pa_cons (pe_bltn (v := .ty "tuple") (by rfl) T.n_tuple (by decide +kernel) rfl) pa_nil)))) (pss_one (ps_expr (pe_bmK (K := K) rfl PySem.F.plainAttrs_list PySem.F.slot_list_append PySem.F.type_list_append mt_append (pv 0) (pa_cons (pe_tup (pa_cons (pv 1) (pa_cons (pe_callTy (call_listK (K := K) rfl) rfl T.n_list (by decide +kernel) (pa_cons (pe_ix (ix_tupK (K := K) rfl) (pv 1) pe_int (fun _ _ => rfl)) pa_nil)) (pa_cons (pe_callTy (call_listK (K := K) rfl) rfl T.n_list (by decide +kernel) (pa_cons (pe_ix (ix_tupK (K := K) rfl) (pv 1) pe_int (fun _ _ => rfl)) pa_nil)) pa_nil)))) pa_nil)))) pss_nil)
      (pss_one (ps_ret (pv 2))))), ?_⟩)
  · obtain ⟨M, TH, f, n, rfl, _⟩ := h
    rfl
  · obtain ⟨M, TH, f, n, rfl, ⟨vs, hT, hl, hk⟩, hTM, hn, hM, hf, q⟩ := h
    walk_at "rd"
    refine ⟨TH, rfl, ⟨_, .of hT⟩, fun D nD => lc_list (K := K) (a := TH) (xs := vs) (fun i H' => Same H H' ∧ H' D = some (.lst (List.replicate i (V.bl true)))) ⟨same_upd nD, upd_same⟩ (fun i H' _ ⟨s, _⟩ => .of (s _ _ hT)) ?_ ?_⟩
    · rintro i x H' hx ⟨s1, hD⟩
      have hi := (List.getElem?_eq_some_iff.mp hx).1
      obtain ⟨r, rfl, kr⟩ := hk x (List.mem_of_getElem? hx)
      obtain ⟨t, l1, l2, m1, m2, P1, P2, h1, h2, h3, h4, _⟩ := kr.keep (Keep.of (M := []) s1) (fun a z => by cases z)
      refine rd_gTup3 (.of h1) ⟨rfl, ?_⟩
      obtain ⟨v1, g1, p1⟩ := h2.p1
      obtain ⟨v2, g2, p2⟩ := h2.p2
      obtain ⟨w1, f1, r1⟩ := h3
      obtain ⟨w2, f2, r2⟩ := h4
      walk_at "rd"
      refine rd_ixT (.of h2.tp) (atI_nat (j := 0) rfl) ?_
      walk_at "rd"
      refine rd_eqP (.of g1) p1.prs (.of f1) r1.prs ?_
      walk_at "rd"
      refine rd_yes (by simp) ?_
      walk_at "rd"
      refine rd_ixT (.of h2.tp) (atI_nat (j := 1) rfl) ?_
      walk_at "rd"
      refine rd_eqP (.of g2) p2.prs (.of f2) r2.prs ?_
      rw [decide_eq_true rfl]
      refine ⟨_, hD, by rw [List.length_replicate]; exact szlt (by omega), Same.mut s1 nD, ?_⟩
      rw [upd_same, List.replicate_succ']
    · rintro H1 ⟨s1, hD⟩
      walk_at "rd"
      refine ⟨D, List.replicate vs.length true, rfl, .of (by rw [hD, List.map_replicate]), ?_⟩
      rw [show (List.replicate vs.length true).all _root_.id = true by simp]
      have hT1 := s1 _ _ hT
      have hk1 : ∀ v ∈ vs, ∃ r, v = .ref r ∧ KeptAt M H1 r := fun v hv => by
        obtain ⟨r, e, kr⟩ := hk v hv
        exact ⟨r, e, kr.keep (Keep.of (M := []) s1) (fun a z => by cases z)⟩
      rcases hf with hf | ⟨t, l1, l2, P1, P2, rfl, tw, n1, n2⟩
      · walk_at "rd"
        have ty : ∃ t, TyX K H1 f (.type t) ∧ kitB t "tuple" = some false := by
          rcases hf with rfl | ⟨z, rfl⟩
          · exact ⟨_, .base .non, by decide +kernel⟩
          · exact ⟨_, .base (.str _), by decide +kernel⟩
        obtain ⟨t, ty, kt⟩ := ty
        refine rd_isi ty kt ?_
        walk_at "rd"
        exact q _ (Keep.of s1) ⟨vs, hT1, by omega, hk1⟩
      · have tw1 := tw.mono s1
        obtain ⟨v1, g1, p1⟩ := tw1.p1
        obtain ⟨v2, g2, p2⟩ := tw1.p2
        walk_at "rd"
        refine rd_isi (b := true) (ty_tup tw1.tp) (by decide +kernel) ?_
        walk_at "rd"
        refine ⟨ty_list (.of hT1), ?_⟩
        walk_at "rd"
        refine rd_ixT (.of tw1.tp) (atI_nat (j := 0) rfl) ?_
        walk_at "rd"
        intro m1 nm1
        have s2 := same_upd (o := .lst v1) nm1
        have hm1 : (upd H1 m1 (.lst v1)) m1 = some (.lst v1) := upd_same
        have s12 := s1.trans s2
        generalize upd H1 m1 (.lst v1) = H2 at *
        walk_at "rd"
        refine rd_ixT (.of (s2 _ _ tw1.tp)) (atI_nat (j := 1) rfl) ?_
        have g22 := s2 _ _ g2
        walk_at "rd"
        intro m2 nm2
        have s3 := same_upd (o := .lst v2) nm2
        have hm2 : (upd H2 m2 (.lst v2)) m2 = some (.lst v2) := upd_same
        have s13 := s12.trans s3
        generalize upd H2 m2 (.lst v2) = H3 at *
        walk_at "rd"
        refine ⟨sz 3, fun r nr => ?_⟩
        have s4 := same_upd (o := .tup [.ref t, .ref m1, .ref m2]) nr
        have hr : (upd H3 r (.tup [.ref t, .ref m1, .ref m2])) r = some (.tup [.ref t, .ref m1, .ref m2]) := upd_same
        have s14 := s13.trans s4
        generalize upd H3 r (.tup [.ref t, .ref m1, .ref m2]) = H4 at *
        have tw4 := tw.mono s14
        have f1 : PLs H4 m1 P1 := ⟨v1, (s3.trans s4) _ _ hm1, ((p1.mono s2).mono s3).mono s4⟩
        have f2 : PLs H4 m2 P2 := ⟨v2, s4 _ _ hm2, ((p2.mono s2).mono s3).mono s4⟩
        have e1 : m1 ∉ M := fun z => hM m1 z (same_fresh s1 nm1)
        have e2 : m2 ∉ M := fun z => hM m2 z (same_fresh s12 nm2)
        have kr : KeptAt M H4 r := ⟨t, l1, l2, m1, m2, P1, P2, hr, tw4, f1, f2, n1, n2, e1, e2⟩
        have hT4 := s14 _ _ hT
        walk_at "rd"
        refine rd_append hT4 (by omega) ?_
        have k5 : Keep [TH] H (upd H4 TH (.lst (vs ++ [.ref r]))) := (Keep.of s14).mut List.mem_cons_self hT4
        have k45 : Keep [TH] H4 (upd H4 TH (.lst (vs ++ [.ref r]))) := Keep.refl.mut List.mem_cons_self hT4
        walk_at "rd"
        refine q _ k5 ⟨_, upd_same, by rw [List.length_append]; show _ + 1 ≤ _; omega, fun v hv => ?_⟩
        have sub : ∀ a ∈ [TH], a ∈ M := fun a ha => by
          rw [List.mem_singleton.mp ha]
          exact hTM
        rcases List.mem_append.mp hv with h | h
        · obtain ⟨r', e, kr'⟩ := hk v h
          exact ⟨r', e, kr'.keep k5 sub⟩
        · exact ⟨r, List.mem_singleton.mp h, kr.keep k45 sub⟩
/-! ## stands -/
def spStands (K : PySem.W.Frag) (CL : Addr) : Sp := fun vs H Q _ => ∃ (y D F Hs : Addr) (hs : List Int) (dn : List (Int × Int)), vs = [.ref y, .ref Hs] ∧ LandS H CL y D F hs dn ∧ H Hs = some (.lst (IL hs)) ∧ hs.length ≤ 200 ∧ ∀ H', Same H H' → Q (.bl true) H'
theorem ok_law_stands (T : Txt K mg) : FnOk P w K mg base CX0 5 T.a_law_stands T.d_law_stands ["_law_land", "_law_heights"] (spStands K T.c_Land) := by
  refine T.F_law_stands.ok sc_law_stands (fun vs H Q E h => ?_) (fun cdv A outer s H vs Q E hr h => ⟨_, (pss_cons (ps_set (i := 2) sc_law_stands.nd rfl (Or.inl rfl) (pe_meth0 (pv 0) T.cl_Land T.m_Land_told (ok_Land_told T) (hr.mono (by decide)) T.b_Land_told .nil pass0))
      (pss_cons (ps_set (i := 3) sc_law_stands.nd rfl (Or.inl rfl) (pe_meth0 (pv 0) T.cl_Land T.m_Land_seen (ok_Land_seen T) (hr.mono (by decide)) T.b_Land_seen .nil pass0))
      (pss_cons (ps_if (PW.pt (pw_or (pt_not (pt_val (pe_callB (call_isiK0 (K := K) rfl) rfl T.n_isinstance (by decide +kernel) (pa_cons (pv 2) (pa_cons (pe_bltn (v := .ty "list") (by rfl) T.n_list (by decide +kernel) rfl) pa_nil))))) (pw_or1 (pt_cmpR (op_neDK (K := K) rfl hr.units) (pv 2) (pv 1) (nomark _))))) (pss_one (ps_ret pe_bl)) pss_nil)
      (pss_cons (ps_if (PW.pt (pw_or (pt_not (pt_val (pe_callB (call_isiK0 (K := K) rfl) rfl T.n_isinstance (by decide +kernel) (pa_cons (pv 3) (pa_cons (pe_bltn (v := .ty "list") (by rfl) T.n_list (by decide +kernel) rfl) pa_nil))))) (pw_or1 (pt_cmpR (op_neDK (K := K) rfl hr.units) (pv 3) (pe_call (ok_law_sights_by T) (hr.mono (by decide)) rfl T.g_law_sights_by T.F_law_sights_by.kp T.b_law_sights_by .nil pass0 (pa_cons (pv 1) pa_nil)) (nomark _))))) (pss_one (ps_ret pe_bl)) pss_nil)
      (pss_cons (ps_expr (pe_bmK (K := K) rfl PySem.F.plainAttrs_list PySem.F.slot_list_append PySem.F.type_list_append mt_append (pv 2) (pa_cons pe_int pa_nil)))
      (pss_cons (ps_expr (pe_bmK (K := K) rfl PySem.F.plainAttrs_list PySem.F.slot_list_append PySem.F.type_list_append mt_append (pv 3) (pa_cons (pe_tup (pa_cons pe_int (pa_cons pe_int pa_nil))) pa_nil)))
      (pss_cons (ps_if (PW.pt (pw_or (pt_cmpR (op_neDK (K := K) rfl hr.units) (pe_meth0 (pv 0) T.cl_Land T.m_Land_told (ok_Land_told T) (hr.mono (by decide)) T.b_Land_told .nil pass0) (pv 1) (nomark _)) (pw_or1 (pt_cmpR (op_neDK (K := K) rfl hr.units) (pe_meth0 (pv 0) T.cl_Land T.m_Land_seen (ok_Land_seen T) (hr.mono (by decide)) T.b_Land_seen .nil pass0) (pe_slice (sl_listK (K := K) rfl) (pv 3) po_none (po_some (pe_un un_neg pe_int))) (nomark _))))) (pss_one (ps_ret pe_bl)) pss_nil)
      (pss_one (ps_ret (pe_cmpR (op_eqDK (K := K) rfl hr.units) (pv 2) (pe_op op_cat (pv 1) (pe_lst (pa_cons pe_int pa_nil))) (nomark _))))))))))), ?_⟩)
  · obtain ⟨y, D, F, Hs, hs, dn, rfl, _⟩ := h
    rfl
  · obtain ⟨y, D, F, Hs, hs, dn, rfl, L, hH, hn, q⟩ := h
    obtain ⟨dx, hy⟩ := L.ins
    have hl : (IL hs).length = hs.length := List.length_map _
    walk_at "rd"
    with_reducible refine rd_meth ?_
    walk_at "rd"
    refine ⟨y, dx, _, rfl, hy, rfl, ?_⟩
    walk_at "rd"
    refine ⟨y, D, F, hs, dn, rfl, L, fun W1 n1 => ?_⟩
    have s1 := same_upd (o := .lst (IL hs)) n1
    have h1 : (upd H W1 (.lst (IL hs))) W1 = some (.lst (IL hs)) := upd_same
    generalize upd H W1 (.lst (IL hs)) = H1 at *
    walk_at "rd"
    with_reducible refine rd_meth ?_
    walk_at "rd"
    refine ⟨y, dx, _, rfl, s1 _ _ hy, rfl, ?_⟩
    walk_at "rd"
    refine ⟨y, D, F, hs, dn, rfl, L.mono s1, hn, fun W2 H2 s2 n2 p2 => ?_⟩
    have h12 := s2 _ _ h1
    have s12 := s1.trans s2
    have nW : W1 ≠ W2 := fun e => by rw [← e, h1] at n2; cases n2
    obtain ⟨v2, g2, r2⟩ := p2
    walk_at "rd"
    refine rd_isi (b := true) (ty_lst h12) (by decide +kernel) ?_
    walk_at "rd"
    refine rd_neI (.of h12) (.of (s12 _ _ hH)) ?_
    walk_at "rd"
    refine rd_no (by simp) ?_
    walk_at "rd"
    refine rd_isi (b := true) (ty_lst g2) (by decide +kernel) ?_
    walk_at "rd"
    refine ⟨Hs, hs, rfl, .of (s12 _ _ hH), hn, fun W3 H3 s3 n3 p3 => ?_⟩
    obtain ⟨v3, g3, r3⟩ := p3
    have g23 := s3 _ _ g2
    have r23 := r2.mono s3
    have h13 := s3 _ _ h12
    have s13 := s12.trans s3
    refine rd_neP (.of g23) r23.prs (.of g3) r3.prs ?_
    walk_at "rd"
    refine rd_no (by simp) ?_
    walk_at "rd"
    refine ⟨ty_list (.of h13), ?_⟩
    walk_at "rd"
    refine rd_append h13 (by omega) ?_
    have s4 : Same H (upd H3 W1 (.lst (IL hs ++ [V.int 0]))) := Same.mut s13 n1
    have k34 : Keep [W1] H3 (upd H3 W1 (.lst (IL hs ++ [V.int 0]))) := Keep.refl.mut List.mem_cons_self h13
    have h14 : (upd H3 W1 (.lst (IL hs ++ [V.int 0]))) W1 = some (.lst (IL (hs ++ [0]))) := by rw [upd_same, IL_snoc]
    generalize upd H3 W1 (.lst (IL hs ++ [V.int 0])) = H4 at *
    have nW' : W2 ∉ [W1] := fun e => nW (List.mem_singleton.mp e).symm
    have g24 := k34.lst nW' g23
    have r24 := k34.prsH r23
    have ln : v2.length ≤ 40000 := by
      rw [r2.length]
      exact S0_len hn
    walk_at "rd"
    refine ⟨ty_list (.of g24), ?_⟩
    walk_at "rd"
    refine ⟨sz 2, fun u nu => ?_⟩
    have s5 := same_upd (o := .tup [.int 0, .int 0]) nu
    have hu : (upd H4 u (.tup [.int 0, .int 0])) u = some (.tup [.int 0, .int 0]) := upd_same
    have g25 := s5 _ _ g24
    have r25 := r24.mono s5
    have h15 := s5 _ _ h14
    generalize upd H4 u (.tup [.int 0, .int 0]) = H5 at *
    walk_at "rd"
    refine rd_append g25 (by omega) ?_
    have n2' : H W2 = none := same_fresh s1 n2
    have s6 : Same H (upd H5 W2 (.lst (v2 ++ [.ref u]))) := Same.mut (s4.trans s5) n2'
    have k56 : Keep [W2] H5 (upd H5 W2 (.lst (v2 ++ [.ref u]))) := Keep.refl.mut List.mem_cons_self g25
    have g26 : (upd H5 W2 (.lst (v2 ++ [.ref u]))) W2 = some (.lst (v2 ++ [.ref u])) := upd_same
    generalize upd H5 W2 (.lst (v2 ++ [.ref u])) = H6 at *
    have r26 := k56.prsH r25
    have h16 := k56.lst (fun e => nW (List.mem_singleton.mp e)) h15
    walk_at "rd"
    with_reducible refine rd_meth ?_
    walk_at "rd"
    refine ⟨y, dx, _, rfl, s6 _ _ hy, rfl, ?_⟩
    walk_at "rd"
    refine ⟨y, D, F, hs, dn, rfl, L.mono s6, fun W4 n4 => ?_⟩
    have s7 := same_upd (o := .lst (IL hs)) n4
    have h4 : (upd H6 W4 (.lst (IL hs))) W4 = some (.lst (IL hs)) := upd_same
    have s67 := s6.trans s7
    generalize upd H6 W4 (.lst (IL hs)) = H7 at *
    walk_at "rd"
    refine rd_neI (.of h4) (.of (s67 _ _ hH)) ?_
    walk_at "rd"
    refine rd_no (by simp) ?_
    walk_at "rd"
    with_reducible refine rd_meth ?_
    walk_at "rd"
    refine ⟨y, dx, _, rfl, s67 _ _ hy, rfl, ?_⟩
    walk_at "rd"
    refine ⟨y, D, F, hs, dn, rfl, L.mono s67, hn, fun W5 H8 s8 n5 p5 => ?_⟩
    have g28 := s8 _ _ (s7 _ _ g26)
    obtain ⟨v5, g5, r5⟩ := p5
    walk_at "rd"
    intro W6 n6
    rw [cutL _ (by simp), List.dropLast_concat]
    have s9 := same_upd (o := .lst v2) n6
    have h6 : (upd H8 W6 (.lst v2)) W6 = some (.lst v2) := upd_same
    have g59 := s9 _ _ g5
    have r59 := r5.mono s9
    have r29 := ((r26.mono s7).mono s8).mono s9
    have h19 := s9 _ _ (s8 _ _ (s7 _ _ h16))
    have s99 := (s67.trans s8).trans s9
    generalize upd H8 W6 (.lst v2) = H9 at *
    refine rd_neP (.of g59) r59.prs (.of h6) r29.prs ?_
    walk_at "rd"
    refine rd_no (by simp) ?_
    walk_at "rd"
    refine ⟨sz 1, fun W7 n7 => ?_⟩
    have t1 := same_upd (o := .lst [V.int 0]) n7
    have h7 : (upd H9 W7 (.lst [V.int 0])) W7 = some (.lst (IL [0])) := upd_same
    have h110 := t1 _ _ h19
    have s10 := s99.trans t1
    generalize upd H9 W7 (.lst [V.int 0]) = H10 at *
    refine ⟨Hs, W7, _, _, rfl, rfl, s10 _ _ hH, h7, by rw [hl]; show _ + 1 ≤ sizeLine; exact sz _ (by omega), fun W8 n8 => ?_⟩
    have t2 := same_upd (o := .lst (IL hs ++ IL [0])) n8
    have h8 : (upd H10 W8 (.lst (IL hs ++ IL [0]))) W8 = some (.lst (IL (hs ++ [0]))) := by rw [upd_same]; simp [IL]
    refine rd_eqI (.of (t2 _ _ h110)) (.of h8) ?_
    rw [decide_eq_true rfl]
    exact q _ (s10.trans t2)
/-! ## the drawn deeds -/
/-- v is what it is, whatever else of the old changes -/
def Fast (K : PySem.W.Frag) (H H' : Hp) (v : V) : Prop := ∀ (M : List Addr) (H2 : Hp), (∀ m ∈ M, H m ≠ none) → Keep M H' H2 → Wh K H2 v
theorem fast_int {H H' : Hp} {i : Int} : Fast K H H' (.int i) := fun _ _ _ _ => wh_int
theorem fast_bl {H H' : Hp} {b : Bool} : Fast K H H' (.bl b) := fun _ _ _ _ => wh_bl
theorem fast_non {H H' : Hp} : Fast K H H' .non := fun _ _ _ _ => wh_non
theorem fast_str {H H' : Hp} {z : Str} : Fast K H H' (.str z) := fun _ _ _ _ => wh_str
theorem fast_tup {H H' : Hp} {a : Addr} {xs : List V} (h : H' a = some (.tup xs)) : Fast K H H' (.ref a) := fun _ _ _ k => wh_tup (k.tup h)
theorem fast_lst {H H' : Hp} {a : Addr} {xs : List V} (n : H a = none) (h : H' a = some (.lst xs)) : Fast K H H' (.ref a) := fun _ _ hM k => wh_lst (k.lst (fun z => hM a z n) h)
theorem Fast.mono {H H' H'' : Hp} {v : V} (s : Same H' H'') (h : Fast K H H' v) : Fast K H H'' v := fun M H2 hM k => h M H2 hM ((Keep.of s).trans k)
def spDeed (K : PySem.W.Frag) : Sp := fun vs H Q _ => ∃ (c : Int) (Hs : Addr) (hs : List Int), vs = [.int c, .ref Hs] ∧ H Hs = some (.lst (IL hs)) ∧ 0 < hs.length ∧ hs.length ≤ 200 ∧ AllBd hs ∧
  ∀ t x b H', Same H H' → H' t = some (.tup [x, b]) → (x = .non ∨ (x ≠ .non ∧ Fast K H H' x ∧ Fast K H H' b)) → Q (.ref t) H'
theorem ok_law_deed_by (T : Txt K mg) : FnOk P w K mg base CX0 1 T.a_law_deed_by T.d_law_deed_by ["_law_cell", "_law_heights"] (spDeed K) := by
  refine T.F_law_deed_by.ok sc_law_deed_by (fun vs H Q E h => ?_) (fun cdv A outer s H vs Q E hr h => ⟨_, (pss_cons (ps_set (i := 2) sc_law_deed_by.nd rfl (Or.inl rfl) (pe_op op_pow pe_int pe_int))
      (pss_cons (ps_set (i := 3) sc_law_deed_by.nd rfl (Or.inl rfl) (pe_op op_mod (pe_op op_fdiv (pv 0) pe_int) (pe_callB (call_lenK (K := K) rfl) rfl T.n_len (by decide +kernel) (pa_cons (pv 1) pa_nil))))
      (pss_cons (ps_set (i := 4) sc_law_deed_by.nd rfl (Or.inl rfl) (pe_op op_mod (pv 0) pe_int))
      (pss_cons (ps_set (i := 5) sc_law_deed_by.nd rfl (Or.inl rfl) (pe_op op_fdiv (pe_op op_fdiv (pv 0) pe_int) (pe_callB (call_lenK (K := K) rfl) rfl T.n_len (by decide +kernel) (pa_cons (pv 1) pa_nil))))
      (pss_cons (ps_if (pt_cmpR op_lt (pv 4) pe_int (nomark _)) (pss_one (ps_ret (pe_tup (pa_cons (pv 3) (pa_cons (pe_op op_sub (pe_op op_mod (pv 5) pe_int) pe_int) pa_nil))))) pss_nil)
      (pss_cons (ps_if (pt_cmpR op_eq (pv 4) pe_int (nomark _)) (pss_one (ps_ret (pe_tup (pa_cons (pv 3) (pa_cons (pe_op op_sub (pe_op op_mod (pe_op op_mul (pv 0) pe_int) (pe_op op_add (pe_op op_mul pe_int (pv 2)) pe_int)) (pv 2)) pa_nil))))) pss_nil)
      (pss_cons (ps_if (pt_cmpR op_eq (pv 4) pe_int (nomark _)) (pss_one (ps_ret (pe_tup (pa_cons (pv 3) (pa_cons (pe_op op_add (pe_op op_sub (pv 2) (pe_ix (ix_listK (K := K) rfl) (pv 1) (pv 3) (fun _ _ => rfl))) (pe_op op_mod (pv 5) pe_int)) pa_nil))))) pss_nil)
      (pss_cons (ps_if (pt_cmpR op_eq (pv 4) pe_int (nomark _)) (pss_one (ps_ret (pe_tup (pa_cons (pv 3) (pa_cons (pe_op op_sub (pe_op op_sub (pe_un un_neg (pv 2)) (pe_ix (ix_listK (K := K) rfl) (pv 1) (pv 3) (fun _ _ => rfl))) (pe_op op_mod (pv 5) pe_int)) pa_nil))))) pss_nil)
      (pss_cons (ps_if (pt_cmpR op_eq (pv 4) pe_int (nomark _)) (pss_cons (ps_set (i := 6) sc_law_deed_by.nd rfl (Or.inl rfl) (pe_lst (pa_cons (pe_un un_neg pe_int) (pa_cons (pe_callB (call_lenK (K := K) rfl) rfl T.n_len (by decide +kernel) (pa_cons (pv 1) pa_nil)) (pa_cons pe_bl (pa_cons pe_str (pa_cons pe_bl (pa_cons (pe_tup (pa_cons pe_int pa_nil)) (pa_cons (pe_lst (pa_cons pe_int pa_nil)) pa_nil)))))))))
        (pss_one (ps_ret (pe_tup (pa_cons (pe_ix (ix_listK (K := K) rfl) (pv 6) (pe_op op_mod (pe_op op_fdiv (pv 0) pe_int) pe_int) (fun _ _ => rfl)) (pa_cons (pe_ix (ix_listK (K := K) rfl) (pe_lst (pa_cons pe_int (pa_cons pe_bl pa_nil))) (pe_op op_mod (pe_op op_fdiv (pv 0) pe_int) pe_int) (fun _ _ => rfl)) pa_nil)))))) pss_nil)
      (pss_cons (ps_if (pt_cmpR op_eq (pv 4) pe_int (nomark _)) (pss_one (ps_ret (pe_tup (pa_cons (pv 3) (pa_cons (pe_ix (ix_listK (K := K) rfl) (pe_lst (pa_cons pe_bl (pa_cons pe_non (pa_cons pe_str (pa_cons pe_bl (pa_cons (pe_tup (pa_cons pe_int pa_nil)) pa_nil)))))) (pe_op op_mod (pv 5) pe_int) (fun _ _ => rfl)) pa_nil))))) pss_nil)
      (pss_one (ps_ret (pe_tup (pa_cons pe_non (pa_cons pe_int pa_nil))))))))))))))), ?_⟩)
  · obtain ⟨c, Hs, hs, rfl, _⟩ := h
    rfl
  · obtain ⟨c, Hs, hs, rfl, hH, h0, hn, hB, q⟩ := h
    have hF := FAR_eq
    have hl : (IL hs).length = hs.length := List.length_map _
    have e0 : (0 : Int) < ((IL hs).length : Int) := by omega
    walk_at "rd"
    obtain ⟨pl, epl, hpl⟩ : ∃ i : Nat, c / 11 % ((IL hs).length : Int) = (i : Int) ∧ i < hs.length := by
      have := emod_b (x := c / 11) e0
      exact ⟨(c / 11 % ((IL hs).length : Int)).toNat, by omega, by omega⟩
    rw [epl, hF]
    generalize c / 11 / ((IL hs).length : Int) = rest
    have twoI : ∀ (i z : Int) t, H t = none → Q (.ref t) (upd H t (.tup [.int i, .int z])) := fun i z t nt => q t _ _ _ (same_upd nt) upd_same (.inr ⟨(fun z => nomatch z), fast_int, fast_int⟩)
    refine ite2 (fun _ => ?_) (fun _ => ?_)
    · walk_at "rd"
      exact ⟨sz 2, twoI _ _⟩
    walk_at "rd"
    refine ite2 (fun _ => ?_) (fun _ => ?_)
    · walk_at "rd"
      exact ⟨sz 2, twoI _ _⟩
    walk_at "rd"
    refine ite2 (fun _ => ?_) (fun _ => ?_)
    · walk_at "rd"
      refine rd_ixL (.of hH) (IL_at (i := (pl : Int)) (by omega) (by omega)) ?_
      walk_at "rd"
      exact ⟨sz 2, twoI _ _⟩
    walk_at "rd"
    refine ite2 (fun _ => ?_) (fun _ => ?_)
    · walk_at "rd"
      refine rd_ixL (.of hH) (IL_at (i := (pl : Int)) (by omega) (by omega)) ?_
      walk_at "rd"
      exact ⟨sz 2, twoI _ _⟩
    walk_at "rd"
    refine ite2 (fun _ => ?_) (fun _ => ?_)
    · walk_at "rd"
      refine ⟨sz 1, fun t1 nt1 => ?_⟩
      have s1 := same_upd (o := .tup [.int 0]) nt1
      have ht1 : (upd H t1 (.tup [.int 0])) t1 = some (.tup [.int 0]) := upd_same
      generalize upd H t1 (.tup [.int 0]) = H1 at *
      walk_at "rd"
      refine ⟨sz 1, fun l1 nl1 => ?_⟩
      have s2 := same_upd (o := .lst [.int 0]) nl1
      have hl1 : (upd H1 l1 (.lst [.int 0])) l1 = some (.lst [.int 0]) := upd_same
      have ht12 := s2 _ _ ht1
      have nl1' := same_fresh s1 nl1
      have s12 := s1.trans s2
      generalize upd H1 l1 (.lst [.int 0]) = H2 at *
      walk_at "rd"
      refine ⟨sz 7, fun W nW => ?_⟩
      obtain ⟨xs, hxs⟩ : ∃ xs : List V, xs = [V.int (-1), .int ((IL hs).length : Int), .bl true, .str "0", .bl false, .ref t1, .ref l1] := ⟨_, rfl⟩
      rw [← hxs]
      have all : ∀ v ∈ xs, v ≠ .non ∧ Fast K H H2 v := by
        intro v hv
        rw [hxs] at hv
        simp only [List.mem_cons, List.mem_nil_iff, or_false] at hv
        rcases hv with rfl | rfl | rfl | rfl | rfl | rfl | rfl
        · exact ⟨(fun z => nomatch z), fast_int⟩
        · exact ⟨(fun z => nomatch z), fast_int⟩
        · exact ⟨(fun z => nomatch z), fast_bl⟩
        · exact ⟨(fun z => nomatch z), fast_str⟩
        · exact ⟨(fun z => nomatch z), fast_bl⟩
        · exact ⟨(fun z => nomatch z), fast_tup ht12⟩
        · exact ⟨(fun z => nomatch z), fast_lst nl1' hl1⟩
      have s3 := same_upd (o := .lst xs) nW
      have hW : (upd H2 W (.lst xs)) W = some (.lst xs) := upd_same
      have hxl : xs.length = 7 := by rw [hxs]; rfl
      generalize upd H2 W (.lst xs) = H3 at *
      walk_at "rd"
      have m7 := emod_b (x := c / 11) (n := 7) (by decide)
      obtain ⟨x, hx, ex⟩ := atI_mem (xs := xs) m7.1 (by omega)
      refine rd_ixL (.of hW) ex ?_
      walk_at "rd"
      refine ⟨sz 2, fun W2 nW2 => ?_⟩
      have s4 := same_upd (o := .lst [.int 1, .bl true]) nW2
      have hW2 : (upd H3 W2 (.lst [.int 1, .bl true])) W2 = some (.lst [.int 1, .bl true]) := upd_same
      generalize upd H3 W2 (.lst [.int 1, .bl true]) = H4 at *
      walk_at "rd"
      have m2 := emod_b (x := c / 77) (n := 2) (by decide)
      obtain ⟨b, hb, eb⟩ := atI_mem (xs := [V.int 1, .bl true]) m2.1 (by show _ < (2 : Int); omega)
      refine rd_ixL (.of hW2) eb ?_
      walk_at "rd"
      refine ⟨sz 2, fun t nt => ?_⟩
      have s24 := (s3.trans s4).trans (same_upd (o := .tup [x, b]) nt)
      refine q t x b _ (s12.trans s24) upd_same (.inr ⟨(all x hx).1, (all x hx).2.mono s24, ?_⟩)
      simp only [List.mem_cons, List.mem_nil_iff, or_false] at hb
      rcases hb with rfl | rfl
      · exact fast_int
      · exact fast_bl
    walk_at "rd"
    refine ite2 (fun _ => ?_) (fun _ => ?_)
    · walk_at "rd"
      refine ⟨sz 1, fun t1 nt1 => ?_⟩
      have s1 := same_upd (o := .tup [.int 1]) nt1
      have ht1 : (upd H t1 (.tup [.int 1])) t1 = some (.tup [.int 1]) := upd_same
      generalize upd H t1 (.tup [.int 1]) = H1 at *
      walk_at "rd"
      refine ⟨sz 5, fun W nW => ?_⟩
      obtain ⟨xs, hxs⟩ : ∃ xs : List V, xs = [V.bl true, .non, .str "1", .bl false, .ref t1] := ⟨_, rfl⟩
      rw [← hxs]
      have all : ∀ v ∈ xs, Fast K H H1 v := by
        intro v hv
        rw [hxs] at hv
        simp only [List.mem_cons, List.mem_nil_iff, or_false] at hv
        rcases hv with rfl | rfl | rfl | rfl | rfl
        · exact fast_bl
        · exact fast_non
        · exact fast_str
        · exact fast_bl
        · exact fast_tup ht1
      have s3 := same_upd (o := .lst xs) nW
      have hW : (upd H1 W (.lst xs)) W = some (.lst xs) := upd_same
      have hxl : xs.length = 5 := by rw [hxs]; rfl
      generalize upd H1 W (.lst xs) = H3 at *
      walk_at "rd"
      have m5 := emod_b (x := rest) (n := 5) (by decide)
      obtain ⟨b, hb, eb⟩ := atI_mem (xs := xs) m5.1 (by omega)
      refine rd_ixL (.of hW) eb ?_
      walk_at "rd"
      refine ⟨sz 2, fun t nt => ?_⟩
      have s24 := s3.trans (same_upd (o := .tup [.int (pl : Int), b]) nt)
      exact q t _ b _ (s1.trans s24) upd_same (.inr ⟨(fun z => nomatch z), fast_int, (all b hb).mono s24⟩)
    walk_at "rd"
    exact ⟨sz 2, fun t nt => q t _ _ _ (same_upd nt) upd_same (.inl rfl)⟩
/-! ## the state of a Land that the law follows -/
structure GS (H : Hp) (M : List Addr) (CL y D F Hs DN TH : Addr) (b0 hs : List Int) (dn : List (Int × Int)) (n : Nat) : Prop where
  land : LandS H CL y D F hs dn
  hh : H Hs = some (.lst (IL hs))
  dd : PLs H DN dn
  tt : ToldH M H TH n
  hist : Hist b0 hs dn
  nod : [D, F, Hs, DN, TH].Nodup
  sub : ∀ m ∈ [D, F, Hs, DN, TH], m ∈ M
  ex : ∀ m ∈ M, H m ≠ none
theorem Keep.ex {M M' : List Addr} {H H' : Hp} (k : Keep M' H H') (h : ∀ m ∈ M, H m ≠ none) : ∀ m ∈ M, H' m ≠ none := fun m hm => Keep.ne (h m hm) k
theorem GS.same {H H' : Hp} {M : List Addr} {CL y D F Hs DN TH : Addr} {b0 hs : List Int} {dn : List (Int × Int)} {n : Nat} (g : GS H M CL y D F Hs DN TH b0 hs dn n) (s : Same H H') : GS H' M CL y D F Hs DN TH b0 hs dn n :=
  ⟨g.land.mono s, s _ _ g.hh, g.dd.mono s, g.tt.keep (Keep.of (M := []) s) (fun a z => by cases z) (fun z => by cases z), g.hist, g.nod, g.sub, (Keep.of (M := []) s).ex g.ex⟩
theorem nod5 {D F Hs DN TH : Addr} (h : [D, F, Hs, DN, TH].Nodup) : (D ≠ F ∧ D ≠ Hs ∧ D ≠ DN ∧ D ≠ TH) ∧ (F ≠ Hs ∧ F ≠ DN ∧ F ≠ TH) ∧ (Hs ≠ DN ∧ Hs ≠ TH) ∧ DN ≠ TH := by
  simp only [List.nodup_cons, List.mem_cons, List.mem_nil_iff, or_false, not_or, List.nodup_nil, and_true, not_false_eq_true] at h
  exact h
theorem GS.kept {H H' : Hp} {M : List Addr} {CL y D F Hs DN TH : Addr} {b0 hs : List Int} {dn : List (Int × Int)} {n : Nat} (g : GS H M CL y D F Hs DN TH b0 hs dn n) (k : Keep [TH] H H') (t : ToldH M H' TH (n + 1)) : GS H' M CL y D F Hs DN TH b0 hs dn (n + 1) := by
  obtain ⟨⟨_, _, _, a⟩, ⟨_, _, b⟩, ⟨_, c⟩, d⟩ := nod5 g.nod
  have m : ∀ {p}, p ≠ TH → p ∉ [TH] := fun h z => h (List.mem_singleton.mp z)
  exact ⟨g.land.keep k (m a) (m b), k.lst (m c) g.hh, g.dd.keep k (m d), t, g.hist, g.nod, g.sub, k.ex g.ex⟩
abbrev tTail (K : PySem.W.Frag) (CL : Addr) : TE := tAndV (tCall spAlike [] E0 (tCons (tVar 7) (tCons (tVar 6) tNil))) (tAndV (tCall spKept [] E0 (tCons (tVar 5) (tCons (tVar 7) tNil))) (tCall (spStands K CL) [] E0 (tCons (tVar 0) (tCons (tVar 1) tNil))))
theorem tail_str {H : Hp} {M : List Addr} {CL y D F Hs DN TH : Addr} {b0 hs : List Int} {dn : List (Int × Int)} {n : Nat} {z : Str} {v2 v3 v4 : Option V} {Q : VK} (g : GS H M CL y D F Hs DN TH b0 hs dn n) (hn : hs.length ≤ 200) (hnn : n ≤ 999)
    (q : ∀ H', Keep [D, F, Hs, DN, TH] H H' → GS H' M CL y D F Hs DN TH b0 hs dn (n + 1) → Q (.bl true) H') : tTail K CL [some (.ref y), some (.ref Hs), v2, v3, v4, some (.ref TH), some (.str z), some (.str z)] H Q := by
  walk_at "rd"
  refine ⟨_, _, rfl, .inl ⟨z, rfl, rfl, ?_⟩⟩
  walk_at "rd"
  refine ⟨M, TH, .str z, n, rfl, g.tt, g.sub TH (by simp), by omega, g.ex, .inl (.inr ⟨z, rfl⟩), fun H2 k2 t2 => ?_⟩
  have g2 := g.kept k2 t2
  walk_at "rd"
  refine ⟨y, D, F, Hs, hs, dn, rfl, g2.land, g2.hh, hn, fun H3 s3 => ?_⟩
  exact q _ ((k2.mono (by simp)).same s3) (g2.same s3)
theorem tail_two {H0 H : Hp} {M : List Addr} {CL y D F Hs DN TH t l1 l2 t' m1 m2 : Addr} {b0 hs : List Int} {dn P1 P2 : List (Int × Int)} {n : Nat} {v2 v3 v4 : Option V} {Q : VK} (k : Keep [D, F, Hs, DN] H0 H) (f1 : H0 l1 = none) (f2 : H0 l2 = none) (tw : Two H t l1 l2 P1 P2) (tw' : Two H t' m1 m2 P1 P2) (c1 : P1.length ≤ 60000 ∧ P2.length ≤ 60000)
    (L : LandS H CL y D F hs dn) (hh : H Hs = some (.lst (IL hs))) (dd : PLs H DN dn) (tt : ToldH M H0 TH n) (hist : Hist b0 hs dn) (nod : [D, F, Hs, DN, TH].Nodup) (sub : ∀ m ∈ [D, F, Hs, DN, TH], m ∈ M) (ex : ∀ m ∈ M, H0 m ≠ none) (hn : hs.length ≤ 200) (hnn : n ≤ 999)
    (q : ∀ H', Keep [D, F, Hs, DN, TH] H0 H' → GS H' M CL y D F Hs DN TH b0 hs dn (n + 1) → Q (.bl true) H') : tTail K CL [some (.ref y), some (.ref Hs), v2, v3, v4, some (.ref TH), some (.ref t'), some (.ref t)] H Q := by
  walk_at "rd"
  refine ⟨_, _, rfl, .inr ⟨t, l1, l2, t', m1, m2, P1, P2, rfl, rfl, tw, tw', c1, fun H6 k6 tw6 => ?_⟩⟩
  have e6 := k.fresh2 k6 f1 f2
  have no : ∀ p ∈ [D, F, Hs, DN, TH], p ∉ [l1, l2] := fun p hp z => by
    have := ex p (sub p hp)
    simp only [List.mem_cons, List.mem_nil_iff, or_false] at z
    rcases z with rfl | rfl
    · exact this f1
    · exact this f2
  have nl1 : l1 ∉ M := fun z => ex _ z f1
  have nl2 : l2 ∉ M := fun z => ex _ z f2
  obtain ⟨⟨_, _, _, a⟩, ⟨_, _, b⟩, ⟨_, c⟩, d⟩ := nod5 nod
  have g6 : GS H6 M CL y D F Hs DN TH b0 hs dn n := by
    refine ⟨L.keep k6 (no _ (by simp)) (no _ (by simp)), k6.lst (no _ (by simp)) hh, dd.keep k6 (no _ (by simp)), tt.keep e6 (fun p hp => sub p (by
      simp only [List.mem_cons, List.mem_nil_iff, or_false] at hp ⊢
      rcases hp with h | h | h | h <;> simp [h])) (fun z => ?_), hist, nod, sub, e6.ex ex⟩
    simp only [List.mem_cons, List.mem_nil_iff, or_false] at z
    rcases z with z | z | z | z
    · exact a z.symm
    · exact b z.symm
    · exact c z.symm
    · exact d z.symm
  walk_at "rd"
  refine ⟨M, TH, .ref t, n, rfl, g6.tt, sub TH (by simp), by omega, g6.ex, .inr ⟨t, l1, l2, _, _, rfl, tw6, nl1, nl2⟩, fun H7 k7 t7 => ?_⟩
  have g7 := g6.kept k7 t7
  walk_at "rd"
  refine ⟨y, D, F, Hs, hs, dn, rfl, g7.land, g7.hh, hn, fun H8 s8 => ?_⟩
  refine q _ (((e6.mono (fun p hp => ?_)).trans (k7.mono (by simp))).same s8) (g7.same s8)
  simp only [List.mem_cons, List.mem_nil_iff, or_false] at hp ⊢
  rcases hp with h | h | h | h <;> simp [h]
def spGoes (K : PySem.W.Frag) (CL : Addr) : Sp := fun vs H Q _ => ∃ (M : List Addr) (y D F Hs DN TH : Addr) (b0 hs : List Int) (dn : List (Int × Int)) (n : Nat) (x b : V), vs = [.ref y, .ref Hs, .ref DN, x, b, .ref TH] ∧ GS H M CL y D F Hs DN TH b0 hs dn n ∧ hs.length ≤ 200 ∧ dn.length ≤ 40000 ∧ n ≤ 999 ∧
  (x = .non ∨ (x ≠ .non ∧ (∀ H2, Keep M H H2 → Wh K H2 x) ∧ ∀ H2, Keep M H H2 → Wh K H2 b)) ∧
  ∀ H' hs' dn', Keep [D, F, Hs, DN, TH] H H' → GS H' M CL y D F Hs DN TH b0 hs' dn' (n + 1) → dn'.length ≤ dn.length + 1 → Q (.bl true) H'
theorem ok_law_goes (T : Txt K mg) : FnOk P w K mg base CX0 7 T.a_law_goes T.d_law_goes ["_law_land", "_law_heights", "_law_done_here", "_law_place", "_law_by", "_law_told_here"] (spGoes K T.c_Land) := by
  refine T.F_law_goes.ok sc_law_goes (fun vs H Q E h => ?_) (fun cdv A outer s H vs Q E hr h => ⟨_, (pss_cons (ps_if (pt_cmpR op_notN1 (pv 3) pe_non (nomark _)) (pss_cons (ps_set (i := 6) sc_law_goes.nd rfl (Or.inl rfl) (pe_call (ok_law_due_by T) (hr.mono (by decide)) rfl T.g_law_due_by T.F_law_due_by.kp T.b_law_due_by .nil pass0 (pa_cons (pv 1) (pa_cons (pv 3) (pa_cons (pv 4) pa_nil)))))
        (pss_cons (ps_if (pt_not (pt_val (pe_callB (call_isiK0 (K := K) rfl) rfl T.n_isinstance (by decide +kernel) (pa_cons (pv 6) (pa_cons (pe_bltn (v := .ty "str") (by rfl) T.n_str (by decide +kernel) rfl) pa_nil))))) (pss_cons (ps_expr (pe_bmK (K := K) rfl PySem.F.plainAttrs_list PySem.F.slot_list_append PySem.F.type_list_append mt_append (pv 2) (pa_cons (pe_tup (pa_cons (pv 3) (pa_cons (pv 4) pa_nil))) pa_nil)))
          (pss_one (ps_augS (pv 1) (pv 3) (pget_listK (K := K) rfl) (pv 4) ip_add set_list))) pss_nil)
        (pss_cons (ps_set (i := 7) sc_law_goes.nd rfl (Or.inl rfl) (pe_call (ok_law_told T) (hr.mono (by decide)) rfl T.g_law_told T.F_law_told.kp T.b_law_told .nil pass0 (pa_cons (pv 0) (pa_cons (pv 3) (pa_cons (pv 4) pa_nil)))))
        (pss_one (ps_ret (pe_and (pe_call (ok_law_alike T) (hr.mono (by decide)) rfl T.g_law_alike T.F_law_alike.kp T.b_law_alike .nil pass0 (pa_cons (pv 7) (pa_cons (pv 6) pa_nil))) (pe_and (pe_call (ok_law_kept T) (hr.mono (by decide)) rfl T.g_law_kept T.F_law_kept.kp T.b_law_kept .nil pass0 (pa_cons (pv 5) (pa_cons (pv 7) pa_nil))) (pe_one (pe_call (ok_law_stands T) (hr.mono (by decide)) rfl T.g_law_stands T.F_law_stands.kp T.b_law_stands .nil pass0 (pa_cons (pv 0) (pa_cons (pv 1) pa_nil))))))))))) pss_nil)
      (pss_cons (ps_set (i := 6) sc_law_goes.nd rfl (Or.inl rfl) pe_str)
      (pss_cons (ps_if (pt_cmpR (op_neDK (K := K) rfl hr.units) (pv 2) (pe_lst pa_nil) (nomark _)) (pss_cons (ps_asg (pe_bm0K (K := K) rfl PySem.F.plainAttrs_list PySem.F.slot_list_pop PySem.F.type_list_pop mt_pop (pv 2)) (pg_tupK (K := K) (n := 2) rfl rfl (pgs_cons (pg_name (i := 3) sc_law_goes.nd rfl (Or.inl rfl)) (pgs_cons (pg_name (i := 4) sc_law_goes.nd rfl (Or.inl rfl)) pgs_nil))))
        (pss_cons (ps_set (i := 6) sc_law_goes.nd rfl (Or.inl rfl) (pe_call (ok_law_due_by T) (hr.mono (by decide)) rfl T.g_law_due_by T.F_law_due_by.kp T.b_law_due_by .nil pass0 (pa_cons (pv 1) (pa_cons (pv 3) (pa_cons (pe_un un_neg (pv 4)) pa_nil)))))
        (pss_one (ps_augS (pv 1) (pv 3) (pget_listK (K := K) rfl) (pv 4) ip_sub set_list)))) pss_nil)
      (pss_cons (ps_set (i := 7) sc_law_goes.nd rfl (Or.inl rfl) (pe_call (ok_law_told T) (hr.mono (by decide)) rfl T.g_law_told T.F_law_told.kp T.b_law_told .nil pass0 (pa_cons (pv 0) (pa_cons pe_non (pa_cons pe_int pa_nil)))))
      (pss_one (ps_ret (pe_and (pe_call (ok_law_alike T) (hr.mono (by decide)) rfl T.g_law_alike T.F_law_alike.kp T.b_law_alike .nil pass0 (pa_cons (pv 7) (pa_cons (pv 6) pa_nil))) (pe_and (pe_call (ok_law_kept T) (hr.mono (by decide)) rfl T.g_law_kept T.F_law_kept.kp T.b_law_kept .nil pass0 (pa_cons (pv 5) (pa_cons (pv 7) pa_nil))) (pe_one (pe_call (ok_law_stands T) (hr.mono (by decide)) rfl T.g_law_stands T.F_law_stands.kp T.b_law_stands .nil pass0 (pa_cons (pv 0) (pa_cons (pv 1) pa_nil)))))))))))), ?_⟩)
  · obtain ⟨M, y, D, F, Hs, DN, TH, b0, hs, dn, n, x, b, rfl, _⟩ := h
    rfl
  · obtain ⟨M, y, D, F, Hs, DN, TH, b0, hs, dn, n, x, b, rfl, g, hn, hdn, hnn, hx, q⟩ := h
    rcases hx with rfl | ⟨hx, wx, wb⟩
    · walk_at "rd"
      refine rd_no (by simp) ?_
      obtain ⟨vd, hdd, pd⟩ := g.dd
      walk_at "rd"
      refine ⟨sz 0, fun W nW => ?_⟩
      have s1 := same_upd (o := .lst []) nW
      have hW : (upd H W (.lst [])) W = some (.lst []) := upd_same
      generalize upd H W (.lst []) = H1 at *
      have g1 := g.same s1
      have hdd1 := s1 _ _ hdd
      have pd1 := pd.mono s1
      refine rd_neP (.of hdd1) pd1.prs (.of hW) .nil ?_
      walk_at "rd"
      refine ite2 (fun c => ?_) (fun c => ?_)
      · have c' : dn ≠ [] := by simpa using c
        obtain ⟨dn0, p, rfl⟩ : ∃ dn0 p, dn = dn0 ++ [p] := ⟨_, _, (List.dropLast_concat_getLast c').symm⟩
        obtain ⟨i, z, rfl, hi, hist, hbd⟩ := g.hist.last
        obtain ⟨vs0, u, rfl, p0, hu⟩ := prsH_last pd1
        walk_at "rd"
        refine ⟨ty_list (.of hdd1), ?_⟩
        refine rd_pop hdd1 ?_
        obtain ⟨⟨x1, x2, x3, x4⟩, ⟨x5, x6, x7⟩, ⟨x8, x9⟩, x10⟩ := nod5 g.nod
        have ns : ∀ {p q : Addr}, p ≠ q → p ∉ [q] := fun h e => h (List.mem_singleton.mp e)
        have k2 : Keep [DN] H1 (upd H1 DN (.lst vs0)) := Keep.refl.mut (by simp) hdd1
        have hd2 : (upd H1 DN (.lst vs0)) DN = some (.lst vs0) := upd_same
        generalize upd H1 DN (.lst vs0) = H2 at *
        have hh2 := k2.lst (ns x8) g1.hh
        have dd2 : PLs H2 DN dn0 := ⟨vs0, hd2, k2.prsH p0⟩
        refine rd_gTup2 (.of (k2.tup hu)) ?_
        have hg : Good hs (.int (i : Int)) (.int (-z)) i (-z) := ⟨rfl, hi, rfl, hbd⟩
        walk_at "rd"
        refine ⟨Hs, hs, _, _, rfl, .of hh2, hn, wh_int, wh_int, .inr ⟨i, -z, hg, fun H3 t' m1 m2 s3 nt' nm1 nm2 tw' => ?_⟩⟩
        have hh3 := s3 _ _ hh2
        walk_at "rd"
        with_reducible refine rd_augS ?_
        walk_at "rd"
        refine rd_getI (.of hh3) hi ?_
        walk_at "rd"
        refine rd_setI hh3 hi ?_
        rw [Int.sub_eq_add_neg]
        have k4 : Keep [Hs] H3 (upd H3 Hs (.lst (IL (hs.set i (hs.getD i 0 + -z))))) := Keep.refl.mut (by simp) hh3
        have hh4 : (upd H3 Hs (.lst (IL (hs.set i (hs.getD i 0 + -z))))) Hs = some (.lst (IL (upH hs i (-z)))) := upd_same
        generalize upd H3 Hs (.lst (IL (hs.set i (hs.getD i 0 + -z)))) = H4 at *
        have k02 : Keep [D, F, Hs, DN] H H2 := (Keep.of s1).trans (k2.mono (by simp))
        have k03 := k02.same s3
        have k34 : Keep [D, F, Hs, DN] H3 H4 := k4.mono (by simp)
        have k04 := k03.trans k34
        have dd4 := (dd2.mono s3).keep k4 (ns (Ne.symm x8))
        have L4 := ((g1.land.keep k2 (ns x3) (ns x6)).mono s3).keep k4 (ns x2) (ns x5)
        walk_at "rd"
        refine ⟨y, D, F, hs, _, _, _, rfl, L4, hn, by omega, .inl ⟨rfl, .inr ⟨dn0, i, z, rfl, hi, fun H5 t l1 l2 k45 nt nl1 nl2 tw L' => ?_⟩⟩⟩
        have k05 : Keep [D, F, Hs, DN] H H5 := k04.trans (k45.mono (by simp))
        have k35 : Keep [D, F, Hs, DN] H3 H5 := k34.trans (k45.mono (by simp))
        have no : ∀ {a}, H a = none → a ∉ [D, F, Hs, DN] := fun n z => by
          refine g.ex _ (g.sub _ ?_) n
          simp only [List.mem_cons, List.mem_nil_iff, or_false] at z ⊢
          rcases z with h | h | h | h <;> simp [h]
        have tw'5 := tw'.keep k35 (no (k02.al _ nm1)) (no (k02.al _ nm2))
        have hh5 := k45.lst (by
          simp only [List.mem_cons, List.mem_nil_iff, or_false, not_or]
          exact ⟨Ne.symm x2, Ne.symm x5⟩) hh4
        have dd5 := dd4.keep k45 (by
          simp only [List.mem_cons, List.mem_nil_iff, or_false, not_or]
          exact ⟨Ne.symm x3, Ne.symm x6⟩)
        have hu' := upH_len hs i (-z)
        have c1 := S0_len hn
        have c2 := S0_len (ns := upH hs i (-z)) (by omega)
        have c3 := lackN_len (S0 (upH hs i (-z))) (S0 hs)
        have c4 := lackN_len (S0 hs) (S0 (upH hs i (-z)))
        with_reducible refine rd_name ?_
        with_reducible refine rd_ret ?_
        refine tail_two k05 (k04.al _ nl1) (k04.al _ nl2) tw tw'5 ⟨by omega, by omega⟩ L' hh5 dd5 g.tt hist g.nod g.sub g.ex (by omega) hnn fun H' k' g' => ?_
        exact q H' _ _ k' g' (by rw [List.length_append]; omega)
      · have c' : dn = [] := Classical.byContradiction fun z => c (by simpa using z)
        subst c'
        walk_at "rd"
        refine ⟨y, D, F, hs, [], _, _, rfl, g1.land, hn, by simp, .inl ⟨rfl, .inl ⟨rfl, fun H2 s2 => ?_⟩⟩⟩
        have g2 := g1.same s2
        with_reducible refine rd_name ?_
        with_reducible refine rd_ret ?_
        exact tail_str g2 hn hnn fun H' k' g' => q H' hs [] ((Keep.of (s1.trans s2)).trans k') g' (by omega)
    · walk_at "rd"
      refine rd_yes (by simpa using hx) ?_
      walk_at "rd"
      rcases refuse_or hs x b with ⟨z, hz⟩ | ⟨i, z, hg⟩
      · refine ⟨Hs, hs, x, b, rfl, .of g.hh, hn, wx _ Keep.refl, wb _ Keep.refl, .inl ⟨z, hz, ?_⟩⟩
        walk_at "rd"
        refine rd_isi (b := true) (.base (.str _)) (by decide +kernel) ?_
        walk_at "rd"
        refine ⟨y, D, F, hs, dn, x, b, rfl, g.land, hn, by omega, .inr ⟨hx, wx _ Keep.refl, wb _ Keep.refl, .inl ⟨z, hz, fun H1 s1 => ?_⟩⟩⟩
        have g1 := g.same s1
        with_reducible refine rd_name ?_
        with_reducible refine rd_ret ?_
        exact tail_str g1 hn hnn fun H' k' g' => q H' hs dn ((Keep.of s1).trans k') g' (by omega)
      · obtain ⟨rfl, hi, rfl, hb⟩ := id hg
        refine ⟨Hs, hs, _, _, rfl, .of g.hh, hn, wh_int, wh_int, .inr ⟨i, z, hg, fun H1 t' m1 m2 s1 nt' nm1 nm2 tw' => ?_⟩⟩
        have g1 := g.same s1
        walk_at "rd"
        refine rd_isi (b := false) (ty_tup tw'.tp) (by decide +kernel) ?_
        obtain ⟨vd, hdd, pd⟩ := g1.dd
        walk_at "rd"
        refine ⟨ty_list (.of hdd), ?_⟩
        walk_at "rd"
        refine ⟨sz 2, fun u nu => ?_⟩
        have s2 := same_upd (o := .tup [.int (i : Int), .int z]) nu
        have hu : (upd H1 u (.tup [.int (i : Int), .int z])) u = some (.tup [.int (i : Int), .int z]) := upd_same
        have hdd2 := s2 _ _ hdd
        have pd2 := pd.mono s2
        have s12 := s1.trans s2
        have tw'2 := tw'.mono s2
        generalize upd H1 u (.tup [.int (i : Int), .int z]) = H2 at *
        walk_at "rd"
        refine rd_append hdd2 (by rw [pd.length]; omega) ?_
        have g2 := g.same s12
        obtain ⟨⟨x1, x2, x3, x4⟩, ⟨x5, x6, x7⟩, ⟨x8, x9⟩, x10⟩ := nod5 g.nod
        have k3 : Keep [DN] H2 (upd H2 DN (.lst (vd ++ [.ref u]))) := Keep.refl.mut (by simp) hdd2
        have dd3 := PLs.snoc (p := ((i : Int), z)) hdd2 pd2 hu
        generalize upd H2 DN (.lst (vd ++ [.ref u])) = H3 at *
        have ns : ∀ {p q : Addr}, p ≠ q → p ∉ [q] := fun h e => h (List.mem_singleton.mp e)
        have hh3 := k3.lst (ns x8) g2.hh
        walk_at "rd"
        with_reducible refine rd_augS ?_
        walk_at "rd"
        refine rd_getI (.of hh3) hi ?_
        walk_at "rd"
        refine rd_setI hh3 hi ?_
        have k4 : Keep [Hs] H3 (upd H3 Hs (.lst (IL (hs.set i (hs.getD i 0 + z))))) := Keep.refl.mut (by simp) hh3
        have hh4 : (upd H3 Hs (.lst (IL (hs.set i (hs.getD i 0 + z))))) Hs = some (.lst (IL (upH hs i z))) := upd_same
        generalize upd H3 Hs (.lst (IL (hs.set i (hs.getD i 0 + z)))) = H4 at *
        have k24 : Keep [D, F, Hs, DN] H2 H4 := (k3.mono (by simp)).trans (k4.mono (by simp))
        have k04 : Keep [D, F, Hs, DN] H H4 := (Keep.of s12).trans k24
        have dd4 := dd3.keep k4 (ns (Ne.symm x8))
        have L4 := (g2.land.keep k3 (ns x3) (ns x6)).keep k4 (ns x2) (ns x5)
        walk_at "rd"
        refine ⟨y, D, F, hs, dn, _, _, rfl, L4, hn, by omega, .inr ⟨(fun z => nomatch z), wh_int, wh_int, .inr ⟨i, z, hg, fun H5 t l1 l2 k45 nt nl1 nl2 tw L' => ?_⟩⟩⟩
        have k05 : Keep [D, F, Hs, DN] H H5 := k04.trans (k45.mono (by simp))
        have k25 : Keep [D, F, Hs, DN] H2 H5 := k24.trans (k45.mono (by simp))
        have no : ∀ {a}, H a = none → a ∉ [D, F, Hs, DN] := fun n z => by
          refine g.ex _ (g.sub _ ?_) n
          simp only [List.mem_cons, List.mem_nil_iff, or_false] at z ⊢
          rcases z with h | h | h | h <;> simp [h]
        have tw'5 := tw'2.keep k25 (no nm1) (no nm2)
        have hh5 := k45.lst (by
          simp only [List.mem_cons, List.mem_nil_iff, or_false, not_or]
          exact ⟨Ne.symm x2, Ne.symm x5⟩) hh4
        have dd5 := dd4.keep k45 (by
          simp only [List.mem_cons, List.mem_nil_iff, or_false, not_or]
          exact ⟨Ne.symm x3, Ne.symm x6⟩)
        have hu' := upH_len hs i z
        have c1 := S0_len hn
        have c2 := S0_len (ns := upH hs i z) (by omega)
        have c3 := lackN_len (S0 (upH hs i z)) (S0 hs)
        have c4 := lackN_len (S0 hs) (S0 (upH hs i z))
        with_reducible refine rd_name ?_
        with_reducible refine rd_ret ?_
        refine tail_two k05 (k04.al _ nl1) (k04.al _ nl2) tw tw'5 ⟨by omega, by omega⟩ L' hh5 dd5 g.tt (g.hist.snoc hi hb) g.nod g.sub g.ex (by omega) hnn fun H' k' g' => ?_
        exact q H' _ _ k' g' (by rw [List.length_append]; exact Nat.le_refl _)

/-! ## a deed, with lists held -/
theorem shaped_two (ns : List Int) (ps : List (Int × Int)) : SeqAt.shaped (.list [dI ns, dP ps]) = true := by
  have a := depthAll_ints ns
  have b := layAll_ints ns
  have c := depthAll_prs ps
  have d := layAll_prs ps
  unfold SeqAt.shaped dI dP
  rw [Bool.and_eq_true]
  refine ⟨by simp [PyData.canLay0, PyData.canLayAll0, b, d], decide_eq_true ?_⟩
  simp only [PyData.depth, PyData.depthAll]
  omega
theorem eqv_two (ns : List Int) (ps : List (Int × Int)) : PyData.eqv (.list [dI ns, dP ps]) (.list [dI ns, dP ps]) = true := by
  simp [PyData.eqv, PyData.eqvAll, eqv_dI, eqv_dP]
theorem ok_law_done (T : Txt K mg) : FnOk P w K mg base CX0 8 T.a_law_done T.d_law_done ["_law_land", "_law_heights", "_law_done_here", "_law_place", "_law_by", "_law_told_here"] (spGoes K T.c_Land) := by
  refine T.F_law_done.ok sc_law_done (fun vs H Q E h => ?_) (fun cdv A outer s H vs Q E hr h => ⟨_, (pss_cons (ps_set (i := 6) sc_law_done.nd rfl (Or.inl rfl) (pe_lst (pa_cons (pe_meth0 (pv 0) T.cl_Land T.m_Land_told (ok_Land_told T) (hr.mono (by decide)) T.b_Land_told .nil pass0) (pa_cons (pe_meth0 (pv 0) T.cl_Land T.m_Land_seen (ok_Land_seen T) (hr.mono (by decide)) T.b_Land_seen .nil pass0) pa_nil))))
      (pss_cons (ps_set (i := 7) sc_law_done.nd rfl (Or.inl rfl) (pe_lst (pa_cons (pe_callTy (call_listK (K := K) rfl) rfl T.n_list (by decide +kernel) (pa_cons (pe_ix (ix_listK (K := K) rfl) (pv 6) pe_int (fun _ _ => rfl)) pa_nil)) (pa_cons (pe_callTy (call_listK (K := K) rfl) rfl T.n_list (by decide +kernel) (pa_cons (pe_ix (ix_listK (K := K) rfl) (pv 6) pe_int (fun _ _ => rfl)) pa_nil)) pa_nil))))
      (pss_cons (ps_if (pt_not (pt_val (pe_call (ok_law_goes T) (hr.mono (by decide)) rfl T.g_law_goes T.F_law_goes.kp T.b_law_goes .nil pass0 (pa_cons (pv 0) (pa_cons (pv 1) (pa_cons (pv 2) (pa_cons (pv 3) (pa_cons (pv 4) (pa_cons (pv 5) pa_nil))))))))) (pss_one (ps_ret pe_bl)) pss_nil)
      (pss_one (ps_ret (pe_cmpR (op_eqDK (K := K) rfl hr.units) (pv 6) (pv 7) (nomark _))))))), ?_⟩)
  · obtain ⟨M, y, D, F, Hs, DN, TH, b0, hs, dn, n, x, b, rfl, _⟩ := h
    rfl
  · obtain ⟨M, y, D, F, Hs, DN, TH, b0, hs, dn, n, x, b, rfl, g, hn, hdn, hnn, hx, q⟩ := h
    obtain ⟨dx, hy⟩ := g.land.ins
    walk_at "rd"
    with_reducible refine rd_meth ?_
    walk_at "rd"
    refine ⟨y, dx, _, rfl, hy, rfl, ?_⟩
    walk_at "rd"
    refine ⟨y, D, F, hs, dn, rfl, g.land, fun W1 n1 => ?_⟩
    have s1 := same_upd (o := .lst (IL hs)) n1
    have h1 : (upd H W1 (.lst (IL hs))) W1 = some (.lst (IL hs)) := upd_same
    generalize upd H W1 (.lst (IL hs)) = H1 at *
    walk_at "rd"
    with_reducible refine rd_meth ?_
    walk_at "rd"
    refine ⟨y, dx, _, rfl, s1 _ _ hy, rfl, ?_⟩
    walk_at "rd"
    refine ⟨y, D, F, hs, dn, rfl, g.land.mono s1, hn, fun W2 H2 s2 n2 p2 => ?_⟩
    obtain ⟨v2, g2, r2⟩ := p2
    have h12 := s2 _ _ h1
    have s12 := s1.trans s2
    have n2' := same_fresh s1 n2
    walk_at "rd"
    refine ⟨sz 2, fun A1 nA1 => ?_⟩
    have s3 := same_upd (o := .lst [.ref W1, .ref W2]) nA1
    have hA1 : (upd H2 A1 (.lst [.ref W1, .ref W2])) A1 = some (.lst [.ref W1, .ref W2]) := upd_same
    have nA1' := same_fresh s12 nA1
    have s13 := s12.trans s3
    have h13 := s3 _ _ h12
    have g23 := s3 _ _ g2
    have r23 := r2.mono s3
    generalize upd H2 A1 (.lst [.ref W1, .ref W2]) = H3 at *
    walk_at "rd"
    refine rd_ixL (.of hA1) (atI_nat (j := 0) rfl) ?_
    walk_at "rd"
    intro W3 n3
    have s4 := same_upd (o := .lst (IL hs)) n3
    have h3 : (upd H3 W3 (.lst (IL hs))) W3 = some (.lst (IL hs)) := upd_same
    have n3' := same_fresh s13 n3
    have s14 := s13.trans s4
    have hA14 := s4 _ _ hA1
    have h14 := s4 _ _ h13
    have g24 := s4 _ _ g23
    have r24 := r23.mono s4
    generalize upd H3 W3 (.lst (IL hs)) = H4 at *
    walk_at "rd"
    refine rd_ixL (.of hA14) (atI_nat (j := 1) rfl) ?_
    walk_at "rd"
    intro W4 n4
    have s5 := same_upd (o := .lst v2) n4
    have h4 : (upd H4 W4 (.lst v2)) W4 = some (.lst v2) := upd_same
    have n4' := same_fresh s14 n4
    have s15 := s14.trans s5
    have hA15 := s5 _ _ hA14
    have h15 := s5 _ _ h14
    have g25 := s5 _ _ g24
    have r25 := r24.mono s5
    have h35 := s5 _ _ h3
    generalize upd H4 W4 (.lst v2) = H5 at *
    walk_at "rd"
    refine ⟨sz 2, fun A2 nA2 => ?_⟩
    have s6 := same_upd (o := .lst [.ref W3, .ref W4]) nA2
    have hA2 : (upd H5 A2 (.lst [.ref W3, .ref W4])) A2 = some (.lst [.ref W3, .ref W4]) := upd_same
    have nA2' := same_fresh s15 nA2
    have s16 := s15.trans s6
    have hA16 := s6 _ _ hA15
    have h16 := s6 _ _ h15
    have g26 := s6 _ _ g25
    have r26 := r25.mono s6
    have h36 := s6 _ _ h35
    have h46 := s6 _ _ h4
    generalize upd H5 A2 (.lst [.ref W3, .ref W4]) = H6 at *
    walk_at "rd"
    refine ⟨M, y, D, F, Hs, DN, TH, b0, hs, dn, n, x, b, rfl, g.same s16, hn, hdn, hnn, ?_, fun H7 hs' dn' k7 g7 l7 => ?_⟩
    · rcases hx with rfl | ⟨hx, wx, wb⟩
      · exact .inl rfl
      · exact .inr ⟨hx, fun H2 k => wx H2 ((Keep.of s16).trans k), fun H2 k => wb H2 ((Keep.of s16).trans k)⟩
    have no : ∀ {a}, H a = none → a ∉ [D, F, Hs, DN, TH] := fun n z => g.ex _ (g.sub _ z) n
    have hA17 := k7.lst (no nA1') hA16
    have hA27 := k7.lst (no nA2') hA2
    have h17 := k7.lst (no n1) h16
    have g27 := k7.lst (no n2') g26
    have h37 := k7.lst (no n3') h36
    have h47 := k7.lst (no n4') h46
    have r27 := k7.prsH r26
    walk_at "rd"
    refine ⟨_, _, .lst (.of hA17) (.cons (dp_ints (.of h17)) (.cons (dp_prs (.of g27) r27.prs) .nil)), .lst (.of hA27) (.cons (dp_ints (.of h37)) (.cons (dp_prs (.of h47) r27.prs) .nil)), shaped_two _ _, shaped_two _ _, ?_⟩
    rw [eqv_two]
    exact q _ hs' dn' ((Keep.of s16).trans k7) g7 l7
/-! ## the lifts ahead of the deeds -/
def spLifted (CL : Addr) : Sp := fun vs H Q _ => ∃ (M : List Addr) (y D F Hs DN TH : Addr) (b0 hs : List Int) (dn : List (Int × Int)) (n : Nat), vs = [.ref y, .ref Hs, .ref DN] ∧ GS H M CL y D F Hs DN TH b0 hs dn n ∧ (0 < hs.length ∧ hs.length ≤ 200) ∧ (∀ z ∈ hs, -5000 ≤ z ∧ z ≤ 5000) ∧ dn.length ≤ 10000 ∧
  ∀ H' hs' dn', Keep [D, F, Hs, DN] H H' → GS H' M CL y D F Hs DN TH b0 hs' dn' n → dn'.length ≤ dn.length + 90 → Q .non H'
theorem ok_law_lifted (T : Txt K mg) : FnOk P w K mg base CX0 6 T.a_law_lifted T.d_law_lifted ["_law_land", "_law_heights", "_law_done_here"] (spLifted T.c_Land) := by
  refine T.F_law_lifted.ok sc_law_lifted (fun vs H Q E h => ?_) (fun cdv A outer s H vs Q E hr h => ⟨_, (pss_one (ps_for PassesOwn.never rfl (pi_range1 rfl T.n_range (pa_cons (pe_op op_add pe_int (pe_op op_mul pe_int (pe_callTy call_int1 rfl T.n_int (by decide +kernel) (pa_cons (pe_cmpR op_lt (pe_callB (call_lenK (K := K) rfl) rfl T.n_len (by decide +kernel) (pa_cons (pv 1) pa_nil)) pe_int (nomark _)) pa_nil)))) pa_nil)) (pg_name (i := 3) sc_law_lifted.nd rfl (Or.inl rfl)) (pss_cons (ps_set (i := 4) sc_law_lifted.nd rfl (Or.inl rfl) (pe_op op_mod (pe_op op_mul (pv 3) pe_int) (pe_callB (call_lenK (K := K) rfl) rfl T.n_len (by decide +kernel) (pa_cons (pv 1) pa_nil))))
        (pss_cons (ps_expr (pe_meth (pv 0) T.cl_Land T.m_Land_lift (ok_Land_lift T) (hr.mono (by decide)) T.b_Land_lift .nil passLN (pa_cons (pv 4) (pa_cons (pe_op op_add pe_int (pe_op op_mod (pv 3) pe_int)) pa_nil))))
        (pss_cons (ps_augS (pv 1) (pv 4) (pget_listK (K := K) rfl) (pe_op op_add pe_int (pe_op op_mod (pv 3) pe_int)) ip_add set_list)
        (pss_one (ps_expr (pe_bmK (K := K) rfl PySem.F.plainAttrs_list PySem.F.slot_list_append PySem.F.type_list_append mt_append (pv 2) (pa_cons (pe_tup (pa_cons (pv 4) (pa_cons (pe_op op_add pe_int (pe_op op_mod (pv 3) pe_int)) pa_nil))) pa_nil))))))))), ?_⟩)
  · obtain ⟨M, y, D, F, Hs, DN, TH, b0, hs, dn, n, rfl, _⟩ := h
    rfl
  · obtain ⟨M, y, D, F, Hs, DN, TH, b0, hs, dn, n, rfl, g, ⟨h0, hn⟩, hb, hdn, q⟩ := h
    have hh := g.hh
    walk_at "rd"
    refine .inr ⟨_, rfl, ?_⟩
    walk_at "rd"
    obtain ⟨r, er, hr90⟩ : ∃ r : Nat, (30 + 60 * (if decide (((IL hs).length : Int) < 10) = true then 1 else 0) : Int) = (r : Int) ∧ r ≤ 90 := by
      split
      · exact ⟨90, by decide, by decide⟩
      · exact ⟨30, by decide, by decide⟩
    rw [er]
    refine rng1 ⟨by omega, by omega⟩ (fun i σ H' => ∃ (v3 v4 : Option V) (hs' : List Int) (dn' : List (Int × Int)), σ = [some (.ref y), some (.ref Hs), some (.ref DN), v3, v4] ∧ Keep [D, F, Hs, DN] H H' ∧ GS H' M T.c_Land y D F Hs DN TH b0 hs' dn' n ∧ hs'.length = hs.length ∧ (∀ z ∈ hs', -5000 - 2 * (i : Int) ≤ z ∧ z ≤ 5000 + 2 * (i : Int)) ∧ dn'.length ≤ dn.length + i)
      ⟨none, none, hs, dn, rfl, Keep.refl, g, rfl, fun z hz => by have := hb z hz; omega, by omega⟩ ?_ ?_
    · rintro i σ H' hi ⟨v3, v4, hs', dn', rfl, k1, g1, hl', hb', hd'⟩
      have hl : (IL hs').length = hs.length := by rw [List.length_map, hl']
      have e0 : (0 : Int) < ((IL hs').length : Int) := by omega
      have hh1 := g1.hh
      walk_at "rd"
      obtain ⟨pl, epl, hpl⟩ : ∃ j : Nat, (i : Int) * 7 % ((IL hs').length : Int) = (j : Int) ∧ j < hs'.length := by
        have := emod_b (x := (i : Int) * 7) e0
        exact ⟨((i : Int) * 7 % ((IL hs').length : Int)).toNat, by omega, by omega⟩
      rw [epl]
      walk_at "rd"
      with_reducible refine rd_meth ?_
      obtain ⟨dx, hy⟩ := g1.land.ins
      walk_at "rd"
      refine ⟨y, dx, _, rfl, hy, rfl, ?_⟩
      walk_at "rd"
      obtain ⟨z, ez, hz⟩ : ∃ z : Int, 1 + (i : Int) % 2 = z ∧ (1 ≤ z ∧ z ≤ 2) := ⟨_, rfl, by omega, by omega⟩
      rw [ez]
      have bz : -5000 - 2 * ((i : Int) + 1) ≤ hs'.getD pl 0 + z ∧ hs'.getD pl 0 + z ≤ 5000 + 2 * ((i : Int) + 1) := by
        have := hb' (hs'.getD pl 0) (by
          rw [List.getD_eq_getElem?_getD, List.getElem?_eq_getElem hpl]
          exact List.getElem_mem hpl)
        omega
      have bd : Bd (hs'.getD pl 0 + z) := ⟨by omega, by omega⟩
      refine ⟨y, D, F, hs', dn', _, _, rfl, g1.land, by omega, by omega, wh_int, wh_int, fun no => absurd ⟨pl, rfl, hpl⟩ no, fun j ej hj no => absurd ⟨z, rfl, (by
        have := V.int.inj ej
        rw [show j = pl by omega]
        exact bd)⟩ no, fun j z' ej hj ez' hbd => ?_⟩
      have ej := V.int.inj ej
      have ez' : z = z' := V.int.inj ez'
      obtain rfl : pl = j := by omega
      subst ez'
      intro H1 t l1 l2 k2 nt nl1 nl2 tw L1
      obtain ⟨⟨x1, x2, x3, x4⟩, ⟨x5, x6, x7⟩, ⟨x8, x9⟩, x10⟩ := nod5 g1.nod
      have ns : ∀ {p q : Addr}, p ≠ q → p ∉ [q] := fun h e => h (List.mem_singleton.mp e)
      have n2 : ∀ {p a b : Addr}, p ≠ a → p ≠ b → p ∉ [a, b] := fun h1 h2 e => by
        simp only [List.mem_cons, List.mem_nil_iff, or_false] at e
        exact e.elim h1 h2
      have hh2 := k2.lst (n2 (Ne.symm x2) (Ne.symm x5)) hh1
      have dd2 := g1.dd.keep k2 (n2 (Ne.symm x3) (Ne.symm x6))
      walk_at "rd"
      with_reducible refine rd_augS ?_
      walk_at "rd"
      refine rd_getI (.of hh2) hpl ?_
      walk_at "rd"
      rw [ez]
      refine rd_setI hh2 hpl ?_
      have k3 : Keep [Hs] H1 (upd H1 Hs (.lst (IL (hs'.set pl (hs'.getD pl 0 + z))))) := Keep.refl.mut (by simp) hh2
      have hh3 : (upd H1 Hs (.lst (IL (hs'.set pl (hs'.getD pl 0 + z))))) Hs = some (.lst (IL (upH hs' pl z))) := upd_same
      generalize upd H1 Hs (.lst (IL (hs'.set pl (hs'.getD pl 0 + z)))) = H2 at *
      have L2 := L1.keep k3 (ns x2) (ns x5)
      obtain ⟨vd, hdd, pd⟩ := dd2.keep k3 (ns (Ne.symm x8))
      walk_at "rd"
      refine ⟨ty_list (.of hdd), ?_⟩
      walk_at "rd"
      rw [ez]
      refine ⟨sz 2, fun u nu => ?_⟩
      have s4 := same_upd (o := .tup [.int (pl : Int), .int z]) nu
      have hu : (upd H2 u (.tup [.int (pl : Int), .int z])) u = some (.tup [.int (pl : Int), .int z]) := upd_same
      generalize upd H2 u (.tup [.int (pl : Int), .int z]) = H3 at *
      have hdd3 := s4 _ _ hdd
      have pd3 := pd.mono s4
      walk_at "rd"
      refine rd_append hdd3 (by rw [pd.length]; omega) ?_
      have k5 : Keep [DN] H3 (upd H3 DN (.lst (vd ++ [.ref u]))) := Keep.refl.mut (by simp) hdd3
      have dd5 := PLs.snoc (p := ((pl : Int), z)) hdd3 pd3 hu
      generalize upd H3 DN (.lst (vd ++ [.ref u])) = H4 at *
      have k14 : Keep [D, F, Hs, DN] H' H4 := (((k2.mono (by simp)).trans (k3.mono (by simp))).same s4).trans (k5.mono (by simp))
      refine ⟨_, _, upH hs' pl z, dn' ++ [((pl : Int), z)], rfl, k1.trans k14, ⟨(L2.mono s4).keep k5 (ns x3) (ns x6), k5.lst (ns x8) (s4 _ _ hh3), dd5, g1.tt.keep k14 (fun p hp => g1.sub p ?_) ?_, g1.hist.snoc hpl bd, g1.nod, g1.sub, k14.ex g1.ex⟩, by rw [upH_len, hl'], fun v hv => ?_, by rw [List.length_append]; show _ + 1 ≤ _; omega⟩
      · simp only [List.mem_cons, List.mem_nil_iff, or_false] at hp ⊢
        rcases hp with h | h | h | h <;> simp [h]
      · simp only [List.mem_cons, List.mem_nil_iff, or_false, not_or]
        exact ⟨Ne.symm x4, Ne.symm x7, Ne.symm x9, Ne.symm x10⟩
      · rcases List.mem_or_eq_of_mem_set hv with h | h
        · have := hb' v h
          omega
        · rw [h]
          omega
    · rintro σ H' ⟨v3, v4, hs', dn', rfl, k1, g1, hl', hb', hd'⟩
      walk_at "rd"
      exact q H' hs' dn' k1 g1 (by omega)
/-! ## all taken back -/
def spAllBack (CL : Addr) : Sp := fun vs H Q _ => ∃ (M : List Addr) (y D F Hs DN TH : Addr) (b0 hs : List Int) (dn : List (Int × Int)) (n : Nat), vs = [.ref y, .ref Hs, .ref DN] ∧ GS H M CL y D F Hs DN TH b0 hs dn n ∧ hs.length ≤ 200 ∧ dn.length ≤ 40000 ∧
  ∀ H', Keep [D, F, Hs, DN] H H' → GS H' M CL y D F Hs DN TH b0 b0 [] n → Q (.bl true) H'
theorem ok_law_all_back (T : Txt K mg) : FnOk P w K mg base CX0 7 T.a_law_all_back T.d_law_all_back ["_law_land", "_law_heights", "_law_done_here"] (spAllBack T.c_Land) := by
  refine T.F_law_all_back.ok sc_law_all_back (fun vs H Q E h => ?_) (fun cdv A outer s H vs Q E hr h => ⟨_, (pss_cons (ps_while PassesOwn.never (pt_cmpR (op_neDK (K := K) rfl hr.units) (pv 2) (pe_lst pa_nil) (nomark _)) (pss_cons (ps_asg (pe_bm0K (K := K) rfl PySem.F.plainAttrs_list PySem.F.slot_list_pop PySem.F.type_list_pop mt_pop (pv 2)) (pg_tupK (K := K) (n := 2) rfl rfl (pgs_cons (pg_name (i := 3) sc_law_all_back.nd rfl (Or.inl rfl)) (pgs_cons (pg_name (i := 4) sc_law_all_back.nd rfl (Or.inl rfl)) pgs_nil))))
        (pss_cons (ps_if (pt_not (pt_val (pe_callB (call_isiK0 (K := K) rfl) rfl T.n_isinstance (by decide +kernel) (pa_cons (pe_call (ok_law_told T) (hr.mono (by decide)) rfl T.g_law_told T.F_law_told.kp T.b_law_told .nil pass0 (pa_cons (pv 0) (pa_cons pe_non (pa_cons pe_int pa_nil)))) (pa_cons (pe_bltn (v := .ty "tuple") (by rfl) T.n_tuple (by decide +kernel) rfl) pa_nil))))) (pss_one (ps_ret pe_bl)) pss_nil)
        (pss_one (ps_augS (pv 1) (pv 3) (pget_listK (K := K) rfl) (pv 4) ip_sub set_list)))))
      (pss_one (ps_ret (pe_and (pe_cmpR op_eq (pe_call (ok_law_told T) (hr.mono (by decide)) rfl T.g_law_told T.F_law_told.kp T.b_law_told .nil pass0 (pa_cons (pv 0) (pa_cons pe_non (pa_cons pe_int pa_nil)))) pe_str (nomark _)) (pe_one (pe_call (ok_law_stands T) (hr.mono (by decide)) rfl T.g_law_stands T.F_law_stands.kp T.b_law_stands .nil pass0 (pa_cons (pv 0) (pa_cons (pv 1) pa_nil)))))))), ?_⟩)
  · obtain ⟨M, y, D, F, Hs, DN, TH, b0, hs, dn, n, rfl, _⟩ := h
    rfl
  · obtain ⟨M, y, D, F, Hs, DN, TH, b0, hs, dn, n, rfl, g, hn, hdn, q⟩ := h
    with_reducible refine rd_seq ?_
    refine ⟨fun m σ H' => ∃ (v3 v4 : Option V) (hs' : List Int) (dn' : List (Int × Int)), σ = [some (.ref y), some (.ref Hs), some (.ref DN), v3, v4] ∧ Keep [D, F, Hs, DN] H H' ∧ GS H' M T.c_Land y D F Hs DN TH b0 hs' dn' n ∧ m = dn'.length ∧ dn'.length ≤ 40000, ⟨_, none, none, hs, dn, rfl, Keep.refl, g, rfl, hdn⟩, ?_⟩
    rintro m σ H' ⟨v3, v4, hs', dn', rfl, k1, g1, rfl, hd'⟩
    have hn' : hs'.length ≤ 200 := by rw [g1.hist.len, ← g.hist.len]; exact hn
    obtain ⟨vd, hdd, pd⟩ := g1.dd
    walk_at "rd"
    refine ⟨sz 0, fun W nW => ?_⟩
    have s1 := same_upd (o := .lst []) nW
    have hW : (upd H' W (.lst [])) W = some (.lst []) := upd_same
    generalize upd H' W (.lst []) = H1 at *
    have g2 := g1.same s1
    have hdd1 := s1 _ _ hdd
    have pd1 := pd.mono s1
    refine rd_neP (.of hdd1) pd1.prs (.of hW) .nil ?_
    walk_at "rd"
    refine ite2 (fun c => ?_) (fun c => ?_)
    · have c' : dn' ≠ [] := by simpa using c
      obtain ⟨dn0, p, rfl⟩ : ∃ dn0 p, dn' = dn0 ++ [p] := ⟨_, _, (List.dropLast_concat_getLast c').symm⟩
      obtain ⟨i, z, rfl, hi, hist, hbd⟩ := g1.hist.last
      obtain ⟨vs0, u, rfl, p0, hu⟩ := prsH_last pd1
      refine ⟨_, fun _ _ n => n, ?_⟩
      walk_at "rd"
      refine ⟨ty_list (.of hdd1), ?_⟩
      refine rd_pop hdd1 ?_
      obtain ⟨⟨x1, x2, x3, x4⟩, ⟨x5, x6, x7⟩, ⟨x8, x9⟩, x10⟩ := nod5 g.nod
      have ns : ∀ {p q : Addr}, p ≠ q → p ∉ [q] := fun h e => h (List.mem_singleton.mp e)
      have n2 : ∀ {p a b : Addr}, p ≠ a → p ≠ b → p ∉ [a, b] := fun h1 h2 e => by
        simp only [List.mem_cons, List.mem_nil_iff, or_false] at e
        exact e.elim h1 h2
      have k2 : Keep [DN] H1 (upd H1 DN (.lst vs0)) := Keep.refl.mut (by simp) hdd1
      have hd2 : (upd H1 DN (.lst vs0)) DN = some (.lst vs0) := upd_same
      generalize upd H1 DN (.lst vs0) = H2 at *
      have hh2 := k2.lst (ns x8) g2.hh
      have dd2 : PLs H2 DN dn0 := ⟨vs0, hd2, k2.prsH p0⟩
      have L2 := g2.land.keep k2 (ns x3) (ns x6)
      refine rd_gTup2 (.of (k2.tup hu)) ?_
      walk_at "rd"
      refine ⟨y, D, F, hs', _, _, _, rfl, L2, hn', by omega, .inl ⟨rfl, .inr ⟨dn0, i, z, rfl, hi, fun H3 t l1 l2 k3 nt nl1 nl2 tw L3 => ?_⟩⟩⟩
      have hh3 := k3.lst (n2 (Ne.symm x2) (Ne.symm x5)) hh2
      have dd3 := dd2.keep k3 (n2 (Ne.symm x3) (Ne.symm x6))
      walk_at "rd"
      refine rd_isi (b := true) (ty_tup tw.tp) (by decide +kernel) ?_
      walk_at "rd"
      with_reducible refine rd_augS ?_
      walk_at "rd"
      refine rd_getI (.of hh3) hi ?_
      walk_at "rd"
      refine rd_setI hh3 hi ?_
      rw [Int.sub_eq_add_neg]
      have k4 : Keep [Hs] H3 (upd H3 Hs (.lst (IL (hs'.set i (hs'.getD i 0 + -z))))) := Keep.refl.mut (by simp) hh3
      have hh4 : (upd H3 Hs (.lst (IL (hs'.set i (hs'.getD i 0 + -z))))) Hs = some (.lst (IL (upH hs' i (-z)))) := upd_same
      generalize upd H3 Hs (.lst (IL (hs'.set i (hs'.getD i 0 + -z)))) = H4 at *
      have k14 : Keep [D, F, Hs, DN] H' H4 := (((Keep.of s1).trans (k2.mono (by simp))).trans (k3.mono (by simp))).trans (k4.mono (by simp))
      refine ⟨dn0.length, by rw [List.length_append]; exact Nat.lt_succ_self _, _, _, upH hs' i (-z), dn0, rfl, k1.trans k14, ⟨L3.keep k4 (ns x2) (ns x5), hh4, dd3.keep k4 (ns (Ne.symm x8)), g1.tt.keep k14 (fun p hp => g1.sub p ?_) ?_, hist, g1.nod, g1.sub, k14.ex g1.ex⟩, rfl, ?_⟩
      · simp only [List.mem_cons, List.mem_nil_iff, or_false] at hp ⊢
        rcases hp with h | h | h | h <;> simp [h]
      · simp only [List.mem_cons, List.mem_nil_iff, or_false, not_or]
        exact ⟨Ne.symm x4, Ne.symm x7, Ne.symm x9, Ne.symm x10⟩
      · rw [List.length_append] at hd'
        omega
    · have c' : dn' = [] := Classical.byContradiction fun z => c (by simpa using z)
      subst c'
      have e := g1.hist.nil_eq
      subst e
      walk_at "rd"
      refine ⟨y, D, F, hs', [], _, _, rfl, g2.land, hn', by simp, .inl ⟨rfl, .inl ⟨rfl, fun H2 s2 => ?_⟩⟩⟩
      have g3 := g2.same s2
      walk_at "rd"
      refine rd_yes (by simp) ?_
      walk_at "rd"
      refine ⟨y, D, F, Hs, hs', [], rfl, g3.land, g3.hh, hn', fun H3 s3 => ?_⟩
      exact q _ (k1.same ((s1.trans s2).trans s3)) (g3.same s3)

/-! ## law k10 -/
theorem rd_make {C : Addr} {sp : Sp} {E : XK} {t : TA} {σ : L2.St} {H : Hp} {Q : VK} (q : t σ H fun vs H1 => ∀ x dx, H1 x = none → H1 dx = none → dx ≠ x → sp (.ref x :: (vs ++ [])) (upd (upd H1 dx (.own x)) x (.ins C dx [])) (fun v H2 => v = .non ∧ Q (.ref x) H2) E) : tMake C sp [] E t σ H Q := q
theorem same_inst {H : Hp} {y dx C : Addr} (ny : H y = none) (nd : H dx = none) (ne : dx ≠ y) : Same H (upd (upd H dx (.own y)) y (.ins C dx [])) :=
  (same_upd nd).trans (same_upd (by rw [upd_ne (fun z => ne z.symm)]; exact ny))
theorem made_ok {H : Hp} {A C CL : Addr} {zs : List Int} {Q : Addr → Hp → Prop} {E : XK} (hA : H A = some (.lst (IL zs))) (hn : 1 ≤ zs.length ∧ zs.length ≤ 200) (hb : AllBd zs)
    (q : ∀ y D F H', Same H H' → H D = none → H F = none → LandS H' CL y D F zs [] → Q y H') :
    ∀ x dx, H x = none → H dx = none → dx ≠ x → spInit K C CL (.ref x :: ([V.ref A] ++ [])) (upd (upd H dx (.own x)) x (.ins CL dx [])) (fun v H2 => v = .non ∧ Q x H2) E := by
  intro y dx ny nd ne
  have si := same_inst (C := CL) ny nd ne
  refine ⟨y, dx, _, rfl, upd_same, good_checked (si _ _ hA) hn hb fun D H1 s1 nD hD => ⟨D, _, rfl, nD, s1, hD, fun H2 F fr nF DF hL => ⟨rfl, ?_⟩⟩⟩
  have yn : ∀ p u, H p = some u → p ≠ y := fun p u h z => by rw [z, ny] at h; cases h
  have s2 : Same H H2 := fun p u h => fr p u (yn p u h) (s1 _ _ (si _ _ h))
  obtain ⟨hy, hD2, hF2⟩ := hL
  exact q y D F H2 s2 (same_fresh si nD) (same_fresh (si.trans s1) nF) ⟨hy, hD2, DF, [], hF2, .nil⟩
theorem cutV_IL (ns : List Int) (a b : Nat) : ∃ ds : List Int, cutV (IL ns) (some (a : Int)) (some (b : Int)) = IL ds ∧ ds.length ≤ b - a := by
  unfold cutV
  rw [HT.sIx_nat, HT.sIx_nat]
  refine ⟨(ns.drop (min a (IL ns).length)).take (min b (IL ns).length - min a (IL ns).length), ?_, ?_⟩
  · rw [IL, IL, List.map_take, List.map_drop]
  · rw [List.length_take]
    omega
theorem tilt1 {k t : Int} (hk : 0 ≤ k ∧ k ≤ 100) (ht : -1 ≤ t ∧ t ≤ 1) : -100 ≤ k * t ∧ k * t ≤ 100 := by
  have : t = -1 ∨ t = 0 ∨ t = 1 := by omega
  rcases this with h | h | h <;> subst h <;> omega
theorem sq1 {k : Int} (hk : 0 ≤ k ∧ k ≤ 29) : 0 ≤ k * k ∧ k * k ≤ 841 := ⟨Int.mul_nonneg hk.1 hk.1, Int.mul_le_mul hk.2 hk.2 hk.1 (by decide)⟩
theorem GS.other {H H' : Hp} {M M' : List Addr} {CL y D F Hs DN TH : Addr} {b0 hs : List Int} {dn : List (Int × Int)} {n : Nat} (g : GS H M CL y D F Hs DN TH b0 hs dn n) (k : Keep M' H H') (hm : ∀ a ∈ M', a ∈ M) (dj : ∀ a ∈ [D, F, Hs, DN, TH], a ∉ M') : GS H' M CL y D F Hs DN TH b0 hs dn n :=
  ⟨g.land.keep k (dj _ (by simp)) (dj _ (by simp)), k.lst (dj _ (by simp)) g.hh, g.dd.keep k (dj _ (by simp)), g.tt.keep k hm (dj _ (by simp)), g.hist, g.nod, g.sub, k.ex g.ex⟩
/-- the state of the law -/
structure MS (H : Hp) (CL y1 D1 F1 Hs DN TH y2 D2 F2 S2 B A DL : Addr) (zs ds hs : List Int) (dn : List (Int × Int)) (h2 : List Int) (dn2 : List (Int × Int)) (n : Nat) : Prop where
  g : GS H [D1, F1, Hs, DN, TH, D2, F2, S2] CL y1 D1 F1 Hs DN TH zs hs dn n
  l2 : LandS H CL y2 D2 F2 h2 dn2
  s2 : H S2 = some (.lst (IL h2))
  hb : H B = some (.lst (IL zs))
  ha : H A = some (.lst (IL zs))
  hd : H DL = some (.lst (IL ds))
  n1 : D2 ∉ [D1, F1, Hs, DN, TH] ∧ F2 ∉ [D1, F1, Hs, DN, TH] ∧ S2 ∉ [D1, F1, Hs, DN, TH]
  n2 : S2 ≠ D2 ∧ S2 ≠ F2
  n3 : B ∉ [D1, F1, Hs, DN, TH, D2, F2, S2] ∧ A ∉ [D1, F1, Hs, DN, TH, D2, F2, S2] ∧ DL ∉ [D1, F1, Hs, DN, TH, D2, F2, S2]
theorem MS.step {H H' : Hp} {CL y1 D1 F1 Hs DN TH y2 D2 F2 S2 B A DL : Addr} {zs ds hs hs' : List Int} {dn dn' : List (Int × Int)} {h2 : List Int} {dn2 : List (Int × Int)} {n n' : Nat} (m : MS H CL y1 D1 F1 Hs DN TH y2 D2 F2 S2 B A DL zs ds hs dn h2 dn2 n)
    (k : Keep [D1, F1, Hs, DN, TH] H H') (g : GS H' [D1, F1, Hs, DN, TH, D2, F2, S2] CL y1 D1 F1 Hs DN TH zs hs' dn' n') : MS H' CL y1 D1 F1 Hs DN TH y2 D2 F2 S2 B A DL zs ds hs' dn' h2 dn2 n' := by
  have sub : ∀ {p}, p ∉ [D1, F1, Hs, DN, TH, D2, F2, S2] → p ∉ [D1, F1, Hs, DN, TH] := fun h z => h (by
    simp only [List.mem_cons, List.mem_nil_iff, or_false] at z ⊢
    rcases z with z | z | z | z | z <;> simp [z])
  exact ⟨g, m.l2.keep k m.n1.1 m.n1.2.1, k.lst m.n1.2.2 m.s2, k.lst (sub m.n3.1) m.hb, k.lst (sub m.n3.2.1) m.ha, k.lst (sub m.n3.2.2) m.hd, m.n1, m.n2, m.n3⟩
def spLaw (K : PySem.W.Frag) : Sp := fun vs H Q _ => ∃ (a : Addr) (ns : List Int), vs = [.ref a] ∧ SqL K H a (IL ns) ∧ ns.length ≤ 63 ∧ ∀ H', Q (.bl true) H'
theorem ok_law (T : Txt K mg) : FnOk P w K mg base CX0 9 T.a_law T.d_law ["_law_script"] (spLaw K) := by
  refine T.F_law.ok sc_law (fun vs H Q E h => ?_) (fun cdv A outer s H vs Q E hr h => ⟨_, (pss_cons (ps_set (i := 1) sc_law.nd rfl (Or.inl rfl) (pe_op op_add pe_int (pe_op op_mod (pe_call (ok_law_cell_at T) (hr.mono (by decide)) rfl T.g_law_cell_at T.F_law_cell_at.kp T.b_law_cell_at .nil pass0 (pa_cons (pv 0) (pa_cons pe_int pa_nil))) pe_int)))
      (pss_cons (ps_set (i := 2) sc_law.nd rfl (Or.inl rfl) (pe_slice (sl_listK (K := K) rfl) (pv 0) (po_some pe_int) (po_some pe_int)))
      (pss_cons (ps_if (pt_cmpR op_eq (pe_op op_mod (pe_op op_fdiv (pe_call (ok_law_cell_at T) (hr.mono (by decide)) rfl T.g_law_cell_at T.F_law_cell_at.kp T.b_law_cell_at .nil pass0 (pa_cons (pv 0) (pa_cons pe_int pa_nil))) pe_int) pe_int) pe_int (nomark _)) (pss_cons (ps_set (i := 1) sc_law.nd rfl (Or.inl rfl) (pe_op op_add (pv 1) pe_int))
        (pss_one (ps_set (i := 2) sc_law.nd rfl (Or.inl rfl) (pe_slice (sl_listK (K := K) rfl) (pv 0) (po_some pe_int) (po_some pe_int))))) pss_nil)
      (pss_cons (ps_if (pt_cmpR op_eq (pe_op op_mod (pe_op op_fdiv (pe_call (ok_law_cell_at T) (hr.mono (by decide)) rfl T.g_law_cell_at T.F_law_cell_at.kp T.b_law_cell_at .nil pass0 (pa_cons (pv 0) (pa_cons pe_int pa_nil))) pe_int) pe_int) pe_int (nomark _)) (pss_cons (ps_set (i := 1) sc_law.nd rfl (Or.inl rfl) (pe_op op_add (pv 1) pe_int))
        (pss_one (ps_set (i := 2) sc_law.nd rfl (Or.inl rfl) (pe_slice (sl_listK (K := K) rfl) (pv 0) (po_some pe_int) (po_some pe_int))))) pss_nil)
      (pss_cons (ps_set (i := 3) sc_law.nd rfl (Or.inr rfl) (pe_op op_sub (pe_op op_mod (pe_call (ok_law_cell_at T) (hr.mono (by decide)) rfl T.g_law_cell_at T.F_law_cell_at.kp T.b_law_cell_at .nil pass0 (pa_cons (pv 0) (pa_cons pe_int pa_nil))) pe_int) pe_int))
      (pss_cons (ps_setLc (i := 4) (own := [("_law_k", 5)]) (g := gName 5) rfl sc_law.nd rfl rfl (sw_true rfl rfl rfl (by decide +kernel)) (pi_range1 rfl T.n_range (pa_cons (pv 1) pa_nil)) (blkOk_by (own := [("_law_k", 5)]) (N := ["_law_script", "_law_size", "_law_deeds", "_law_tilt", "_law_begun", "_law_k", "_law_handed", "_law_land", "_law_other", "_law_heights", "_law_second", "_law_done_here", "_law_told_here", "_law_cell", "_law_place", "_law_due", "_law_found", "_law_by"]) (sc := defScope s_law) (by decide +kernel)) (fun _ _ _ _ _ => (pg_name (i := 5) sc_law.nd rfl (Or.inl rfl))) (fun _ _ _ _ _ => pts_nil) (fun _ _ _ _ _ => (pe_op op_add (pe_op op_mod (pe_op op_fdiv (pe_call (ok_law_cell_at T) (hr.mono (by decide)) rfl T.g_law_cell_at T.F_law_cell_at.kp T.b_law_cell_at .nil pass0 (pa_cons (pv 0) (pa_cons pe_int pa_nil))) (pe_op op_add (pe_op op_mod (pv 5) pe_int) pe_int)) pe_int) (pe_op op_mul (pv 5) (pv 3)))))
      (pss_cons (ps_if (PW.pt (pw_and (pt_cmpR op_eq (pe_op op_mod (pe_call (ok_law_cell_at T) (hr.mono (by decide)) rfl T.g_law_cell_at T.F_law_cell_at.kp T.b_law_cell_at .nil pass0 (pa_cons (pv 0) (pa_cons pe_int pa_nil))) pe_int) pe_int (nomark _)) (pw_and1 (pt_cmpR op_lt (pv 1) pe_int (nomark _))))) (pss_one (ps_setLc (i := 4) (own := [("_law_k", 5)]) (g := gName 5) rfl sc_law.nd rfl rfl (sw_true rfl rfl rfl (by decide +kernel)) (pi_range1 rfl T.n_range (pa_cons (pv 1) pa_nil)) (blkOk_by (own := [("_law_k", 5)]) (N := ["_law_script", "_law_size", "_law_deeds", "_law_tilt", "_law_begun", "_law_k", "_law_handed", "_law_land", "_law_other", "_law_heights", "_law_second", "_law_done_here", "_law_told_here", "_law_cell", "_law_place", "_law_due", "_law_found", "_law_by"]) (sc := defScope s_law) (by decide +kernel)) (fun _ _ _ _ _ => (pg_name (i := 5) sc_law.nd rfl (Or.inl rfl))) (fun _ _ _ _ _ => pts_nil) (fun _ _ _ _ _ => (pe_op op_add (pe_op op_mul (pv 5) (pv 5)) (pe_op op_mul (pv 5) (pv 3)))))) pss_nil)
      (pss_cons (ps_set (i := 6) sc_law.nd rfl (Or.inl rfl) (pe_callTy (call_listK (K := K) rfl) rfl T.n_list (by decide +kernel) (pa_cons (pv 4) pa_nil)))
      (pss_cons (ps_set (i := 7) sc_law.nd rfl (Or.inl rfl) (pe_make T.mk_Land (ok_Land___init__ T) (hr.mono (by decide)) rfl T.g_Land T.b_Land___init__ .nil passLN (pa_cons (pv 6) pa_nil)))
      (pss_cons (ps_set (i := 8) sc_law.nd rfl (Or.inl rfl) (pe_make T.mk_Land (ok_Land___init__ T) (hr.mono (by decide)) rfl T.g_Land T.b_Land___init__ .nil passLN (pa_cons (pv 6) pa_nil)))
      (pss_cons (ps_set (i := 9) sc_law.nd rfl (Or.inl rfl) (pe_callTy (call_listK (K := K) rfl) rfl T.n_list (by decide +kernel) (pa_cons (pv 4) pa_nil)))
      (pss_cons (ps_set (i := 10) sc_law.nd rfl (Or.inl rfl) (pe_callTy (call_listK (K := K) rfl) rfl T.n_list (by decide +kernel) (pa_cons (pv 4) pa_nil)))
      (pss_cons (ps_set (i := 11) sc_law.nd rfl (Or.inl rfl) (pe_lst pa_nil))
      (pss_cons (ps_set (i := 12) sc_law.nd rfl (Or.inl rfl) (pe_lst pa_nil))
      (pss_cons (ps_if (PW.pt (pw_and (pt_cmpR op_eq (pe_op op_mod (pe_op op_fdiv (pe_call (ok_law_cell_at T) (hr.mono (by decide)) rfl T.g_law_cell_at T.F_law_cell_at.kp T.b_law_cell_at .nil pass0 (pa_cons (pv 0) (pa_cons pe_int pa_nil))) pe_int) pe_int) pe_int (nomark _)) (pw_and1 (pt_cmpR op_lt (pv 1) pe_int (nomark _))))) (pss_one (ps_expr (pe_call (ok_law_lifted T) (hr.mono (by decide)) rfl T.g_law_lifted T.F_law_lifted.kp T.b_law_lifted .nil pass0 (pa_cons (pv 7) (pa_cons (pv 9) (pa_cons (pv 11) pa_nil)))))) pss_nil)
      (pss_cons (ps_for PassesOwn.never rfl (pi_listK (K := K) rfl (pv 2)) (pg_name (i := 13) sc_law.nd rfl (Or.inl rfl)) (pss_one (ps_if (pt_cmpR op_eq (pe_op op_mod (pv 13) pe_int) pe_int (nomark _)) (pss_cons (ps_set (i := 14) sc_law.nd rfl (Or.inl rfl) (pe_op op_mod (pe_op op_fdiv (pv 13) pe_int) (pv 1)))
          (pss_cons (ps_set (i := 15) sc_law.nd rfl (Or.inl rfl) (pe_call (ok_law_due_by T) (hr.mono (by decide)) rfl T.g_law_due_by T.F_law_due_by.kp T.b_law_due_by .nil pass0 (pa_cons (pv 10) (pa_cons (pv 14) (pa_cons pe_int pa_nil)))))
          (pss_cons (ps_augS (pv 10) (pv 14) (pget_listK (K := K) rfl) pe_int ip_add set_list)
          (pss_cons (ps_set (i := 16) sc_law.nd rfl (Or.inl rfl) (pe_call (ok_law_told T) (hr.mono (by decide)) rfl T.g_law_told T.F_law_told.kp T.b_law_told .nil pass0 (pa_cons (pv 8) (pa_cons (pv 14) (pa_cons pe_int pa_nil)))))
          (pss_one (ps_if (PW.pt (pw_or (pt_not (pt_val (pe_call (ok_law_alike T) (hr.mono (by decide)) rfl T.g_law_alike T.F_law_alike.kp T.b_law_alike .nil pass0 (pa_cons (pv 16) (pa_cons (pv 15) pa_nil))))) (pw_or (pt_not (pt_val (pe_call (ok_law_kept T) (hr.mono (by decide)) rfl T.g_law_kept T.F_law_kept.kp T.b_law_kept .nil pass0 (pa_cons (pv 12) (pa_cons (pv 16) pa_nil))))) (pw_or1 (pt_not (pt_val (pe_call (ok_law_stands T) (hr.mono (by decide)) rfl T.g_law_stands T.F_law_stands.kp T.b_law_stands .nil pass0 (pa_cons (pv 8) (pa_cons (pv 10) pa_nil))))))))) (pss_one (ps_ret pe_bl)) pss_nil)))))) (pss_cons (ps_asg (pe_call (ok_law_deed_by T) (hr.mono (by decide)) rfl T.g_law_deed_by T.F_law_deed_by.kp T.b_law_deed_by .nil pass0 (pa_cons (pv 13) (pa_cons (pv 9) pa_nil))) (pg_tupK (K := K) (n := 2) rfl rfl (pgs_cons (pg_name (i := 14) sc_law.nd rfl (Or.inl rfl)) (pgs_cons (pg_name (i := 17) sc_law.nd rfl (Or.inl rfl)) pgs_nil))))
          (pss_one (ps_if (pt_not (pt_val (pe_call (ok_law_done T) (hr.mono (by decide)) rfl T.g_law_done T.F_law_done.kp T.b_law_done .nil pass0 (pa_cons (pv 7) (pa_cons (pv 9) (pa_cons (pv 11) (pa_cons (pv 14) (pa_cons (pv 17) (pa_cons (pv 12) pa_nil))))))))) (pss_one (ps_ret pe_bl)) pss_nil))))))
      (pss_cons (ps_if (PW.pt (pw_or (pt_not (pt_val (pe_call (ok_law_all_back T) (hr.mono (by decide)) rfl T.g_law_all_back T.F_law_all_back.kp T.b_law_all_back .nil pass0 (pa_cons (pv 7) (pa_cons (pv 9) (pa_cons (pv 11) pa_nil)))))) (pw_or1 (pt_cmpR (op_neDK (K := K) rfl hr.units) (pv 9) (pv 4) (nomark _))))) (pss_one (ps_ret pe_bl)) pss_nil)
      (pss_one (ps_ret (pe_and (pe_call (ok_law_kept T) (hr.mono (by decide)) rfl T.g_law_kept T.F_law_kept.kp T.b_law_kept .nil pass0 (pa_cons (pv 12) (pa_cons pe_non pa_nil))) (pe_and (pe_call (ok_law_stands T) (hr.mono (by decide)) rfl T.g_law_stands T.F_law_stands.kp T.b_law_stands .nil pass0 (pa_cons (pv 8) (pa_cons (pv 10) pa_nil))) (pe_one (pe_cmpR (op_eqDK (K := K) rfl hr.units) (pv 6) (pv 4) (nomark _)))))))))))))))))))))))), ?_⟩)
  · obtain ⟨a, ns, rfl, _⟩ := h
    rfl
  · obtain ⟨s0, ns, rfl, hS, hlen, k⟩ := h
    walk_at "rd"
    intro DL0 nDL0
    obtain ⟨ds0, eds0, lds0⟩ := cutV_IL ns 3 27
    have eds0' : cutV (IL ns) (some 3) (some 27) = IL ds0 := eds0
    rw [eds0']
    have s1 := same_upd (o := .lst (IL ds0)) nDL0
    have hDL0 : (upd H DL0 (.lst (IL ds0))) DL0 = some (.lst (IL ds0)) := upd_same
    generalize upd H DL0 (.lst (IL ds0)) = H1 at *
    have hS1 := s1.seq hS
    walk_at "rq"
    have hc0 : 0 ≤ cell ns (Int.toNat 0) % 9 ∧ cell ns (Int.toNat 0) % 9 ≤ 8 := by omega
    with_reducible refine rd_cut (fun σ' H' => ∃ (s : Nat) (DL : Addr) (ds : List Int), σ' = [some (.ref s0), some (.int (s : Int)), some (.ref DL), none, none, none, none, none, none, none, none, none, none, none, none, none, none, none] ∧ Same H H' ∧ H' DL = some (.lst (IL ds)) ∧ ds.length ≤ 24 ∧ 1 ≤ s ∧ s ≤ 29) (fun N hN => ?_) ?_
    · walk_at "rd"
      refine ite2 (fun c => ?_) (fun c => ?_)
      · walk_at "rd"
        intro DL1 nDL1
        obtain ⟨ds1, eds1, lds1⟩ := cutV_IL ns 3 11
        have eds1' : cutV (IL ns) (some 3) (some 11) = IL ds1 := eds1
        rw [eds1']
        refine hN _ _ ⟨(1 + cell ns (Int.toNat 0) % 9 + 20).toNat, DL1, ds1, ?_, s1.trans (same_upd nDL1), upd_same, by omega, by omega, by omega⟩
        rw [show (((1 + cell ns (Int.toNat 0) % 9 + 20).toNat : Nat) : Int) = 1 + cell ns (Int.toNat 0) % 9 + 20 by omega]
        rfl
      · walk_at "rd"
        refine hN _ _ ⟨(1 + cell ns (Int.toNat 0) % 9).toNat, DL0, ds0, ?_, s1, hDL0, lds0, by omega, by omega⟩
        rw [show (((1 + cell ns (Int.toNat 0) % 9).toNat : Nat) : Int) = 1 + cell ns (Int.toNat 0) % 9 by omega]
        rfl
    clear hc0 hS1 hDL0 s1 eds0 eds0' lds0 nDL0
    rintro σ1 H1 ⟨sz1, DL1, ds1, rfl, s1, hDL1, lds1, hs1, hs1'⟩
    have hS1 := s1.seq hS
    walk_at "rq"
    with_reducible refine rd_cut (fun σ' H' => ∃ (s : Nat) (DL : Addr) (ds : List Int), σ' = [some (.ref s0), some (.int (s : Int)), some (.ref DL), none, none, none, none, none, none, none, none, none, none, none, none, none, none, none] ∧ Same H H' ∧ H' DL = some (.lst (IL ds)) ∧ ds.length ≤ 24 ∧ 1 ≤ s ∧ s ≤ 59) (fun N hN => ?_) ?_
    · walk_at "rd"
      refine ite2 (fun c => ?_) (fun c => ?_)
      · walk_at "rd"
        intro DL2 nDL2
        obtain ⟨ds2, eds2, lds2⟩ := cutV_IL ns 3 5
        have eds2' : cutV (IL ns) (some 3) (some 5) = IL ds2 := eds2
        rw [eds2']
        exact hN _ _ ⟨sz1 + 30, DL2, ds2, rfl, s1.trans (same_upd nDL2), upd_same, by omega, by omega, by omega⟩
      · walk_at "rd"
        exact hN _ _ ⟨sz1, DL1, ds1, rfl, s1, hDL1, lds1, hs1, by omega⟩
    clear hS1 hDL1 s1 lds1 hs1 hs1'
    rintro σ2 H1 ⟨n, DL, ds, rfl, s1, hDL, lds, hn0, hn⟩
    have hS1 := s1.seq hS
    walk_at "rd"
    obtain ⟨tl, etl, htl⟩ : ∃ tl : Int, cell ns (Int.toNat 2) % 3 - 1 = tl ∧ (-1 ≤ tl ∧ tl ≤ 1) := ⟨_, rfl, by omega, by omega⟩
    rw [etl]
    have m1 := emod_b (x := cell ns (Int.toNat 1)) (n := 9) (by decide)
    refine ⟨(n : Int), rfl, by omega, by omega, fun B0 nB0 => lc_range (lo := 0) (n := Int.toNat n) (fun i H' => ∃ zs : List Int, H' = upd H1 B0 (.lst (IL zs)) ∧ zs.length = i ∧ ∀ z ∈ zs, -1000 ≤ z ∧ z ≤ 1000) ⟨[], rfl, rfl, fun _ h => by cases h⟩ ?_ ?_⟩
    · rintro i _ hi ⟨zs, rfl, hl, hb⟩
      have hS2 := (same_upd (o := .lst (IL zs)) nB0).seq hS1
      refine ⟨rfl, ?_⟩
      walk_at "rd"
      have m2 := emod_b (x := cell ns (Int.toNat 1) / ((0 + (i : Int)) % 9 + 1)) (n := 9) (by decide)
      have m3 := tilt1 (k := 0 + (i : Int)) (t := tl) (by omega) htl
      refine ⟨_, upd_same, by rw [List.length_map]; exact szlt (by omega), zs ++ [_], upd_snoc, len_snoc hl, fun y hy => ?_⟩
      rcases List.mem_append.mp hy with h | h
      · exact hb y h
      · rw [List.mem_singleton.mp h]
        omega
    rintro _ ⟨zs, rfl, hl, hb⟩
    rw [show Int.toNat (n : Int) = n by omega] at hl
    have sB := same_upd (o := .lst (IL zs)) nB0
    have hB0 : (upd H1 B0 (.lst (IL zs))) B0 = some (.lst (IL zs)) := upd_same
    have s12 := s1.trans sB
    have hDL2 := sB _ _ hDL
    generalize upd H1 B0 (.lst (IL zs)) = H2 at *
    have hS2 := s12.seq hS
    walk_at "rq"
    with_reducible refine rd_cut (fun σ' H' => ∃ (B : Addr) (zs : List Int), σ' = [some (.ref s0), some (.int (n : Int)), some (.ref DL), some (.int tl), some (.ref B), none, none, none, none, none, none, none, none, none, none, none, none, none] ∧ Same H H' ∧ H' DL = some (.lst (IL ds)) ∧ H' B = some (.lst (IL zs)) ∧ zs.length = n ∧ ∀ z ∈ zs, -1000 ≤ z ∧ z ≤ 1000) (fun N hN => ?_) ?_
    · have keep : N [some (.ref s0), some (.int (n : Int)), some (.ref DL), some (.int tl), some (.ref B0), none, none, none, none, none, none, none, none, none, none, none, none, none] H2 := hN _ _ ⟨B0, zs, rfl, s12, hDL2, hB0, hl, hb⟩
      walk_at "rd"
      refine ite2 (fun c => ?_) (fun c => ?_)
      · walk_at "rd"
        refine ite2 (fun d => ?_) (fun d => ?_)
        · have d' : (n : Int) < 30 := of_decide_eq_true d
          walk_at "rd"
          refine ⟨(n : Int), rfl, by omega, by omega, fun B1 nB1 => lc_range (lo := 0) (n := Int.toNat n) (fun i H' => ∃ zs : List Int, H' = upd H2 B1 (.lst (IL zs)) ∧ zs.length = i ∧ ∀ z ∈ zs, -1000 ≤ z ∧ z ≤ 1000) ⟨[], rfl, rfl, fun _ h => by cases h⟩ ?_ ?_⟩
          · rintro i _ hi ⟨ys, rfl, hly, hby⟩
            refine ⟨rfl, ?_⟩
            walk_at "rd"
            have m2 := sq1 (k := 0 + (i : Int)) (by omega)
            have m3 := tilt1 (k := 0 + (i : Int)) (t := tl) (by omega) htl
            refine ⟨_, upd_same, by rw [List.length_map]; exact szlt (by omega), ys ++ [_], upd_snoc, len_snoc hly, fun y hy => ?_⟩
            rcases List.mem_append.mp hy with h | h
            · exact hby y h
            · rw [List.mem_singleton.mp h]
              omega
          · rintro _ ⟨ys, rfl, hly, hby⟩
            rw [show Int.toNat (n : Int) = n by omega] at hly
            have sB1 := same_upd (o := .lst (IL ys)) nB1
            exact hN _ _ ⟨B1, ys, rfl, s12.trans sB1, sB1 _ _ hDL2, upd_same, hly, hby⟩
        · walk_at "rd"
          exact keep
      · walk_at "rd"
        exact keep
    clear hS2 hDL2 s12 sB hB0 hb hl hDL s1 hS1 m1
    rintro σ3 H1 ⟨B, zs, rfl, s1, hDL, hB, hl, hb⟩
    have hAB : AllBd zs := fun z hz => by
      have := hb z hz
      exact ⟨by omega, by omega⟩
    have hzl : 1 ≤ zs.length ∧ zs.length ≤ 200 := ⟨by omega, by omega⟩
    walk_at "rd"
    intro A nA
    have sA := same_upd (o := .lst (IL zs)) nA
    have hA : (upd H1 A (.lst (IL zs))) A = some (.lst (IL zs)) := upd_same
    have hDL2 := sA _ _ hDL
    have hB2 := sA _ _ hB
    have s2 := s1.trans sA
    generalize upd H1 A (.lst (IL zs)) = H2 at *
    walk_at "rd"
    with_reducible refine rd_make ?_
    walk_at "rd"
    refine made_ok hA hzl hAB fun y1 D1 F1 H3 s3 nD1 nF1 L1 => ?_
    walk_at "rd"
    with_reducible refine rd_make ?_
    walk_at "rd"
    refine made_ok (s3 _ _ hA) hzl hAB fun y2 D2 F2 H4 s4 nD2 nF2 L2 => ?_
    have s24 := s3.trans s4
    have hB4 := s24 _ _ hB2
    have hA4 := s24 _ _ hA
    have hDL4 := s24 _ _ hDL2
    walk_at "rd"
    intro Hs nHs
    have s5 := same_upd (o := .lst (IL zs)) nHs
    have hHs : (upd H4 Hs (.lst (IL zs))) Hs = some (.lst (IL zs)) := upd_same
    generalize upd H4 Hs (.lst (IL zs)) = H5 at *
    have hB5 := s5 _ _ hB4
    walk_at "rd"
    intro S2 nS2
    have s6 := same_upd (o := .lst (IL zs)) nS2
    have hS2 : (upd H5 S2 (.lst (IL zs))) S2 = some (.lst (IL zs)) := upd_same
    generalize upd H5 S2 (.lst (IL zs)) = H6 at *
    walk_at "rd"
    refine ⟨sz 0, fun DN nDN => ?_⟩
    have s7 := same_upd (o := .lst []) nDN
    have hDN : (upd H6 DN (.lst [])) DN = some (.lst []) := upd_same
    generalize upd H6 DN (.lst []) = H7 at *
    walk_at "rd"
    refine ⟨sz 0, fun TH nTH => ?_⟩
    have s8 := same_upd (o := .lst []) nTH
    have hTH : (upd H7 TH (.lst [])) TH = some (.lst []) := upd_same
    generalize upd H7 TH (.lst []) = H8 at *
    have m0 : MS H8 T.c_Land y1 D1 F1 Hs DN TH y2 D2 F2 S2 B A DL zs ds zs [] zs [] 0 := by
      obtain ⟨vF1, hF1, pF1⟩ := L1.dn
      obtain ⟨vF2, hF2, pF2⟩ := L2.dn
      have hD1 := L1.hl
      have hD2 := L2.hl
      have a1 := ne_of_none (s4 _ _ hD1) nHs
      have a2 := ne_of_none (s4 _ _ hF1) nHs
      have a3 := ne_of_none hD2 nHs
      have a4 := ne_of_none hF2 nHs
      have b1 := ne_of_none (s5 _ _ (s4 _ _ hD1)) nS2
      have b2 := ne_of_none (s5 _ _ (s4 _ _ hF1)) nS2
      have b3 := ne_of_none (s5 _ _ hD2) nS2
      have b4 := ne_of_none (s5 _ _ hF2) nS2
      have b5 := ne_of_none hHs nS2
      have c1 := ne_of_none (s6 _ _ (s5 _ _ (s4 _ _ hD1))) nDN
      have c2 := ne_of_none (s6 _ _ (s5 _ _ (s4 _ _ hF1))) nDN
      have c3 := ne_of_none (s6 _ _ (s5 _ _ hD2)) nDN
      have c4 := ne_of_none (s6 _ _ (s5 _ _ hF2)) nDN
      have c5 := ne_of_none (s6 _ _ hHs) nDN
      have c6 := ne_of_none hS2 nDN
      have d1 := ne_of_none (s7 _ _ (s6 _ _ (s5 _ _ (s4 _ _ hD1)))) nTH
      have d2 := ne_of_none (s7 _ _ (s6 _ _ (s5 _ _ (s4 _ _ hF1)))) nTH
      have d3 := ne_of_none (s7 _ _ (s6 _ _ (s5 _ _ hD2))) nTH
      have d4 := ne_of_none (s7 _ _ (s6 _ _ (s5 _ _ hF2))) nTH
      have d5 := ne_of_none (s7 _ _ (s6 _ _ hHs)) nTH
      have d6 := ne_of_none (s7 _ _ hS2) nTH
      have d7 := ne_of_none hDN nTH
      have e1 := ne_of_none hD1 nD2
      have e2 := ne_of_none hD1 nF2
      have e3 := ne_of_none hF1 nD2
      have e4 := ne_of_none hF1 nF2
      have s48 := ((s5.trans s6).trans s7).trans s8
      have s38 := s4.trans s48
      have s28 := s3.trans s38
      have fM : ∀ m ∈ [D1, F1, Hs, DN, TH, D2, F2, S2], H2 m = none := by
        intro m hm
        simp only [List.mem_cons, List.mem_nil_iff, or_false] at hm
        rcases hm with rfl | rfl | rfl | rfl | rfl | rfl | rfl | rfl
        · exact nD1
        · exact nF1
        · exact same_fresh s24 nHs
        · exact same_fresh ((s24.trans s5).trans s6) nDN
        · exact same_fresh (((s24.trans s5).trans s6).trans s7) nTH
        · exact same_fresh s3 nD2
        · exact same_fresh s3 nF2
        · exact same_fresh (s24.trans s5) nS2
      have notM : ∀ {p : Addr} {u : HO}, H2 p = some u → p ∉ [D1, F1, Hs, DN, TH, D2, F2, S2] := fun h z => by
        rw [fM _ z] at h
        cases h
      refine ⟨⟨L1.mono s38, ((s6.trans s7).trans s8) _ _ hHs, ⟨[], s8 _ _ hDN, .nil⟩, ⟨[], hTH, Nat.le_refl _, fun v hv => by cases hv⟩, .nil hAB, ?_, ?_, ?_⟩, L2.mono s48, (s7.trans s8) _ _ hS2, s28 _ _ hB2, s28 _ _ hA, s28 _ _ hDL2, ⟨?_, ?_, ?_⟩, ⟨Ne.symm b3, Ne.symm b4⟩, notM hB2, notM hA, notM hDL2⟩
      · simp only [List.nodup_cons, List.mem_cons, List.mem_nil_iff, or_false, not_or, List.nodup_nil, and_true, not_false_eq_true]
        exact ⟨⟨L1.ne, a1, c1, d1⟩, ⟨a2, c2, d2⟩, ⟨c5, d5⟩, d7⟩
      · intro m hm
        simp only [List.mem_cons, List.mem_nil_iff, or_false] at hm ⊢
        rcases hm with h | h | h | h | h <;> simp [h]
      · have some_ : ∀ {p : Addr} {u : HO}, H8 p = some u → H8 p ≠ none := fun h z => by rw [h] at z; cases z
        intro m hm
        simp only [List.mem_cons, List.mem_nil_iff, or_false] at hm
        rcases hm with rfl | rfl | rfl | rfl | rfl | rfl | rfl | rfl
        · exact some_ (s38 _ _ hD1)
        · exact some_ (s38 _ _ hF1)
        · exact some_ (((s6.trans s7).trans s8) _ _ hHs)
        · exact some_ (s8 _ _ hDN)
        · exact some_ hTH
        · exact some_ (s48 _ _ hD2)
        · exact some_ (s48 _ _ hF2)
        · exact some_ ((s7.trans s8) _ _ hS2)
      · simp only [List.mem_cons, List.mem_nil_iff, or_false, not_or]
        exact ⟨Ne.symm e1, Ne.symm e3, a3, c3, d3⟩
      · simp only [List.mem_cons, List.mem_nil_iff, or_false, not_or]
        exact ⟨Ne.symm e2, Ne.symm e4, a4, c4, d4⟩
      · simp only [List.mem_cons, List.mem_nil_iff, or_false, not_or]
        exact ⟨Ne.symm b1, Ne.symm b2, Ne.symm b5, c6, d6⟩
    have hS8 := (s2.trans ((((s24.trans s5).trans s6).trans s7).trans s8)).seq hS
    clear hTH hDN hS2 hHs hB5 hB4 hA4 hDL4 nHs nS2 nDN nTH L1 L2 nD1 nF1 nD2 nF2 hA nA hB2 hDL2 hB hDL s1 s2 s3 s4 s24 s5 s6 s7 s8 sA
    walk_at "rq"
    with_reducible refine rd_cut (fun σ' H' => ∃ (hs : List Int) (dn : List (Int × Int)), σ' = [some (.ref s0), some (.int (n : Int)), some (.ref DL), some (.int tl), some (.ref B), none, some (.ref A), some (.ref y1), some (.ref y2), some (.ref Hs), some (.ref S2), some (.ref DN), some (.ref TH), none, none, none, none, none] ∧ MS H' T.c_Land y1 D1 F1 Hs DN TH y2 D2 F2 S2 B A DL zs ds hs dn zs [] 0 ∧ dn.length ≤ 90) (fun N hN => ?_) ?_
    · have keep : N [some (.ref s0), some (.int (n : Int)), some (.ref DL), some (.int tl), some (.ref B), none, some (.ref A), some (.ref y1), some (.ref y2), some (.ref Hs), some (.ref S2), some (.ref DN), some (.ref TH), none, none, none, none, none] H8 := hN _ _ ⟨zs, [], rfl, m0, by simp⟩
      walk_at "rd"
      refine ite2 (fun c => ?_) (fun c => ?_)
      · walk_at "rd"
        refine ite2 (fun d => ?_) (fun d => ?_)
        · walk_at "rd"
          refine ⟨_, y1, D1, F1, Hs, DN, TH, zs, zs, [], 0, rfl, m0.g, ⟨by omega, by omega⟩, fun z hz => ?_, by simp, fun H' hs' dn' k1 g1 l1 => ?_⟩
          · have := hb z hz
            omega
          · exact hN _ _ ⟨hs', dn', rfl, m0.step (k1.mono (by
              intro p hp
              simp only [List.mem_cons, List.mem_nil_iff, or_false] at hp ⊢
              rcases hp with h | h | h | h <;> simp [h])) g1, by simpa using l1⟩
        · walk_at "rd"
          exact keep
      · walk_at "rd"
        exact keep
    rintro σ4 H1 ⟨hs, dn, rfl, m1, hdn⟩
    walk_at "rd"
    have dl : (IL ds).length = ds.length := List.length_map _
    refine ⟨DL, rfl, ⟨_, .of m1.hd⟩, for_list (K := K) (a := DL) (xs := IL ds) (fun i σ H' => ∃ (v13 v14 v15 v16 v17 : Option V) (hs : List Int) (dn : List (Int × Int)) (h2 : List Int) (dn2 : List (Int × Int)), σ = [some (.ref s0), some (.int (n : Int)), some (.ref DL), some (.int tl), some (.ref B), none, some (.ref A), some (.ref y1), some (.ref y2), some (.ref Hs), some (.ref S2), some (.ref DN), some (.ref TH), v13, v14, v15, v16, v17] ∧
        MS H' T.c_Land y1 D1 F1 Hs DN TH y2 D2 F2 S2 B A DL zs ds hs dn h2 dn2 i ∧ dn.length ≤ 90 + i ∧ dn2.length ≤ i ∧ h2.length = n ∧ ∀ z ∈ h2, -1000 - (i : Int) ≤ z ∧ z ≤ 1000 + (i : Int))
      ⟨none, none, none, none, none, hs, dn, zs, [], rfl, m1, by omega, by simp, hl, fun z hz => by have := hb z hz; omega⟩ (fun i σ H' _ ⟨_, _, _, _, _, _, _, _, _, _, m, _⟩ => .of m.hd) ?_ ?_⟩
    · rintro i x σ H' hx ⟨v13, v14, v15, v16, v17, hs, dn, h2, dn2, rfl, m, ld, ld2, l2, hb2⟩
      have hi : i < ds.length := by
        have := (List.getElem?_eq_some_iff.mp hx).1
        omega
      obtain ⟨c, rfl⟩ : ∃ c : Int, x = .int c := by
        obtain ⟨c, _, rfl⟩ := List.mem_map.mp (List.mem_of_getElem? hx)
        exact ⟨c, rfl⟩
      have lhs : hs.length = n := by rw [m.g.hist.len, hl]
      walk_at "rd"
      refine ite2 (fun c0 => ?_) (fun c0 => ?_)
      · walk_at "rd"
        obtain ⟨pl, epl, hpl⟩ : ∃ j : Nat, c / 11 % (n : Int) = (j : Int) ∧ j < h2.length := by
          have := emod_b (x := c / 11) (n := (n : Int)) (by omega)
          exact ⟨(c / 11 % (n : Int)).toNat, by omega, by omega⟩
        rw [epl]
        have bz : -1000 - ((i : Int) + 1) ≤ h2.getD pl 0 + 1 ∧ h2.getD pl 0 + 1 ≤ 1000 + ((i : Int) + 1) := by
          have := hb2 (h2.getD pl 0) (by
            rw [List.getD_eq_getElem?_getD, List.getElem?_eq_getElem hpl]
            exact List.getElem_mem hpl)
          omega
        have hg : Good h2 (.int (pl : Int)) (.int 1) pl 1 := ⟨rfl, hpl, rfl, ⟨by omega, by omega⟩⟩
        refine ⟨S2, h2, _, _, rfl, .of m.s2, by omega, wh_int, wh_int, .inr ⟨pl, 1, hg, fun H1 t' m1 m2 s1 nt' nm1 nm2 tw' => ?_⟩⟩
        have h21 := s1 _ _ m.s2
        walk_at "rd"
        with_reducible refine rd_augS ?_
        walk_at "rd"
        refine rd_getI (.of h21) hpl ?_
        walk_at "rd"
        refine rd_setI h21 hpl ?_
        have ns : ∀ {p q : Addr}, p ≠ q → p ∉ [q] := fun h e => h (List.mem_singleton.mp e)
        have k2 : Keep [S2] H1 (upd H1 S2 (.lst (IL (h2.set pl (h2.getD pl 0 + 1))))) := Keep.refl.mut (by simp) h21
        have h22 : (upd H1 S2 (.lst (IL (h2.set pl (h2.getD pl 0 + 1))))) S2 = some (.lst (IL (upH h2 pl 1))) := upd_same
        generalize upd H1 S2 (.lst (IL (h2.set pl (h2.getD pl 0 + 1)))) = H2 at *
        have L2 := (m.l2.mono s1).keep k2 (ns (Ne.symm m.n2.1)) (ns (Ne.symm m.n2.2))
        walk_at "rd"
        refine ⟨y2, D2, F2, h2, dn2, _, _, rfl, L2, by omega, by omega, .inr ⟨(fun z => nomatch z), wh_int, wh_int, .inr ⟨pl, 1, hg, fun H3 t l1 l3 k3 nt nl1 nl3 tw L3 => ?_⟩⟩⟩
        have k02 : Keep [D2, F2, S2] H' H2 := (Keep.of s1).trans (k2.mono (by simp))
        have k13 : Keep [D2, F2, S2] H1 H3 := (k2.mono (by simp)).trans (k3.mono (by simp))
        have k03 : Keep [D2, F2, S2] H' H3 := k02.trans (k3.mono (by simp))
        have mM : ∀ a ∈ [D2, F2, S2], a ∈ [D1, F1, Hs, DN, TH, D2, F2, S2] := fun a ha => by
          simp only [List.mem_cons, List.mem_nil_iff, or_false] at ha ⊢
          rcases ha with h | h | h <;> simp [h]
        have no : ∀ {a}, H' a = none → a ∉ [D2, F2, S2] := fun e z => m.g.ex _ (mM _ z) e
        have tw'3 := tw'.keep k13 (no nm1) (no nm2)
        have n2' : ∀ {p a b : Addr}, p ≠ a → p ≠ b → p ∉ [a, b] := fun h1 h2 e => by
          simp only [List.mem_cons, List.mem_nil_iff, or_false] at e
          exact e.elim h1 h2
        have h23 := k3.lst (n2' m.n2.1 m.n2.2) h22
        have hu := upH_len h2 pl 1
        have c1 := S0_len (ns := h2) (by omega)
        have c2 := S0_len (ns := upH h2 pl 1) (by omega)
        have c3 := lackN_len (S0 (upH h2 pl 1)) (S0 h2)
        have c4 := lackN_len (S0 h2) (S0 (upH h2 pl 1))
        walk_at "rd"
        refine ⟨_, _, rfl, .inr ⟨t, l1, l3, t', m1, m2, _, _, rfl, rfl, tw, tw'3, ⟨by omega, by omega⟩, fun H4 k4 tw4 => ?_⟩⟩
        have f1 := k02.al _ nl1
        have f3 := k02.al _ nl3
        have k04 := k03.fresh2 k4 f1 f3
        have exl : ∀ {a}, a ∈ [D1, F1, Hs, DN, TH, D2, F2, S2] → a ∉ [l1, l3] := fun ha z => by
          have := m.g.ex _ ha
          simp only [List.mem_cons, List.mem_nil_iff, or_false] at z
          rcases z with rfl | rfl
          · exact this f1
          · exact this f3
        have dj : ∀ a ∈ [D1, F1, Hs, DN, TH], a ∉ [D2, F2, S2] := fun a ha z => by
          simp only [List.mem_cons, List.mem_nil_iff, or_false] at z
          rcases z with rfl | rfl | rfl
          · exact m.n1.1 ha
          · exact m.n1.2.1 ha
          · exact m.n1.2.2 ha
        have g4 := m.g.other k04 mM dj
        have L4 := L3.keep k4 (exl (by simp)) (exl (by simp))
        have h24 := k4.lst (exl (by simp)) h23
        walk_at "rd"
        refine ⟨_, TH, .ref t, i, rfl, g4.tt, by simp, by omega, g4.ex, .inr ⟨t, l1, l3, _, _, rfl, tw4, fun z => m.g.ex _ z f1, fun z => m.g.ex _ z f3⟩, fun H5 k5 t5 => ?_⟩
        have g5 := g4.kept k5 t5
        have tn : ∀ {p}, p ∉ [D1, F1, Hs, DN, TH] → p ∉ [TH] := fun h z => h (by rw [List.mem_singleton.mp z]; simp)
        have L5 := L4.keep k5 (tn m.n1.1) (tn m.n1.2.1)
        have h25 := k5.lst (tn m.n1.2.2) h24
        walk_at "rd"
        refine ⟨y2, D2, F2, S2, _, _, rfl, L5, h25, by omega, fun H6 s6 => ?_⟩
        have k05 : Keep [D1, F1, Hs, DN, TH, D2, F2, S2] H' H5 := (k04.mono mM).trans (k5.mono (by simp))
        walk_at "rd"
        refine ⟨_, _, _, _, _, hs, dn, upH h2 pl 1, dn2 ++ [((pl : Int), 1)], rfl, ⟨g5.same s6, L5.mono s6, s6 _ _ h25, s6 _ _ (k05.lst m.n3.1 m.hb), s6 _ _ (k05.lst m.n3.2.1 m.ha), s6 _ _ (k05.lst m.n3.2.2 m.hd), m.n1, m.n2, m.n3⟩, by omega, by rw [List.length_append]; show _ + 1 ≤ _; omega, by rw [hu, l2], fun v hv => ?_⟩
        rcases List.mem_or_eq_of_mem_set hv with h | h
        · have := hb2 v h
          omega
        · rw [h]
          omega
      · walk_at "rd"
        refine ⟨c, Hs, hs, rfl, m.g.hh, by omega, by omega, m.g.hist.bd, fun t x b H1 s1 ht hxb => ?_⟩
        refine rd_gTup2 (.of ht) ?_
        have g1 := m.g.same s1
        walk_at "rd"
        refine ⟨_, y1, D1, F1, Hs, DN, TH, zs, hs, dn, i, x, b, rfl, g1, by omega, by omega, by omega, ?_, fun H2 hs' dn' k2 g2 l2' => ?_⟩
        · rcases hxb with rfl | ⟨hx, fx, fb⟩
          · exact .inl rfl
          · exact .inr ⟨hx, fun H2 k => fx _ H2 m.g.ex k, fun H2 k => fb _ H2 m.g.ex k⟩
        · walk_at "rd"
          exact ⟨_, _, _, _, _, hs', dn', h2, dn2, rfl, m.step ((Keep.of s1).trans k2) g2, by omega, by omega, l2, fun z hz => by have := hb2 z hz; omega⟩
    · rintro σ H2 ⟨v13, v14, v15, v16, v17, hs, dn, h2, dn2, rfl, m, ld, ld2, l2, hb2⟩
      rw [dl] at m ld ld2
      have lhs : hs.length = n := by rw [m.g.hist.len, hl]
      walk_at "rd"
      refine ⟨_, y1, D1, F1, Hs, DN, TH, zs, hs, dn, _, rfl, m.g, by omega, by omega, fun H3 k3 g3 => ?_⟩
      have m3 := m.step (k3.mono (by
        intro p hp
        simp only [List.mem_cons, List.mem_nil_iff, or_false] at hp ⊢
        rcases hp with h | h | h | h <;> simp [h])) g3
      have hh3 := m3.g.hh
      have hb3 := m3.hb
      walk_at "rd"
      refine rd_neI (.of hh3) (.of hb3) ?_
      walk_at "rd"
      refine rd_no (by simp) ?_
      walk_at "rd"
      refine ⟨_, TH, .non, _, rfl, m3.g.tt, by simp, by omega, m3.g.ex, .inl (.inl rfl), fun H4 k4 t4 => ?_⟩
      have m4 := m3.step (k4.mono (by simp)) (m3.g.kept k4 t4)
      walk_at "rd"
      refine ⟨y2, D2, F2, S2, h2, dn2, rfl, m4.l2, m4.s2, by omega, fun H5 s5 => ?_⟩
      have ha5 := s5 _ _ m4.ha
      have hb5 := s5 _ _ m4.hb
      walk_at "rd"
      refine rd_eqI (.of ha5) (.of hb5) ?_
      rw [decide_eq_true rfl]
      exact k _


end
theorem all_mk {l : PySem.W.OpenLaw} {w : World} {K : PySem.W.Frag} {h : Heap} {mg : Str → Option Value} {fa : Addr} (X : K.In h) (G : h.Ns mainGlobals mg) (hfa : mg "law" = some (.ref fa))
    {c_Land : Addr} {f_is_whole : Addr} {od_is_whole an_is_whole : Option Addr} {sl_is_whole : Array (Option Value)} {oc_is_whole kV_is_whole dc_is_whole pm_is_whole cd_is_whole ct_is_whole : Value} {f_need_hill : Addr} {od_need_hill an_need_hill : Option Addr} {sl_need_hill : Array (Option Value)} {oc_need_hill kV_need_hill dc_need_hill pm_need_hill cd_need_hill ct_need_hill : Value} {f_slope : Addr} {od_slope an_slope : Option Addr} {sl_slope : Array (Option Value)} {oc_slope kV_slope dc_slope pm_slope cd_slope ct_slope : Value} {f_steeper : Addr} {od_steeper an_steeper : Option Addr} {sl_steeper : Array (Option Value)} {oc_steeper kV_steeper dc_steeper pm_steeper cd_steeper ct_steeper : Value} {f_behind : Addr} {od_behind an_behind : Option Addr} {sl_behind : Array (Option Value)} {oc_behind kV_behind dc_behind pm_behind cd_behind ct_behind : Value} {f_sights : Addr} {od_sights an_sights : Option Addr} {sl_sights : Array (Option Value)} {oc_sights kV_sights dc_sights pm_sights cd_sights ct_sights : Value} {f_is_height : Addr} {od_is_height an_is_height : Option Addr} {sl_is_height : Array (Option Value)} {oc_is_height kV_is_height dc_is_height pm_is_height cd_is_height ct_is_height : Value} {f_checked : Addr} {od_checked an_checked : Option Addr} {sl_checked : Array (Option Value)} {oc_checked kV_checked dc_checked pm_checked cd_checked ct_checked : Value} {f_lacking : Addr} {od_lacking an_lacking : Option Addr} {sl_lacking : Array (Option Value)} {oc_lacking kV_lacking dc_lacking pm_lacking cd_lacking ct_lacking : Value} {f_Land___init__ : Addr} {od_Land___init__ an_Land___init__ : Option Addr} {sl_Land___init__ : Array (Option Value)} {oc_Land___init__ kV_Land___init__ dc_Land___init__ pm_Land___init__ cd_Land___init__ ct_Land___init__ : Value} {f_Land_told : Addr} {od_Land_told an_Land_told : Option Addr} {sl_Land_told : Array (Option Value)} {oc_Land_told kV_Land_told dc_Land_told pm_Land_told cd_Land_told ct_Land_told : Value} {f_Land_seen : Addr} {od_Land_seen an_Land_seen : Option Addr} {sl_Land_seen : Array (Option Value)} {oc_Land_seen kV_Land_seen dc_Land_seen pm_Land_seen cd_Land_seen ct_Land_seen : Value} {f_Land_moved : Addr} {od_Land_moved an_Land_moved : Option Addr} {sl_Land_moved : Array (Option Value)} {oc_Land_moved kV_Land_moved dc_Land_moved pm_Land_moved cd_Land_moved ct_Land_moved : Value} {f_Land_lift : Addr} {od_Land_lift an_Land_lift : Option Addr} {sl_Land_lift : Array (Option Value)} {oc_Land_lift kV_Land_lift dc_Land_lift pm_Land_lift cd_Land_lift ct_Land_lift : Value} {f_Land_back : Addr} {od_Land_back an_Land_back : Option Addr} {sl_Land_back : Array (Option Value)} {oc_Land_back kV_Land_back dc_Land_back pm_Land_back cd_Land_back ct_Land_back : Value} {f_law_sole : Addr} {od_law_sole an_law_sole : Option Addr} {sl_law_sole : Array (Option Value)} {oc_law_sole kV_law_sole dc_law_sole pm_law_sole cd_law_sole ct_law_sole : Value} {f_law_whole : Addr} {od_law_whole an_law_whole : Option Addr} {sl_law_whole : Array (Option Value)} {oc_law_whole kV_law_whole dc_law_whole pm_law_whole cd_law_whole ct_law_whole : Value} {f_law_cell_at : Addr} {od_law_cell_at an_law_cell_at : Option Addr} {sl_law_cell_at : Array (Option Value)} {oc_law_cell_at kV_law_cell_at dc_law_cell_at pm_law_cell_at cd_law_cell_at ct_law_cell_at : Value} {f_law_sights_by : Addr} {od_law_sights_by an_law_sights_by : Option Addr} {sl_law_sights_by : Array (Option Value)} {oc_law_sights_by kV_law_sights_by dc_law_sights_by pm_law_sights_by cd_law_sights_by ct_law_sights_by : Value} {f_law_base : Addr} {od_law_base an_law_base : Option Addr} {sl_law_base : Array (Option Value)} {oc_law_base kV_law_base dc_law_base pm_law_base cd_law_base ct_law_base : Value} {f_law_told : Addr} {od_law_told an_law_told : Option Addr} {sl_law_told : Array (Option Value)} {oc_law_told kV_law_told dc_law_told pm_law_told cd_law_told ct_law_told : Value} {f_law_deed_by : Addr} {od_law_deed_by an_law_deed_by : Option Addr} {sl_law_deed_by : Array (Option Value)} {oc_law_deed_by kV_law_deed_by dc_law_deed_by pm_law_deed_by cd_law_deed_by ct_law_deed_by : Value} {f_law_lacking : Addr} {od_law_lacking an_law_lacking : Option Addr} {sl_law_lacking : Array (Option Value)} {oc_law_lacking kV_law_lacking dc_law_lacking pm_law_lacking cd_law_lacking ct_law_lacking : Value} {f_law_due_by : Addr} {od_law_due_by an_law_due_by : Option Addr} {sl_law_due_by : Array (Option Value)} {oc_law_due_by kV_law_due_by dc_law_due_by pm_law_due_by cd_law_due_by ct_law_due_by : Value} {f_law_alike : Addr} {od_law_alike an_law_alike : Option Addr} {sl_law_alike : Array (Option Value)} {oc_law_alike kV_law_alike dc_law_alike pm_law_alike cd_law_alike ct_law_alike : Value} {f_law_kept : Addr} {od_law_kept an_law_kept : Option Addr} {sl_law_kept : Array (Option Value)} {oc_law_kept kV_law_kept dc_law_kept pm_law_kept cd_law_kept ct_law_kept : Value} {f_law_stands : Addr} {od_law_stands an_law_stands : Option Addr} {sl_law_stands : Array (Option Value)} {oc_law_stands kV_law_stands dc_law_stands pm_law_stands cd_law_stands ct_law_stands : Value} {f_law_lifted : Addr} {od_law_lifted an_law_lifted : Option Addr} {sl_law_lifted : Array (Option Value)} {oc_law_lifted kV_law_lifted dc_law_lifted pm_law_lifted cd_law_lifted ct_law_lifted : Value} {f_law_all_back : Addr} {od_law_all_back an_law_all_back : Option Addr} {sl_law_all_back : Array (Option Value)} {oc_law_all_back kV_law_all_back dc_law_all_back pm_law_all_back cd_law_all_back ct_law_all_back : Value} {f_law_done : Addr} {od_law_done an_law_done : Option Addr} {sl_law_done : Array (Option Value)} {oc_law_done kV_law_done dc_law_done pm_law_done cd_law_done ct_law_done : Value} {f_law_goes : Addr} {od_law_goes an_law_goes : Option Addr} {sl_law_goes : Array (Option Value)} {oc_law_goes kV_law_goes dc_law_goes pm_law_goes cd_law_goes ct_law_goes : Value} {f_law : Addr} {od_law an_law : Option Addr} {sl_law : Array (Option Value)} {oc_law kV_law dc_law pm_law cd_law ct_law : Value} {c_HillError : Addr} {c_NoLand : Addr} {c_NoHill : Addr} {c_SameHill : Addr} {c_TooHigh : Addr} {c_NothingDone : Addr} {w_MOST_HILLS : Tok} {w_MOST_HEIGHT : Tok}
    (a_Land : PySem.W.nsIn K mainGlobals "Land" = some (some (.ref c_Land)))
    (a_is_whole : PySem.W.nsIn K mainGlobals "is_whole" = some (some (.ref f_is_whole)))
    (l_is_whole : K.lookup f_is_whole = some ⟨oc_is_whole, od_is_whole, .func (PySem.W.fnOf "is_whole" "is_whole" (defArgs s_is_whole) (defBody s_is_whole) (defScope s_is_whole) .none kV_is_whole dc_is_whole pm_is_whole an_is_whole cd_is_whole ct_is_whole), sl_is_whole⟩)
    (q_is_whole : PySem.W.codeIn K cd_is_whole "is_whole" = true)
    (k_is_whole : PySem.W.keepIn K (.ref f_is_whole) = true)
    (a_need_hill : PySem.W.nsIn K mainGlobals "need_hill" = some (some (.ref f_need_hill)))
    (l_need_hill : K.lookup f_need_hill = some ⟨oc_need_hill, od_need_hill, .func (PySem.W.fnOf "need_hill" "need_hill" (defArgs s_need_hill) (defBody s_need_hill) (defScope s_need_hill) .none kV_need_hill dc_need_hill pm_need_hill an_need_hill cd_need_hill ct_need_hill), sl_need_hill⟩)
    (q_need_hill : PySem.W.codeIn K cd_need_hill "need_hill" = true)
    (k_need_hill : PySem.W.keepIn K (.ref f_need_hill) = true)
    (a_slope : PySem.W.nsIn K mainGlobals "slope" = some (some (.ref f_slope)))
    (l_slope : K.lookup f_slope = some ⟨oc_slope, od_slope, .func (PySem.W.fnOf "slope" "slope" (defArgs s_slope) (defBody s_slope) (defScope s_slope) .none kV_slope dc_slope pm_slope an_slope cd_slope ct_slope), sl_slope⟩)
    (q_slope : PySem.W.codeIn K cd_slope "slope" = true)
    (k_slope : PySem.W.keepIn K (.ref f_slope) = true)
    (a_steeper : PySem.W.nsIn K mainGlobals "steeper" = some (some (.ref f_steeper)))
    (l_steeper : K.lookup f_steeper = some ⟨oc_steeper, od_steeper, .func (PySem.W.fnOf "steeper" "steeper" (defArgs s_steeper) (defBody s_steeper) (defScope s_steeper) .none kV_steeper dc_steeper pm_steeper an_steeper cd_steeper ct_steeper), sl_steeper⟩)
    (q_steeper : PySem.W.codeIn K cd_steeper "steeper" = true)
    (k_steeper : PySem.W.keepIn K (.ref f_steeper) = true)
    (a_behind : PySem.W.nsIn K mainGlobals "behind" = some (some (.ref f_behind)))
    (l_behind : K.lookup f_behind = some ⟨oc_behind, od_behind, .func (PySem.W.fnOf "behind" "behind" (defArgs s_behind) (defBody s_behind) (defScope s_behind) .none kV_behind dc_behind pm_behind an_behind cd_behind ct_behind), sl_behind⟩)
    (q_behind : PySem.W.codeIn K cd_behind "behind" = true)
    (k_behind : PySem.W.keepIn K (.ref f_behind) = true)
    (a_sights : PySem.W.nsIn K mainGlobals "sights" = some (some (.ref f_sights)))
    (l_sights : K.lookup f_sights = some ⟨oc_sights, od_sights, .func (PySem.W.fnOf "sights" "sights" (defArgs s_sights) (defBody s_sights) (defScope s_sights) .none kV_sights dc_sights pm_sights an_sights cd_sights ct_sights), sl_sights⟩)
    (q_sights : PySem.W.codeIn K cd_sights "sights" = true)
    (k_sights : PySem.W.keepIn K (.ref f_sights) = true)
    (a_is_height : PySem.W.nsIn K mainGlobals "is_height" = some (some (.ref f_is_height)))
    (l_is_height : K.lookup f_is_height = some ⟨oc_is_height, od_is_height, .func (PySem.W.fnOf "is_height" "is_height" (defArgs s_is_height) (defBody s_is_height) (defScope s_is_height) .none kV_is_height dc_is_height pm_is_height an_is_height cd_is_height ct_is_height), sl_is_height⟩)
    (q_is_height : PySem.W.codeIn K cd_is_height "is_height" = true)
    (k_is_height : PySem.W.keepIn K (.ref f_is_height) = true)
    (a_checked : PySem.W.nsIn K mainGlobals "checked" = some (some (.ref f_checked)))
    (l_checked : K.lookup f_checked = some ⟨oc_checked, od_checked, .func (PySem.W.fnOf "checked" "checked" (defArgs s_checked) (defBody s_checked) (defScope s_checked) .none kV_checked dc_checked pm_checked an_checked cd_checked ct_checked), sl_checked⟩)
    (q_checked : PySem.W.codeIn K cd_checked "checked" = true)
    (k_checked : PySem.W.keepIn K (.ref f_checked) = true)
    (a_lacking : PySem.W.nsIn K mainGlobals "lacking" = some (some (.ref f_lacking)))
    (l_lacking : K.lookup f_lacking = some ⟨oc_lacking, od_lacking, .func (PySem.W.fnOf "lacking" "lacking" (defArgs s_lacking) (defBody s_lacking) (defScope s_lacking) .none kV_lacking dc_lacking pm_lacking an_lacking cd_lacking ct_lacking), sl_lacking⟩)
    (q_lacking : PySem.W.codeIn K cd_lacking "lacking" = true)
    (k_lacking : PySem.W.keepIn K (.ref f_lacking) = true)
    (a_Land___init__ : PySem.W.findIn K (.ref c_Land) "__init__" = some (some (.ref f_Land___init__)))
    (i_Land___init__ : PySem.W.isFn K (.ref f_Land___init__) = true)
    (l_Land___init__ : K.lookup f_Land___init__ = some ⟨oc_Land___init__, od_Land___init__, .func (PySem.W.fnOf "__init__" "Land.__init__" (defArgs s_Land___init__) (defBody s_Land___init__) (defScope s_Land___init__) .none kV_Land___init__ dc_Land___init__ pm_Land___init__ an_Land___init__ cd_Land___init__ ct_Land___init__), sl_Land___init__⟩)
    (q_Land___init__ : PySem.W.codeIn K cd_Land___init__ "Land.__init__" = true)
    (k_Land___init__ : PySem.W.keepIn K (.ref f_Land___init__) = true)
    (a_Land_told : PySem.W.findIn K (.ref c_Land) "told" = some (some (.ref f_Land_told)))
    (i_Land_told : PySem.W.isFn K (.ref f_Land_told) = true)
    (l_Land_told : K.lookup f_Land_told = some ⟨oc_Land_told, od_Land_told, .func (PySem.W.fnOf "told" "Land.told" (defArgs s_Land_told) (defBody s_Land_told) (defScope s_Land_told) .none kV_Land_told dc_Land_told pm_Land_told an_Land_told cd_Land_told ct_Land_told), sl_Land_told⟩)
    (q_Land_told : PySem.W.codeIn K cd_Land_told "Land.told" = true)
    (k_Land_told : PySem.W.keepIn K (.ref f_Land_told) = true)
    (a_Land_seen : PySem.W.findIn K (.ref c_Land) "seen" = some (some (.ref f_Land_seen)))
    (i_Land_seen : PySem.W.isFn K (.ref f_Land_seen) = true)
    (l_Land_seen : K.lookup f_Land_seen = some ⟨oc_Land_seen, od_Land_seen, .func (PySem.W.fnOf "seen" "Land.seen" (defArgs s_Land_seen) (defBody s_Land_seen) (defScope s_Land_seen) .none kV_Land_seen dc_Land_seen pm_Land_seen an_Land_seen cd_Land_seen ct_Land_seen), sl_Land_seen⟩)
    (q_Land_seen : PySem.W.codeIn K cd_Land_seen "Land.seen" = true)
    (k_Land_seen : PySem.W.keepIn K (.ref f_Land_seen) = true)
    (a_Land_moved : PySem.W.findIn K (.ref c_Land) "moved" = some (some (.ref f_Land_moved)))
    (i_Land_moved : PySem.W.isFn K (.ref f_Land_moved) = true)
    (l_Land_moved : K.lookup f_Land_moved = some ⟨oc_Land_moved, od_Land_moved, .func (PySem.W.fnOf "moved" "Land.moved" (defArgs s_Land_moved) (defBody s_Land_moved) (defScope s_Land_moved) .none kV_Land_moved dc_Land_moved pm_Land_moved an_Land_moved cd_Land_moved ct_Land_moved), sl_Land_moved⟩)
    (q_Land_moved : PySem.W.codeIn K cd_Land_moved "Land.moved" = true)
    (k_Land_moved : PySem.W.keepIn K (.ref f_Land_moved) = true)
    (a_Land_lift : PySem.W.findIn K (.ref c_Land) "lift" = some (some (.ref f_Land_lift)))
    (i_Land_lift : PySem.W.isFn K (.ref f_Land_lift) = true)
    (l_Land_lift : K.lookup f_Land_lift = some ⟨oc_Land_lift, od_Land_lift, .func (PySem.W.fnOf "lift" "Land.lift" (defArgs s_Land_lift) (defBody s_Land_lift) (defScope s_Land_lift) .none kV_Land_lift dc_Land_lift pm_Land_lift an_Land_lift cd_Land_lift ct_Land_lift), sl_Land_lift⟩)
    (q_Land_lift : PySem.W.codeIn K cd_Land_lift "Land.lift" = true)
    (k_Land_lift : PySem.W.keepIn K (.ref f_Land_lift) = true)
    (a_Land_back : PySem.W.findIn K (.ref c_Land) "back" = some (some (.ref f_Land_back)))
    (i_Land_back : PySem.W.isFn K (.ref f_Land_back) = true)
    (l_Land_back : K.lookup f_Land_back = some ⟨oc_Land_back, od_Land_back, .func (PySem.W.fnOf "back" "Land.back" (defArgs s_Land_back) (defBody s_Land_back) (defScope s_Land_back) .none kV_Land_back dc_Land_back pm_Land_back an_Land_back cd_Land_back ct_Land_back), sl_Land_back⟩)
    (q_Land_back : PySem.W.codeIn K cd_Land_back "Land.back" = true)
    (k_Land_back : PySem.W.keepIn K (.ref f_Land_back) = true)
    (a_law_sole : PySem.W.nsIn K mainGlobals "_law_sole" = some (some (.ref f_law_sole)))
    (l_law_sole : K.lookup f_law_sole = some ⟨oc_law_sole, od_law_sole, .func (PySem.W.fnOf "_law_sole" "_law_sole" (defArgs s_law_sole) (defBody s_law_sole) (defScope s_law_sole) .none kV_law_sole dc_law_sole pm_law_sole an_law_sole cd_law_sole ct_law_sole), sl_law_sole⟩)
    (q_law_sole : PySem.W.codeIn K cd_law_sole "_law_sole" = true)
    (k_law_sole : PySem.W.keepIn K (.ref f_law_sole) = true)
    (a_law_whole : PySem.W.nsIn K mainGlobals "_law_whole" = some (some (.ref f_law_whole)))
    (l_law_whole : K.lookup f_law_whole = some ⟨oc_law_whole, od_law_whole, .func (PySem.W.fnOf "_law_whole" "_law_whole" (defArgs s_law_whole) (defBody s_law_whole) (defScope s_law_whole) .none kV_law_whole dc_law_whole pm_law_whole an_law_whole cd_law_whole ct_law_whole), sl_law_whole⟩)
    (q_law_whole : PySem.W.codeIn K cd_law_whole "_law_whole" = true)
    (k_law_whole : PySem.W.keepIn K (.ref f_law_whole) = true)
    (a_law_cell_at : PySem.W.nsIn K mainGlobals "_law_cell_at" = some (some (.ref f_law_cell_at)))
    (l_law_cell_at : K.lookup f_law_cell_at = some ⟨oc_law_cell_at, od_law_cell_at, .func (PySem.W.fnOf "_law_cell_at" "_law_cell_at" (defArgs s_law_cell_at) (defBody s_law_cell_at) (defScope s_law_cell_at) .none kV_law_cell_at dc_law_cell_at pm_law_cell_at an_law_cell_at cd_law_cell_at ct_law_cell_at), sl_law_cell_at⟩)
    (q_law_cell_at : PySem.W.codeIn K cd_law_cell_at "_law_cell_at" = true)
    (k_law_cell_at : PySem.W.keepIn K (.ref f_law_cell_at) = true)
    (a_law_sights_by : PySem.W.nsIn K mainGlobals "_law_sights_by" = some (some (.ref f_law_sights_by)))
    (l_law_sights_by : K.lookup f_law_sights_by = some ⟨oc_law_sights_by, od_law_sights_by, .func (PySem.W.fnOf "_law_sights_by" "_law_sights_by" (defArgs s_law_sights_by) (defBody s_law_sights_by) (defScope s_law_sights_by) .none kV_law_sights_by dc_law_sights_by pm_law_sights_by an_law_sights_by cd_law_sights_by ct_law_sights_by), sl_law_sights_by⟩)
    (q_law_sights_by : PySem.W.codeIn K cd_law_sights_by "_law_sights_by" = true)
    (k_law_sights_by : PySem.W.keepIn K (.ref f_law_sights_by) = true)
    (a_law_base : PySem.W.nsIn K mainGlobals "_law_base" = some (some (.ref f_law_base)))
    (l_law_base : K.lookup f_law_base = some ⟨oc_law_base, od_law_base, .func (PySem.W.fnOf "_law_base" "_law_base" (defArgs s_law_base) (defBody s_law_base) (defScope s_law_base) .none kV_law_base dc_law_base pm_law_base an_law_base cd_law_base ct_law_base), sl_law_base⟩)
    (q_law_base : PySem.W.codeIn K cd_law_base "_law_base" = true)
    (k_law_base : PySem.W.keepIn K (.ref f_law_base) = true)
    (a_law_told : PySem.W.nsIn K mainGlobals "_law_told" = some (some (.ref f_law_told)))
    (l_law_told : K.lookup f_law_told = some ⟨oc_law_told, od_law_told, .func (PySem.W.fnOf "_law_told" "_law_told" (defArgs s_law_told) (defBody s_law_told) (defScope s_law_told) .none kV_law_told dc_law_told pm_law_told an_law_told cd_law_told ct_law_told), sl_law_told⟩)
    (q_law_told : PySem.W.codeIn K cd_law_told "_law_told" = true)
    (k_law_told : PySem.W.keepIn K (.ref f_law_told) = true)
    (a_law_deed_by : PySem.W.nsIn K mainGlobals "_law_deed_by" = some (some (.ref f_law_deed_by)))
    (l_law_deed_by : K.lookup f_law_deed_by = some ⟨oc_law_deed_by, od_law_deed_by, .func (PySem.W.fnOf "_law_deed_by" "_law_deed_by" (defArgs s_law_deed_by) (defBody s_law_deed_by) (defScope s_law_deed_by) .none kV_law_deed_by dc_law_deed_by pm_law_deed_by an_law_deed_by cd_law_deed_by ct_law_deed_by), sl_law_deed_by⟩)
    (q_law_deed_by : PySem.W.codeIn K cd_law_deed_by "_law_deed_by" = true)
    (k_law_deed_by : PySem.W.keepIn K (.ref f_law_deed_by) = true)
    (a_law_lacking : PySem.W.nsIn K mainGlobals "_law_lacking" = some (some (.ref f_law_lacking)))
    (l_law_lacking : K.lookup f_law_lacking = some ⟨oc_law_lacking, od_law_lacking, .func (PySem.W.fnOf "_law_lacking" "_law_lacking" (defArgs s_law_lacking) (defBody s_law_lacking) (defScope s_law_lacking) .none kV_law_lacking dc_law_lacking pm_law_lacking an_law_lacking cd_law_lacking ct_law_lacking), sl_law_lacking⟩)
    (q_law_lacking : PySem.W.codeIn K cd_law_lacking "_law_lacking" = true)
    (k_law_lacking : PySem.W.keepIn K (.ref f_law_lacking) = true)
    (a_law_due_by : PySem.W.nsIn K mainGlobals "_law_due_by" = some (some (.ref f_law_due_by)))
    (l_law_due_by : K.lookup f_law_due_by = some ⟨oc_law_due_by, od_law_due_by, .func (PySem.W.fnOf "_law_due_by" "_law_due_by" (defArgs s_law_due_by) (defBody s_law_due_by) (defScope s_law_due_by) .none kV_law_due_by dc_law_due_by pm_law_due_by an_law_due_by cd_law_due_by ct_law_due_by), sl_law_due_by⟩)
    (q_law_due_by : PySem.W.codeIn K cd_law_due_by "_law_due_by" = true)
    (k_law_due_by : PySem.W.keepIn K (.ref f_law_due_by) = true)
    (a_law_alike : PySem.W.nsIn K mainGlobals "_law_alike" = some (some (.ref f_law_alike)))
    (l_law_alike : K.lookup f_law_alike = some ⟨oc_law_alike, od_law_alike, .func (PySem.W.fnOf "_law_alike" "_law_alike" (defArgs s_law_alike) (defBody s_law_alike) (defScope s_law_alike) .none kV_law_alike dc_law_alike pm_law_alike an_law_alike cd_law_alike ct_law_alike), sl_law_alike⟩)
    (q_law_alike : PySem.W.codeIn K cd_law_alike "_law_alike" = true)
    (k_law_alike : PySem.W.keepIn K (.ref f_law_alike) = true)
    (a_law_kept : PySem.W.nsIn K mainGlobals "_law_kept" = some (some (.ref f_law_kept)))
    (l_law_kept : K.lookup f_law_kept = some ⟨oc_law_kept, od_law_kept, .func (PySem.W.fnOf "_law_kept" "_law_kept" (defArgs s_law_kept) (defBody s_law_kept) (defScope s_law_kept) .none kV_law_kept dc_law_kept pm_law_kept an_law_kept cd_law_kept ct_law_kept), sl_law_kept⟩)
    (q_law_kept : PySem.W.codeIn K cd_law_kept "_law_kept" = true)
    (k_law_kept : PySem.W.keepIn K (.ref f_law_kept) = true)
    (a_law_stands : PySem.W.nsIn K mainGlobals "_law_stands" = some (some (.ref f_law_stands)))
    (l_law_stands : K.lookup f_law_stands = some ⟨oc_law_stands, od_law_stands, .func (PySem.W.fnOf "_law_stands" "_law_stands" (defArgs s_law_stands) (defBody s_law_stands) (defScope s_law_stands) .none kV_law_stands dc_law_stands pm_law_stands an_law_stands cd_law_stands ct_law_stands), sl_law_stands⟩)
    (q_law_stands : PySem.W.codeIn K cd_law_stands "_law_stands" = true)
    (k_law_stands : PySem.W.keepIn K (.ref f_law_stands) = true)
    (a_law_lifted : PySem.W.nsIn K mainGlobals "_law_lifted" = some (some (.ref f_law_lifted)))
    (l_law_lifted : K.lookup f_law_lifted = some ⟨oc_law_lifted, od_law_lifted, .func (PySem.W.fnOf "_law_lifted" "_law_lifted" (defArgs s_law_lifted) (defBody s_law_lifted) (defScope s_law_lifted) .none kV_law_lifted dc_law_lifted pm_law_lifted an_law_lifted cd_law_lifted ct_law_lifted), sl_law_lifted⟩)
    (q_law_lifted : PySem.W.codeIn K cd_law_lifted "_law_lifted" = true)
    (k_law_lifted : PySem.W.keepIn K (.ref f_law_lifted) = true)
    (a_law_all_back : PySem.W.nsIn K mainGlobals "_law_all_back" = some (some (.ref f_law_all_back)))
    (l_law_all_back : K.lookup f_law_all_back = some ⟨oc_law_all_back, od_law_all_back, .func (PySem.W.fnOf "_law_all_back" "_law_all_back" (defArgs s_law_all_back) (defBody s_law_all_back) (defScope s_law_all_back) .none kV_law_all_back dc_law_all_back pm_law_all_back an_law_all_back cd_law_all_back ct_law_all_back), sl_law_all_back⟩)
    (q_law_all_back : PySem.W.codeIn K cd_law_all_back "_law_all_back" = true)
    (k_law_all_back : PySem.W.keepIn K (.ref f_law_all_back) = true)
    (a_law_done : PySem.W.nsIn K mainGlobals "_law_done" = some (some (.ref f_law_done)))
    (l_law_done : K.lookup f_law_done = some ⟨oc_law_done, od_law_done, .func (PySem.W.fnOf "_law_done" "_law_done" (defArgs s_law_done) (defBody s_law_done) (defScope s_law_done) .none kV_law_done dc_law_done pm_law_done an_law_done cd_law_done ct_law_done), sl_law_done⟩)
    (q_law_done : PySem.W.codeIn K cd_law_done "_law_done" = true)
    (k_law_done : PySem.W.keepIn K (.ref f_law_done) = true)
    (a_law_goes : PySem.W.nsIn K mainGlobals "_law_goes" = some (some (.ref f_law_goes)))
    (l_law_goes : K.lookup f_law_goes = some ⟨oc_law_goes, od_law_goes, .func (PySem.W.fnOf "_law_goes" "_law_goes" (defArgs s_law_goes) (defBody s_law_goes) (defScope s_law_goes) .none kV_law_goes dc_law_goes pm_law_goes an_law_goes cd_law_goes ct_law_goes), sl_law_goes⟩)
    (q_law_goes : PySem.W.codeIn K cd_law_goes "_law_goes" = true)
    (k_law_goes : PySem.W.keepIn K (.ref f_law_goes) = true)
    (a_law : PySem.W.nsIn K mainGlobals "law" = some (some (.ref f_law)))
    (l_law : K.lookup f_law = some ⟨oc_law, od_law, .func (PySem.W.fnOf "law" "law" (defArgs s_law) (defBody s_law) (defScope s_law) .none kV_law dc_law pm_law an_law cd_law ct_law), sl_law⟩)
    (q_law : PySem.W.codeIn K cd_law "law" = true)
    (k_law : PySem.W.keepIn K (.ref f_law) = true)
    (a_HillError : PySem.W.nsIn K mainGlobals "HillError" = some (some (.ref c_HillError)))
    (x_HillError : PySem.W.excIn K c_HillError [.type "ValueError", .type "Exception", .type "BaseException", .type "object"] "ValueError.__new__" = true)
    (k_HillError : PySem.W.keepIn K (.ref c_HillError) = true)
    (e_HillError : PySem.W.subIn K (.ref c_HillError) (.type "BaseException") = some true)
    (t_HillError : PySem.W.typeIn K (.ref c_HillError) = some (.type "type"))
    (i_HillError : PySem.W.isClsIn K c_HillError = true)
    (a_NoLand : PySem.W.nsIn K mainGlobals "NoLand" = some (some (.ref c_NoLand)))
    (x_NoLand : PySem.W.excIn K c_NoLand [.type "ValueError", .type "Exception", .type "BaseException", .type "object"] "ValueError.__new__" = true)
    (k_NoLand : PySem.W.keepIn K (.ref c_NoLand) = true)
    (e_NoLand : PySem.W.subIn K (.ref c_NoLand) (.type "BaseException") = some true)
    (t_NoLand : PySem.W.typeIn K (.ref c_NoLand) = some (.type "type"))
    (i_NoLand : PySem.W.isClsIn K c_NoLand = true)
    (a_NoHill : PySem.W.nsIn K mainGlobals "NoHill" = some (some (.ref c_NoHill)))
    (x_NoHill : PySem.W.excIn K c_NoHill [.type "ValueError", .type "Exception", .type "BaseException", .type "object"] "ValueError.__new__" = true)
    (k_NoHill : PySem.W.keepIn K (.ref c_NoHill) = true)
    (e_NoHill : PySem.W.subIn K (.ref c_NoHill) (.type "BaseException") = some true)
    (t_NoHill : PySem.W.typeIn K (.ref c_NoHill) = some (.type "type"))
    (i_NoHill : PySem.W.isClsIn K c_NoHill = true)
    (a_SameHill : PySem.W.nsIn K mainGlobals "SameHill" = some (some (.ref c_SameHill)))
    (x_SameHill : PySem.W.excIn K c_SameHill [.type "ValueError", .type "Exception", .type "BaseException", .type "object"] "ValueError.__new__" = true)
    (k_SameHill : PySem.W.keepIn K (.ref c_SameHill) = true)
    (e_SameHill : PySem.W.subIn K (.ref c_SameHill) (.type "BaseException") = some true)
    (t_SameHill : PySem.W.typeIn K (.ref c_SameHill) = some (.type "type"))
    (i_SameHill : PySem.W.isClsIn K c_SameHill = true)
    (a_TooHigh : PySem.W.nsIn K mainGlobals "TooHigh" = some (some (.ref c_TooHigh)))
    (x_TooHigh : PySem.W.excIn K c_TooHigh [.type "ValueError", .type "Exception", .type "BaseException", .type "object"] "ValueError.__new__" = true)
    (k_TooHigh : PySem.W.keepIn K (.ref c_TooHigh) = true)
    (e_TooHigh : PySem.W.subIn K (.ref c_TooHigh) (.type "BaseException") = some true)
    (t_TooHigh : PySem.W.typeIn K (.ref c_TooHigh) = some (.type "type"))
    (i_TooHigh : PySem.W.isClsIn K c_TooHigh = true)
    (a_NothingDone : PySem.W.nsIn K mainGlobals "NothingDone" = some (some (.ref c_NothingDone)))
    (x_NothingDone : PySem.W.excIn K c_NothingDone [.type "ValueError", .type "Exception", .type "BaseException", .type "object"] "ValueError.__new__" = true)
    (k_NothingDone : PySem.W.keepIn K (.ref c_NothingDone) = true)
    (e_NothingDone : PySem.W.subIn K (.ref c_NothingDone) (.type "BaseException") = some true)
    (t_NothingDone : PySem.W.typeIn K (.ref c_NothingDone) = some (.type "type"))
    (i_NothingDone : PySem.W.isClsIn K c_NothingDone = true)
    (s_NoHill_NoHill : PySem.W.subIn K (.ref c_NoHill) (.ref c_NoHill) = some true)
    (s_TooHigh_NoHill : PySem.W.subIn K (.ref c_TooHigh) (.ref c_NoHill) = some false)
    (s_TooHigh_TooHigh : PySem.W.subIn K (.ref c_TooHigh) (.ref c_TooHigh) = some true)
    (s_NothingDone_NoHill : PySem.W.subIn K (.ref c_NothingDone) (.ref c_NoHill) = some false)
    (s_NothingDone_TooHigh : PySem.W.subIn K (.ref c_NothingDone) (.ref c_TooHigh) = some false)
    (s_NothingDone_NothingDone : PySem.W.subIn K (.ref c_NothingDone) (.ref c_NothingDone) = some true)
    (pg_Land : PySem.W.plainGet K c_Land Str.empty = true)
    (hd_Land : PySem.W.hasDictIn K c_Land = true)
    (po_Land : PySem.W.plainOver K c_Land = true)
    (sa_Land : PySem.W.findIn K (.ref c_Land) "__setattr__" = some (some (.builtin "object.__setattr__")))
    (ms_Land : PySem.W.makesIn K c_Land = true)
    (kp_Land : PySem.W.keepIn K (.ref c_Land) = true)
    (hn_obj : PySem.W.specialIn K (.builtin "object.__class__") "__get__" = some (some (.builtin "getset_descriptor.__get__")))
    (ht_obj : PySem.W.takesIn K (.builtin "object.__class__") = some true)
    (hg_NoHill : PySem.W.findIn K (.ref c_NoHill) "__getattribute__" = some (some (.builtin "BaseException.__getattribute__")))
    (hk_NoHill : PySem.W.findIn K (.ref c_NoHill) "__getattr__" = some none)
    (hd_NoHill : PySem.W.hasDictIn K c_NoHill = true)
    (ha_NoHill : PySem.W.findIn K (.ref c_NoHill) "__class__" = some (some (.builtin "object.__class__")))
    (hm_NoHill : PySem.W.mroIn K c_NoHill (.type "object") = some true)
    (kv_NoHill : PySem.W.kitOne K (.ref c_NoHill) (.type "ValueError") = some true)
    (kt_NoHill_NoLand : PySem.W.kitOne K (.ref c_NoHill) (.ref c_NoLand) = some false)
    (kt_NoHill_NoHill : PySem.W.kitOne K (.ref c_NoHill) (.ref c_NoHill) = some true)
    (kt_NoHill_SameHill : PySem.W.kitOne K (.ref c_NoHill) (.ref c_SameHill) = some false)
    (kt_NoHill_TooHigh : PySem.W.kitOne K (.ref c_NoHill) (.ref c_TooHigh) = some false)
    (kt_NoHill_NothingDone : PySem.W.kitOne K (.ref c_NoHill) (.ref c_NothingDone) = some false)
    (kt_NoHill_HillError : PySem.W.kitOne K (.ref c_NoHill) (.ref c_HillError) = some true)
    (hg_TooHigh : PySem.W.findIn K (.ref c_TooHigh) "__getattribute__" = some (some (.builtin "BaseException.__getattribute__")))
    (hk_TooHigh : PySem.W.findIn K (.ref c_TooHigh) "__getattr__" = some none)
    (hd_TooHigh : PySem.W.hasDictIn K c_TooHigh = true)
    (ha_TooHigh : PySem.W.findIn K (.ref c_TooHigh) "__class__" = some (some (.builtin "object.__class__")))
    (hm_TooHigh : PySem.W.mroIn K c_TooHigh (.type "object") = some true)
    (kv_TooHigh : PySem.W.kitOne K (.ref c_TooHigh) (.type "ValueError") = some true)
    (kt_TooHigh_NoLand : PySem.W.kitOne K (.ref c_TooHigh) (.ref c_NoLand) = some false)
    (kt_TooHigh_NoHill : PySem.W.kitOne K (.ref c_TooHigh) (.ref c_NoHill) = some false)
    (kt_TooHigh_SameHill : PySem.W.kitOne K (.ref c_TooHigh) (.ref c_SameHill) = some false)
    (kt_TooHigh_TooHigh : PySem.W.kitOne K (.ref c_TooHigh) (.ref c_TooHigh) = some true)
    (kt_TooHigh_NothingDone : PySem.W.kitOne K (.ref c_TooHigh) (.ref c_NothingDone) = some false)
    (kt_TooHigh_HillError : PySem.W.kitOne K (.ref c_TooHigh) (.ref c_HillError) = some true)
    (hg_NothingDone : PySem.W.findIn K (.ref c_NothingDone) "__getattribute__" = some (some (.builtin "BaseException.__getattribute__")))
    (hk_NothingDone : PySem.W.findIn K (.ref c_NothingDone) "__getattr__" = some none)
    (hd_NothingDone : PySem.W.hasDictIn K c_NothingDone = true)
    (ha_NothingDone : PySem.W.findIn K (.ref c_NothingDone) "__class__" = some (some (.builtin "object.__class__")))
    (hm_NothingDone : PySem.W.mroIn K c_NothingDone (.type "object") = some true)
    (kv_NothingDone : PySem.W.kitOne K (.ref c_NothingDone) (.type "ValueError") = some true)
    (kt_NothingDone_NoLand : PySem.W.kitOne K (.ref c_NothingDone) (.ref c_NoLand) = some false)
    (kt_NothingDone_NoHill : PySem.W.kitOne K (.ref c_NothingDone) (.ref c_NoHill) = some false)
    (kt_NothingDone_SameHill : PySem.W.kitOne K (.ref c_NothingDone) (.ref c_SameHill) = some false)
    (kt_NothingDone_TooHigh : PySem.W.kitOne K (.ref c_NothingDone) (.ref c_TooHigh) = some false)
    (kt_NothingDone_NothingDone : PySem.W.kitOne K (.ref c_NothingDone) (.ref c_NothingDone) = some true)
    (kt_NothingDone_HillError : PySem.W.kitOne K (.ref c_NothingDone) (.ref c_HillError) = some true)
    (na_hills : NoAttr K c_Land "hills")
    (na_done : NoAttr K c_Land "done")
    (a_MOST_HILLS : PySem.W.nsIn K mainGlobals "MOST_HILLS" = some (some (.int 200 w_MOST_HILLS)))
    (a_MOST_HEIGHT : PySem.W.nsIn K mainGlobals "MOST_HEIGHT" = some (some (.int 1000000000000000000 w_MOST_HEIGHT)))
    (n_ValueError : PySem.W.nsIn K mainGlobals "ValueError" = some none)
    (n_all : PySem.W.nsIn K mainGlobals "all" = some none)
    (n_bool : PySem.W.nsIn K mainGlobals "bool" = some none)
    (n_int : PySem.W.nsIn K mainGlobals "int" = some none)
    (n_isinstance : PySem.W.nsIn K mainGlobals "isinstance" = some none)
    (n_len : PySem.W.nsIn K mainGlobals "len" = some none)
    (n_list : PySem.W.nsIn K mainGlobals "list" = some none)
    (n_range : PySem.W.nsIn K mainGlobals "range" = some none)
    (n_str : PySem.W.nsIn K mainGlobals "str" = some none)
    (n_tuple : PySem.W.nsIn K mainGlobals "tuple" = some none)
    : ∃ fd : FuncData, (∀ (s : Shared) (v : Value), BindsTo s fd ⟨[v], []⟩ [("_law_script", v)]) ∧ ∀ base : Heap, K.In base → base.Ns mainGlobals mg → FnOk l.prog w K mg base CX0 9 fa fd ["_law_script"] (spLaw K) := by
  have e : fa = f_law := Value.ref.inj (Option.some.inj (hfa.symm.trans (PySem.W.mg_of X G a_law)))
  rw [e]
  have T : ∃ T : Txt K mg, T.a_law = f_law ∧ T.d_law = PySem.W.fnOf "law" "law" (defArgs s_law) (defBody s_law) (defScope s_law) .none kV_law dc_law pm_law an_law cd_law ct_law := ⟨{
    a_is_whole := f_is_whole, d_is_whole := PySem.W.fnOf "is_whole" "is_whole" (defArgs s_is_whole) (defBody s_is_whole) (defScope s_is_whole) .none kV_is_whole dc_is_whole pm_is_whole an_is_whole cd_is_whole ct_is_whole, F_is_whole := fun_mk (st := s_is_whole) l_is_whole q_is_whole k_is_whole,
    b_is_whole := (fun_mk (st := s_is_whole) l_is_whole q_is_whole k_is_whole).binds (ps := ["thing"]) fun _ _ _ _ _ _ us hl => match us, hl with | [_], _ => rfl,
    g_is_whole := PySem.W.mg_of X G a_is_whole,
    a_need_hill := f_need_hill, d_need_hill := PySem.W.fnOf "need_hill" "need_hill" (defArgs s_need_hill) (defBody s_need_hill) (defScope s_need_hill) .none kV_need_hill dc_need_hill pm_need_hill an_need_hill cd_need_hill ct_need_hill, F_need_hill := fun_mk (st := s_need_hill) l_need_hill q_need_hill k_need_hill,
    b_need_hill := (fun_mk (st := s_need_hill) l_need_hill q_need_hill k_need_hill).binds (ps := ["land", "place"]) fun _ _ _ _ _ _ us hl => match us, hl with | [_, _], _ => rfl,
    g_need_hill := PySem.W.mg_of X G a_need_hill,
    a_slope := f_slope, d_slope := PySem.W.fnOf "slope" "slope" (defArgs s_slope) (defBody s_slope) (defScope s_slope) .none kV_slope dc_slope pm_slope an_slope cd_slope ct_slope, F_slope := fun_mk (st := s_slope) l_slope q_slope k_slope,
    b_slope := (fun_mk (st := s_slope) l_slope q_slope k_slope).binds (ps := ["land", "a", "b"]) fun _ _ _ _ _ _ us hl => match us, hl with | [_, _, _], _ => rfl,
    g_slope := PySem.W.mg_of X G a_slope,
    a_steeper := f_steeper, d_steeper := PySem.W.fnOf "steeper" "steeper" (defArgs s_steeper) (defBody s_steeper) (defScope s_steeper) .none kV_steeper dc_steeper pm_steeper an_steeper cd_steeper ct_steeper, F_steeper := fun_mk (st := s_steeper) l_steeper q_steeper k_steeper,
    b_steeper := (fun_mk (st := s_steeper) l_steeper q_steeper k_steeper).binds (ps := ["one", "other"]) fun _ _ _ _ _ _ us hl => match us, hl with | [_, _], _ => rfl,
    g_steeper := PySem.W.mg_of X G a_steeper,
    a_behind := f_behind, d_behind := PySem.W.fnOf "behind" "behind" (defArgs s_behind) (defBody s_behind) (defScope s_behind) .none kV_behind dc_behind pm_behind an_behind cd_behind ct_behind, F_behind := fun_mk (st := s_behind) l_behind q_behind k_behind,
    b_behind := (fun_mk (st := s_behind) l_behind q_behind k_behind).binds (ps := ["land", "a"]) fun _ _ _ _ _ _ us hl => match us, hl with | [_, _], _ => rfl,
    g_behind := PySem.W.mg_of X G a_behind,
    a_sights := f_sights, d_sights := PySem.W.fnOf "sights" "sights" (defArgs s_sights) (defBody s_sights) (defScope s_sights) .none kV_sights dc_sights pm_sights an_sights cd_sights ct_sights, F_sights := fun_mk (st := s_sights) l_sights q_sights k_sights,
    b_sights := (fun_mk (st := s_sights) l_sights q_sights k_sights).binds (ps := ["land"]) fun _ _ _ _ _ _ us hl => match us, hl with | [_], _ => rfl,
    g_sights := PySem.W.mg_of X G a_sights,
    a_is_height := f_is_height, d_is_height := PySem.W.fnOf "is_height" "is_height" (defArgs s_is_height) (defBody s_is_height) (defScope s_is_height) .none kV_is_height dc_is_height pm_is_height an_is_height cd_is_height ct_is_height, F_is_height := fun_mk (st := s_is_height) l_is_height q_is_height k_is_height,
    b_is_height := (fun_mk (st := s_is_height) l_is_height q_is_height k_is_height).binds (ps := ["thing"]) fun _ _ _ _ _ _ us hl => match us, hl with | [_], _ => rfl,
    g_is_height := PySem.W.mg_of X G a_is_height,
    a_checked := f_checked, d_checked := PySem.W.fnOf "checked" "checked" (defArgs s_checked) (defBody s_checked) (defScope s_checked) .none kV_checked dc_checked pm_checked an_checked cd_checked ct_checked, F_checked := fun_mk (st := s_checked) l_checked q_checked k_checked,
    b_checked := (fun_mk (st := s_checked) l_checked q_checked k_checked).binds (ps := ["land"]) fun _ _ _ _ _ _ us hl => match us, hl with | [_], _ => rfl,
    g_checked := PySem.W.mg_of X G a_checked,
    a_lacking := f_lacking, d_lacking := PySem.W.fnOf "lacking" "lacking" (defArgs s_lacking) (defBody s_lacking) (defScope s_lacking) .none kV_lacking dc_lacking pm_lacking an_lacking cd_lacking ct_lacking, F_lacking := fun_mk (st := s_lacking) l_lacking q_lacking k_lacking,
    b_lacking := (fun_mk (st := s_lacking) l_lacking q_lacking k_lacking).binds (ps := ["pairs", "others"]) fun _ _ _ _ _ _ us hl => match us, hl with | [_, _], _ => rfl,
    g_lacking := PySem.W.mg_of X G a_lacking,
    a_Land___init__ := f_Land___init__, d_Land___init__ := PySem.W.fnOf "__init__" "Land.__init__" (defArgs s_Land___init__) (defBody s_Land___init__) (defScope s_Land___init__) .none kV_Land___init__ dc_Land___init__ pm_Land___init__ an_Land___init__ cd_Land___init__ ct_Land___init__, F_Land___init__ := fun_mk (st := s_Land___init__) l_Land___init__ q_Land___init__ k_Land___init__,
    b_Land___init__ := (fun_mk (st := s_Land___init__) l_Land___init__ q_Land___init__ k_Land___init__).binds (ps := ["self", "heights"]) fun _ _ _ _ _ _ us hl => match us, hl with | [_, _], _ => rfl,
    a_Land_told := f_Land_told, d_Land_told := PySem.W.fnOf "told" "Land.told" (defArgs s_Land_told) (defBody s_Land_told) (defScope s_Land_told) .none kV_Land_told dc_Land_told pm_Land_told an_Land_told cd_Land_told ct_Land_told, F_Land_told := fun_mk (st := s_Land_told) l_Land_told q_Land_told k_Land_told,
    b_Land_told := (fun_mk (st := s_Land_told) l_Land_told q_Land_told k_Land_told).binds (ps := ["self"]) fun _ _ _ _ _ _ us hl => match us, hl with | [_], _ => rfl,
    a_Land_seen := f_Land_seen, d_Land_seen := PySem.W.fnOf "seen" "Land.seen" (defArgs s_Land_seen) (defBody s_Land_seen) (defScope s_Land_seen) .none kV_Land_seen dc_Land_seen pm_Land_seen an_Land_seen cd_Land_seen ct_Land_seen, F_Land_seen := fun_mk (st := s_Land_seen) l_Land_seen q_Land_seen k_Land_seen,
    b_Land_seen := (fun_mk (st := s_Land_seen) l_Land_seen q_Land_seen k_Land_seen).binds (ps := ["self"]) fun _ _ _ _ _ _ us hl => match us, hl with | [_], _ => rfl,
    a_Land_moved := f_Land_moved, d_Land_moved := PySem.W.fnOf "moved" "Land.moved" (defArgs s_Land_moved) (defBody s_Land_moved) (defScope s_Land_moved) .none kV_Land_moved dc_Land_moved pm_Land_moved an_Land_moved cd_Land_moved ct_Land_moved, F_Land_moved := fun_mk (st := s_Land_moved) l_Land_moved q_Land_moved k_Land_moved,
    b_Land_moved := (fun_mk (st := s_Land_moved) l_Land_moved q_Land_moved k_Land_moved).binds (ps := ["self", "place", "by"]) fun _ _ _ _ _ _ us hl => match us, hl with | [_, _, _], _ => rfl,
    a_Land_lift := f_Land_lift, d_Land_lift := PySem.W.fnOf "lift" "Land.lift" (defArgs s_Land_lift) (defBody s_Land_lift) (defScope s_Land_lift) .none kV_Land_lift dc_Land_lift pm_Land_lift an_Land_lift cd_Land_lift ct_Land_lift, F_Land_lift := fun_mk (st := s_Land_lift) l_Land_lift q_Land_lift k_Land_lift,
    b_Land_lift := (fun_mk (st := s_Land_lift) l_Land_lift q_Land_lift k_Land_lift).binds (ps := ["self", "place", "by"]) fun _ _ _ _ _ _ us hl => match us, hl with | [_, _, _], _ => rfl,
    a_Land_back := f_Land_back, d_Land_back := PySem.W.fnOf "back" "Land.back" (defArgs s_Land_back) (defBody s_Land_back) (defScope s_Land_back) .none kV_Land_back dc_Land_back pm_Land_back an_Land_back cd_Land_back ct_Land_back, F_Land_back := fun_mk (st := s_Land_back) l_Land_back q_Land_back k_Land_back,
    b_Land_back := (fun_mk (st := s_Land_back) l_Land_back q_Land_back k_Land_back).binds (ps := ["self"]) fun _ _ _ _ _ _ us hl => match us, hl with | [_], _ => rfl,
    a_law_sole := f_law_sole, d_law_sole := PySem.W.fnOf "_law_sole" "_law_sole" (defArgs s_law_sole) (defBody s_law_sole) (defScope s_law_sole) .none kV_law_sole dc_law_sole pm_law_sole an_law_sole cd_law_sole ct_law_sole, F_law_sole := fun_mk (st := s_law_sole) l_law_sole q_law_sole k_law_sole,
    b_law_sole := (fun_mk (st := s_law_sole) l_law_sole q_law_sole k_law_sole).binds (ps := ["_law_error"]) fun _ _ _ _ _ _ us hl => match us, hl with | [_], _ => rfl,
    g_law_sole := PySem.W.mg_of X G a_law_sole,
    a_law_whole := f_law_whole, d_law_whole := PySem.W.fnOf "_law_whole" "_law_whole" (defArgs s_law_whole) (defBody s_law_whole) (defScope s_law_whole) .none kV_law_whole dc_law_whole pm_law_whole an_law_whole cd_law_whole ct_law_whole, F_law_whole := fun_mk (st := s_law_whole) l_law_whole q_law_whole k_law_whole,
    b_law_whole := (fun_mk (st := s_law_whole) l_law_whole q_law_whole k_law_whole).binds (ps := ["_law_found"]) fun _ _ _ _ _ _ us hl => match us, hl with | [_], _ => rfl,
    g_law_whole := PySem.W.mg_of X G a_law_whole,
    a_law_cell_at := f_law_cell_at, d_law_cell_at := PySem.W.fnOf "_law_cell_at" "_law_cell_at" (defArgs s_law_cell_at) (defBody s_law_cell_at) (defScope s_law_cell_at) .none kV_law_cell_at dc_law_cell_at pm_law_cell_at an_law_cell_at cd_law_cell_at ct_law_cell_at, F_law_cell_at := fun_mk (st := s_law_cell_at) l_law_cell_at q_law_cell_at k_law_cell_at,
    b_law_cell_at := (fun_mk (st := s_law_cell_at) l_law_cell_at q_law_cell_at k_law_cell_at).binds (ps := ["_law_script", "_law_k"]) fun _ _ _ _ _ _ us hl => match us, hl with | [_, _], _ => rfl,
    g_law_cell_at := PySem.W.mg_of X G a_law_cell_at,
    a_law_sights_by := f_law_sights_by, d_law_sights_by := PySem.W.fnOf "_law_sights_by" "_law_sights_by" (defArgs s_law_sights_by) (defBody s_law_sights_by) (defScope s_law_sights_by) .none kV_law_sights_by dc_law_sights_by pm_law_sights_by an_law_sights_by cd_law_sights_by ct_law_sights_by, F_law_sights_by := fun_mk (st := s_law_sights_by) l_law_sights_by q_law_sights_by k_law_sights_by,
    b_law_sights_by := (fun_mk (st := s_law_sights_by) l_law_sights_by q_law_sights_by k_law_sights_by).binds (ps := ["_law_land"]) fun _ _ _ _ _ _ us hl => match us, hl with | [_], _ => rfl,
    g_law_sights_by := PySem.W.mg_of X G a_law_sights_by,
    a_law_base := f_law_base, d_law_base := PySem.W.fnOf "_law_base" "_law_base" (defArgs s_law_base) (defBody s_law_base) (defScope s_law_base) .none kV_law_base dc_law_base pm_law_base an_law_base cd_law_base ct_law_base, F_law_base := fun_mk (st := s_law_base) l_law_base q_law_base k_law_base,
    b_law_base := (fun_mk (st := s_law_base) l_law_base q_law_base k_law_base).binds (ps := ["_law_error"]) fun _ _ _ _ _ _ us hl => match us, hl with | [_], _ => rfl,
    g_law_base := PySem.W.mg_of X G a_law_base,
    a_law_told := f_law_told, d_law_told := PySem.W.fnOf "_law_told" "_law_told" (defArgs s_law_told) (defBody s_law_told) (defScope s_law_told) .none kV_law_told dc_law_told pm_law_told an_law_told cd_law_told ct_law_told, F_law_told := fun_mk (st := s_law_told) l_law_told q_law_told k_law_told,
    b_law_told := (fun_mk (st := s_law_told) l_law_told q_law_told k_law_told).binds (ps := ["_law_land", "_law_place", "_law_by"]) fun _ _ _ _ _ _ us hl => match us, hl with | [_, _, _], _ => rfl,
    g_law_told := PySem.W.mg_of X G a_law_told,
    a_law_deed_by := f_law_deed_by, d_law_deed_by := PySem.W.fnOf "_law_deed_by" "_law_deed_by" (defArgs s_law_deed_by) (defBody s_law_deed_by) (defScope s_law_deed_by) .none kV_law_deed_by dc_law_deed_by pm_law_deed_by an_law_deed_by cd_law_deed_by ct_law_deed_by, F_law_deed_by := fun_mk (st := s_law_deed_by) l_law_deed_by q_law_deed_by k_law_deed_by,
    b_law_deed_by := (fun_mk (st := s_law_deed_by) l_law_deed_by q_law_deed_by k_law_deed_by).binds (ps := ["_law_cell", "_law_heights"]) fun _ _ _ _ _ _ us hl => match us, hl with | [_, _], _ => rfl,
    g_law_deed_by := PySem.W.mg_of X G a_law_deed_by,
    a_law_lacking := f_law_lacking, d_law_lacking := PySem.W.fnOf "_law_lacking" "_law_lacking" (defArgs s_law_lacking) (defBody s_law_lacking) (defScope s_law_lacking) .none kV_law_lacking dc_law_lacking pm_law_lacking an_law_lacking cd_law_lacking ct_law_lacking, F_law_lacking := fun_mk (st := s_law_lacking) l_law_lacking q_law_lacking k_law_lacking,
    b_law_lacking := (fun_mk (st := s_law_lacking) l_law_lacking q_law_lacking k_law_lacking).binds (ps := ["_law_pairs", "_law_others"]) fun _ _ _ _ _ _ us hl => match us, hl with | [_, _], _ => rfl,
    g_law_lacking := PySem.W.mg_of X G a_law_lacking,
    a_law_due_by := f_law_due_by, d_law_due_by := PySem.W.fnOf "_law_due_by" "_law_due_by" (defArgs s_law_due_by) (defBody s_law_due_by) (defScope s_law_due_by) .none kV_law_due_by dc_law_due_by pm_law_due_by an_law_due_by cd_law_due_by ct_law_due_by, F_law_due_by := fun_mk (st := s_law_due_by) l_law_due_by q_law_due_by k_law_due_by,
    b_law_due_by := (fun_mk (st := s_law_due_by) l_law_due_by q_law_due_by k_law_due_by).binds (ps := ["_law_heights", "_law_place", "_law_by"]) fun _ _ _ _ _ _ us hl => match us, hl with | [_, _, _], _ => rfl,
    g_law_due_by := PySem.W.mg_of X G a_law_due_by,
    a_law_alike := f_law_alike, d_law_alike := PySem.W.fnOf "_law_alike" "_law_alike" (defArgs s_law_alike) (defBody s_law_alike) (defScope s_law_alike) .none kV_law_alike dc_law_alike pm_law_alike an_law_alike cd_law_alike ct_law_alike, F_law_alike := fun_mk (st := s_law_alike) l_law_alike q_law_alike k_law_alike,
    b_law_alike := (fun_mk (st := s_law_alike) l_law_alike q_law_alike k_law_alike).binds (ps := ["_law_found", "_law_due"]) fun _ _ _ _ _ _ us hl => match us, hl with | [_, _], _ => rfl,
    g_law_alike := PySem.W.mg_of X G a_law_alike,
    a_law_kept := f_law_kept, d_law_kept := PySem.W.fnOf "_law_kept" "_law_kept" (defArgs s_law_kept) (defBody s_law_kept) (defScope s_law_kept) .none kV_law_kept dc_law_kept pm_law_kept an_law_kept cd_law_kept ct_law_kept, F_law_kept := fun_mk (st := s_law_kept) l_law_kept q_law_kept k_law_kept,
    b_law_kept := (fun_mk (st := s_law_kept) l_law_kept q_law_kept k_law_kept).binds (ps := ["_law_told_here", "_law_found"]) fun _ _ _ _ _ _ us hl => match us, hl with | [_, _], _ => rfl,
    g_law_kept := PySem.W.mg_of X G a_law_kept,
    a_law_stands := f_law_stands, d_law_stands := PySem.W.fnOf "_law_stands" "_law_stands" (defArgs s_law_stands) (defBody s_law_stands) (defScope s_law_stands) .none kV_law_stands dc_law_stands pm_law_stands an_law_stands cd_law_stands ct_law_stands, F_law_stands := fun_mk (st := s_law_stands) l_law_stands q_law_stands k_law_stands,
    b_law_stands := (fun_mk (st := s_law_stands) l_law_stands q_law_stands k_law_stands).binds (ps := ["_law_land", "_law_heights"]) fun _ _ _ _ _ _ us hl => match us, hl with | [_, _], _ => rfl,
    g_law_stands := PySem.W.mg_of X G a_law_stands,
    a_law_lifted := f_law_lifted, d_law_lifted := PySem.W.fnOf "_law_lifted" "_law_lifted" (defArgs s_law_lifted) (defBody s_law_lifted) (defScope s_law_lifted) .none kV_law_lifted dc_law_lifted pm_law_lifted an_law_lifted cd_law_lifted ct_law_lifted, F_law_lifted := fun_mk (st := s_law_lifted) l_law_lifted q_law_lifted k_law_lifted,
    b_law_lifted := (fun_mk (st := s_law_lifted) l_law_lifted q_law_lifted k_law_lifted).binds (ps := ["_law_land", "_law_heights", "_law_done_here"]) fun _ _ _ _ _ _ us hl => match us, hl with | [_, _, _], _ => rfl,
    g_law_lifted := PySem.W.mg_of X G a_law_lifted,
    a_law_all_back := f_law_all_back, d_law_all_back := PySem.W.fnOf "_law_all_back" "_law_all_back" (defArgs s_law_all_back) (defBody s_law_all_back) (defScope s_law_all_back) .none kV_law_all_back dc_law_all_back pm_law_all_back an_law_all_back cd_law_all_back ct_law_all_back, F_law_all_back := fun_mk (st := s_law_all_back) l_law_all_back q_law_all_back k_law_all_back,
    b_law_all_back := (fun_mk (st := s_law_all_back) l_law_all_back q_law_all_back k_law_all_back).binds (ps := ["_law_land", "_law_heights", "_law_done_here"]) fun _ _ _ _ _ _ us hl => match us, hl with | [_, _, _], _ => rfl,
    g_law_all_back := PySem.W.mg_of X G a_law_all_back,
    a_law_done := f_law_done, d_law_done := PySem.W.fnOf "_law_done" "_law_done" (defArgs s_law_done) (defBody s_law_done) (defScope s_law_done) .none kV_law_done dc_law_done pm_law_done an_law_done cd_law_done ct_law_done, F_law_done := fun_mk (st := s_law_done) l_law_done q_law_done k_law_done,
    b_law_done := (fun_mk (st := s_law_done) l_law_done q_law_done k_law_done).binds (ps := ["_law_land", "_law_heights", "_law_done_here", "_law_place", "_law_by", "_law_told_here"]) fun _ _ _ _ _ _ us hl => match us, hl with | [_, _, _, _, _, _], _ => rfl,
    g_law_done := PySem.W.mg_of X G a_law_done,
    a_law_goes := f_law_goes, d_law_goes := PySem.W.fnOf "_law_goes" "_law_goes" (defArgs s_law_goes) (defBody s_law_goes) (defScope s_law_goes) .none kV_law_goes dc_law_goes pm_law_goes an_law_goes cd_law_goes ct_law_goes, F_law_goes := fun_mk (st := s_law_goes) l_law_goes q_law_goes k_law_goes,
    b_law_goes := (fun_mk (st := s_law_goes) l_law_goes q_law_goes k_law_goes).binds (ps := ["_law_land", "_law_heights", "_law_done_here", "_law_place", "_law_by", "_law_told_here"]) fun _ _ _ _ _ _ us hl => match us, hl with | [_, _, _, _, _, _], _ => rfl,
    g_law_goes := PySem.W.mg_of X G a_law_goes,
    a_law := f_law, d_law := PySem.W.fnOf "law" "law" (defArgs s_law) (defBody s_law) (defScope s_law) .none kV_law dc_law pm_law an_law cd_law ct_law, F_law := fun_mk (st := s_law) l_law q_law k_law,
    b_law := (fun_mk (st := s_law) l_law q_law k_law).binds (ps := ["_law_script"]) fun _ _ _ _ _ _ us hl => match us, hl with | [_], _ => rfl,
    g_law := PySem.W.mg_of X G a_law,
    c_HillError := c_HillError, g_HillError := PySem.W.mg_of X G a_HillError, x_HillError := x_HillError, k_HillError := k_HillError, e_HillError := e_HillError, t_HillError := t_HillError, i_HillError := i_HillError,
    c_NoLand := c_NoLand, g_NoLand := PySem.W.mg_of X G a_NoLand, x_NoLand := x_NoLand, k_NoLand := k_NoLand, e_NoLand := e_NoLand, t_NoLand := t_NoLand, i_NoLand := i_NoLand,
    c_NoHill := c_NoHill, g_NoHill := PySem.W.mg_of X G a_NoHill, x_NoHill := x_NoHill, k_NoHill := k_NoHill, e_NoHill := e_NoHill, t_NoHill := t_NoHill, i_NoHill := i_NoHill,
    c_SameHill := c_SameHill, g_SameHill := PySem.W.mg_of X G a_SameHill, x_SameHill := x_SameHill, k_SameHill := k_SameHill, e_SameHill := e_SameHill, t_SameHill := t_SameHill, i_SameHill := i_SameHill,
    c_TooHigh := c_TooHigh, g_TooHigh := PySem.W.mg_of X G a_TooHigh, x_TooHigh := x_TooHigh, k_TooHigh := k_TooHigh, e_TooHigh := e_TooHigh, t_TooHigh := t_TooHigh, i_TooHigh := i_TooHigh,
    c_NothingDone := c_NothingDone, g_NothingDone := PySem.W.mg_of X G a_NothingDone, x_NothingDone := x_NothingDone, k_NothingDone := k_NothingDone, e_NothingDone := e_NothingDone, t_NothingDone := t_NothingDone, i_NothingDone := i_NothingDone,
    s_NoHill_NoHill := s_NoHill_NoHill,
    s_TooHigh_NoHill := s_TooHigh_NoHill,
    s_TooHigh_TooHigh := s_TooHigh_TooHigh,
    s_NothingDone_NoHill := s_NothingDone_NoHill,
    s_NothingDone_TooHigh := s_NothingDone_TooHigh,
    s_NothingDone_NothingDone := s_NothingDone_NothingDone,
    c_Land := c_Land, g_Land := PySem.W.mg_of X G a_Land, cl_Land := ⟨pg_Land, hd_Land, po_Land, sa_Land⟩, mk_Land := ⟨ms_Land, a_Land___init__, i_Land___init__, kp_Land⟩,
    m_Land___init__ := ⟨a_Land___init__, i_Land___init__, k_Land___init__⟩,
    m_Land_told := ⟨a_Land_told, i_Land_told, k_Land_told⟩,
    m_Land_seen := ⟨a_Land_seen, i_Land_seen, k_Land_seen⟩,
    m_Land_moved := ⟨a_Land_moved, i_Land_moved, k_Land_moved⟩,
    m_Land_lift := ⟨a_Land_lift, i_Land_lift, k_Land_lift⟩,
    m_Land_back := ⟨a_Land_back, i_Land_back, k_Land_back⟩,
    hn_obj := hn_obj,
    ht_obj := ht_obj,
    hg_NoHill := hg_NoHill,
    hk_NoHill := hk_NoHill,
    hd_NoHill := hd_NoHill,
    ha_NoHill := ha_NoHill,
    hm_NoHill := hm_NoHill,
    kv_NoHill := kv_NoHill,
    kt_NoHill_NoLand := kt_NoHill_NoLand,
    kt_NoHill_NoHill := kt_NoHill_NoHill,
    kt_NoHill_SameHill := kt_NoHill_SameHill,
    kt_NoHill_TooHigh := kt_NoHill_TooHigh,
    kt_NoHill_NothingDone := kt_NoHill_NothingDone,
    kt_NoHill_HillError := kt_NoHill_HillError,
    hg_TooHigh := hg_TooHigh,
    hk_TooHigh := hk_TooHigh,
    hd_TooHigh := hd_TooHigh,
    ha_TooHigh := ha_TooHigh,
    hm_TooHigh := hm_TooHigh,
    kv_TooHigh := kv_TooHigh,
    kt_TooHigh_NoLand := kt_TooHigh_NoLand,
    kt_TooHigh_NoHill := kt_TooHigh_NoHill,
    kt_TooHigh_SameHill := kt_TooHigh_SameHill,
    kt_TooHigh_TooHigh := kt_TooHigh_TooHigh,
    kt_TooHigh_NothingDone := kt_TooHigh_NothingDone,
    kt_TooHigh_HillError := kt_TooHigh_HillError,
    hg_NothingDone := hg_NothingDone,
    hk_NothingDone := hk_NothingDone,
    hd_NothingDone := hd_NothingDone,
    ha_NothingDone := ha_NothingDone,
    hm_NothingDone := hm_NothingDone,
    kv_NothingDone := kv_NothingDone,
    kt_NothingDone_NoLand := kt_NothingDone_NoLand,
    kt_NothingDone_NoHill := kt_NothingDone_NoHill,
    kt_NothingDone_SameHill := kt_NothingDone_SameHill,
    kt_NothingDone_TooHigh := kt_NothingDone_TooHigh,
    kt_NothingDone_NothingDone := kt_NothingDone_NothingDone,
    kt_NothingDone_HillError := kt_NothingDone_HillError,
    na_hills := na_hills,
    na_done := na_done,
    w_MOST_HILLS := w_MOST_HILLS, g_MOST_HILLS := PySem.W.mg_of X G a_MOST_HILLS,
    w_MOST_HEIGHT := w_MOST_HEIGHT, g_MOST_HEIGHT := PySem.W.mg_of X G a_MOST_HEIGHT,
    n_ValueError := PySem.W.mg_none_of X G n_ValueError,
    n_all := PySem.W.mg_none_of X G n_all,
    n_bool := PySem.W.mg_none_of X G n_bool,
    n_int := PySem.W.mg_none_of X G n_int,
    n_isinstance := PySem.W.mg_none_of X G n_isinstance,
    n_len := PySem.W.mg_none_of X G n_len,
    n_list := PySem.W.mg_none_of X G n_list,
    n_range := PySem.W.mg_none_of X G n_range,
    n_str := PySem.W.mg_none_of X G n_str,
    n_tuple := PySem.W.mg_none_of X G n_tuple }, rfl, rfl⟩
  obtain ⟨T, e1, e2⟩ := T
  refine ⟨PySem.W.fnOf "law" "law" (defArgs s_law) (defBody s_law) (defScope s_law) .none kV_law dc_law pm_law an_law cd_law ct_law, fun s v => .of_eq rfl, fun base _ _ => ?_⟩
  rw [← e1, ← e2]
  exact ok_law T
end Hs
open PySem PySem.W PyProof.Rows
set_option maxRecDepth 100000 in
set_option maxHeartbeats 0 in
theorem PySem.Challenge.cw_hillsight_k10_whole_changes_holds : PySem.Challenge.rw_hillsight_k10_whole_changes.Holds := by
  w_on; o_law; k_head; (case hw => w_witness2)
  k_fill
  refine L2.walk_ofK (l := PySem.Challenge.rw_hillsight_k10_whole_changes) (n := 63) (k := 9) (x := "_law_script") (CX := L2.CX0) (sp := Hs.spLaw) rfl (by decide) rfl ⟨rfl, by decide, by decide⟩ (fun w h Y => PySem.W.kIn_of Y) ?F (fun _ _ a ns hl _ hS => ⟨a, ns, rfl, hS, hl, fun _ => rfl⟩) (fun _ _ _ _ h => h)
  case F =>
    intro w mg fa h KX G hmg
    refine' Hs.all_mk KX G hmg ?a_Land ?a_is_whole ?l_is_whole ?q_is_whole ?k_is_whole ?a_need_hill ?l_need_hill ?q_need_hill ?k_need_hill ?a_slope ?l_slope ?q_slope ?k_slope ?a_steeper ?l_steeper ?q_steeper ?k_steeper ?a_behind ?l_behind ?q_behind ?k_behind ?a_sights ?l_sights ?q_sights ?k_sights ?a_is_height ?l_is_height ?q_is_height ?k_is_height ?a_checked ?l_checked ?q_checked ?k_checked ?a_lacking ?l_lacking ?q_lacking ?k_lacking ?a_Land___init__ ?i_Land___init__ ?l_Land___init__ ?q_Land___init__ ?k_Land___init__ ?a_Land_told ?i_Land_told ?l_Land_told ?q_Land_told ?k_Land_told ?a_Land_seen ?i_Land_seen ?l_Land_seen ?q_Land_seen ?k_Land_seen ?a_Land_moved ?i_Land_moved ?l_Land_moved ?q_Land_moved ?k_Land_moved ?a_Land_lift ?i_Land_lift ?l_Land_lift ?q_Land_lift ?k_Land_lift ?a_Land_back ?i_Land_back ?l_Land_back ?q_Land_back ?k_Land_back ?a_law_sole ?l_law_sole ?q_law_sole ?k_law_sole ?a_law_whole ?l_law_whole ?q_law_whole ?k_law_whole ?a_law_cell_at ?l_law_cell_at ?q_law_cell_at ?k_law_cell_at ?a_law_sights_by ?l_law_sights_by ?q_law_sights_by ?k_law_sights_by ?a_law_base ?l_law_base ?q_law_base ?k_law_base ?a_law_told ?l_law_told ?q_law_told ?k_law_told ?a_law_deed_by ?l_law_deed_by ?q_law_deed_by ?k_law_deed_by ?a_law_lacking ?l_law_lacking ?q_law_lacking ?k_law_lacking ?a_law_due_by ?l_law_due_by ?q_law_due_by ?k_law_due_by ?a_law_alike ?l_law_alike ?q_law_alike ?k_law_alike ?a_law_kept ?l_law_kept ?q_law_kept ?k_law_kept ?a_law_stands ?l_law_stands ?q_law_stands ?k_law_stands ?a_law_lifted ?l_law_lifted ?q_law_lifted ?k_law_lifted ?a_law_all_back ?l_law_all_back ?q_law_all_back ?k_law_all_back ?a_law_done ?l_law_done ?q_law_done ?k_law_done ?a_law_goes ?l_law_goes ?q_law_goes ?k_law_goes ?a_law ?l_law ?q_law ?k_law ?a_HillError ?x_HillError ?k_HillError ?e_HillError ?t_HillError ?i_HillError ?a_NoLand ?x_NoLand ?k_NoLand ?e_NoLand ?t_NoLand ?i_NoLand ?a_NoHill ?x_NoHill ?k_NoHill ?e_NoHill ?t_NoHill ?i_NoHill ?a_SameHill ?x_SameHill ?k_SameHill ?e_SameHill ?t_SameHill ?i_SameHill ?a_TooHigh ?x_TooHigh ?k_TooHigh ?e_TooHigh ?t_TooHigh ?i_TooHigh ?a_NothingDone ?x_NothingDone ?k_NothingDone ?e_NothingDone ?t_NothingDone ?i_NothingDone ?s_NoHill_NoHill ?s_TooHigh_NoHill ?s_TooHigh_TooHigh ?s_NothingDone_NoHill ?s_NothingDone_TooHigh ?s_NothingDone_NothingDone ?pg_Land ?hd_Land ?po_Land ?sa_Land ?ms_Land ?kp_Land ?hn_obj ?ht_obj ?hg_NoHill ?hk_NoHill ?hd_NoHill ?ha_NoHill ?hm_NoHill ?kv_NoHill ?kt_NoHill_NoLand ?kt_NoHill_NoHill ?kt_NoHill_SameHill ?kt_NoHill_TooHigh ?kt_NoHill_NothingDone ?kt_NoHill_HillError ?hg_TooHigh ?hk_TooHigh ?hd_TooHigh ?ha_TooHigh ?hm_TooHigh ?kv_TooHigh ?kt_TooHigh_NoLand ?kt_TooHigh_NoHill ?kt_TooHigh_SameHill ?kt_TooHigh_TooHigh ?kt_TooHigh_NothingDone ?kt_TooHigh_HillError ?hg_NothingDone ?hk_NothingDone ?hd_NothingDone ?ha_NothingDone ?hm_NothingDone ?kv_NothingDone ?kt_NothingDone_NoLand ?kt_NothingDone_NoHill ?kt_NothingDone_SameHill ?kt_NothingDone_TooHigh ?kt_NothingDone_NothingDone ?kt_NothingDone_HillError ?na_hills ?na_done ?a_MOST_HILLS ?a_MOST_HEIGHT ?n_ValueError ?n_all ?n_bool ?n_int ?n_isinstance ?n_len ?n_list ?n_range ?n_str ?n_tuple
    (case a_Land => first | k_is | rfl)
    (case a_is_whole => first | k_is | rfl)
    (case l_is_whole => first | k_is | rfl)
    (case q_is_whole => first | k_is | rfl)
    (case k_is_whole => first | k_is | rfl)
    (case a_need_hill => first | k_is | rfl)
    (case l_need_hill => first | k_is | rfl)
    (case q_need_hill => first | k_is | rfl)
    (case k_need_hill => first | k_is | rfl)
    (case a_slope => first | k_is | rfl)
    (case l_slope => first | k_is | rfl)
    (case q_slope => first | k_is | rfl)
    (case k_slope => first | k_is | rfl)
    (case a_steeper => first | k_is | rfl)
    (case l_steeper => first | k_is | rfl)
    (case q_steeper => first | k_is | rfl)
    (case k_steeper => first | k_is | rfl)
    (case a_behind => first | k_is | rfl)
    (case l_behind => first | k_is | rfl)
    (case q_behind => first | k_is | rfl)
    (case k_behind => first | k_is | rfl)
    (case a_sights => first | k_is | rfl)
    (case l_sights => first | k_is | rfl)
    (case q_sights => first | k_is | rfl)
    (case k_sights => first | k_is | rfl)
    (case a_is_height => first | k_is | rfl)
    (case l_is_height => first | k_is | rfl)
    (case q_is_height => first | k_is | rfl)
    (case k_is_height => first | k_is | rfl)
    (case a_checked => first | k_is | rfl)
    (case l_checked => first | k_is | rfl)
    (case q_checked => first | k_is | rfl)
    (case k_checked => first | k_is | rfl)
    (case a_lacking => first | k_is | rfl)
    (case l_lacking => first | k_is | rfl)
    (case q_lacking => first | k_is | rfl)
    (case k_lacking => first | k_is | rfl)
    (case a_Land___init__ => first | k_is | rfl)
    (case i_Land___init__ => first | k_is | rfl)
    (case l_Land___init__ => first | k_is | rfl)
    (case q_Land___init__ => first | k_is | rfl)
    (case k_Land___init__ => first | k_is | rfl)
    (case a_Land_told => first | k_is | rfl)
    (case i_Land_told => first | k_is | rfl)
    (case l_Land_told => first | k_is | rfl)
    (case q_Land_told => first | k_is | rfl)
    (case k_Land_told => first | k_is | rfl)
    (case a_Land_seen => first | k_is | rfl)
    (case i_Land_seen => first | k_is | rfl)
    (case l_Land_seen => first | k_is | rfl)
    (case q_Land_seen => first | k_is | rfl)
    (case k_Land_seen => first | k_is | rfl)
    (case a_Land_moved => first | k_is | rfl)
    (case i_Land_moved => first | k_is | rfl)
    (case l_Land_moved => first | k_is | rfl)
    (case q_Land_moved => first | k_is | rfl)
    (case k_Land_moved => first | k_is | rfl)
    (case a_Land_lift => first | k_is | rfl)
    (case i_Land_lift => first | k_is | rfl)
    (case l_Land_lift => first | k_is | rfl)
    (case q_Land_lift => first | k_is | rfl)
    (case k_Land_lift => first | k_is | rfl)
    (case a_Land_back => first | k_is | rfl)
    (case i_Land_back => first | k_is | rfl)
    (case l_Land_back => first | k_is | rfl)
    (case q_Land_back => first | k_is | rfl)
    (case k_Land_back => first | k_is | rfl)
    (case a_law_sole => first | k_is | rfl)
    (case l_law_sole => first | k_is | rfl)
    (case q_law_sole => first | k_is | rfl)
    (case k_law_sole => first | k_is | rfl)
    (case a_law_whole => first | k_is | rfl)
    (case l_law_whole => first | k_is | rfl)
    (case q_law_whole => first | k_is | rfl)
    (case k_law_whole => first | k_is | rfl)
    (case a_law_cell_at => first | k_is | rfl)
    (case l_law_cell_at => first | k_is | rfl)
    (case q_law_cell_at => first | k_is | rfl)
    (case k_law_cell_at => first | k_is | rfl)
    (case a_law_sights_by => first | k_is | rfl)
    (case l_law_sights_by => first | k_is | rfl)
    (case q_law_sights_by => first | k_is | rfl)
    (case k_law_sights_by => first | k_is | rfl)
    (case a_law_base => first | k_is | rfl)
    (case l_law_base => first | k_is | rfl)
    (case q_law_base => first | k_is | rfl)
    (case k_law_base => first | k_is | rfl)
    (case a_law_told => first | k_is | rfl)
    (case l_law_told => first | k_is | rfl)
    (case q_law_told => first | k_is | rfl)
    (case k_law_told => first | k_is | rfl)
    (case a_law_deed_by => first | k_is | rfl)
    (case l_law_deed_by => first | k_is | rfl)
    (case q_law_deed_by => first | k_is | rfl)
    (case k_law_deed_by => first | k_is | rfl)
    (case a_law_lacking => first | k_is | rfl)
    (case l_law_lacking => first | k_is | rfl)
    (case q_law_lacking => first | k_is | rfl)
    (case k_law_lacking => first | k_is | rfl)
    (case a_law_due_by => first | k_is | rfl)
    (case l_law_due_by => first | k_is | rfl)
    (case q_law_due_by => first | k_is | rfl)
    (case k_law_due_by => first | k_is | rfl)
    (case a_law_alike => first | k_is | rfl)
    (case l_law_alike => first | k_is | rfl)
    (case q_law_alike => first | k_is | rfl)
    (case k_law_alike => first | k_is | rfl)
    (case a_law_kept => first | k_is | rfl)
    (case l_law_kept => first | k_is | rfl)
    (case q_law_kept => first | k_is | rfl)
    (case k_law_kept => first | k_is | rfl)
    (case a_law_stands => first | k_is | rfl)
    (case l_law_stands => first | k_is | rfl)
    (case q_law_stands => first | k_is | rfl)
    (case k_law_stands => first | k_is | rfl)
    (case a_law_lifted => first | k_is | rfl)
    (case l_law_lifted => first | k_is | rfl)
    (case q_law_lifted => first | k_is | rfl)
    (case k_law_lifted => first | k_is | rfl)
    (case a_law_all_back => first | k_is | rfl)
    (case l_law_all_back => first | k_is | rfl)
    (case q_law_all_back => first | k_is | rfl)
    (case k_law_all_back => first | k_is | rfl)
    (case a_law_done => first | k_is | rfl)
    (case l_law_done => first | k_is | rfl)
    (case q_law_done => first | k_is | rfl)
    (case k_law_done => first | k_is | rfl)
    (case a_law_goes => first | k_is | rfl)
    (case l_law_goes => first | k_is | rfl)
    (case q_law_goes => first | k_is | rfl)
    (case k_law_goes => first | k_is | rfl)
    (case a_law => first | k_is | rfl)
    (case l_law => first | k_is | rfl)
    (case q_law => first | k_is | rfl)
    (case k_law => first | k_is | rfl)
    (case a_HillError => first | k_is | rfl)
    (case x_HillError => k_exc)
    (case k_HillError => first | k_is | rfl)
    (case e_HillError => first | k_is | rfl)
    (case t_HillError => first | k_is | rfl)
    (case i_HillError => first | k_is | rfl)
    (case a_NoLand => first | k_is | rfl)
    (case x_NoLand => k_exc)
    (case k_NoLand => first | k_is | rfl)
    (case e_NoLand => first | k_is | rfl)
    (case t_NoLand => first | k_is | rfl)
    (case i_NoLand => first | k_is | rfl)
    (case a_NoHill => first | k_is | rfl)
    (case x_NoHill => k_exc)
    (case k_NoHill => first | k_is | rfl)
    (case e_NoHill => first | k_is | rfl)
    (case t_NoHill => first | k_is | rfl)
    (case i_NoHill => first | k_is | rfl)
    (case a_SameHill => first | k_is | rfl)
    (case x_SameHill => k_exc)
    (case k_SameHill => first | k_is | rfl)
    (case e_SameHill => first | k_is | rfl)
    (case t_SameHill => first | k_is | rfl)
    (case i_SameHill => first | k_is | rfl)
    (case a_TooHigh => first | k_is | rfl)
    (case x_TooHigh => k_exc)
    (case k_TooHigh => first | k_is | rfl)
    (case e_TooHigh => first | k_is | rfl)
    (case t_TooHigh => first | k_is | rfl)
    (case i_TooHigh => first | k_is | rfl)
    (case a_NothingDone => first | k_is | rfl)
    (case x_NothingDone => k_exc)
    (case k_NothingDone => first | k_is | rfl)
    (case e_NothingDone => first | k_is | rfl)
    (case t_NothingDone => first | k_is | rfl)
    (case i_NothingDone => first | k_is | rfl)
    (case s_NoHill_NoHill => first | k_is | rfl)
    (case s_TooHigh_NoHill => first | k_is | rfl)
    (case s_TooHigh_TooHigh => first | k_is | rfl)
    (case s_NothingDone_NoHill => first | k_is | rfl)
    (case s_NothingDone_TooHigh => first | k_is | rfl)
    (case s_NothingDone_NothingDone => first | k_is | rfl)
    (case pg_Land => first | k_is | rfl)
    (case hd_Land => first | k_is | rfl)
    (case po_Land => first | k_is | rfl)
    (case sa_Land => first | k_is | rfl)
    (case ms_Land => first | k_is | rfl)
    (case kp_Land => first | k_is | rfl)
    (case hn_obj => first | k_is | rfl)
    (case ht_obj => first | k_is | rfl)
    (case hg_NoHill => first | k_is | rfl)
    (case hk_NoHill => first | k_is | rfl)
    (case hd_NoHill => first | k_is | rfl)
    (case ha_NoHill => first | k_is | rfl)
    (case hm_NoHill => first | k_is | rfl)
    (case kv_NoHill => first | k_is | rfl)
    (case kt_NoHill_NoLand => first | k_is | rfl)
    (case kt_NoHill_NoHill => first | k_is | rfl)
    (case kt_NoHill_SameHill => first | k_is | rfl)
    (case kt_NoHill_TooHigh => first | k_is | rfl)
    (case kt_NoHill_NothingDone => first | k_is | rfl)
    (case kt_NoHill_HillError => first | k_is | rfl)
    (case hg_TooHigh => first | k_is | rfl)
    (case hk_TooHigh => first | k_is | rfl)
    (case hd_TooHigh => first | k_is | rfl)
    (case ha_TooHigh => first | k_is | rfl)
    (case hm_TooHigh => first | k_is | rfl)
    (case kv_TooHigh => first | k_is | rfl)
    (case kt_TooHigh_NoLand => first | k_is | rfl)
    (case kt_TooHigh_NoHill => first | k_is | rfl)
    (case kt_TooHigh_SameHill => first | k_is | rfl)
    (case kt_TooHigh_TooHigh => first | k_is | rfl)
    (case kt_TooHigh_NothingDone => first | k_is | rfl)
    (case kt_TooHigh_HillError => first | k_is | rfl)
    (case hg_NothingDone => first | k_is | rfl)
    (case hk_NothingDone => first | k_is | rfl)
    (case hd_NothingDone => first | k_is | rfl)
    (case ha_NothingDone => first | k_is | rfl)
    (case hm_NothingDone => first | k_is | rfl)
    (case kv_NothingDone => first | k_is | rfl)
    (case kt_NothingDone_NoLand => first | k_is | rfl)
    (case kt_NothingDone_NoHill => first | k_is | rfl)
    (case kt_NothingDone_SameHill => first | k_is | rfl)
    (case kt_NothingDone_TooHigh => first | k_is | rfl)
    (case kt_NothingDone_NothingDone => first | k_is | rfl)
    (case kt_NothingDone_HillError => first | k_is | rfl)
    (case na_hills => first | k_is | rfl)
    (case na_done => first | k_is | rfl)
    (case a_MOST_HILLS => first | k_is | rfl)
    (case a_MOST_HEIGHT => first | k_is | rfl)
    (case n_ValueError => first | k_is | rfl)
    (case n_all => first | k_is | rfl)
    (case n_bool => first | k_is | rfl)
    (case n_int => first | k_is | rfl)
    (case n_isinstance => first | k_is | rfl)
    (case n_len => first | k_is | rfl)
    (case n_list => first | k_is | rfl)
    (case n_range => first | k_is | rfl)
    (case n_str => first | k_is | rfl)
    (case n_tuple => first | k_is | rfl)
