import PyProof.Rows.All
import Wide.All
import OpenK.AllK
import Wide.FinOn
import HandS.ForMost
import HandS.Exc
import HandS.ExcOwn
import HandS.TryOnly
import HandS.TryMany
import HandS.WordsExc
import HandS.IsInst
import HandS.Steps
import HandS.Style
import HandS.ExcCtx
import HandS.HotCalls
import HandS.ExcIs
import HandS.SortInts
import PySem.Challenge.RW_hillsight_k12_lands_checked
set_option Elab.async false
set_option linter.all false
set_option maxRecDepth 100000
set_option maxHeartbeats 4000000
namespace Hs
open PySem PySem.Spec PyProof.Rows L2
/-! ## readings, step by step -/
theorem rd_var {i : Nat} {σ : L2.St} {H : Hp} {Q : VK} {v : V} (h : σ[i]? = some (some v)) (q : Q v H) : tVar i σ H Q := ⟨v, h, q⟩
theorem rd_c {v : V} {σ : L2.St} {H : Hp} {Q : VK} (q : Q v H) : tC v σ H Q := q
theorem rd_op {r : R2} {ta tb : TE} {σ : L2.St} {H : Hp} {Q : VK} (q : ta σ H fun x H1 => tb σ H1 fun y H2 => r x y H2 Q) : tOp r ta tb σ H Q := q
theorem rd_un {r : V → Hp → VK → Prop} {ta : TE} {σ : L2.St} {H : Hp} {Q : VK} (q : ta σ H fun x H1 => r x H1 Q) : tUn r ta σ H Q := q
theorem rd_U {g : Int → V} {i : Int} {H : Hp} {Q : VK} (q : Q (g i) H) : rU g (.int i) H Q := ⟨i, rfl, q⟩
theorem rd_I0 {g : Int → Int → V} {i j : Int} {H : Hp} {Q : VK} (q : Q (g i j) H) : rI0 g (.int i) (.int j) H Q := ⟨i, j, rfl, rfl, q⟩
theorem rd_I {C : Int → Int → Prop} {g : Int → Int → V} {i j : Int} {H : Hp} {Q : VK} (c : C i j) (q : Q (g i j) H) : rI C g (.int i) (.int j) H Q := ⟨i, j, rfl, rfl, c, q⟩
theorem rd_eq {x y : V} {H : Hp} {Q : VK} (c : scal x y = true) (q : Q (.bl (decide (x = y))) H) : rEq x y H Q := ⟨c, q⟩
theorem rd_ne {x y : V} {H : Hp} {Q : VK} (c : scal x y = true) (q : Q (.bl (!decide (x = y))) H) : rNe x y H Q := ⟨c, q⟩
theorem rd_nil {σ : L2.St} {H : Hp} {Q : List V → Hp → Prop} (q : Q [] H) : tNil σ H Q := q
theorem rd_cons {ta : TE} {tr : TA} {σ : L2.St} {H : Hp} {Q : List V → Hp → Prop} (q : ta σ H fun x H1 => tr σ H1 fun xs H2 => Q (x :: xs) H2) : tCons ta tr σ H Q := q
theorem rd_cb {r : List V → Hp → VK → Prop} {ta : TA} {σ : L2.St} {H : Hp} {Q : VK} (q : ta σ H fun xs H1 => r xs H1 Q) : tCB r ta σ H Q := q
theorem rd_call {sp : Sp} {E : XK} {ta : TA} {σ : L2.St} {H : Hp} {Q : VK} (q : ta σ H fun xs H1 => sp (xs ++ []) H1 Q E) : tCall sp [] E ta σ H Q := q
theorem rd_callS {sp : Sp} {E : L2.St → XK} {ta : TA} {σ : L2.St} {H : Hp} {Q : VK} (q : ta σ H fun xs H1 => sp xs H1 Q (E σ)) : tCallS sp E ta σ H Q := q
theorem rd_test {t : TE} {σ : L2.St} {H : Hp} {Q : Bool → Hp → Prop} (q : t σ H fun x H' => ∃ k, x = .bl k ∧ Q k H') : tTest t σ H Q := q
theorem rd_tB {t : TE} {σ : L2.St} {H : Hp} {Q : Bool → Hp → Prop} (q : t σ H fun x H' => ∃ k, x = .bl k ∧ Q k H') : tB t σ H Q := q
theorem rd_bl {k : Bool} {R : Bool → Prop} (q : R k) : ∃ k', V.bl k = .bl k' ∧ R k' := ⟨k, rfl, q⟩
theorem rd_not {t : TT} {σ : L2.St} {H : Hp} {Q : Bool → Hp → Prop} (q : t σ H fun c H1 => Q (!c) H1) : tNot t σ H Q := q
theorem rd_and {t u : TT} {σ : L2.St} {H : Hp} {Q : Bool → Hp → Prop} (q : t σ H fun c H1 => if c = true then u σ H1 Q else Q false H1) : tAnd t u σ H Q := q
theorem rd_or {t u : TT} {σ : L2.St} {H : Hp} {Q : Bool → Hp → Prop} (q : t σ H fun c H1 => if c = true then Q true H1 else u σ H1 Q) : tOr t u σ H Q := q
theorem rd_andV {t u : TE} {σ : L2.St} {H : Hp} {Q : VK} (q : t σ H fun x H1 => ∃ c, x = .bl c ∧ if c = true then u σ H1 Q else Q (.bl false) H1) : tAndV t u σ H Q := q
theorem rd_orV {t u : TE} {σ : L2.St} {H : Hp} {Q : VK} (q : t σ H fun x H1 => ∃ c, x = .bl c ∧ if c = true then Q (.bl true) H1 else u σ H1 Q) : tOrV t u σ H Q := q
theorem rd_notV {t : TE} {σ : L2.St} {H : Hp} {Q : VK} (q : t σ H fun x H1 => ∃ c, x = .bl c ∧ Q (.bl (!c)) H1) : tNotV t σ H Q := q
theorem rd_if {c : TT} {ta tb : TE} {σ : L2.St} {H : Hp} {Q : VK} (q : c σ H fun b H1 => if b = true then ta σ H1 Q else tb σ H1 Q) : tIf c ta tb σ H Q := q
theorem rd_seq {t u : TS} {D : Ends} {σ : L2.St} {H : Hp} (q : t { D with nx := u D } σ H) : tSeq t u D σ H := q
theorem rd_asg {te : TE} {g : TG} {D : Ends} {σ : L2.St} {H : Hp} (q : te σ H fun x H1 => g x σ H1 D.nx) : tAsg te g D σ H := q
theorem rd_name {i : Nat} {v : V} {σ : L2.St} {H : Hp} {Q : L2.St → Hp → Prop} (q : Q (σ.set i (some v)) H) : gName i v σ H Q := q
theorem rd_ret {te : TE} {D : Ends} {σ : L2.St} {H : Hp} (q : te σ H D.rt) : tRet te D σ H := q
theorem rd_drop {te : TE} {D : Ends} {σ : L2.St} {H : Hp} (q : te σ H fun _ H1 => D.nx σ H1) : tDrop te D σ H := q
theorem rd_ifS {c : TT} {t u : TS} {D : Ends} {σ : L2.St} {H : Hp} (q : c σ H fun b H1 => if b = true then t D σ H1 else u D σ H1) : tIfS c t u D σ H := q
theorem rd_next {D : Ends} {σ : L2.St} {H : Hp} (q : D.nx σ H) : tNext D σ H := q
theorem rd_cont {D : Ends} {σ : L2.St} {H : Hp} (q : D.ct σ H) : tCont D σ H := q
theorem rd_tup {ta : TA} {σ : L2.St} {H : Hp} {Q : VK} (q : ta σ H fun xs H1 => xs.length ≤ sizeLine ∧ ∀ p, H1 p = none → Q (.ref p) (upd H1 p (.tup xs))) : tTup ta σ H Q := q
theorem rd_lst {ta : TA} {σ : L2.St} {H : Hp} {Q : VK} (q : ta σ H fun xs H1 => xs.length ≤ sizeLine ∧ ∀ p, H1 p = none → Q (.ref p) (upd H1 p (.lst xs))) : tLst ta σ H Q := q
theorem rd_ixL {K : PySem.W.Frag} {p : Addr} {xs : List V} {i : Int} {v : V} {H : Hp} {Q : VK} (h : SqL K H p xs) (a : atI xs i = some v) (q : Q v H) : rIxL K (.ref p) (.int i) H Q := ⟨p, xs, i, v, rfl, rfl, h, a, q⟩
theorem rd_ixT {K : PySem.W.Frag} {p : Addr} {xs : List V} {i : Int} {v : V} {H : Hp} {Q : VK} (h : SqT K H p xs) (a : atI xs i = some v) (q : Q v H) : rIxT K (.ref p) (.int i) H Q := ⟨p, xs, i, v, rfl, rfl, h, a, q⟩
theorem rd_yes {c A B : Prop} [Decidable c] (hc : c) (q : A) : if c then A else B := by rw [if_pos hc]; exact q
theorem rd_no {c A B : Prop} [Decidable c] (hc : ¬ c) (q : B) : if c then A else B := by rw [if_neg hc]; exact q
/-! ## heaps -/
theorem same_upd {H : Hp} {p : Addr} {o : HO} (h : H p = none) : Same H (upd H p o) := fun b x e => by
  rw [upd_ne (ne_of_none e h)]
  exact e
theorem Same.seqT {K : PySem.W.Frag} {H H' : Hp} {a : Addr} {xs : List V} (e : Same H H') (h : SqT K H a xs) : SqT K H' a xs := by
  rcases h with (h | ⟨o, h⟩) | h
  · exact .inl (.inl (e _ _ h))
  · exact .inl (.inr ⟨o, e _ _ h⟩)
  · exact .inr h
theorem sz (n : Nat) (h : n ≤ 100000 := by decide) : n ≤ sizeLine := Nat.le_trans h (by decide)
theorem szlt {n : Nat} (h : n < 100000) : n < sizeLine := Nat.lt_of_lt_of_le h (by decide)
abbrev IL (ns : List Int) : List V := ns.map V.int
theorem IL_get {ns : List Int} {k : Nat} (h : k < ns.length) : (IL ns)[k]? = some (V.int (ns.getD k 0)) := by
  rw [List.getElem?_map, List.getElem?_eq_getElem h, List.getD_eq_getElem?_getD, List.getElem?_eq_getElem h]
  rfl
theorem IL_at {ns : List Int} {i : Int} (h0 : 0 ≤ i) (h : i < ns.length) : atI (IL ns) i = some (V.int (ns.getD i.toNat 0)) := by
  obtain ⟨k, rfl⟩ : ∃ k : Nat, i = (k : Int) := ⟨i.toNat, by omega⟩
  have hk : k < ns.length := by omega
  exact atI_nat (IL_get hk)
/-! ## the law's cells -/
def cell (ns : List Int) (k : Nat) : Int := ns.getD k 0
/-! ## loops, cuts, methods -/
theorem rd_cut {t u : TS} {D : Ends} {σ : L2.St} {H : Hp} (J : L2.St → Hp → Prop) (h : ∀ N : L2.St → Hp → Prop, (∀ σ' H', J σ' H' → N σ' H') → t { D with nx := N } σ H) (k : ∀ σ' H', J σ' H' → u D σ' H') : tSeq t u D σ H := h (u D) k
theorem rd_for {wi : TI} {g : TG} {tb : TS} {D : Ends} {σ : L2.St} {H : Hp} (q : wi σ H fun J H1 => ∃ W : Nat → Nat → L2.St → Hp → Prop, (∃ m, W 0 m σ H1) ∧ ∀ i m σ H, W i m σ H →
    (J.stop i H ∧ D.nx σ H) ∨ (J.go i H ∧ ∃ N : L2.St → Hp → Prop, (∀ σ' H', N σ' H' → ∃ m', m' < m ∧ W (i + 1) m' σ' H') ∧ ∀ x H', J.yld i H x H' → g x σ H' fun σ2 H2 => tb { D with nx := N, ct := N, bk := D.nx } σ2 H2)) : tFor wi g tb D σ H := q
/-- what a for over a range asks, its bound known -/
abbrev LoopR (lo : Int) (n : Nat) (g : TG) (tb : TS) (D : Ends) (σ : L2.St) (H : Hp) : Prop := ∃ W : Nat → Nat → L2.St → Hp → Prop, (∃ m, W 0 m σ H) ∧ ∀ i m σ H, W i m σ H →
    ((Itr lo n).stop i H ∧ D.nx σ H) ∨ ((Itr lo n).go i H ∧ ∃ N : L2.St → Hp → Prop, (∀ σ' H', N σ' H' → ∃ m', m' < m ∧ W (i + 1) m' σ' H') ∧ ∀ x H', (Itr lo n).yld i H x H' → g x σ H' fun σ2 H2 => tb { D with nx := N, ct := N, bk := D.nx } σ2 H2)
theorem rd_rng1 {ta : TA} {σ : L2.St} {H : Hp} {R : It → Hp → Prop} (q : ta σ H fun vs H1 => ∃ j : Int, vs = [.int j] ∧ -(2 ^ 62) ≤ j ∧ j < 2 ^ 62 ∧ R (Itr 0 j.toNat) H1) : iRng1 ta σ H R := q
theorem rd_rng2 {ta : TA} {σ : L2.St} {H : Hp} {R : It → Hp → Prop} (q : ta σ H fun vs H1 => ∃ i j : Int, vs = [.int i, .int j] ∧ (-(2 ^ 62) ≤ i ∧ i < 2 ^ 62 ∧ -(2 ^ 62) ≤ j ∧ j < 2 ^ 62) ∧ R (Itr i (j - i).toNat) H1) : iRng2 ta σ H R := q
theorem rd_iList {K : PySem.W.Frag} {tl : TE} {σ : L2.St} {H : Hp} {R : It → Hp → Prop} (q : tl σ H fun x H1 => ∃ a, x = .ref a ∧ (∃ xs, SqL K H1 a xs) ∧ R (Itl K a) H1) : iList K tl σ H R := q
theorem rd_iTup {K : PySem.W.Frag} {tl : TE} {σ : L2.St} {H : Hp} {R : It → Hp → Prop} (q : tl σ H fun x H1 => ∃ a, x = .ref a ∧ (∃ xs, SqT K H1 a xs) ∧ R (Itt K a) H1) : iTup K tl σ H R := q
/-- behind the argument of range: the bound, an invariant by the turn -/
theorem rng1 {n : Int} {g : TG} {tb : TS} {D : Ends} {σ : L2.St} {H : Hp} (b : -1000000 ≤ n ∧ n ≤ 1000000) (Pv : Nat → L2.St → Hp → Prop) (h0 : Pv 0 σ H)
    (hs : ∀ (k : Nat) σ' H', (k : Int) < n → Pv k σ' H' → g (.int (k : Int)) σ' H' fun σ2 H2 => tb { D with nx := Pv (k + 1), ct := Pv (k + 1), bk := D.nx } σ2 H2) (hd : ∀ σ' H', Pv n.toNat σ' H' → D.nx σ' H') :
    ∃ j : Int, [V.int n] = [.int j] ∧ -(2 ^ 62) ≤ j ∧ j < 2 ^ 62 ∧ LoopR 0 j.toNat g tb D σ H := by
  refine ⟨n, rfl, by omega, by omega, for_range (lo := 0) (n := n.toNat) Pv h0 (fun i σ' H' hi p => ?_) hd⟩
  have e0 : (0 : Int) + (i : Int) = (i : Int) := Int.zero_add _
  rw [e0]
  exact hs i σ' H' (by omega) p
theorem rng2 {lo n : Int} {g : TG} {tb : TS} {D : Ends} {σ : L2.St} {H : Hp} (b : (-1000000 ≤ lo ∧ lo ≤ 1000000) ∧ -1000000 ≤ n ∧ n ≤ 1000000) (Pv : Nat → L2.St → Hp → Prop) (h0 : Pv 0 σ H)
    (hs : ∀ (k : Nat) σ' H', lo + (k : Int) < n → Pv k σ' H' → g (.int (lo + (k : Int))) σ' H' fun σ2 H2 => tb { D with nx := Pv (k + 1), ct := Pv (k + 1), bk := D.nx } σ2 H2) (hd : ∀ σ' H', Pv (n - lo).toNat σ' H' → D.nx σ' H') :
    ∃ i j : Int, [V.int lo, V.int n] = [.int i, .int j] ∧ (-(2 ^ 62) ≤ i ∧ i < 2 ^ 62 ∧ -(2 ^ 62) ≤ j ∧ j < 2 ^ 62) ∧ LoopR i (j - i).toNat g tb D σ H := by
  refine ⟨lo, n, rfl, ⟨by omega, by omega, by omega, by omega⟩, for_range (lo := lo) (n := (n - lo).toNat) Pv h0 (fun i σ' H' hi p => hs i σ' H' (by omega) p) hd⟩
theorem rd_bm {K : PySem.W.Frag} {T : String} {r : V → List V → Hp → VK → Prop} {to : TE} {t : TA} {σ : L2.St} {H : Hp} {Q : VK} (q : to σ H fun x H1 => tyV K T x H1 ∧ t σ H1 fun xs H2 => r x xs H2 Q) : tBM K T r to t σ H Q := q
theorem rd_bm0 {K : PySem.W.Frag} {T : String} {r : V → List V → Hp → VK → Prop} {to : TE} {σ : L2.St} {H : Hp} {Q : VK} (q : to σ H fun x H1 => tyV K T x H1 ∧ r x [] H1 Q) : tBM0 K T r to σ H Q := q
theorem ty_list {K : PySem.W.Frag} {H : Hp} {l : Addr} {xs : List V} (h : SqL K H l xs) : tyV K "list" (.ref l) H := .inl ⟨rfl, _, h⟩
theorem rd_append {H : Hp} {l : Addr} {xs : List V} {y : V} {Q : VK} (h : H l = some (.lst xs)) (hz : xs.length < 100000) (q : Q .non (upd H l (.lst (xs ++ [y])))) : rAppend (.ref l) [y] H Q := ⟨l, xs, y, rfl, rfl, h, szlt hz, q⟩
theorem rd_gTup2 {K : PySem.W.Frag} {i j : Nat} {a : Addr} {x y : V} {σ : L2.St} {H : Hp} {Q : L2.St → Hp → Prop} (h : SqT K H a [x, y]) (q : Q ((σ.set i (some x)).set j (some y)) H) : gTup K 2 (gCons (gName i) (gCons (gName j) gNil)) (.ref a) σ H Q :=
  ⟨a, [x, y], rfl, h, rfl, x, [y], rfl, y, [], rfl, rfl, q⟩
theorem same_sq {K : PySem.W.Frag} {H H' : Hp} {a : Addr} {xs : List V} (e : Same H H') (h : SqL K H a xs) : SqL K H' a xs := e.seq h
theorem upd_keep {H : Hp} {a b : Addr} {o u : HO} (h : H a = some o) (n : H b = none) : upd H b u a = some o := by rw [upd_ne (ne_of_none h n)]; exact h
/-! ## the law's cells -/
def spCell (K : PySem.W.Frag) : Sp := fun vs H Q _ => ∃ (l : Addr) (ns : List Int) (k : Int), vs = [.ref l, .int k] ∧ 0 ≤ k ∧ SqL K H l (IL ns) ∧ Q (.int (cell ns k.toNat)) H
theorem rd_cell {K : PySem.W.Frag} {l : Addr} {ns : List Int} {k : Int} {H : Hp} {Q : VK} {E : XK} (h0 : 0 ≤ k) (h : SqL K H l (IL ns)) (q : Q (.int (cell ns k.toNat)) H) : spCell K ([V.ref l, V.int k] ++ []) H Q E := ⟨l, ns, k, rfl, h0, h, q⟩
theorem rd_isi {K : PySem.W.Frag} {H : Hp} {x : V} {t n : String} {b : Bool} {Q : VK} (ty : TyX K H x (.type t)) (e : kitB t n = some b) (q : Q (.bl b) H) : rIsi K [x, .ty n] H Q := ⟨x, .ty n, _, _, b, rfl, .ty _, ty, kit_ty e, q⟩
theorem ty_lst {K : PySem.W.Frag} {H : Hp} {a : Addr} {xs : List V} (h : H a = some (.lst xs)) : TyX K H (.ref a) (.type "list") := .base (.lst h)
theorem ty_tup {K : PySem.W.Frag} {H : Hp} {a : Addr} {xs : List V} (h : H a = some (.tup xs)) : TyX K H (.ref a) (.type "tuple") := .base (.tup h)
theorem emod_b {x n : Int} (h : 0 < n) : 0 ≤ x % n ∧ x % n < n := ⟨Int.emod_nonneg _ (by omega), Int.emod_lt_of_pos _ h⟩
theorem IL_snoc (zs : List Int) (z : Int) : IL zs ++ [V.int z] = IL (zs ++ [z]) := by simp [IL]
theorem upd_snoc {H : Hp} {L : Addr} {o : HO} {zs : List Int} {z : Int} : upd (upd H L o) L (.lst (IL zs ++ [V.int z])) = upd H L (.lst (IL (zs ++ [z]))) := by rw [upd_upd, IL_snoc]
theorem len_snoc {α : Type} {zs : List α} {z : α} {i : Nat} (h : zs.length = i) : (zs ++ [z]).length = i + 1 := by rw [List.length_append, h]; rfl
/-! ## what stands over a change -/
theorem Same.mut {H H' : Hp} {p : Addr} {o : HO} (e : Same H H') (h : H p = none) : Same H (upd H' p o) := fun a u ha => by
  rw [upd_ne (ne_of_none ha h)]
  exact e a u ha
theorem SqT.upd {K : PySem.W.Frag} {H : Hp} {D t : Addr} {ys xs : List V} {o : HO} (hD : H D = some (.lst ys)) (h : SqT K H t xs) : SqT K (upd H D o) t xs := by
  rcases h with (h | ⟨u, h⟩) | h
  · exact .inl (.inl (by rw [upd_ne (ne_of h hD (by intro z; cases z))]; exact h))
  · exact .inl (.inr ⟨u, by rw [upd_ne (ne_of h hD (by intro z; cases z))]; exact h⟩)
  · exact .inr h
theorem SqL.upd {K : PySem.W.Frag} {H : Hp} {D t : Addr} {xs : List V} {o : HO} (hD : t ≠ D) (h : SqL K H t xs) : SqL K (upd H D o) t xs := by
  rcases h with (h | ⟨u, h⟩) | h
  · exact .inl (.inl (by rw [upd_ne hD]; exact h))
  · exact .inl (.inr ⟨u, by rw [upd_ne hD]; exact h⟩)
  · exact .inr h
theorem rd_lc {wi : TI} {g : TG} {tt : TT} {te : TE} {vs : List Nat} {σ : L2.St} {H : Hp} {Q : VK} (q : wi σ H fun J H1 => ∀ D, H1 D = none → ∃ W : Nat → Nat → Hp → Prop, (∃ m, W 0 m (upd H1 D (.lst []))) ∧ ∀ i m H, W i m H →
  (J.stop i H ∧ Q (.ref D) H) ∨ (J.go i H ∧ ∃ Nx : Hp → Prop, (∀ H', Nx H' → ∃ m', m' < m ∧ W (i + 1) m' H') ∧ ∀ x H', J.yld i H x H' → g x (wipe σ vs) H' fun σ2 H2 => wipe σ2 vs = wipe σ vs ∧ tt σ2 H2 fun b H3 =>
    if b = true then te σ2 H3 fun y H4 => ∃ acc, H4 D = some (.lst acc) ∧ acc.length < sizeLine ∧ Nx (upd H4 D (.lst (acc ++ [y]))) else Nx H3)) : tLc wi g tt te vs σ H Q := q
theorem rd_tYes {σ : L2.St} {H : Hp} {Q : Bool → Hp → Prop} (q : Q true H) : tYes σ H Q := q
theorem rd_isN {x : V} {H : Hp} {Q : VK} (q : Q (.bl (decide (x = .non))) H) : rIsN x .non H Q := ⟨rfl, q⟩
theorem rd_notN {x : V} {H : Hp} {Q : VK} (q : Q (.bl (!decide (x = .non))) H) : rNotN x .non H Q := ⟨rfl, q⟩
theorem rd_chain {r r' : R2} {ta tb tc : TE} {σ : L2.St} {H : Hp} {Q : VK} (q : ta σ H fun x H1 => tb σ H1 fun y H2 => r x y H2 fun z H3 => ∃ k, z = .bl k ∧ (if k = true then tc σ H3 fun w' H4 => r' y w' H4 Q else Q (.bl false) H3)) : tChain r r' ta tb tc σ H Q := q
theorem iteNT {A B : Prop} (h : B) : if (!true) = true then A else B := iteF h
theorem iteNF {A B : Prop} (h : A) : if (!false) = true then A else B := iteT h
/-- what a while asks: a word with its measure -/
theorem rd_while {c : TT} {tb : TS} {D : Ends} {σ : L2.St} {H : Hp} (W : Nat → L2.St → Hp → Prop) (m : Nat) (h0 : W m σ H)
    (hs : ∀ m σ H, W m σ H → ∀ N : L2.St → Hp → Prop, (∀ m' σ' H', m' < m → W m' σ' H' → N σ' H') → c σ H fun b H1 => if b = true then tb { D with nx := N, ct := N, bk := D.nx } σ H1 else D.nx σ H1)
    (mono : ∀ σ H Q Q', (∀ b H1, Q b H1 → Q' b H1) → c σ H Q → c σ H Q') : tWhile c tb D σ H := by
  refine ⟨W, ⟨m, h0⟩, fun m σ H w => ?_⟩
  refine mono σ H _ _ (fun b H1 q => ?_) (hs m σ H w (fun σ' H' => ∃ m', m' < m ∧ W m' σ' H') (fun m' σ' H' h w' => ⟨m', h, w'⟩))
  cases b with
  | true => exact iteT ⟨_, fun σ' H' n => n, q⟩
  | false => exact q
/-! ## storing at an index -/
theorem rd_gSub {to ti : TE} {t : TSet} {v : V} {σ : L2.St} {H : Hp} {Q : L2.St → Hp → Prop} (q : to σ H fun o H1 => ti σ H1 fun i H2 => t o i v H2 fun H3 => Q σ H3) : gSub to ti t v σ H Q := q
theorem rd_setL {H : Hp} {p : Addr} {xs : List V} {i : Nat} {v : V} {Q : Hp → Prop} (h : H p = some (.lst xs)) (hi : i < xs.length) (q : Q (upd H p (.lst (xs.set i v)))) : rSetL (.ref p) (.int (i : Int)) v H Q :=
  ⟨p, xs, (i : Int), i, rfl, rfl, h, by unfold ixN; rw [if_pos (by omega), if_pos (by omega)]; rfl, q⟩
theorem rd_aug {i : Nat} {te : TE} {ti : TIp} {D : Ends} {σ : L2.St} {H : Hp} {x : V} (h : σ[i]? = some (some x)) (q : te σ H fun y H1 => ti x y H1 fun z H2 => D.nx (σ.set i (some z)) H2) : tAug i te ti D σ H := ⟨x, h, q⟩
theorem rd_ipI {f : Int → Int → Int} {i j : Int} {H : Hp} {Q : VK} (q : Q (.int (f i j)) H) : ipI f (.int i) (.int j) H Q := ⟨i, j, rfl, rfl, q⟩

/-! ## the rules with K said -/
section
variable {X : Cx} {K : PySem.W.Frag}
theorem ix_listK (h : X.K = K) : IxR X (rIxL K) := by subst h; exact ix_list
theorem ix_tupK (h : X.K = K) : IxR X (rIxT K) := by subst h; exact ix_tup
theorem call_isiK0 (h : X.K = K) : CallR X (.builtin "isinstance") (rIsi K) := by subst h; exact call_isi
def rLenK (K : PySem.W.Frag) : List V → Hp → VK → Prop := fun xs H Q => ∃ p ys, xs = [.ref p] ∧ (SqL K H p ys ∨ SqT K H p ys) ∧ Q (.int ys.length) H
theorem call_lenK (h : X.K = K) : CallR X (.builtin "len") (rLenK K) := by subst h; exact call_len_seq
def rListK (K : PySem.W.Frag) : List V → Hp → VK → Prop := fun xs H Q => ∃ p ys, xs = [.ref p] ∧ (SqL K H p ys ∨ SqT K H p ys) ∧ ∀ l, H l = none → Q (.ref l) (upd H l (.lst ys))
theorem call_listK (h : X.K = K) : CallR X (.type "list") (rListK K) := by subst h; exact call_list_of
theorem op_eqDK (h : X.K = K) (hu : X.A.units + 64 < cLine) : OpR X (compareOp .Eq) (rEqD K) := by subst h; exact op_eqD hu
theorem op_neDK (h : X.K = K) (hu : X.A.units + 64 < cLine) : OpR X (compareOp .NotEq) (rNeD K) := by subst h; exact op_neD hu
theorem sl_listK (h : X.K = K) : SlR X (rSlL K) := by subst h; exact sl_list
theorem cr_allK (h : X.K = K) (hc : X.calm = true) : CallR X (.builtin "all") (rAll K) := by subst h; exact cr_all hc
theorem cr_anyK (h : X.K = K) (hc : X.calm = true) : CallR X (.builtin "any") (rAny K) := by subst h; exact cr_any hc
theorem cr_minK (h : X.K = K) (hc : X.calm = true) : CallR X (.builtin "min") (rMin K) := by subst h; exact cr_min hc
theorem op_ltTK (h : X.K = K) (hu : X.A.units < cLine) : OpR X (compareOp .Lt) (rLtT K) := by subst h; exact op_ltT hu
theorem op_inK (h : X.K = K) : OpR X (compareOp .In) (rIn K false) := by subst h; exact op_in_seq
theorem pi_listK {tg l : Expr} {tl : TE} (h : X.K = K) (hl : PE X l tl) : PI X tg l (iList K tl) := by subst h; exact pi_list hl
theorem pi_tupK {tg l : Expr} {tl : TE} (h : X.K = K) (hl : PE X l tl) : PI X tg l (iTup K tl) := by subst h; exact pi_tup hl
theorem pg_tupK {es : List Expr} {k : Nat} {t : TGs} {n : Nat} {pos : Pos} (h : X.K = K) (hc : X.calm = true) (hg : PGs X es t)
    (hn : (assignEach es X.env).length = n := by rfl) (hst : (assignEach es X.env).findIdx? (·.1) = none := by rfl) : PG X (.Tuple es k pos) (gTup K n t) := by subst h; exact pg_tup hc hg hn hst
section
variable {o e : Expr} {es : List Expr} {to : TE} {t : TA} {name : Str} {apos cpos : Pos} {T id : String} {r : V → List V → Hp → VK → Prop}
theorem pe_bm0K (h : X.K = K) (pa : PlainAttrs T) (slot : Slot T name id) (hty : typeOf (.builtin id) = pure (.type "method_descriptor")) (hm : MtR X id r) (ho : PE X o to)
    (hbase : attributeBase o name X.env (eval o X.env) = eval o X.env := by rfl) (hline : (apos.endLine == cpos.line) = true := by rfl) : PE X (.Call (.Attribute o name apos) [] [] cpos) (tBM0 K T r to) := by
  subst h; exact pe_bm0 pa slot hty hm ho hbase hline
theorem pe_bmK (h : X.K = K) (pa : PlainAttrs T) (slot : Slot T name id) (hty : typeOf (.builtin id) = pure (.type "method_descriptor")) (hm : MtR X id r) (ho : PE X o to) (ha : PA X (e :: es) t)
    (hbase : attributeBase o name X.env (eval o X.env) = eval o X.env := by rfl)
    (hfew : ((backTo cpos (starEach (e :: es) X.env)).all (fun x => !x.1) && (backToKw cpos (keywordEach [] X.env)).all (fun x => x.1.isSome)
      && decide ((e :: es).length + ([] : List Keyword).length + (if ([] : List Keyword).isEmpty then 0 else 1) < 30)) = true := by rfl)
    (hline : (apos.endLine == cpos.line) = true := by rfl) (hs : starEach (e :: es) X.env = (false, eval e X.env) :: starEach es X.env := by rfl) (hplain : (backTo cpos (starEach es X.env)).any (·.1) = false := by rfl) :
    PE X (.Call (.Attribute o name apos) (e :: es) [] cpos) (tBM K T r to t) := by
  subst h; exact pe_bm pa slot hty hm ho ha hbase hfew hline hs hplain
end
end
def rMin2 : List V → Hp → VK → Prop := fun xs H Q => ∃ i j, xs = [.int i, .int j] ∧ Q (.int (if j < i then j else i)) H
def rMax2 : List V → Hp → VK → Prop := fun xs H Q => ∃ i j, xs = [.int i, .int j] ∧ Q (.int (if j > i then j else i)) H
theorem call_min2K {X : Cx} (hc : X.calm = true) : CallR X (.builtin "min") rMin2 := call_min2 hc
theorem call_max2K {X : Cx} (hc : X.calm = true) : CallR X (.builtin "max") rMax2 := call_max2 hc
theorem rd_min2 {a b : Nat} {H : Hp} {Q : VK} (q : Q (.int ((min a b : Nat) : Int)) H) : rMin2 [.int (a : Int), .int (b : Int)] H Q := by
  refine ⟨_, _, rfl, ?_⟩
  have m1 : ((min a b : Nat) : Int) = if (b : Int) < (a : Int) then (b : Int) else (a : Int) := by split <;> omega
  rw [m1] at q
  exact q
theorem rd_max2 {a b : Nat} {H : Hp} {Q : VK} (q : Q (.int ((max a b : Nat) : Int)) H) : rMax2 [.int (a : Int), .int (b : Int)] H Q := by
  refine ⟨_, _, rfl, ?_⟩
  have m2 : ((max a b : Nat) : Int) = if (b : Int) > (a : Int) then (b : Int) else (a : Int) := by split <;> omega
  rw [m2] at q
  exact q
def rAbs : List V → Hp → VK → Prop := fun xs H Q => ∃ i, xs = [.int i] ∧ Q (.int (if i < 0 then -i else i)) H
theorem call_absK {X : Cx} : CallR X (.builtin "abs") rAbs := call_abs
theorem rd_abs {i : Int} {H : Hp} {Q : VK} (q : Q (.int (i.natAbs : Int)) H) : rAbs [.int i] H Q := by
  refine ⟨i, rfl, ?_⟩
  have : ((i.natAbs : Nat) : Int) = if i < 0 then -i else i := by split <;> omega
  rw [this] at q
  exact q

/-! ## comprehensions -/
theorem rd_len {K : PySem.W.Frag} {H : Hp} {a : Addr} {xs : List V} {Q : VK} (h : SqL K H a xs) (q : Q (.int xs.length) H) : rLenK K [.ref a] H Q := ⟨a, xs, rfl, .inl h, q⟩
theorem rd_lenT {K : PySem.W.Frag} {H : Hp} {a : Addr} {xs : List V} {Q : VK} (h : SqT K H a xs) (q : Q (.int xs.length) H) : rLenK K [.ref a] H Q := ⟨a, xs, rfl, .inr h, q⟩
theorem rd_list {K : PySem.W.Frag} {H : Hp} {a : Addr} {xs : List V} {Q : VK} (h : SqL K H a xs) (q : ∀ l, H l = none → Q (.ref l) (upd H l (.lst xs))) : rListK K [.ref a] H Q := ⟨a, xs, rfl, .inl h, q⟩
/-- what a comprehension over a list, over a range asks of its block -/
abbrev CompO (J : It) (g : TG) (tt : TT) (te : TE) (vs : List Nat) (σ : L2.St) (H1 : Hp) (D : Addr) (Qd : Hp → Prop) : Prop :=
  ∃ W : Nat → Nat → Hp → Prop, (∃ m, W 0 m (upd H1 D (.lst []))) ∧ ∀ i m H, W i m H →
    (J.stop i H ∧ Qd H) ∨ (J.go i H ∧ ∃ Nx : Hp → Prop, (∀ H', Nx H' → ∃ m', m' < m ∧ W (i + 1) m' H') ∧ ∀ x H', J.yld i H x H' → g x (wipe σ vs) H' fun σ2 H2 => wipe σ2 vs = wipe σ vs ∧ tt σ2 H2 fun b H3 =>
      if b = true then te σ2 H3 fun y H4 => ∃ acc, H4 D = some (.lst acc) ∧ acc.length < sizeLine ∧ Nx (upd H4 D (.lst (acc ++ [y]))) else Nx H3)
theorem filter_range_succ {p : Nat → Bool} {i : Nat} : (List.range (i + 1)).filter p = (List.range i).filter p ++ (if p i = true then [i] else []) := by
  rw [List.range_succ, List.filter_append]
  congr 1
  by_cases h : p i = true <;> simp [h]
theorem filter_len {α : Type} (p : α → Bool) (l : List α) : (l.filter p).length ≤ l.length := List.length_filter_le p l
theorem lc_rangeF {n : Nat} {D : Addr} {σ : L2.St} {vs : List Nat} {s : Nat} {tt : TT} {te : TE} {H1 : Hp} {Qd : Hp → Prop} (p : Nat → Bool) (f : Nat → V) (nD : H1 D = none) (hlen : n < 100000) (hw : ∀ v, wipe ((wipe σ vs).set s (some v)) vs = wipe σ vs)
    (ht : ∀ (i : Nat) H' (R : Bool → Hp → Prop), i < n → Same H1 H' → (∀ H'', Same H' H'' → R (p i) H'') → tt ((wipe σ vs).set s (some (.int (i : Int)))) H' R)
    (he : ∀ (i : Nat) H' (R : VK), i < n → p i = true → Same H1 H' → (∀ H'', Same H' H'' → R (f i) H'') → te ((wipe σ vs).set s (some (.int (i : Int)))) H' R)
    (hd : ∀ H', Same H1 H' → H' D = some (.lst (((List.range n).filter p).map f)) → Qd H') : CompO (Itr 0 n) (gName s) tt te vs σ H1 D Qd := by
  refine lc_range (lo := 0) (n := n) (fun i H' => Same H1 H' ∧ H' D = some (.lst (((List.range i).filter p).map f))) ⟨same_upd nD, upd_same⟩ (fun i H' hi ⟨s1, hD⟩ => ?_) (fun H' ⟨s1, hD⟩ => hd H' s1 hD)
  show wipe ((wipe σ vs).set s (some (.int (0 + (i : Int))))) vs = wipe σ vs ∧ _
  rw [show (0 : Int) + (i : Int) = (i : Int) by omega]
  refine ⟨hw _, ht i H' _ hi s1 fun H2 s2 => ?_⟩
  cases hp : p i with
  | true =>
    refine iteT ?_
    refine he i H2 _ hi hp (s1.trans s2) fun H3 s3 => ?_
    refine ⟨_, s3 _ _ (s2 _ _ hD), ?_, Same.mut ((s1.trans s2).trans s3) nD, ?_⟩
    · have := filter_len p (List.range i)
      rw [List.length_map]
      rw [List.length_range] at this
      exact szlt (by omega)
    · rw [upd_same, filter_range_succ, hp, if_pos rfl, List.map_append]
      rfl
  | false =>
    refine iteF ?_
    refine ⟨s1.trans s2, ?_⟩
    rw [s2 _ _ hD, filter_range_succ, hp, if_neg (by decide), List.append_nil]
theorem lc_rangeM {n : Nat} {D : Addr} {σ : L2.St} {vs : List Nat} {s : Nat} {te : TE} {H1 : Hp} {Qd : Hp → Prop} (f : Nat → V) (nD : H1 D = none) (hlen : n < 100000) (hw : ∀ v, wipe ((wipe σ vs).set s (some v)) vs = wipe σ vs)
    (he : ∀ (i : Nat) H' (R : VK), i < n → Same H1 H' → (∀ H'', Same H' H'' → R (f i) H'') → te ((wipe σ vs).set s (some (.int (i : Int)))) H' R)
    (hd : ∀ H', Same H1 H' → H' D = some (.lst ((List.range n).map f)) → Qd H') : CompO (Itr 0 n) (gName s) tYes te vs σ H1 D Qd :=
  lc_rangeF (fun _ => true) f nD hlen hw (fun i H' R _ _ q => q H' (Same.refl _)) (fun i H' R hi _ s1 q => he i H' R hi s1 q) (fun H' s1 h => hd H' s1 (by rw [h, List.filter_eq_self.mpr (fun _ _ => rfl)]))
theorem take_filter_succ {α : Type} {p : α → Bool} {xs : List α} {i : Nat} {x : α} (h : xs[i]? = some x) : (xs.take (i + 1)).filter p = (xs.take i).filter p ++ (if p x = true then [x] else []) := by
  rw [List.take_add_one, h, List.filter_append]
  congr 1
  by_cases hp : p x = true <;> simp [hp]
/-- over a list: the target of any form stores at some slots; T: what it leaves -/
theorem lc_listG {K : PySem.W.Frag} {a D : Addr} {xs : List V} {g : TG} {σ : L2.St} {vs : List Nat} {tt : TT} {te : TE} {H1 : Hp} {Qd : Hp → Prop} (T : V → L2.St) (p : V → Bool) (f : V → V) (hL : SqL K H1 a xs) (nD : H1 D = none) (hlen : xs.length < 100000)
    (hg : ∀ x H' (R : L2.St → Hp → Prop), x ∈ xs → Same H1 H' → R (T x) H' → g x (wipe σ vs) H' R) (hw : ∀ x ∈ xs, wipe (T x) vs = wipe σ vs)
    (ht : ∀ x H' (R : Bool → Hp → Prop), x ∈ xs → Same H1 H' → (∀ H'', Same H' H'' → R (p x) H'') → tt (T x) H' R)
    (he : ∀ x H' (R : VK), x ∈ xs → p x = true → Same H1 H' → (∀ H'', Same H' H'' → R (f x) H'') → te (T x) H' R)
    (hd : ∀ H', Same H1 H' → H' D = some (.lst ((xs.filter p).map f)) → Qd H') : CompO (Itl K a) g tt te vs σ H1 D Qd := by
  refine lc_list (K := K) (a := a) (xs := xs) (fun i H' => Same H1 H' ∧ H' D = some (.lst (((xs.take i).filter p).map f))) ⟨same_upd nD, upd_same⟩ (fun i H' _ ⟨s1, _⟩ => s1.seq hL) (fun i x H' hx ⟨s1, hD⟩ => ?_) (fun H' ⟨s1, hD⟩ => hd H' s1 (by rw [hD, List.take_length]))
  have hm := List.mem_of_getElem? hx
  refine hg x H' _ hm s1 ⟨hw x hm, ht x H' _ hm s1 fun H2 s2 => ?_⟩
  have hi : i < xs.length := (List.getElem?_eq_some_iff.mp hx).1
  cases hp : p x with
  | true =>
    refine iteT ?_
    refine he x H2 _ hm hp (s1.trans s2) fun H3 s3 => ?_
    refine ⟨_, s3 _ _ (s2 _ _ hD), ?_, Same.mut ((s1.trans s2).trans s3) nD, ?_⟩
    · have := filter_len p (xs.take i)
      rw [List.length_map]
      rw [List.length_take] at this
      exact szlt (by omega)
    · rw [upd_same, take_filter_succ hx, hp, if_pos rfl, List.map_append]
      rfl
  | false =>
    refine iteF ?_
    refine ⟨s1.trans s2, ?_⟩
    rw [s2 _ _ hD, take_filter_succ hx, hp, if_neg (by decide), List.append_nil]
theorem lc_listM {K : PySem.W.Frag} {a D : Addr} {xs : List V} {s : Nat} {σ : L2.St} {vs : List Nat} {te : TE} {H1 : Hp} {Qd : Hp → Prop} (f : V → V) (hL : SqL K H1 a xs) (nD : H1 D = none) (hlen : xs.length < 100000)
    (hw : ∀ v, wipe ((wipe σ vs).set s (some v)) vs = wipe σ vs)
    (he : ∀ x H' (R : VK), x ∈ xs → Same H1 H' → (∀ H'', Same H' H'' → R (f x) H'') → te ((wipe σ vs).set s (some x)) H' R)
    (hd : ∀ H', Same H1 H' → H' D = some (.lst (xs.map f)) → Qd H') : CompO (Itl K a) (gName s) tYes te vs σ H1 D Qd :=
  lc_listG (fun x => (wipe σ vs).set s (some x)) (fun _ => true) f hL nD hlen (fun x H' R _ _ q => q) (fun x _ => hw x) (fun x H' R _ _ q => q H' (Same.refl _)) (fun x H' R hx _ s1 q => he x H' R hx s1 q)
    (fun H' s1 h => hd H' s1 (by rw [h, List.filter_eq_self.mpr (fun _ _ => rfl)]))
theorem IL_mapR (n : Nat) (f : Nat → Int) : (List.range n).map (fun i => V.int (f i)) = IL ((List.range n).map f) := by rw [IL, List.map_map]; rfl
theorem IL_mapL (xs : List Int) (f : V → V) (h : Int → Int) (e : ∀ x, f (.int x) = .int (h x)) : (IL xs).map f = IL (xs.map h) := by
  rw [IL, IL, List.map_map, List.map_map]
  exact List.map_congr_left fun x _ => e x
theorem lc_range2M {lo : Int} {n : Nat} {D : Addr} {σ : L2.St} {vs : List Nat} {s : Nat} {te : TE} {H1 : Hp} {Qd : Hp → Prop} (f : Nat → V) (nD : H1 D = none) (hlen : n < 100000) (hw : ∀ v, wipe ((wipe σ vs).set s (some v)) vs = wipe σ vs)
    (he : ∀ (i : Nat) H' (R : VK), i < n → Same H1 H' → (∀ H'', Same H' H'' → R (f i) H'') → te ((wipe σ vs).set s (some (.int (lo + (i : Int))))) H' R)
    (hd : ∀ H', Same H1 H' → H' D = some (.lst ((List.range n).map f)) → Qd H') : CompO (Itr lo n) (gName s) tYes te vs σ H1 D Qd := by
  refine lc_range (lo := lo) (n := n) (fun i H' => Same H1 H' ∧ H' D = some (.lst ((List.range i).map f))) ⟨same_upd nD, upd_same⟩ (fun i H' hi ⟨s1, hD⟩ => ?_) (fun H' ⟨s1, hD⟩ => hd H' s1 hD)
  refine ⟨hw _, ?_⟩
  refine rd_tYes ?_
  refine iteT ?_
  refine he i H' _ hi s1 fun H3 s3 => ?_
  refine ⟨_, s3 _ _ hD, ?_, Same.mut (s1.trans s3) nD, ?_⟩
  · rw [List.length_map, List.length_range]
    exact szlt (by omega)
  · rw [upd_same, List.range_succ, List.map_append]
    rfl

/-! ## zip, slices, all -/
theorem for_zipS {K : PySem.W.Frag} {a b : Addr} {xs ys : List V} {g : TG} {tb : TS} {D : Ends} {σ : L2.St} {H : Hp} (hl : ys.length ≤ xs.length) (Pv : Nat → L2.St → Hp → Prop) (h0 : Pv 0 σ H) (hq : ∀ i σ H, Pv i σ H → SqL K H a xs ∧ SqL K H b ys)
    (hs : ∀ (i : Nat) (x y : V) (T : Addr) (σ : L2.St) (H : Hp), xs[i]? = some x → ys[i]? = some y → Pv i σ H → H T = none → g (.ref T) σ (upd H T (.tup [x, y])) fun σ2 H2 => tb { D with nx := Pv (i + 1), ct := Pv (i + 1), bk := D.nx } σ2 H2) (hd : ∀ σ H, Pv ys.length σ H → D.nx σ H) :
    ∃ W : Nat → Nat → L2.St → Hp → Prop, (∃ m, W 0 m σ H) ∧ ∀ i m σ H, W i m σ H →
      ((Itz K a b).stop i H ∧ D.nx σ H) ∨ ((Itz K a b).go i H ∧ ∃ N : L2.St → Hp → Prop, (∀ σ' H', N σ' H' → ∃ m', m' < m ∧ W (i + 1) m' σ' H') ∧ ∀ v H', (Itz K a b).yld i H v H' → g v σ H' fun σ2 H2 => tb { D with nx := N, ct := N, bk := D.nx } σ2 H2) := by
  refine ⟨fun i m σ H => m = ys.length - i ∧ i ≤ ys.length ∧ Pv i σ H, ⟨ys.length, rfl, Nat.zero_le _, h0⟩, ?_⟩
  rintro i m σ H ⟨rfl, hi, p⟩
  obtain ⟨qx, qy⟩ := hq i σ H p
  by_cases hlt : i < ys.length
  · have hlt2 : i < xs.length := by omega
    have hx : xs[i]? = some xs[i] := List.getElem?_eq_getElem hlt2
    have hy : ys[i]? = some ys[i] := List.getElem?_eq_getElem hlt
    refine .inr ⟨⟨xs, ys, _, _, qx, qy, hx, hy⟩, Pv (i + 1), fun σ' H' p' => ⟨ys.length - (i + 1), by omega, rfl, hlt, p'⟩, fun v H' y => ?_⟩
    obtain ⟨T, x', y', rfl, hT, rfl, f1, f2⟩ := y
    exact hs i x' y' T σ H (f1 xs qx) (f2 ys qy) p hT
  · have e : i = ys.length := by omega
    subst e
    exact .inl ⟨⟨xs, ys, qx, qy, Or.inr (Nat.le_refl _)⟩, hd σ H p⟩
theorem cut1 (xs : List V) : cutV xs (some 1) none = xs.drop 1 := by
  unfold cutV
  rw [show HT.sIx xs.length 0 (some 1) = min 1 xs.length from HT.sIx_nat xs.length 0 1, HT.sIx_none]
  cases xs with
  | nil => rfl
  | cons x r =>
    rw [show min 1 (x :: r).length = 1 by
      rw [List.length_cons]
      omega]
    show (List.take ((x :: r).length - 1) r) = r
    rw [List.length_cons, Nat.add_sub_cancel]
    exact List.take_length
theorem cutL (xs : List V) (h : xs ≠ []) : cutV xs none (some (-1)) = xs.dropLast := by
  unfold cutV
  rw [HT.sIx_none]
  have : 0 < xs.length := List.length_pos_iff.mpr h
  have e : HT.sIx xs.length xs.length (some (-1)) = xs.length - 1 := by
    unfold HT.sIx
    simp only
    rw [if_pos (by decide)]
    omega
  rw [e, List.drop_zero, Nat.sub_zero, List.dropLast_eq_take]
theorem rd_sl {K : PySem.W.Frag} {te : TE} {tl th : TO} {σ : L2.St} {H : Hp} {Q : VK} (q : te σ H fun x H1 => tl σ H1 fun l H2 => th σ H2 fun u H3 => rSlL K x l u H3 Q) : tSl (rSlL K) te tl th σ H Q := q
theorem rd_noPart {σ : L2.St} {H : Hp} {Q : Option Int → Hp → Prop} (q : Q none H) : tNoPart σ H Q := q
theorem rd_part {t : TE} {σ : L2.St} {H : Hp} {Q : Option Int → Hp → Prop} (q : t σ H fun x H1 => ∃ i, x = .int i ∧ Q (some i) H1) : tPart t σ H Q := q
theorem rd_cut0 {K : PySem.W.Frag} {a : Addr} {xs : List V} {lo hi : Option Int} {H : Hp} {Q : VK} (h : SqL K H a xs) (q : ∀ p, H p = none → Q (.ref p) (upd H p (.lst (cutV xs lo hi)))) : rSlL K (.ref a) lo hi H Q := ⟨a, xs, rfl, h, q⟩
theorem rd_allP {α : Type} {K : PySem.W.Frag} {H : Hp} {a : Addr} {Q : VK} {l : List α} {f : α → V} (p : α → Bool) (hf : ∀ x ∈ l, f x = .bl (p x)) (h : H a = some (.lst (l.map f))) (q : Q (.bl (l.all p)) H) : rAll K [.ref a] H Q := by
  refine ⟨a, l.map p, rfl, .of ?_, ?_⟩
  · rw [h, List.map_map]
    exact congrArg (fun z => some (HO.lst z)) (List.map_congr_left hf)
  · rw [List.all_map]
    exact q
theorem rd_anyP {α : Type} {K : PySem.W.Frag} {H : Hp} {a : Addr} {Q : VK} {l : List α} {f : α → V} (p : α → Bool) (hf : ∀ x ∈ l, f x = .bl (p x)) (h : H a = some (.lst (l.map f))) (q : Q (.bl (l.any p)) H) : rAny K [.ref a] H Q := by
  refine ⟨a, l.map p, rfl, .of ?_, ?_⟩
  · rw [h, List.map_map]
    exact congrArg (fun z => some (HO.lst z)) (List.map_congr_left hf)
  · rw [List.any_map]
    exact q
theorem pi_zipK {X : Cx} {K : PySem.W.Frag} {e e2 : Expr} {ta : TA} {p pos tpos : Pos} {elts : List Expr} {kk : Nat} (h : X.K = K) (hg : Gl X "zip") (hm : X.mg "zip" = none) (ha : PA X [e, e2] ta)
    (hs : starEach [e, e2] X.env = (false, eval e X.env) :: starEach [e2] X.env := by rfl) (hpl : (backTo pos (starEach [e2] X.env)).any (·.1) = false := by rfl) :
    PI X (.Tuple elts kk tpos) (.Call (.Name "zip" p) [e, e2] [] pos) (iZip K ta) := by subst h; exact pi_zip hg hm ha hs hpl
theorem rd_zip {K : PySem.W.Frag} {ta : TA} {σ : L2.St} {H : Hp} {R : It → Hp → Prop} (q : ta σ H fun vs H1 => ∃ a b xs ys, vs = [.ref a, .ref b] ∧ SqL K H1 a xs ∧ SqL K H1 b ys ∧ R (Itz K a b) H1) : iZip K ta σ H R := q
theorem rd_in1 {i : Int} {R : Int → Prop} (q : R i) : ∃ j, V.int i = .int j ∧ R j := ⟨i, rfl, q⟩

/-! ## a <= b < c < d as a test -/
def tChain3 (r r' r'' : R2) (ta tb tc td : TE) : TE := fun σ H Q => ta σ H fun x H1 => tb σ H1 fun y H2 => r x y H2 fun z H3 => ∃ k, z = .bl k ∧
  (if k = true then tc σ H3 fun u H4 => r' y u H4 fun z2 H5 => ∃ k2, z2 = .bl k2 ∧ (if k2 = true then td σ H5 fun u2 H6 => r'' u u2 H6 Q else Q (.bl false) H5) else Q (.bl false) H3)
theorem pt_chain3 {X : Cx} {a b c d : Expr} {ta tb tc td : TE} {pos : Pos} {op op' op'' : CmpOp} {r r' r'' : R2} (ho : OpR X (compareOp op) r) (ho' : OpR X (compareOp op') r') (ho'' : OpR X (compareOp op'') r'') (ha : PE X a ta) (hb : PE X b tb) (hc : PE X c tc) (hd : PE X d td)
    (hm : lastMarks [op, op', op''] [b, c, d] = false := by with_unfolding_all rfl) : PT X (.Compare a [op, op', op''] [b, c, d] pos) (tTest (tChain3 r r' r'' ta tb tc td)) := by
  refine ⟨fun pins s σ H Q I h => ?_⟩
  refine isTrue_chain (thn (ha.run pins s σ H _ I h) fun v s1 ⟨x, H1, I1, r1, q1⟩ => test_link (thn (hb.run pins s1 σ H1 _ I1 q1) fun u s2 ⟨y, H2, I2, r2, q2⟩ =>
    thn (ho pins s2 σ H2 x y v u _ I2 r1 r2 q2) fun d s3 ⟨z, H3, I3, r3, k, e, q3⟩ => ?_)) hm
  subst e
  cases r3
  refine wpAny_truthy_bool ?_
  cases k with
  | false =>
    obtain ⟨k', e', q'⟩ := q3
    cases e'
    exact ite_ff ⟨H3, I3, q'⟩
  | true =>
    refine ite_tt (test_link (thn (hc.run pins s3 σ H3 _ I3 q3) fun w' s4 ⟨z', H4, I4, r4, q4⟩ => thn (ho' pins s4 σ H4 y z' u w' _ I4 r2 r4 q4) fun d' s5 ⟨z2, H5, I5, r5, k2, e2, q5⟩ => ?_))
    subst e2
    cases r5
    refine wpAny_truthy_bool ?_
    cases k2 with
    | false =>
      obtain ⟨k', e', q'⟩ := q5
      cases e'
      exact ite_ff ⟨H5, I5, q'⟩
    | true =>
      refine ite_tt (test_last (thn (hd.run pins s5 σ H5 _ I5 q5) fun w2 s6 ⟨z6, H6, I6, r6, q6⟩ => thn (ho'' pins s6 σ H6 z' z6 w' w2 _ I6 r4 r6 q6) fun d3 s7 ⟨z7, H7, I7, r7, k7, e7, q7⟩ => ?_))
      subst e7
      cases r7
      exact wpAny_truthy_bool ⟨H7, I7, q7⟩
theorem rd_chain3 {r r' r'' : R2} {ta tb tc td : TE} {σ : L2.St} {H : Hp} {Q : VK} (q : ta σ H fun x H1 => tb σ H1 fun y H2 => r x y H2 fun z H3 => ∃ k, z = .bl k ∧
  (if k = true then tc σ H3 fun u H4 => r' y u H4 fun z2 H5 => ∃ k2, z2 = .bl k2 ∧ (if k2 = true then td σ H5 fun u2 H6 => r'' u u2 H6 Q else Q (.bl false) H5) else Q (.bl false) H3)) : tChain3 r r' r'' ta tb tc td σ H Q := q

/-! ## lists of ints, lists of pairs, compared -/
def dI (ns : List Int) : PyData := .list (ns.map PyData.int)
theorem depthAll_ints : ∀ ns : List Int, PyData.depthAll (ns.map PyData.int) ≤ 1
  | [] => by simp [PyData.depthAll]
  | n :: ns => by
    have ih := depthAll_ints ns
    simp only [List.map_cons, PyData.depthAll, PyData.depth]
    omega
theorem layAll_ints : ∀ ns : List Int, PyData.canLayAll0 (ns.map PyData.int) = true
  | [] => by simp [PyData.canLayAll0]
  | n :: ns => by
    have ih := layAll_ints ns
    simp [PyData.canLayAll0, PyData.canLay0, ih]
theorem shaped_dI (ns : List Int) : SeqAt.shaped (dI ns) = true := by
  have h := depthAll_ints ns
  have h2 := layAll_ints ns
  unfold SeqAt.shaped dI
  rw [Bool.and_eq_true]
  refine ⟨by simpa only [PyData.canLay0] using h2, decide_eq_true ?_⟩
  show PyData.depthAll (ns.map PyData.int) + 1 ≤ 64
  omega
theorem eqvAll_ints : ∀ xs ys : List Int, PyData.eqvAll (xs.map PyData.int) (ys.map PyData.int) = decide (xs = ys)
  | [], [] => by simp [PyData.eqvAll]
  | [], y :: ys => by simp [PyData.eqvAll]
  | x :: xs, [] => by simp [PyData.eqvAll]
  | x :: xs, y :: ys => by
    have ih := eqvAll_ints xs ys
    simp only [List.map_cons, PyData.eqvAll, PyData.eqv, ih]
    by_cases h : x = y <;> by_cases h2 : xs = ys <;> simp [h, h2]
theorem eqv_dI (xs ys : List Int) : PyData.eqv (dI xs) (dI ys) = decide (xs = ys) := by
  unfold dI
  rw [PyData.eqv]
  exact eqvAll_ints xs ys
theorem dpAll_ints {K : PySem.W.Frag} {H : Hp} : ∀ ns : List Int, DpAll K H (IL ns) (ns.map PyData.int)
  | [] => .nil
  | n :: ns => .cons (.int n) (dpAll_ints ns)
theorem dp_ints {K : PySem.W.Frag} {H : Hp} {a : Addr} {ns : List Int} (h : SqL K H a (IL ns)) : Dp K H (.ref a) (dI ns) := .lst h (dpAll_ints ns)
theorem rd_neI {K : PySem.W.Frag} {H : Hp} {a b : Addr} {xs ys : List Int} {Q : VK} (ha : SqL K H a (IL xs)) (hb : SqL K H b (IL ys)) (q : Q (.bl (!decide (xs = ys))) H) : rNeD K (.ref a) (.ref b) H Q :=
  ⟨_, _, dp_ints ha, dp_ints hb, shaped_dI _, shaped_dI _, by rw [eqv_dI]; exact q⟩
theorem rd_eqI {K : PySem.W.Frag} {H : Hp} {a b : Addr} {xs ys : List Int} {Q : VK} (ha : SqL K H a (IL xs)) (hb : SqL K H b (IL ys)) (q : Q (.bl (decide (xs = ys))) H) : rEqD K (.ref a) (.ref b) H Q :=
  ⟨_, _, dp_ints ha, dp_ints hb, shaped_dI _, shaped_dI _, by rw [eqv_dI]; exact q⟩
/-- a list of pairs of ints -/
def Prs (K : PySem.W.Frag) (H : Hp) (vs : List V) (ps : List (Int × Int)) : Prop := Paired (fun v p => ∃ t, v = V.ref t ∧ SqT K H t [.int p.1, .int p.2]) vs ps
def dpr (p : Int × Int) : PyData := .tuple [.int p.1, .int p.2]
def dP (ps : List (Int × Int)) : PyData := .list (ps.map dpr)
theorem Prs.mono {K : PySem.W.Frag} {H H' : Hp} {vs : List V} {ps : List (Int × Int)} (s : Same H H') (h : Prs K H vs ps) : Prs K H' vs ps := by
  unfold Prs at h ⊢
  exact Paired.mapP h fun v p ⟨t, e, q⟩ => ⟨t, e, Same.seqT s q⟩
theorem depthAll_prs : ∀ ps : List (Int × Int), PyData.depthAll (ps.map dpr) ≤ 3
  | [] => by simp [PyData.depthAll]
  | p :: ps => by
    have ih := depthAll_prs ps
    simp only [List.map_cons, PyData.depthAll, PyData.depth, dpr]
    omega
theorem layAll_prs : ∀ ps : List (Int × Int), PyData.canLayAll0 (ps.map dpr) = true
  | [] => by simp [PyData.canLayAll0]
  | p :: ps => by
    have ih := layAll_prs ps
    simp [PyData.canLayAll0, PyData.canLay0, dpr, ih]
theorem shaped_dP (ps : List (Int × Int)) : SeqAt.shaped (dP ps) = true := by
  have h := depthAll_prs ps
  have h2 := layAll_prs ps
  unfold SeqAt.shaped dP
  rw [Bool.and_eq_true]
  refine ⟨by simpa only [PyData.canLay0] using h2, decide_eq_true ?_⟩
  show PyData.depthAll (ps.map dpr) + 1 ≤ 64
  omega
theorem eqv_dpr (p q : Int × Int) : PyData.eqv (dpr p) (dpr q) = decide (p = q) := by
  obtain ⟨a, b⟩ := p
  obtain ⟨c, d⟩ := q
  unfold dpr
  simp only [PyData.eqv, PyData.eqvAll, Bool.and_true]
  by_cases h : a = c <;> by_cases h2 : b = d <;> simp [h, h2]
theorem eqvAll_prs : ∀ xs ys : List (Int × Int), PyData.eqvAll (xs.map dpr) (ys.map dpr) = decide (xs = ys)
  | [], [] => by simp [PyData.eqvAll]
  | [], y :: ys => by simp [PyData.eqvAll]
  | x :: xs, [] => by simp [PyData.eqvAll]
  | x :: xs, y :: ys => by
    have ih := eqvAll_prs xs ys
    simp only [List.map_cons, PyData.eqvAll, eqv_dpr, ih]
    by_cases h : x = y <;> by_cases h2 : xs = ys <;> simp [h, h2]
theorem eqv_dP (xs ys : List (Int × Int)) : PyData.eqv (dP xs) (dP ys) = decide (xs = ys) := by
  unfold dP
  rw [PyData.eqv]
  exact eqvAll_prs xs ys
theorem dp_pr {K : PySem.W.Frag} {H : Hp} {t : Addr} {p : Int × Int} (h : SqT K H t [.int p.1, .int p.2]) : Dp K H (.ref t) (dpr p) := .tup h (.cons (.int _) (.cons (.int _) .nil))
theorem dpAll_prs {K : PySem.W.Frag} {H : Hp} {vs : List V} {ps : List (Int × Int)} (h : Prs K H vs ps) : DpAll K H vs (ps.map dpr) := by
  unfold Prs at h
  induction h with
  | nil => exact .nil
  | cons r t ih =>
    obtain ⟨a, rfl, q⟩ := r
    exact .cons (dp_pr q) ih
theorem dp_prs {K : PySem.W.Frag} {H : Hp} {a : Addr} {vs : List V} {ps : List (Int × Int)} (h : SqL K H a vs) (hp : Prs K H vs ps) : Dp K H (.ref a) (dP ps) := .lst h (dpAll_prs hp)
theorem rd_neP {K : PySem.W.Frag} {H : Hp} {a b : Addr} {vs us : List V} {xs ys : List (Int × Int)} {Q : VK} (ha : SqL K H a vs) (pa : Prs K H vs xs) (hb : SqL K H b us) (pb : Prs K H us ys) (q : Q (.bl (!decide (xs = ys))) H) : rNeD K (.ref a) (.ref b) H Q :=
  ⟨_, _, dp_prs ha pa, dp_prs hb pb, shaped_dP _, shaped_dP _, by rw [eqv_dP]; exact q⟩
theorem rd_eqP {K : PySem.W.Frag} {H : Hp} {a b : Addr} {vs us : List V} {xs ys : List (Int × Int)} {Q : VK} (ha : SqL K H a vs) (pa : Prs K H vs xs) (hb : SqL K H b us) (pb : Prs K H us ys) (q : Q (.bl (decide (xs = ys))) H) : rEqD K (.ref a) (.ref b) H Q :=
  ⟨_, _, dp_prs ha pa, dp_prs hb pb, shaped_dP _, shaped_dP _, by rw [eqv_dP]; exact q⟩
theorem Prs.upd {K : PySem.W.Frag} {H : Hp} {D : Addr} {ys vs : List V} {o : HO} {ps : List (Int × Int)} (hD : H D = some (.lst ys)) (h : Prs K H vs ps) : Prs K (upd H D o) vs ps := by
  unfold Prs at h ⊢
  exact Paired.mapP h fun v p ⟨t, e, q⟩ => ⟨t, e, SqT.upd hD q⟩
theorem Prs.snoc {K : PySem.W.Frag} {H : Hp} {vs : List V} {ps : List (Int × Int)} {t : Addr} {p : Int × Int} (h : Prs K H vs ps) (ht : SqT K H t [.int p.1, .int p.2]) : Prs K H (vs ++ [.ref t]) (ps ++ [p]) :=
  Paired.snoc h ⟨t, rfl, ht⟩
theorem Prs.length {K : PySem.W.Frag} {H : Hp} {vs : List V} {ps : List (Int × Int)} (h : Prs K H vs ps) : vs.length = ps.length := Paired.length h

/-! ## pairs that are tracked -/
def PrsH (H : Hp) (vs : List V) (ps : List (Int × Int)) : Prop := Paired (fun v p => ∃ t, v = V.ref t ∧ H t = some (.tup [.int p.1, .int p.2])) vs ps
theorem PrsH.prs {K : PySem.W.Frag} {H : Hp} {vs : List V} {ps : List (Int × Int)} (h : PrsH H vs ps) : Prs K H vs ps := by
  unfold PrsH at h
  unfold Prs
  exact Paired.mapP h fun v p ⟨t, e, q⟩ => ⟨t, e, .of q⟩
theorem PrsH.mono {H H' : Hp} {vs : List V} {ps : List (Int × Int)} (s : Same H H') (h : PrsH H vs ps) : PrsH H' vs ps := by
  unfold PrsH at h ⊢
  exact Paired.mapP h fun v p ⟨t, e, q⟩ => ⟨t, e, s _ _ q⟩
theorem PrsH.upd {H : Hp} {D : Addr} {ys vs : List V} {o : HO} {ps : List (Int × Int)} (hD : H D = some (.lst ys)) (h : PrsH H vs ps) : PrsH (upd H D o) vs ps := by
  unfold PrsH at h ⊢
  exact Paired.mapP h fun v p ⟨t, e, q⟩ => ⟨t, e, by rw [upd_ne (ne_of q hD (by intro z; cases z))]; exact q⟩
theorem PrsH.snoc {H : Hp} {vs : List V} {ps : List (Int × Int)} {t : Addr} {p : Int × Int} (h : PrsH H vs ps) (ht : H t = some (.tup [.int p.1, .int p.2])) : PrsH H (vs ++ [.ref t]) (ps ++ [p]) := Paired.snoc h ⟨t, rfl, ht⟩
theorem Prs.get {K : PySem.W.Frag} {H : Hp} {vs : List V} {ps : List (Int × Int)} (h : Prs K H vs ps) : ∀ {i : Nat} {v : V}, vs[i]? = some v → ∃ t p, ps[i]? = some p ∧ v = .ref t ∧ SqT K H t [.int p.1, .int p.2] := by
  unfold Prs at h
  induction h with
  | nil => intro i v h; simp at h
  | cons r t ih =>
    intro i v hv
    cases i with
    | zero =>
      obtain ⟨a, rfl, q⟩ := r
      exact ⟨a, _, rfl, (Option.some.inj hv).symm, q⟩
    | succ i => exact ih hv
theorem PrsH.get {H : Hp} {vs : List V} {ps : List (Int × Int)} (h : PrsH H vs ps) : ∀ {i : Nat} {v : V}, vs[i]? = some v → ∃ t p, ps[i]? = some p ∧ v = .ref t ∧ H t = some (.tup [.int p.1, .int p.2]) := by
  unfold PrsH at h
  induction h with
  | nil => intro i v h; simp at h
  | cons r t ih =>
    intro i v hv
    cases i with
    | zero =>
      obtain ⟨a, rfl, q⟩ := r
      exact ⟨a, _, rfl, (Option.some.inj hv).symm, q⟩
    | succ i => exact ih hv
theorem PrsH.length {H : Hp} {vs : List V} {ps : List (Int × Int)} (h : PrsH H vs ps) : vs.length = ps.length := Paired.length h
theorem lc_rangeP {n : Nat} {D : Addr} {σ : L2.St} {vs : List Nat} {s : Nat} {te : TE} {H1 : Hp} {Qd : Hp → Prop} (f : Nat → Int × Int) (nD : H1 D = none) (hlen : n < 100000) (hw : ∀ v, wipe ((wipe σ vs).set s (some v)) vs = wipe σ vs)
    (he : ∀ (i : Nat) H' (R : VK), i < n → Same H1 H' → (∀ t, H' t = none → R (.ref t) (L2.upd H' t (.tup [.int (f i).1, .int (f i).2]))) → te ((wipe σ vs).set s (some (.int (i : Int)))) H' R)
    (hd : ∀ H' ys, Same H1 H' → H' D = some (.lst ys) → PrsH H' ys ((List.range n).map f) → Qd H') : CompO (Itr 0 n) (gName s) tYes te vs σ H1 D Qd := by
  refine lc_range (lo := 0) (n := n) (fun i H' => Same H1 H' ∧ ∃ ys, H' D = some (.lst ys) ∧ PrsH H' ys ((List.range i).map f)) ⟨same_upd nD, [], upd_same, .nil⟩ (fun i H' hi ⟨s1, ys, hD, hp⟩ => ?_) (fun H' ⟨s1, ys, hD, hp⟩ => hd H' ys s1 hD hp)
  show wipe ((wipe σ vs).set s (some (.int (0 + (i : Int))))) vs = wipe σ vs ∧ _
  rw [show (0 : Int) + (i : Int) = (i : Int) by omega]
  refine ⟨hw _, ?_⟩
  refine rd_tYes ?_
  refine iteT ?_
  refine he i H' _ hi s1 fun t nt => ?_
  have s2 := same_upd (o := .tup [.int (f i).1, .int (f i).2]) nt
  have ht : (L2.upd H' t (.tup [.int (f i).1, .int (f i).2])) t = some (.tup [.int (f i).1, .int (f i).2]) := upd_same
  refine ⟨_, s2 _ _ hD, ?_, Same.mut (s1.trans s2) nD, ys ++ [.ref t], upd_same, ?_⟩
  · rw [hp.length, List.length_map, List.length_range]
    exact szlt (by omega)
  · rw [List.range_succ, List.map_append]
    refine ((hp.mono s2).upd (s2 _ _ hD)).snoc ?_
    rw [upd_ne (ne_of ht (s2 _ _ hD) (by intro z; cases z))]
    exact ht
/-! ## dicts of pairs -/
theorem rd_dIn {ty td : TE} {σ : L2.St} {H : Hp} {Q : VK} (q : ty σ H fun y H1 => td σ H1 fun x H2 => ∃ a o, x = .ref a ∧ DGet H2 a y o ∧ Q (.bl o.isSome) H2) : tDIn ty td σ H Q := q
theorem rd_dNotIn {ty td : TE} {σ : L2.St} {H : Hp} {Q : VK} (q : ty σ H fun y H1 => td σ H1 fun x H2 => ∃ a o, x = .ref a ∧ DGet H2 a y o ∧ Q (.bl (!o.isSome)) H2) : tDNotIn ty td σ H Q := q
theorem rd_dput {td ty tv : TE} {D : Ends} {σ : L2.St} {H : Hp} (q : tv σ H fun v H1 => td σ H1 fun x H2 => ty σ H2 fun y H3 => ∃ a H4, x = .ref a ∧ DPut H3 a y v H4 ∧ D.nx σ H4) : sDPut td ty tv D σ H := q
theorem rd_dnewT {σ : L2.St} {H : Hp} {Q : VK} (q : ∀ p, H p = none → Q (.ref p) (L2.upd H p (.dT []))) : tDNewT σ H Q := q
/-- the keys of a dict are just these pairs -/
def Keys (kvs : List (List L2.Key × V)) (ps : List (Int × Int)) : Prop := kvs.length ≤ ps.length ∧ ∀ p : Int × Int, (valV kvs [.inl p.1, .inl p.2]).isSome = decide (p ∈ ps)
theorem Keys.nil : Keys [] [] := ⟨Nat.le_refl _, fun p => by simp [valV]⟩
theorem len_put {kvs : List (List L2.Key × V)} {k : List L2.Key} {v : V} : (putK kvs k v).length ≤ kvs.length + 1 := by
  unfold putK
  split
  · rw [List.length_map]
    omega
  · rw [List.length_append]
    exact Nat.le_refl _
theorem Keys.put {kvs : List (List L2.Key × V)} {ps : List (Int × Int)} {v : V} (h : Keys kvs ps) (p : Int × Int) : Keys (putK kvs [.inl p.1, .inl p.2] v) (ps ++ [p]) := by
  refine ⟨?_, fun q => ?_⟩
  · have := len_put (kvs := kvs) (k := [.inl p.1, .inl p.2]) (v := v)
    have := h.1
    rw [List.length_append]
    simp
    omega
  · rw [valV_put]
    by_cases e : q = p
    · subst e
      rw [if_pos rfl]
      simp
    · have : ¬ ([Sum.inl q.1, Sum.inl q.2] : List L2.Key) = [.inl p.1, .inl p.2] := fun z => e (by
        have h1 := List.cons.inj z
        have h2 := List.cons.inj h1.2
        exact Prod.ext (Sum.inl.inj h1.1) (Sum.inl.inj h2.1))
      rw [if_neg this, h.2 q]
      simp [e]
theorem keys_get {H : Hp} {a t : Addr} {kvs : List (List L2.Key × V)} {p : Int × Int} (hd : H a = some (.dT kvs)) (ht : H t = some (.tup [.int p.1, .int p.2])) : DGet H a (.ref t) (valV kvs [.inl p.1, .inl p.2]) := .t hd ht
theorem keys_put {H : Hp} {a t : Addr} {kvs : List (List L2.Key × V)} {p : Int × Int} {v : V} (hd : H a = some (.dT kvs)) (ht : H t = some (.tup [.int p.1, .int p.2])) (hl : kvs.length < 100000) :
    DPut H a (.ref t) v (L2.upd H a (.dT (putK kvs [.inl p.1, .inl p.2] v))) := .t hd ht (szlt hl)
theorem PrsH.updD {H : Hp} {D : Addr} {ks : List (List L2.Key × V)} {vs : List V} {o : HO} {ps : List (Int × Int)} (hD : H D = some (.dT ks)) (h : PrsH H vs ps) : PrsH (L2.upd H D o) vs ps := by
  unfold PrsH at h ⊢
  exact Paired.mapP h fun v p ⟨t, e, q⟩ => ⟨t, e, by rw [upd_ne (ne_of q hD (by intro z; cases z))]; exact q⟩

/-! ## the steps -/
local macro_rules | `(tactic| walk_at "rd1") => `(tactic| first
  | ((with_reducible refine' rd_var ?h ?_); (case h => rfl))
  | with_reducible refine rd_c ?_
  | with_reducible refine rd_op ?_
  | with_reducible refine rd_I0 ?_
  | with_reducible refine rd_cons ?_
  | with_reducible refine rd_nil ?_
  | with_reducible refine rd_un ?_
  | with_reducible refine rd_U ?_
  | ((with_reducible refine rd_eq ?h ?_); (case h => rfl))
  | ((with_reducible refine rd_ne ?h ?_); (case h => rfl))
  | with_reducible refine rd_cb ?_
  | with_reducible refine rd_call ?_
  | with_reducible refine rd_callS ?_
  | with_reducible refine rd_test ?_
  | with_reducible refine rd_tB ?_
  | with_reducible refine rd_bl ?_
  | with_reducible refine rd_not ?_
  | with_reducible refine rd_and ?_
  | with_reducible refine rd_or ?_
  | with_reducible refine rd_andV ?_
  | with_reducible refine rd_orV ?_
  | with_reducible refine rd_notV ?_
  | with_reducible refine rd_if ?_
  | with_reducible refine rd_seq ?_
  | with_reducible refine rd_asg ?_
  | with_reducible refine rd_name ?_
  | ((with_reducible refine' rd_aug ?h ?_); (case h => rfl))
  | with_reducible refine rd_ipI ?_
  | with_reducible refine rd_gSub ?_
  | with_reducible refine rd_ret ?_
  | with_reducible refine rd_drop ?_
  | with_reducible refine rd_ifS ?_
  | with_reducible refine rd_next ?_
  | with_reducible refine rd_cont ?_
  | with_reducible refine rd_tup ?_
  | with_reducible refine rd_lst ?_
  | with_reducible refine rd_for ?_
  | with_reducible refine rd_lc ?_
  | with_reducible refine rd_min2 ?_
  | with_reducible refine rd_max2 ?_
  | with_reducible refine rd_abs ?_
  | with_reducible refine rd_dIn ?_
  | with_reducible refine rd_dNotIn ?_
  | with_reducible refine rd_dput ?_
  | with_reducible refine rd_dnewT ?_
  | with_reducible refine rd_chain3 ?_
  | with_reducible refine rd_sl ?_
  | with_reducible refine rd_noPart ?_
  | with_reducible refine rd_part ?_
  | with_reducible refine rd_zip ?_
  | with_reducible refine rd_in1 ?_
  | ((with_reducible refine' rd_cut0 ?h ?_); (case h => first | assumption | exact SqL.of (by assumption) | exact SqL.of upd_same))
  | with_reducible refine rd_chain ?_
  | ((with_reducible refine' rd_len ?h ?_); (case h => first | assumption | exact SqL.of (by assumption) | exact SqL.of upd_same))
  | ((with_reducible refine' rd_list ?h ?_); (case h => first | assumption | exact SqL.of (by assumption) | exact SqL.of upd_same))
  | with_reducible refine rd_isN ?_
  | with_reducible refine rd_notN ?_
  | with_reducible refine rd_tYes ?_
  | with_reducible refine iteT ?_
  | with_reducible refine iteF ?_
  | with_reducible refine iteNT ?_
  | with_reducible refine iteNF ?_
  | with_reducible refine rd_rng1 ?_
  | with_reducible refine rd_rng2 ?_
  | with_reducible refine rd_iList ?_
  | with_reducible refine rd_iTup ?_
  | with_reducible refine rd_bm ?_
  | with_reducible refine rd_bm0 ?_
  | ((with_reducible refine rd_I (C := CPow) ?c ?_); (case c => exact ⟨by decide, by decide, by decide⟩))
  | ((with_reducible refine rd_I (C := fun _ j => 0 < j) ?c ?_); (case c => (show (0 : Int) < _); first | omega | decide +kernel))
  | ((with_reducible refine rd_I (C := CDiv) ?c ?_); (case c => first | exact ⟨by decide, by decide⟩ | exact ⟨by omega, by omega⟩))
  | ((with_reducible refine rd_I (C := CMul) ?c ?_); (case c => first | exact .inr ⟨by omega, by omega⟩ | exact .inl ⟨by omega, by omega⟩))
  | ((with_reducible refine' rd_cell ?h0 ?h ?_); (case h => assumption); (case h0 => first | decide | omega)))
local macro_rules | `(tactic| walk_at "rd") => `(tactic| repeat walk_at "rd1")
local macro_rules | `(tactic| walk_at "rq1") => `(tactic| first
  | ((with_reducible refine' rd_var ?h ?_); (case h => rfl))
  | with_reducible refine rd_c ?_
  | with_reducible refine rd_op ?_
  | with_reducible refine rd_I0 ?_
  | with_reducible refine rd_cons ?_
  | with_reducible refine rd_nil ?_
  | with_reducible refine rd_un ?_
  | with_reducible refine rd_U ?_
  | ((with_reducible refine rd_eq ?h ?_); (case h => rfl))
  | ((with_reducible refine rd_ne ?h ?_); (case h => rfl))
  | with_reducible refine rd_cb ?_
  | with_reducible refine rd_call ?_
  | with_reducible refine rd_callS ?_
  | with_reducible refine rd_test ?_
  | with_reducible refine rd_tB ?_
  | with_reducible refine rd_bl ?_
  | with_reducible refine rd_not ?_
  | with_reducible refine rd_and ?_
  | with_reducible refine rd_or ?_
  | with_reducible refine rd_andV ?_
  | with_reducible refine rd_orV ?_
  | with_reducible refine rd_notV ?_
  | with_reducible refine rd_if ?_
  | with_reducible refine rd_asg ?_
  | with_reducible refine rd_name ?_
  | ((with_reducible refine' rd_aug ?h ?_); (case h => rfl))
  | with_reducible refine rd_ipI ?_
  | with_reducible refine rd_gSub ?_
  | with_reducible refine rd_ret ?_
  | with_reducible refine rd_drop ?_
  | with_reducible refine rd_ifS ?_
  | with_reducible refine rd_next ?_
  | with_reducible refine rd_cont ?_
  | with_reducible refine rd_tup ?_
  | with_reducible refine rd_lst ?_
  | with_reducible refine rd_for ?_
  | with_reducible refine rd_lc ?_
  | with_reducible refine rd_min2 ?_
  | with_reducible refine rd_max2 ?_
  | with_reducible refine rd_abs ?_
  | with_reducible refine rd_dIn ?_
  | with_reducible refine rd_dNotIn ?_
  | with_reducible refine rd_dput ?_
  | with_reducible refine rd_dnewT ?_
  | with_reducible refine rd_chain3 ?_
  | with_reducible refine rd_sl ?_
  | with_reducible refine rd_noPart ?_
  | with_reducible refine rd_part ?_
  | with_reducible refine rd_zip ?_
  | with_reducible refine rd_in1 ?_
  | ((with_reducible refine' rd_cut0 ?h ?_); (case h => first | assumption | exact SqL.of (by assumption) | exact SqL.of upd_same))
  | with_reducible refine rd_chain ?_
  | ((with_reducible refine' rd_len ?h ?_); (case h => first | assumption | exact SqL.of (by assumption) | exact SqL.of upd_same))
  | ((with_reducible refine' rd_list ?h ?_); (case h => first | assumption | exact SqL.of (by assumption) | exact SqL.of upd_same))
  | with_reducible refine rd_isN ?_
  | with_reducible refine rd_notN ?_
  | with_reducible refine rd_tYes ?_
  | with_reducible refine iteT ?_
  | with_reducible refine iteF ?_
  | with_reducible refine iteNT ?_
  | with_reducible refine iteNF ?_
  | with_reducible refine rd_rng1 ?_
  | with_reducible refine rd_rng2 ?_
  | with_reducible refine rd_iList ?_
  | with_reducible refine rd_iTup ?_
  | with_reducible refine rd_bm ?_
  | with_reducible refine rd_bm0 ?_
  | ((with_reducible refine rd_I (C := CPow) ?c ?_); (case c => exact ⟨by decide, by decide, by decide⟩))
  | ((with_reducible refine rd_I (C := fun _ j => 0 < j) ?c ?_); (case c => (show (0 : Int) < _); first | omega | decide +kernel))
  | ((with_reducible refine rd_I (C := CDiv) ?c ?_); (case c => first | exact ⟨by decide, by decide⟩ | exact ⟨by omega, by omega⟩))
  | ((with_reducible refine rd_I (C := CMul) ?c ?_); (case c => first | exact .inr ⟨by omega, by omega⟩ | exact .inl ⟨by omega, by omega⟩))
  | ((with_reducible refine' rd_cell ?h0 ?h ?_); (case h => assumption); (case h0 => first | decide | omega)))
local macro_rules | `(tactic| walk_at "rq") => `(tactic| repeat walk_at "rq1")

/-! ## isinstance(x, int) and not isinstance(x, bool) -/
/-- what the two questions answer of a value of the type t -/
def wholeT (K : PySem.W.Frag) (t : Value) (r : Bool) : Prop := ∃ b1 b2, PySem.W.kitOne K t (.type "int") = some b1 ∧ PySem.W.kitOne K t (.type "bool") = some b2 ∧ r = (b1 && !b2)
def Whole (K : PySem.W.Frag) (H : Hp) (x : V) (r : Bool) : Prop := ∃ t, TyX K H x t ∧ wholeT K t r
theorem whole_int {K : PySem.W.Frag} {H : Hp} {i : Int} : Whole K H (.int i) true := ⟨_, .base (.int i), true, false, kit_ty (by decide +kernel), kit_ty (by decide +kernel), rfl⟩
theorem whole_bl {K : PySem.W.Frag} {H : Hp} {b : Bool} : Whole K H (.bl b) false := ⟨_, .base (.bl b), true, true, kit_ty (by decide +kernel), kit_ty (by decide +kernel), rfl⟩
theorem whole_non {K : PySem.W.Frag} {H : Hp} : Whole K H .non false := ⟨_, .base .non, false, false, kit_ty (by decide +kernel), kit_ty (by decide +kernel), rfl⟩
theorem whole_str {K : PySem.W.Frag} {H : Hp} {z : Str} : Whole K H (.str z) false := ⟨_, .base (.str z), false, false, kit_ty (by decide +kernel), kit_ty (by decide +kernel), rfl⟩
theorem whole_lst {K : PySem.W.Frag} {H : Hp} {a : Addr} {xs : List V} (h : H a = some (.lst xs)) : Whole K H (.ref a) false := ⟨_, .base (.lst h), false, false, kit_ty (by decide +kernel), kit_ty (by decide +kernel), rfl⟩
theorem whole_tup {K : PySem.W.Frag} {H : Hp} {a : Addr} {xs : List V} (h : H a = some (.tup xs)) : Whole K H (.ref a) false := ⟨_, .base (.tup h), false, false, kit_ty (by decide +kernel), kit_ty (by decide +kernel), rfl⟩
def spWhole (K : PySem.W.Frag) : Sp := fun vs H Q _ => ∃ (x : V) (r : Bool), vs = [x] ∧ Whole K H x r ∧ Q (.bl r) H
theorem whole_run {K : PySem.W.Frag} {D : Ends} {H : Hp} {vs : List V} {E : XK} {N : List Str} (h : spWhole K vs H D.rt E) :
    tRet (tAndV (tCB (rIsi K) (tCons (tVar 0) (tCons (tC (.ty "int")) tNil))) (tNotV (tCB (rIsi K) (tCons (tVar 0) (tCons (tC (.ty "bool")) tNil))))) D (start N vs) H := by
  obtain ⟨x, r, rfl, ⟨t, ty, b1, b2, h1, h2, rfl⟩, q⟩ := h
  walk_at "rd"
  refine ⟨x, .ty "int", t, _, b1, rfl, .ty _, ty, h1, b1, rfl, ?_⟩
  cases b1 with
  | false => exact iteF q
  | true =>
    refine iteT ?_
    walk_at "rd"
    refine ⟨x, .ty "bool", t, _, b2, rfl, .ty _, ty, h2, b2, rfl, ?_⟩
    exact q

/-! ## slopes, by places -/
def g (ns : List Int) (i : Nat) : Int := ns.getD i 0
/-- from a, x is steeper than y -/
abbrev Stp (ns : List Int) (a x y : Nat) : Prop := (g ns y - g ns a) * ((x : Int) - (a : Int)) < (g ns x - g ns a) * ((y : Int) - (a : Int))
theorem cross {x y z p q r : Int} (hp : 0 < p) (hq : 0 < q) (hr : 0 < r) (h1 : y * p < x * q) (h2 : z * q ≤ y * r) : z * p < x * r := by
  have e1 : z * q * p ≤ y * r * p := Int.mul_le_mul_of_nonneg_right h2 (by omega)
  have e2 : y * p * r < x * q * r := Int.mul_lt_mul_of_pos_right h1 hr
  have e3 : z * p * q < x * r * q := by
    have a1 : z * p * q = z * q * p := by rw [Int.mul_assoc, Int.mul_comm p q, ← Int.mul_assoc]
    have a2 : x * r * q = x * q * r := by rw [Int.mul_assoc, Int.mul_comm r q, ← Int.mul_assoc]
    have a3 : y * p * r = y * r * p := by rw [Int.mul_assoc, Int.mul_comm p r, ← Int.mul_assoc]
    omega
  exact Int.lt_of_mul_lt_mul_right e3 (by omega)
theorem stp_trans {ns : List Int} {a x y z : Nat} (hx : a < x) (hy : a < y) (hz : a < z) (h1 : Stp ns a x y) (h2 : ¬ Stp ns a z y) : Stp ns a x z := by
  unfold Stp at *
  exact cross (p := (x : Int) - a) (q := (y : Int) - a) (r := (z : Int) - a) (by omega) (by omega) (by omega) h1 (by omega)
theorem stp_asymm {ns : List Int} {a x y : Nat} (h : Stp ns a x y) : ¬ Stp ns a y x := by
  unfold Stp at *
  omega
theorem stp_irrefl {ns : List Int} {a x : Nat} : ¬ Stp ns a x x := by
  unfold Stp
  omega
/-- every top between lies below the line from a to b -/
def seeB (ns : List Int) (a b : Nat) : Bool := decide (∀ k, k < b → a < k → Stp ns a b k)
theorem seeB_iff {ns : List Int} {a b : Nat} : seeB ns a b = true ↔ ∀ k, k < b → a < k → Stp ns a b k := by
  unfold seeB
  exact decide_eq_true_iff
theorem seeB_next {ns : List Int} {a : Nat} : seeB ns a (a + 1) = true := seeB_iff.mpr fun k h1 h2 => by omega
/-- m is the steepest of those between a and n -/
structure Steep (ns : List Int) (a n m : Nat) : Prop where
  lo : a < m
  hi : m < n
  top : ∀ k, k < n → a < k → ¬ Stp ns a k m
theorem Steep.see {ns : List Int} {a n m : Nat} (s : Steep ns a n m) : seeB ns a n = true ↔ Stp ns a n m := by
  rw [seeB_iff]
  constructor
  · intro h
    exact h m s.hi s.lo
  · intro h k hk ha
    exact stp_trans (Nat.lt_trans s.lo s.hi) s.lo ha h (s.top k hk ha)
theorem Steep.up {ns : List Int} {a n m : Nat} (s : Steep ns a n m) (h : Stp ns a n m) : Steep ns a (n + 1) n := by
  refine ⟨Nat.lt_trans s.lo s.hi, Nat.lt_succ_self n, fun k hk ha => ?_⟩
  by_cases e : k = n
  · subst e
    exact stp_irrefl
  · exact stp_asymm (stp_trans (Nat.lt_trans s.lo s.hi) s.lo ha h (s.top k (by omega) ha))
theorem Steep.stay {ns : List Int} {a n m : Nat} (s : Steep ns a n m) (h : ¬ Stp ns a n m) : Steep ns a (n + 1) m := by
  refine ⟨s.lo, Nat.lt_succ_of_lt s.hi, fun k hk ha => ?_⟩
  by_cases e : k = n
  · subst e
    exact h
  · exact s.top k (by omega) ha
theorem Steep.first {ns : List Int} {a : Nat} : Steep ns a (a + 1 + 1) (a + 1) := by
  refine ⟨Nat.lt_succ_self _, Nat.lt_succ_self _, fun k hk ha => ?_⟩
  have e : k = a + 1 := by omega
  subst e
  exact stp_irrefl
/-- the later places that a sees, below n -/
def behN (ns : List Int) (a n : Nat) : List Nat := (List.range n).filter fun b => decide (a < b) && seeB ns a b
theorem behN_low {ns : List Int} {a n : Nat} (h : n ≤ a + 1) : behN ns a n = [] := by
  unfold behN
  rw [List.filter_eq_nil_iff]
  intro b hb
  have := List.mem_range.mp hb
  simp
  omega
theorem behN_succ {ns : List Int} {a n : Nat} : behN ns a (n + 1) = behN ns a n ++ (if a < n ∧ seeB ns a n = true then [n] else []) := by
  unfold behN
  rw [List.range_succ, List.filter_append]
  congr 1
  by_cases h1 : a < n <;> by_cases h2 : seeB ns a n = true <;> simp [h1, h2]
theorem behN_yes {ns : List Int} {a n : Nat} (h1 : a < n) (h2 : seeB ns a n = true) : behN ns a (n + 1) = behN ns a n ++ [n] := by rw [behN_succ, if_pos ⟨h1, h2⟩]
theorem behN_no {ns : List Int} {a n : Nat} (h2 : ¬ seeB ns a n = true) : behN ns a (n + 1) = behN ns a n := by rw [behN_succ, if_neg (fun z => h2 z.2), List.append_nil]
theorem mem_behN {ns : List Int} {a n b : Nat} : b ∈ behN ns a n ↔ a < b ∧ b < n ∧ seeB ns a b = true := by
  unfold behN
  rw [List.mem_filter, List.mem_range]
  simp
  exact ⟨fun ⟨h, h1, h2⟩ => ⟨h1, h, h2⟩, fun ⟨h1, h, h2⟩ => ⟨h, h1, h2⟩⟩
abbrev NI (l : List Nat) : List Int := l.map fun (n : Nat) => ((n : Nat) : Int)
abbrev NP (l : List (Nat × Nat)) : List (Int × Int) := l.map fun (p : Nat × Nat) => (((p.1 : Nat) : Int), ((p.2 : Nat) : Int))
/-- the pairs of the first n places -/
def sigN (ns : List Int) (n : Nat) : List (Nat × Nat) := (List.range n).flatMap fun a => (behN ns a ns.length).map fun b => (a, b)
theorem sigN_succ {ns : List Int} {n : Nat} : sigN ns (n + 1) = sigN ns n ++ (behN ns n ns.length).map fun b => (n, b) := by
  unfold sigN
  rw [List.range_succ, List.flatMap_append]
  simp
abbrev sights (ns : List Int) : List (Nat × Nat) := sigN ns ns.length
theorem mem_sights {ns : List Int} {a b : Nat} : (a, b) ∈ sights ns ↔ a < b ∧ b < ns.length ∧ seeB ns a b = true := by
  unfold sights sigN
  rw [List.mem_flatMap]
  constructor
  · rintro ⟨a', _, h⟩
    obtain ⟨b', hb, e⟩ := List.mem_map.mp h
    cases e
    exact mem_behN.mp hb
  · rintro ⟨h1, h2, h3⟩
    exact ⟨a, List.mem_range.mpr (Nat.lt_trans h1 h2), List.mem_map.mpr ⟨b, mem_behN.mpr ⟨h1, h2, h3⟩, rfl⟩⟩
/-- the steepest of the first i places behind a, the earliest of equals -/
def stM (ns : List Int) (a : Nat) : Nat → Option Nat
  | 0 => none
  | i + 1 => match stM ns a i with
    | none => some (a + 1 + i)
    | some m => if Stp ns a (a + 1 + i) m then some (a + 1 + i) else some m
theorem stM_none {ns : List Int} {a i : Nat} (h : stM ns a i = none) : i = 0 := by
  cases i with
  | zero => rfl
  | succ i =>
    unfold stM at h
    split at h
    · cases h
    · split at h <;> cases h
theorem stM_some {ns : List Int} {a : Nat} : ∀ {i m : Nat}, stM ns a i = some m → Steep ns a (a + 1 + i) m
  | 0, m, h => by cases h
  | i + 1, m, h => by
    unfold stM at h
    split at h
    · rename_i h0
      have e := stM_none h0
      subst e
      cases h
      exact Steep.first
    · rename_i m' h0
      have s := stM_some h0
      split at h
      · rename_i h1
        cases h
        exact s.up h1
      · rename_i h1
        cases h
        exact s.stay h1
/-- the hider -/
def hidM (ns : List Int) (a b : Nat) : Option Nat := match stM ns a (b - a - 1) with
  | none => none
  | some m => if Stp ns a b m then none else some m
theorem hidM_none {ns : List Int} {a b : Nat} (h : a < b) : hidM ns a b = none ↔ seeB ns a b = true := by
  unfold hidM
  split
  · rename_i h0
    have e := stM_none h0
    have e2 : b = a + 1 := by omega
    subst e2
    exact ⟨fun _ => seeB_next, fun _ => rfl⟩
  · rename_i m h0
    have s := stM_some h0
    rw [show a + 1 + (b - a - 1) = b by omega] at s
    rw [s.see]
    split
    · rename_i h1
      exact ⟨fun _ => h1, fun _ => rfl⟩
    · rename_i h1
      exact ⟨fun q => (by cases q), fun q => absurd q h1⟩
theorem hidM_some {ns : List Int} {a b m : Nat} (h : a < b) (e : hidM ns a b = some m) : a < m ∧ m < b ∧ ¬ Stp ns a b m := by
  unfold hidM at e
  split at e
  · cases e
  · rename_i m' h0
    have s := stM_some h0
    rw [show a + 1 + (b - a - 1) = b by omega] at s
    split at e
    · cases e
    · rename_i h1
      cases e
      exact ⟨s.lo, s.hi, h1⟩

/-! ## a list of lists -/
theorem same_fresh {H H' : Hp} {t : Addr} (s : Same H H') (h : H' t = none) : H t = none := by
  cases e : H t with
  | none => rfl
  | some u => exact absurd (s _ _ e) (by rw [h]; intro z; cases z)
structure RowsH (H : Hp) (R : Addr) (n : Nat) (adr : Nat → Addr) (rs : Nat → List V) : Prop where
  lst : H R = some (.lst ((List.range n).map fun i => V.ref (adr i)))
  row : ∀ i, i < n → H (adr i) = some (.lst (rs i))
  inj : ∀ i j, i < n → j < n → adr i = adr j → i = j
  ne : ∀ i, i < n → adr i ≠ R
theorem RowsH.mono {H H' : Hp} {R : Addr} {n : Nat} {adr : Nat → Addr} {rs : Nat → List V} (s : Same H H') (h : RowsH H R n adr rs) : RowsH H' R n adr rs :=
  ⟨s _ _ h.lst, fun i hi => s _ _ (h.row i hi), h.inj, h.ne⟩
theorem RowsH.at {H : Hp} {R : Addr} {n : Nat} {adr : Nat → Addr} {rs : Nat → List V} (_h : RowsH H R n adr rs) {i : Nat} (hi : i < n) : ((List.range n).map fun i => V.ref (adr i))[i]? = some (.ref (adr i)) := by
  rw [List.getElem?_map, List.getElem?_range hi]
  rfl
theorem RowsH.upd {H : Hp} {R : Addr} {n : Nat} {adr : Nat → Addr} {rs : Nat → List V} (h : RowsH H R n adr rs) {i : Nat} (hi : i < n) (ys : List V) : RowsH (upd H (adr i) (.lst ys)) R n adr (fun k => if k = i then ys else rs k) := by
  refine ⟨?_, fun k hk => ?_, h.inj, h.ne⟩
  · rw [upd_ne (fun z => h.ne i hi z.symm)]
    exact h.lst
  · show _ = some (HO.lst (if k = i then ys else rs k))
    by_cases c : k = i
    · subst c
      rw [if_pos rfl, upd_same]
    · rw [if_neg c, upd_ne (fun z => c (h.inj k i hk hi z))]
      exact h.row k hk
theorem RowsH.other {H : Hp} {R p : Addr} {n : Nat} {adr : Nat → Addr} {rs : Nat → List V} {o : HO} (h : RowsH H R n adr rs) (hR : p ≠ R) (ha : ∀ i, i < n → adr i ≠ p) : RowsH (L2.upd H p o) R n adr rs := by
  refine ⟨?_, fun k hk => ?_, h.inj, h.ne⟩
  · rw [upd_ne (fun z => hR z.symm)]
    exact h.lst
  · rw [upd_ne (ha k hk)]
    exact h.row k hk
theorem RowsH.snoc {H H2 : Hp} {R t : Addr} {n : Nat} {adr : Nat → Addr} {rs : Nat → List V} {xs : List V} (h : RowsH H R n adr rs) (s : Same H H2) (nt : H t = none) (ht : H2 t = some (.lst xs)) :
    RowsH (L2.upd H2 R (.lst (((List.range n).map fun i => V.ref (adr i)) ++ [.ref t]))) R (n + 1) (fun k => if k = n then t else adr k) (fun k => if k = n then xs else rs k) := by
  have tR : t ≠ R := fun z => by
    rw [z, h.lst] at nt
    cases nt
  have ta : ∀ i, i < n → adr i ≠ t := fun i hi z => by
    rw [← z, h.row i hi] at nt
    cases nt
  refine ⟨?_, fun k hk => ?_, fun i j hi hj => ?_, fun i hi => ?_⟩
  · rw [upd_same, List.range_succ, List.map_append]
    congr 2
    congr 1
    · exact List.map_congr_left fun i hi => by
        have := List.mem_range.mp hi
        rw [if_neg (by omega)]
    · show _ = [V.ref (if n = n then t else adr n)]
      rw [if_pos rfl]
  · show L2.upd H2 R _ (if k = n then t else adr k) = some (HO.lst (if k = n then xs else rs k))
    by_cases c : k = n
    · rw [if_pos c, if_pos c, upd_ne tR]
      exact ht
    · rw [if_neg c, if_neg c, upd_ne (h.ne k (by omega))]
      exact s _ _ (h.row k (by omega))
  · show (if i = n then t else adr i) = (if j = n then t else adr j) → i = j
    by_cases c : i = n
    · by_cases d : j = n
      · intro _; omega
      · rw [if_pos c, if_neg d]
        intro z
        exact absurd z.symm (ta j (by omega))
    · by_cases d : j = n
      · rw [if_neg c, if_pos d]
        intro z
        exact absurd z (ta i (by omega))
      · rw [if_neg c, if_neg d]
        exact h.inj i j (by omega) (by omega)
  · show (if i = n then t else adr i) ≠ R
    by_cases c : i = n
    · rw [if_pos c]
      exact tR
    · rw [if_neg c]
      exact h.ne i (by omega)
theorem lc_freshR {n : Nat} {D : Addr} {σ : L2.St} {vs : List Nat} {s : Nat} {te : TE} {H1 : Hp} {Qd : Hp → Prop} (P : Nat → List V → Prop) (nD : H1 D = none) (hlen : n < 100000) (hw : ∀ v, wipe ((wipe σ vs).set s (some v)) vs = wipe σ vs)
    (he : ∀ (i : Nat) H' (R : VK), i < n → Same H1 H' → (∀ t xs H2, P i xs → Same H' H2 → H' t = none → H2 t = some (.lst xs) → R (.ref t) H2) → te ((wipe σ vs).set s (some (.int (i : Int)))) H' R)
    (hd : ∀ H' adr rs, Same H1 H' → RowsH H' D n adr rs → (∀ i, i < n → P i (rs i)) → (∀ i, i < n → H1 (adr i) = none) → Qd H') : CompO (Itr 0 n) (gName s) tYes te vs σ H1 D Qd := by
  refine lc_range (lo := 0) (n := n) (fun i H' => Same H1 H' ∧ ∃ adr rs, RowsH H' D i adr rs ∧ (∀ k, k < i → P k (rs k)) ∧ ∀ k, k < i → H1 (adr k) = none)
    ⟨same_upd nD, fun _ => D, fun _ => [], ⟨upd_same, fun i hi => absurd hi (Nat.not_lt_zero _), fun i _ hi => absurd hi (Nat.not_lt_zero _), fun i hi => absurd hi (Nat.not_lt_zero _)⟩, fun i hi => absurd hi (Nat.not_lt_zero _), fun i hi => absurd hi (Nat.not_lt_zero _)⟩
    (fun i H' hi ⟨s1, adr, rs, hR, hP, hN⟩ => ?_) (fun H' ⟨s1, adr, rs, hR, hP, hN⟩ => hd H' adr rs s1 hR hP hN)
  show wipe ((wipe σ vs).set s (some (.int (0 + (i : Int))))) vs = wipe σ vs ∧ _
  rw [show (0 : Int) + (i : Int) = (i : Int) by omega]
  refine ⟨hw _, ?_⟩
  refine rd_tYes ?_
  refine iteT ?_
  refine he i H' _ hi s1 fun t xs H2 hp s2 nt ht => ?_
  refine ⟨_, s2 _ _ hR.lst, ?_, Same.mut (s1.trans s2) nD, _, _, hR.snoc s2 nt ht, fun k hk => ?_, fun k hk => ?_⟩
  · rw [List.length_map, List.length_range]
    exact szlt (by omega)
  · show P k (if k = i then xs else rs k)
    by_cases c : k = i
    · rw [if_pos c, c]
      exact hp
    · rw [if_neg c]
      exact hP k (by omega)
  · show H1 (if k = i then t else adr k) = none
    by_cases c : k = i
    · rw [if_pos c]
      exact same_fresh s1 nt
    · rw [if_neg c]
      exact hN k (by omega)
theorem lc_freshL {K : PySem.W.Frag} {a D : Addr} {ys : List V} {σ : L2.St} {vs : List Nat} {s : Nat} {te : TE} {H1 : Hp} {Qd : Hp → Prop} (P : Nat → List V → Prop) (hL : SqL K H1 a ys) (nD : H1 D = none) (hlen : ys.length < 100000) (hw : ∀ v, wipe ((wipe σ vs).set s (some v)) vs = wipe σ vs)
    (he : ∀ (i : Nat) x H' (R : VK), ys[i]? = some x → Same H1 H' → (∀ t xs H2, P i xs → Same H' H2 → H' t = none → H2 t = some (.lst xs) → R (.ref t) H2) → te ((wipe σ vs).set s (some x)) H' R)
    (hd : ∀ H' adr rs, Same H1 H' → RowsH H' D ys.length adr rs → (∀ i, i < ys.length → P i (rs i)) → (∀ i, i < ys.length → H1 (adr i) = none) → Qd H') : CompO (Itl K a) (gName s) tYes te vs σ H1 D Qd := by
  refine lc_list (K := K) (a := a) (xs := ys) (fun i H' => Same H1 H' ∧ ∃ adr rs, RowsH H' D i adr rs ∧ (∀ k, k < i → P k (rs k)) ∧ ∀ k, k < i → H1 (adr k) = none)
    ⟨same_upd nD, fun _ => D, fun _ => [], ⟨upd_same, fun i hi => absurd hi (Nat.not_lt_zero _), fun i _ hi => absurd hi (Nat.not_lt_zero _), fun i hi => absurd hi (Nat.not_lt_zero _)⟩, fun i hi => absurd hi (Nat.not_lt_zero _), fun i hi => absurd hi (Nat.not_lt_zero _)⟩
    (fun i H' _ ⟨s1, _⟩ => s1.seq hL) (fun i x H' hx ⟨s1, adr, rs, hR, hP, hN⟩ => ?_) (fun H' ⟨s1, adr, rs, hR, hP, hN⟩ => hd H' adr rs s1 hR hP hN)
  have hi : i < ys.length := (List.getElem?_eq_some_iff.mp hx).1
  refine ⟨hw _, ?_⟩
  refine rd_tYes ?_
  refine iteT ?_
  refine he i x H' _ hx s1 fun t xs H2 hp s2 nt ht => ?_
  refine ⟨_, s2 _ _ hR.lst, ?_, Same.mut (s1.trans s2) nD, _, _, hR.snoc s2 nt ht, fun k hk => ?_, fun k hk => ?_⟩
  · rw [List.length_map, List.length_range]
    exact szlt (by omega)
  · show P k (if k = i then xs else rs k)
    by_cases c : k = i
    · rw [if_pos c, c]
      exact hp
    · rw [if_neg c]
      exact hP k (by omega)
  · show H1 (if k = i then t else adr k) = none
    by_cases c : k = i
    · rw [if_pos c]
      exact same_fresh s1 nt
    · rw [if_neg c]
      exact hN k (by omega)
theorem cr_sortedIK {X : Cx} {K : PySem.W.Frag} (h : X.K = K) : CallR X (.builtin "sorted") (rSortedI K) := by subst h; exact cr_sortedI
theorem RowsH.congr {H : Hp} {R : Addr} {n : Nat} {adr : Nat → Addr} {rs rs' : Nat → List V} (h : RowsH H R n adr rs) (e : ∀ i, i < n → rs i = rs' i) : RowsH H R n adr rs' :=
  ⟨h.lst, fun i hi => by rw [← e i hi]; exact h.row i hi, h.inj, h.ne⟩
theorem pick {n : Nat} {rs : Nat → List V} {G : Nat → List Nat → Prop} (h : ∀ i, i < n → ∃ ms : List Nat, rs i = IL (NI ms) ∧ G i ms) : ∃ f : Nat → List Nat, ∀ i, i < n → rs i = IL (NI (f i)) ∧ G i (f i) := by
  refine ⟨fun i => if hi : i < n then Classical.choose (h i hi) else [], fun i hi => ?_⟩
  simp only [dif_pos hi]
  exact Classical.choose_spec (h i hi)
theorem perm_NI {zs : List Int} {ms : List Nat} (h : zs.Perm (NI ms)) : ∃ ks : List Nat, zs = NI ks ∧ ks.Perm ms := by
  have e : zs = NI (zs.map Int.toNat) := by
    unfold NI
    rw [List.map_map]
    refine (List.map_id _).symm.trans (List.map_congr_left fun z hz => ?_)
    obtain ⟨k, _, rfl⟩ := List.mem_map.mp (h.mem_iff.mp hz)
    show (k : Int) = ((Int.toNat (k : Int) : Nat) : Int)
    omega
  refine ⟨zs.map Int.toNat, e, ?_⟩
  have h2 := h.map Int.toNat
  unfold NI at h2
  rw [List.map_map] at h2
  have : ms.map (Int.toNat ∘ fun (k : Nat) => (k : Int)) = ms := (List.map_congr_left fun k _ => by show Int.toNat (k : Int) = id k; exact Int.toNat_natCast k).trans (List.map_id _)
  rw [this] at h2
  exact h2
theorem atI_end {α : Type} {xs : List α} {v : α} (h0 : 0 < xs.length) (h : xs[xs.length - 1]? = some v) : atI xs (-1) = some v := by
  unfold atI ixN
  rw [if_neg (by decide), if_pos (by omega)]
  have e : ((-1 : Int) + (xs.length : Int)).toNat = xs.length - 1 := by omega
  rw [e]
  exact h
theorem lc_listFI {K : PySem.W.Frag} {a D : Addr} {zs : List Int} {s : Nat} {σ : L2.St} {vs : List Nat} {tt : TT} {te : TE} {H1 : Hp} {Qd : Hp → Prop} (p : Int → Bool) (hL : SqL K H1 a (IL zs)) (nD : H1 D = none) (hlen : zs.length < 100000)
    (hw : ∀ v, wipe ((wipe σ vs).set s (some v)) vs = wipe σ vs)
    (ht : ∀ (z : Int) H' (R : Bool → Hp → Prop), z ∈ zs → Same H1 H' → (∀ H'', Same H' H'' → R (p z) H'') → tt ((wipe σ vs).set s (some (.int z))) H' R)
    (he : ∀ (z : Int) H' (R : VK), z ∈ zs → p z = true → Same H1 H' → (∀ H'', Same H' H'' → R (.int z) H'') → te ((wipe σ vs).set s (some (.int z))) H' R)
    (hd : ∀ H', Same H1 H' → H' D = some (.lst (IL (zs.filter p))) → Qd H') : CompO (Itl K a) (gName s) tt te vs σ H1 D Qd := by
  refine lc_listG (fun x => (wipe σ vs).set s (some x)) (fun x => match x with | .int z => p z | _ => false) (fun x => x) hL nD (by rw [IL, List.length_map]; exact hlen) (fun x H' R _ _ q => q) (fun x _ => hw x) (fun x H' R hx s1 q => ?_) (fun x H' R hx hp s1 q => ?_) (fun H' s1 h => hd H' s1 ?_)
  · obtain ⟨z, hz, rfl⟩ := List.mem_map.mp hx
    exact ht z H' R hz s1 q
  · obtain ⟨z, hz, rfl⟩ := List.mem_map.mp hx
    exact he z H' R hz hp s1 q
  · rw [h, List.map_id', IL, IL, List.filter_map]
    rfl

/-! ## errors caught where nothing else is handled: several clauses, with a name -/
theorem passLN {X : Cx} : Passes (L2N.CX X.prog X.w) X E0 := fun _ _ _ _ _ _ _ h => by
  obtain ⟨_, _, _, _, _, _, _, _, _, _, _, _, z⟩ := h
  exact z.elim
theorem takes0N {X : Cx} : L2N.Takes X (fun _ _ _ _ => False) := fun _ _ x => by
  obtain ⟨_, _, _, _, _, _, _, _, _, _, _, _, _, _, _, _, z⟩ := x
  exact z.elim
theorem okN {P : Program} {w : World} {K : PySem.W.Frag} {mg : Str → Option Value} {base : Heap} {x qual : Str} {st : Stmt} {f : Addr} {fd : FuncData} {N ps : List Str} {k : Nat} {sp : Sp} (F : Fun K x qual st f fd) (S : FnScope N ps (defScope st)) (len : ∀ vs H Q E, sp vs H Q E → vs.length = ps.length)
    (hbody : ∀ (cdv : Value) (A : Around) (outer : List Env) (s : Shared) (H : Hp) (vs : List V) (Q : VK) (E : XK), Room k (A.deeper (envOfC qual (defScope st) s.heap.objs.size f cdv)) → sp vs H Q E →
      ∃ t, PSs (cxOf (L2N.CX P w) P w K mg base N qual (defScope st) f cdv A outer s H E) (defBody st) t ∧ t { nx := fun _ H' => Q .non H', rt := Q } (L2.start N vs) H) : FnOk P w K mg base (L2N.CX P w) (k + 1) f fd ps sp := by
  obtain ⟨oc, od, kV, doc, pm, an, cdv, ct, osl, rfl, lk, hcd⟩ := F.ex
  exact fn_of lk hcd S len fun A outer s H vs Q E hr hsp => hbody cdv A outer s H vs Q E hr hsp
/-- one clause: the class, the slot of its name, its suite -/
abbrev Clause : Type := Value × Option Nat × (Addr → Value → Option Addr → TS)
def endsOf (D : Ends) : Option Nat → Ends
  | none => D
  | some i => { nx := fun σ H => D.nx (σ.set i none) H, rt := D.rt, bk := fun σ H => D.bk (σ.set i none) H, ct := fun σ H => D.ct (σ.set i none) H }
def slotOf (σ : L2.St) (a : Addr) : Option Nat → L2.St
  | none => σ
  | some i => σ.set i (some (.ref a))
def wManyA (K : PySem.W.Frag) (Wout : WX) (D : Ends) : List Clause → WX
  | [] => Wout
  | (c, n, ts) :: r => fun cls d σ H => ∃ b, PySem.W.exmOne K cls c = some b ∧ (b = true → ∀ a, H a = none → ts a cls d (endsOf D n) (slotOf σ a n) H) ∧ (b = false → wManyA K Wout D r cls d σ H)
inductive HdsA (X : Cx) : List ExceptHandler → List Clause → Prop
  | nil : HdsA X [] []
  | cons {x : Str} {c : Value} {ts : Addr → Value → Option Addr → TS} {b₀ : Stmt} {suite : List Stmt} {np pos' : Pos} {hds : List ExceptHandler} {l : List Clause} (hc : Names X x c)
      (hsu : ∀ (a : Addr) (oe : Obj) (cls : Value) (d : Option Addr) (pn : List (Addr × Obj)), L2N.Zn cls d oe → (∃ vs, oe.data = .fields vs) → PSs (X.suite a ((a, oe) :: pn)) (b₀ :: suite) (ts a cls d)) (r : HdsA X hds l) :
      HdsA X (.ExceptHandler (some (.Name x np)) none (b₀ :: suite) pos' :: hds) ((c, none, ts) :: l)
  | consA {i : Nat} {x n : Str} {c : Value} {ts : Addr → Value → Option Addr → TS} {b₀ : Stmt} {suite : List Stmt} {np pos' : Pos} {hds : List ExceptHandler} {l : List Clause} (hi : X.N[i]? = some n) (hln : X.env.kindOf n = some .local) (hc : Names X x c)
      (hsu : ∀ (a : Addr) (oe : Obj) (cls : Value) (d : Option Addr) (pn : List (Addr × Obj)), L2N.Zn cls d oe → (∃ vs, oe.data = .fields vs) → PSs (X.suite a ((a, oe) :: pn)) (b₀ :: suite) (ts a cls d)) (r : HdsA X hds l) :
      HdsA X (.ExceptHandler (some (.Name x np)) (some n) (b₀ :: suite) pos' :: hds) ((c, some i, ts) :: l)
section
variable {X : Cx} {body : List Stmt} {h₀ : ExceptHandler} {hds : List ExceptHandler} {l : List Clause} {pos : Pos} {tb : WX → TS} {Wout : WX}
theorem ps_try_manyA (hs : X.stack = X.env :: X.outer) (hf : X.env.frame = some X.env.locals) (hN : X.N.Nodup) (tk : L2N.Takes X Wout)
    (hb : ∀ (W : WX) (pn : List (Addr × Obj)) (xe : Value → Shared → Prop), L2N.Takes (X.tr pn xe) W → PassesOwn (model X.prog X.w) X.A X.env xe → PSs (X.tr pn xe) body (tb W))
    (hh : HdsA X (h₀ :: hds) l) : PS X (.Try body (h₀ :: hds) [] [] pos) (fun D σ H => tb (wManyA X.K Wout D l) D σ H) := by
  refine ⟨fun pins s σ H D I h => ?_⟩
  have ok := I.ok
  have hfr : X.A.frames = some (X.env :: X.outer) := by rw [ok.frames, hs]
  refine wpAny_Try_except ?_
  refine wpAny_mono ((hb (wManyA X.K Wout D l) (X.pn ++ pins) (fun e s₁ => wpAny (model X.prog X.w) X.A (noteFrame e X.env) (fun _ s₂ => wpAny (model X.prog X.w) X.A (setFlight e none) (fun _ s₃ =>
    wpAny (model X.prog X.w) X.A (handleBy e X.env (h₀ :: hds)) (SP X pins D) X.xe s₃) X.xe s₂) X.xe s₁) (fun u s' xx => ?_) PassesOwn.looking).run [] s σ H D (I.toTry _) h) (fun f s1 hsp => ?_) (fun e s1 he => he)
  · obtain ⟨a, B, sI, pins', σ', H', cls, d, rfl, J', nb, up, sky, na, os, ag, w⟩ := xx
    have J : Inv X pins σ' H' sI := J'.ofTry ok
    have sky' : Sky B (X.env :: X.outer) a (L2N.Zn cls d) X.env.locals s'.heap := by rw [← hs]; exact sky
    show wpAny (model X.prog X.w) X.A (noteFrame (.ref a) X.env) _ _ _
    refine L2N.Sky.land L2N.Zn.steady hfr hf sky' fun h3 fl3 up3 => ?_
    have J3 : Inv X pins σ' H' { s' with heap := h3 } := J.landed nb fl3.1 (up.trans up3) os ag
    obtain ⟨oe3, vs3, he3, hz3, hd3⟩ := fl3.there
    have nfr : a ∉ frs (X.env :: X.outer) := fun hm => by
      obtain ⟨_, o', e', hnf⟩ := fl3.2.2.1.mem hm
      rw [he3] at e'; cases e'
      exact hnf _ hd3
    have nL : a ≠ X.env.locals := fun z => nfr (List.mem_filterMap.mpr ⟨X.env, List.mem_cons_self, by rw [hf, z]⟩)
    have nF : a ∉ X.fs := fun hm => by
      obtain ⟨e, he, q⟩ := List.mem_filterMap.mp hm
      exact nfr (List.mem_filterMap.mpr ⟨e, List.mem_cons_of_mem _ he, q⟩)
    have S3 := J3.suite he3 hd3 na nL nF
    have LT : PySem.W.Looks (model X.prog X.w) h3 (typeOf (.ref a)) cls := fun A Q E s k q => wpAny_typeOf_ref (k _ _ he3) (by rw [hz3.1]; exact q)
    have test : ∀ {x : Str} {c : Value} {np : Pos} {Q : Value → Shared → Prop} {E : Value → Shared → Prop}, Names X x c → Q c { s' with heap := h3 } → wpAny (model X.prog X.w) (X.A.mark (some (.ref a))) (eval (.Name x np) X.env) Q E { s' with heap := h3 } := fun {x c np Q E} hc q => by
      obtain ⟨hg, hdbg, hm | ⟨hm, hv, hnn⟩⟩ := hc
      · exact ld_glob (X := X.suite a ((a, oe3) :: (X.pn ++ pins))) S3 hg hm q hdbg
      · exact ld_blt (X := X.suite a ((a, oe3) :: (X.pn ++ pins))) S3 hg hm hv q hnn hdbg
    have go : ∀ {hds' : List ExceptHandler} {l' : List Clause}, HdsA X hds' l' → wManyA X.K Wout D l' cls d σ' H' →
        wpAny (model X.prog X.w) X.A (handleBy (.ref a) X.env hds') (SP X pins D) X.xe { s' with heap := h3 } := by
      intro hds' l' hk
      induction hk with
      | nil =>
        intro w
        refine wpAny_handleBy_nil ?_
        obtain ⟨k1, k2, k3, oe, vs, T, oT, ts', he, hz, hd, h1, hr⟩ := id fl3
        unfold PySem.passOn
        refine wpAny_bind (wpAny_field he hd h1 ?_)
        rw [if_neg (show ¬ ((Value.ref T == Value.none) = true) from by simp)]
        have fin : wpAny (model X.prog X.w) X.A (setFlight (.ref a) X.env.frame) (fun _ s4 => wpAny (model X.prog X.w) X.A (throw (.ref a) : Sem Flow) (SP X pins D) X.xe s4) X.xe { s' with heap := h3 } := by
          rw [hf]
          refine HandSPX.setFlight_upZ fl3 fun h4 hh4 up4 => wpAny_throw (tk _ _ ?_)
          exact ⟨a, B, sI, pins, σ', H', cls, d, rfl, J, nb, (up.trans up3).trans up4, .inr (.inr (by rw [hs]; exact hh4)), na, os, ag, w⟩
        first
          | exact wpAny_bind (wpAny_pure (wpAny_bind fin))
          | exact wpAny_bind fin
      | @cons x c ts b₀ suite np pos' hds2 l2 hc hsu r ih =>
        intro w
        obtain ⟨b, hb1, hyes, hno⟩ := w
        refine wpAny_handleBy_cons (codeAny_handlers_test ?_) (by intro q; cases q)
        refine test hc ((PySem.W.exm_one (M := model X.prog X.w) (J3.kIn) LT hb1).here ?_)
        cases b with
        | true =>
          refine codeAny_handlers_suite ?_
          refine HandSPX.lands_againZ fl3 fun h4 fl4 up4 => ?_
          have J4 : Inv X pins σ' H' { s' with heap := h4 } := J.landed nb fl4.1 ((up.trans up3).trans up4) os ag
          obtain ⟨oe4, vs4, he4, hz4, hd4⟩ := fl4.there
          have S4 := J4.suite he4 hd4 na nL nF
          refine wpAny_mono ((hsu a oe4 cls d (X.pn ++ pins) hz4 ⟨_, hd4⟩).run [] _ _ H' _ S4 (hyes rfl a na)) (fun f s6 hsp => ?_) (fun _ _ z => False.elim z)
          cases f with
          | ret u =>
            obtain ⟨v6, σ6, H6, S6, r6, q6⟩ := hsp
            exact ⟨_, _, _, S6.unsuite ok, r6, q6⟩
          | _ =>
            obtain ⟨σ6, H6, S6, q6⟩ := hsp
            exact ⟨_, _, S6.unsuite ok, q6⟩
        | false =>
          show wpAny _ X.A (handleBy (.ref a) X.env hds2) _ _ _
          exact ih (hno rfl)
      | @consA i x n c ts b₀ suite np pos' hds2 l2 hi hln hc hsu r ih =>
        intro w
        obtain ⟨b, hb1, hyes, hno⟩ := w
        refine wpAny_handleBy_cons (codeAny_handlers_test ?_) (by intro q; cases q)
        refine test hc ((PySem.W.exm_one (M := model X.prog X.w) (J3.kIn) LT hb1).here ?_)
        cases b with
        | true =>
          refine codeAny_handlers_suite_as ?_
          refine HandSPX.lands_againZ fl3 fun h4 fl4 up4 => ?_
          have J4 : Inv X pins σ' H' { s' with heap := h4 } := J.landed nb fl4.1 ((up.trans up3).trans up4) os ag
          obtain ⟨oe4, vs4, he4, hz4, hd4⟩ := fl4.there
          have S4 := J4.suite he4 hd4 na nL nF
          refine store_ok (X := X.suite a ((a, oe4) :: (X.pn ++ pins))) (v := .ref a) S4 hN hi (.inl hln) rfl (fun s5 S5 => ?_) (.inr hln)
          refine wpAny_mono ((hsu a oe4 cls d (X.pn ++ pins) hz4 ⟨_, hd4⟩).run [] s5 _ H' _ S5 (hyes rfl a na)) (fun f s6 hsp => ?_) (fun _ _ z => False.elim z)
          have end_ : ∀ {σ6 : L2.St} {H6 : Hp} {Q : Shared → Prop}, Inv (X.suite a ((a, oe4) :: (X.pn ++ pins))) [] σ6 H6 s6 → (∀ s7, Inv X pins (σ6.set i none) H6 s7 → Q s7) →
              wpAny (model X.prog X.w) X.A (do bindName X.env n .none; unbindBehindTheSuite X.env n pos') (fun _ s7 => Q s7) X.xe s6 := fun {σ6 H6 Q} S6 hq => gone_ok (S6.unsuite ok) hN hi hln hq
          cases f with
          | ret u =>
            obtain ⟨v6, σ6, H6, S6, r6, q6⟩ := hsp
            exact end_ S6 fun s7 J7 => ⟨_, _, _, J7, r6, q6⟩
          | _ =>
            obtain ⟨σ6, H6, S6, q6⟩ := hsp
            exact end_ S6 fun s7 J7 => ⟨_, _, J7, q6⟩
        | false =>
          show wpAny _ X.A (handleBy (.ref a) X.env hds2) _ _ _
          exact ih (hno rfl)
    exact go hh w
  · cases f with
    | ret u =>
      obtain ⟨v, σ', H', J', r, q⟩ := hsp
      exact ⟨v, σ', H', J'.ofTry ok, r, q⟩
    | next =>
      obtain ⟨σ', H', J', q⟩ := hsp
      exact wpAny_execs_nil ⟨σ', H', J'.ofTry ok, q⟩
    | _ =>
      obtain ⟨σ', H', J', q⟩ := hsp
      exact ⟨σ', H', J'.ofTry ok, q⟩
end
/-! ## a law's def called on the caught error -/
open L2H in
/-- what such a def promises while p is the error that is handled -/
structure FnP (P : Program) (w : World) (K : PySem.W.Frag) (mg : Str → Option Value) (base : Heap) (k : Nat) (f : Addr) (fd : FuncData) (ps : List Str) (p : Addr × Obj) (sp : Sp) : Prop where
  len : ∀ vs H Q E, sp vs H Q E → vs.length = ps.length
  run : ∀ (A : Around) (outer : List Env) (s : Shared) (H : Hp) (args : Args) (us : List Value) (vs : List V) (Q : VK) (E : XK), RoomH k A → Hot1 A p → PinOk outer H s p → Env0 P w K mg base A outer s H → BindsTo s fd args (ps.zip us) → Vals vs us → sp vs H Q E →
    codeAny (model P w) A (.call (.ref f) args) (CR CX0 outer P w H s Q E) s
open L2H in
theorem okP {P : Program} {w : World} {K : PySem.W.Frag} {mg : Str → Option Value} {base : Heap} {x qual : Str} {st : Stmt} {f : Addr} {fd : FuncData} {N ps : List Str} {k : Nat} {p : Addr × Obj} {sp : Sp} (F : Fun K x qual st f fd) (S : FnScope N ps (defScope st)) (len : ∀ vs H Q E, sp vs H Q E → vs.length = ps.length)
    (hbody : ∀ (cdv : Value) (A : Around) (outer : List Env) (s : Shared) (H : Hp) (vs : List V) (Q : VK) (E : XK), Hot1 A p → RoomH k (A.deeper (envOfC qual (defScope st) s.heap.objs.size f cdv)) → sp vs H Q E →
      ∃ t, PSs (cxH CX0 P w K mg base N qual (defScope st) f cdv A outer s H E p) (defBody st) t ∧ t { nx := fun _ H' => Q .non H', rt := Q } (L2.start N vs) H) : FnP P w K mg base (k + 1) f fd ps p sp := by
  obtain ⟨oc, od, kV, doc, pm, an, cdv, ct, osl, rfl, lk, hcd⟩ := F.ex
  refine ⟨len, fun A outer s H args us vs Q E hr hot hpin e0 hb r hsp => ?_⟩
  have hl := len _ _ _ _ hsp
  have kin : K.In s.heap := e0.mod.kin.keeps fun b o e => (e0.bs b o e).1
  have hkind : ∀ y ∈ ps.zip us, (defScope st).names.lookup y.1 = some .local ∨ ((defScope st).names.lookup y.1 = some .cell ∧ ((cellsFrom (s.heap.objs.size + 1) (defScope st).names []).lookup y.1).isSome = true) := fun ⟨n, v⟩ hy =>
    (S.par n (List.of_mem_zip hy).1).imp id fun q => ⟨q, PySem.W.cellsFrom_some _ _ _ (.inl q)⟩
  refine codeAny_call_function hr.depth (kin _ _ lk) rfl S.co S.gen rfl (PySem.W.codeRec_of kin hcd) (hb _ _ _ _ ?_)
  refine wpAny_newFunctionEnv_cells S.kind hkind fun env he s1 x => ?_
  subst he
  refine ⟨(e0.mod.nolimit.keeps fun b o e => (e0.bs b o e).1).keeps x.toInCall.keep, codeAny_func ?_⟩
  obtain ⟨t, ht, hq⟩ := hbody cdv A outer s H vs Q E hot (hr.deeper _) hsp
  refine wpAny_mono (ht.run [] s1 (L2.start N vs) H _ (inv_startH S hpin e0 hl r x) hq) (fun fl s' hs => ?_) fun e s' hs => hs
  cases fl with
  | ret u =>
    obtain ⟨v, σ', H', J, rv, q⟩ := hs
    exact ⟨v, H', J.os, J.bare, J.base, J.hok, rv, q⟩
  | next =>
    obtain ⟨σ', H', J, q⟩ := hs
    exact ⟨V.non, H', J.os, J.bare, J.base, J.hok, rfl, q⟩
  | brk =>
    obtain ⟨_, _, _, q⟩ := hs
    exact q.elim
  | cont =>
    obtain ⟨_, _, _, q⟩ := hs
    exact q.elim
open L2H in
theorem pe_callP {X : Cx} {k : Nat} {f : Addr} {fd : FuncData} {ps : List Str} {p : Addr × Obj} {sp : Sp} {x : Str} {q pos : Pos} {e : Expr} {es : List Expr} {t : TA} (F : FnP X.prog X.w X.K X.mg X.base k f fd ps p sp) (hr : RoomH k X.A) (hot : Hot1 X.A p) (hp : p ∈ X.pn) (hg : Gl X x) (hm : X.mg x = some (.ref f)) (hk : PySem.W.keepIn X.K (.ref f) = true) (hb : Binds X.K fd ps [])
    (ha : PA X (e :: es) t) (hdb : (x == ("__debug__" : Str)) = false := by decide) (he : starEach (e :: es) X.env = (false, eval e X.env) :: starEach es X.env := by rfl) (hpl : (backTo pos (starEach es X.env)).any (·.1) = false := by rfl) :
    PE X (.Call (.Name x q) (e :: es) [] pos) (tCallS sp (fun _ => E0) t) := by
  refine ⟨fun pins s σ H Q I h => ?_⟩
  refine wpAny_Call_Name_kw (ld_glob I hg hm ?_ hdb)
  refine PySem.W.callWith_K (h₀ := X.base) I.ok.mod.kin hk (thn (ha.run pos pins s σ H _ I h) fun us s1 ⟨vs, H1, I1, r, q⟩ => ⟨I1.kIn, ?_⟩) he hpl
  have hl : us.length = ps.length := by rw [← r.length]; exact F.len _ _ _ _ q
  have b := hb s1 us I1.kIn (by rw [List.append_nil]; exact hl)
  rw [List.append_nil] at b
  obtain ⟨p1, p2, p3, p4, p5⟩ := I1.pin p (List.mem_append_left _ hp)
  refine wpAny_call (codeAny_mono (F.run X.A X.stack s1 H1 ⟨us, []⟩ us vs Q E0 hr hot ⟨p1, p2, fun hm => (List.mem_cons.mp (I1.stkSub p.1 hm)).elim p3 p4, p5⟩ I1.env0 b r q) fun r s' hq => ?_)
  cases r with
  | error e => exact False.elim hq
  | ok fl =>
    cases fl with
    | ret u => exact I1.after hq
    | _ => exact False.elim hq
theorem call_isP {X : Cx} {p : Addr × Obj} {D : Addr} (hp : p ∈ X.pn) (C : ExcC X.K D) (hz : Zc (.ref D) none p.2) (hf : ∃ vs, p.2.data = .fields vs) : CallR X (.builtin "isinstance") (rIsE X.K D p.1) := by
  intro pins s σ H xs us Q I r h
  obtain ⟨c, cv, b, rfl, hcv, e, q⟩ := h
  cases r with
  | cons rx rr =>
    cases rr with
    | cons rt rr =>
      cases rr
      cases rx
      have ec := hcv _ rt
      subst ec
      obtain ⟨hget, _⟩ := I.pin p (List.mem_append_left _ hp)
      obtain ⟨vs, hv⟩ := hf
      have J : PySem.W.InstAt s.heap p.1 p.2 D none := by
        obtain ⟨pa, oc, od, oda, osl⟩ := p
        obtain ⟨h1, h2⟩ := hz
        dsimp only at h1 h2 hv hget ⊢
        subst h1 h2 hv
        exact ⟨hget, rfl, rfl, trivial⟩
      exact PySem.W.kia_one (PySem.W.handS_kitx_exc C.hg C.hk C.hs C.hd C.ha C.hn C.ht C.hm) I.kIn J e (fun z => nomatch z) fun tk => ⟨.bl b, H, I.kept (t' := tk) fun _ _ z => z, rfl, q⟩
theorem hot2 {cls : Value} {d : Option Addr} {oe : Obj} (hz : L2N.Zn cls d oe) (hf : ∃ vs, oe.data = .fields vs) : ∃ vs : Array Value, oe.data = .fields vs ∧ vs[2]? = some .none := by
  obtain ⟨vs, e⟩ := hf
  exact ⟨vs, e, hz.2.2 vs e⟩
theorem rd_isE {K : PySem.W.Frag} {D a C : Addr} {b : Bool} {H : Hp} {Q : VK} (e : PySem.W.kitOne K (.ref D) (.ref C) = some b) (q : Q (.bl b) H) : rIsE K D a [.ref a, .ref C] H Q := ⟨.ref C, .ref C, b, rfl, fun _ r => r, e, q⟩
theorem rd_isT {K : PySem.W.Frag} {D a : Addr} {n : String} {b : Bool} {H : Hp} {Q : VK} (e : PySem.W.kitOne K (.ref D) (.type n) = some b) (q : Q (.bl b) H) : rIsE K D a [.ref a, .ty n] H Q := ⟨.ty n, .type n, b, rfl, fun _ r => r, e, q⟩
theorem roomM {j k : Nat} {A : Around} {v : Option Value} (r : Room k A) (h : j ≤ k) : L2H.RoomH j (A.mark v) := ⟨(r.mono h).dp, (r.mono h).un⟩
/-- a for over a tuple, its body not yet opened -/
abbrev ForT (K : PySem.W.Frag) (a : Addr) (xs : List V) (g : TG) (tb : TS) (D : Ends) (σ : L2.St) (H : Hp) : Prop := ∃ Pv : Nat → L2.St → Hp → Prop, Pv 0 σ H ∧ (∀ i σ H, i ≤ xs.length → Pv i σ H → SqT K H a xs) ∧
  (∀ i x σ H, xs[i]? = some x → Pv i σ H → g x σ H fun σ2 H2 => tb { D with nx := Pv (i + 1), ct := Pv (i + 1), bk := D.nx } σ2 H2) ∧ (∀ σ H, Pv xs.length σ H → D.nx σ H)
theorem rd_forTup {K : PySem.W.Frag} {tl : TE} {g : TG} {tb : TS} {D : Ends} {σ : L2.St} {H : Hp} (mono : ∀ σ H Q Q', (∀ x H1, Q x H1 → Q' x H1) → tl σ H Q → tl σ H Q') (q : tl σ H fun x H1 => ∃ a xs, x = .ref a ∧ SqT K H1 a xs ∧ ForT K a xs g tb D σ H1) : tFor (iTup K tl) g tb D σ H := by
  refine mono σ H _ _ (fun x H1 h => ?_) q
  obtain ⟨a, xs, e, hs, Pv, h0, hl, h1, h2⟩ := h
  exact ⟨a, e, ⟨xs, hs⟩, for_tup Pv h0 hl h1 h2⟩
/-- an instance made within a try -/
theorem pe_makeS {X : Cx} {C f : Addr} {k n : Nat} {fd : FuncData} {ps : List Str} {sp : Sp} {W : WX} {x : Str} {p pos : Pos} {e : Expr} {es : List Expr} {t : TA} (M : Mk X.K C f) (F : FnOk X.prog X.w X.K X.mg X.base (L2N.CX X.prog X.w) k f fd ps sp) (hr : Room (k + 1) X.A) (tk : L2N.Takes X W) (hg : Gl X x) (hm : X.mg x = some (.ref C)) (hb : Binds X.K fd ps [])
    (ha : PA X (e :: es) t) (hn : X.N.length = n := by rfl) (hdb : (x == ("__debug__" : Str)) = false := by decide) (he : starEach (e :: es) X.env = (false, eval e X.env) :: starEach es X.env := by rfl) (hpl : (backTo pos (starEach es X.env)).any (·.1) = false := by rfl) :
    PE X (.Call (.Name x p) (e :: es) [] pos) (tMake C sp [] (fun cls d H' => ∀ σ : L2.St, σ.length = n → W cls d σ H') t) :=
  pe_make (E := fun cls d H' => ∀ σ : L2.St, σ.length = n → W cls d σ H') M F hr hg hm hb .nil (fun _ σ _ _ u s' I c => tk u s' (L2N.XE.of_call I (fun _ _ _ h => h σ (I.len.trans hn)) c)) ha hdb he hpl


def top (i : Nat) : Stmt := PySem.Challenge.pw_hillsight_k12_lands_checked.main.body.getD i (.Pass ⟨0, 0, 0, 0⟩)
abbrev s_wall : Stmt := top 0
abbrev s_is_whole : Stmt := top 9
abbrev s_need_hill : Stmt := top 10
abbrev s_slope : Stmt := top 11
abbrev s_steeper : Stmt := top 12
abbrev s_behind : Stmt := top 14
abbrev s_sights : Stmt := top 15
abbrev s_is_height : Stmt := top 19
abbrev s_checked : Stmt := top 20
abbrev s_lacking : Stmt := top 21
abbrev s_Land___init__ : Stmt := inClass (top 22) 0
abbrev s_Land_told : Stmt := inClass (top 22) 1
abbrev s_Land_seen : Stmt := inClass (top 22) 2
abbrev s_Land_moved : Stmt := inClass (top 22) 3
abbrev s_Land_lift : Stmt := inClass (top 22) 4
abbrev s_Land_back : Stmt := inClass (top 22) 5
abbrev s_law_sole : Stmt := top 24
abbrev s_law_whole : Stmt := top 25
abbrev s_law_cell_at : Stmt := top 26
abbrev s_law_refused : Stmt := top 27
abbrev s_law : Stmt := top 28
theorem sc_wall : FnScope ["k"] ["k"] (defScope s_wall) := ⟨rfl, rfl, rfl, by decide +kernel, rfl, by decide +kernel, by decide +kernel⟩
theorem sc_is_whole : FnScope ["thing"] ["thing"] (defScope s_is_whole) := ⟨rfl, rfl, rfl, by decide +kernel, rfl, by decide +kernel, by decide +kernel⟩
theorem sc_need_hill : FnScope ["land", "place"] ["land", "place"] (defScope s_need_hill) := ⟨rfl, rfl, rfl, by decide +kernel, rfl, by decide +kernel, by decide +kernel⟩
theorem sc_slope : FnScope ["land", "a", "b"] ["land", "a", "b"] (defScope s_slope) := ⟨rfl, rfl, rfl, by decide +kernel, rfl, by decide +kernel, by decide +kernel⟩
theorem sc_steeper : FnScope ["one", "other"] ["one", "other"] (defScope s_steeper) := ⟨rfl, rfl, rfl, by decide +kernel, rfl, by decide +kernel, by decide +kernel⟩
theorem sc_behind : FnScope ["land", "a", "found", "best", "b", "now"] ["land", "a"] (defScope s_behind) := ⟨rfl, rfl, rfl, by decide +kernel, rfl, by decide +kernel, by decide +kernel⟩
theorem sc_sights : FnScope ["land", "found", "a", "b"] ["land"] (defScope s_sights) := ⟨rfl, rfl, rfl, by decide +kernel, rfl, by decide +kernel, by decide +kernel⟩
theorem sc_is_height : FnScope ["thing"] ["thing"] (defScope s_is_height) := ⟨rfl, rfl, rfl, by decide +kernel, rfl, by decide +kernel, by decide +kernel⟩
theorem sc_checked : FnScope ["land", "height"] ["land"] (defScope s_checked) := ⟨rfl, rfl, rfl, by decide +kernel, rfl, by decide +kernel, by decide +kernel⟩
theorem sc_lacking : FnScope ["pairs", "others", "there", "pair"] ["pairs", "others"] (defScope s_lacking) := ⟨rfl, rfl, rfl, by decide +kernel, rfl, by decide +kernel, by decide +kernel⟩
theorem sc_Land___init__ : FnScope ["self", "heights"] ["self", "heights"] (defScope s_Land___init__) := ⟨rfl, rfl, rfl, by decide +kernel, rfl, by decide +kernel, by decide +kernel⟩
theorem sc_Land_told : FnScope ["self"] ["self"] (defScope s_Land_told) := ⟨rfl, rfl, rfl, by decide +kernel, rfl, by decide +kernel, by decide +kernel⟩
theorem sc_Land_seen : FnScope ["self"] ["self"] (defScope s_Land_seen) := ⟨rfl, rfl, rfl, by decide +kernel, rfl, by decide +kernel, by decide +kernel⟩
theorem sc_Land_moved : FnScope ["self", "place", "by", "ahead", "later"] ["self", "place", "by"] (defScope s_Land_moved) := ⟨rfl, rfl, rfl, by decide +kernel, rfl, by decide +kernel, by decide +kernel⟩
theorem sc_Land_lift : FnScope ["self", "place", "by"] ["self", "place", "by"] (defScope s_Land_lift) := ⟨rfl, rfl, rfl, by decide +kernel, rfl, by decide +kernel, by decide +kernel⟩
theorem sc_Land_back : FnScope ["self", "place", "by"] ["self"] (defScope s_Land_back) := ⟨rfl, rfl, rfl, by decide +kernel, rfl, by decide +kernel, by decide +kernel⟩
theorem sc_law_sole : FnScope ["_law_error", "_law_many"] ["_law_error"] (defScope s_law_sole) := ⟨rfl, rfl, rfl, by decide +kernel, rfl, by decide +kernel, by decide +kernel⟩
theorem sc_law_whole : FnScope ["_law_found"] ["_law_found"] (defScope s_law_whole) := ⟨rfl, rfl, rfl, by decide +kernel, rfl, by decide +kernel, by decide +kernel⟩
theorem sc_law_cell_at : FnScope ["_law_script", "_law_k"] ["_law_script", "_law_k"] (defScope s_law_cell_at) := ⟨rfl, rfl, rfl, by decide +kernel, rfl, by decide +kernel, by decide +kernel⟩
theorem sc_law_refused : FnScope ["_law_thing", "_law_by_land", "_law_error"] ["_law_thing", "_law_by_land"] (defScope s_law_refused) := ⟨rfl, rfl, rfl, by decide +kernel, rfl, by decide +kernel, by decide +kernel⟩
theorem sc_law : FnScope ["_law_script", "_law_far", "_law_size", "_law_good", "_law_k", "_law_place", "_law_kind", "_law_handed", "_law_found", "_law_height", "_law_land", "_law_wrong", "_law_bad", "_law_some"] ["_law_script"] (defScope s_law) := ⟨rfl, rfl, rfl, by decide +kernel, rfl, by decide +kernel, by decide +kernel⟩
structure Txt (K : PySem.W.Frag) (mg : Str → Option Value) where
  a_is_whole : Addr
  d_is_whole : FuncData
  F_is_whole : Fun K "is_whole" "is_whole" s_is_whole a_is_whole d_is_whole
  b_is_whole : Binds K d_is_whole ["thing"] []
  g_is_whole : mg "is_whole" = some (.ref a_is_whole)
  a_is_height : Addr
  d_is_height : FuncData
  F_is_height : Fun K "is_height" "is_height" s_is_height a_is_height d_is_height
  b_is_height : Binds K d_is_height ["thing"] []
  g_is_height : mg "is_height" = some (.ref a_is_height)
  a_checked : Addr
  d_checked : FuncData
  F_checked : Fun K "checked" "checked" s_checked a_checked d_checked
  b_checked : Binds K d_checked ["land"] []
  g_checked : mg "checked" = some (.ref a_checked)
  a_Land___init__ : Addr
  d_Land___init__ : FuncData
  F_Land___init__ : Fun K "__init__" "Land.__init__" s_Land___init__ a_Land___init__ d_Land___init__
  b_Land___init__ : Binds K d_Land___init__ ["self", "heights"] []
  a_Land_told : Addr
  d_Land_told : FuncData
  F_Land_told : Fun K "told" "Land.told" s_Land_told a_Land_told d_Land_told
  b_Land_told : Binds K d_Land_told ["self"] []
  a_law_sole : Addr
  d_law_sole : FuncData
  F_law_sole : Fun K "_law_sole" "_law_sole" s_law_sole a_law_sole d_law_sole
  b_law_sole : Binds K d_law_sole ["_law_error"] []
  g_law_sole : mg "_law_sole" = some (.ref a_law_sole)
  a_law_whole : Addr
  d_law_whole : FuncData
  F_law_whole : Fun K "_law_whole" "_law_whole" s_law_whole a_law_whole d_law_whole
  b_law_whole : Binds K d_law_whole ["_law_found"] []
  g_law_whole : mg "_law_whole" = some (.ref a_law_whole)
  a_law_cell_at : Addr
  d_law_cell_at : FuncData
  F_law_cell_at : Fun K "_law_cell_at" "_law_cell_at" s_law_cell_at a_law_cell_at d_law_cell_at
  b_law_cell_at : Binds K d_law_cell_at ["_law_script", "_law_k"] []
  g_law_cell_at : mg "_law_cell_at" = some (.ref a_law_cell_at)
  a_law_refused : Addr
  d_law_refused : FuncData
  F_law_refused : Fun K "_law_refused" "_law_refused" s_law_refused a_law_refused d_law_refused
  b_law_refused : Binds K d_law_refused ["_law_thing", "_law_by_land"] []
  g_law_refused : mg "_law_refused" = some (.ref a_law_refused)
  a_law : Addr
  d_law : FuncData
  F_law : Fun K "law" "law" s_law a_law d_law
  b_law : Binds K d_law ["_law_script"] []
  g_law : mg "law" = some (.ref a_law)
  c_HillError : Addr
  g_HillError : mg "HillError" = some (.ref c_HillError)
  x_HillError : PySem.W.excIn K c_HillError [.type "ValueError", .type "Exception", .type "BaseException", .type "object"] "ValueError.__new__" = true
  k_HillError : PySem.W.keepIn K (.ref c_HillError) = true
  e_HillError : PySem.W.subIn K (.ref c_HillError) (.type "BaseException") = some true
  t_HillError : PySem.W.typeIn K (.ref c_HillError) = some (.type "type")
  i_HillError : PySem.W.isClsIn K c_HillError = true
  c_NoLand : Addr
  g_NoLand : mg "NoLand" = some (.ref c_NoLand)
  x_NoLand : PySem.W.excIn K c_NoLand [.type "ValueError", .type "Exception", .type "BaseException", .type "object"] "ValueError.__new__" = true
  k_NoLand : PySem.W.keepIn K (.ref c_NoLand) = true
  e_NoLand : PySem.W.subIn K (.ref c_NoLand) (.type "BaseException") = some true
  t_NoLand : PySem.W.typeIn K (.ref c_NoLand) = some (.type "type")
  i_NoLand : PySem.W.isClsIn K c_NoLand = true
  c_NoHill : Addr
  g_NoHill : mg "NoHill" = some (.ref c_NoHill)
  x_NoHill : PySem.W.excIn K c_NoHill [.type "ValueError", .type "Exception", .type "BaseException", .type "object"] "ValueError.__new__" = true
  k_NoHill : PySem.W.keepIn K (.ref c_NoHill) = true
  e_NoHill : PySem.W.subIn K (.ref c_NoHill) (.type "BaseException") = some true
  t_NoHill : PySem.W.typeIn K (.ref c_NoHill) = some (.type "type")
  i_NoHill : PySem.W.isClsIn K c_NoHill = true
  c_SameHill : Addr
  g_SameHill : mg "SameHill" = some (.ref c_SameHill)
  x_SameHill : PySem.W.excIn K c_SameHill [.type "ValueError", .type "Exception", .type "BaseException", .type "object"] "ValueError.__new__" = true
  k_SameHill : PySem.W.keepIn K (.ref c_SameHill) = true
  e_SameHill : PySem.W.subIn K (.ref c_SameHill) (.type "BaseException") = some true
  t_SameHill : PySem.W.typeIn K (.ref c_SameHill) = some (.type "type")
  i_SameHill : PySem.W.isClsIn K c_SameHill = true
  c_TooHigh : Addr
  g_TooHigh : mg "TooHigh" = some (.ref c_TooHigh)
  x_TooHigh : PySem.W.excIn K c_TooHigh [.type "ValueError", .type "Exception", .type "BaseException", .type "object"] "ValueError.__new__" = true
  k_TooHigh : PySem.W.keepIn K (.ref c_TooHigh) = true
  e_TooHigh : PySem.W.subIn K (.ref c_TooHigh) (.type "BaseException") = some true
  t_TooHigh : PySem.W.typeIn K (.ref c_TooHigh) = some (.type "type")
  i_TooHigh : PySem.W.isClsIn K c_TooHigh = true
  c_NothingDone : Addr
  g_NothingDone : mg "NothingDone" = some (.ref c_NothingDone)
  x_NothingDone : PySem.W.excIn K c_NothingDone [.type "ValueError", .type "Exception", .type "BaseException", .type "object"] "ValueError.__new__" = true
  k_NothingDone : PySem.W.keepIn K (.ref c_NothingDone) = true
  e_NothingDone : PySem.W.subIn K (.ref c_NothingDone) (.type "BaseException") = some true
  t_NothingDone : PySem.W.typeIn K (.ref c_NothingDone) = some (.type "type")
  i_NothingDone : PySem.W.isClsIn K c_NothingDone = true
  c_Land : Addr
  g_Land : mg "Land" = some (.ref c_Land)
  cl_Land : Cls K c_Land
  mk_Land : Mk K c_Land a_Land___init__
  m_Land___init__ : Meth K c_Land "__init__" a_Land___init__
  m_Land_told : Meth K c_Land "told" a_Land_told
  s_NoLand_NoLand : PySem.W.subIn K (.ref c_NoLand) (.ref c_NoLand) = some true
  hn_obj : PySem.W.specialIn K (.builtin "object.__class__") "__get__" = some (some (.builtin "getset_descriptor.__get__"))
  ht_obj : PySem.W.takesIn K (.builtin "object.__class__") = some true
  hg_NoLand : PySem.W.findIn K (.ref c_NoLand) "__getattribute__" = some (some (.builtin "BaseException.__getattribute__"))
  hk_NoLand : PySem.W.findIn K (.ref c_NoLand) "__getattr__" = some none
  hd_NoLand : PySem.W.hasDictIn K c_NoLand = true
  ha_NoLand : PySem.W.findIn K (.ref c_NoLand) "__class__" = some (some (.builtin "object.__class__"))
  hm_NoLand : PySem.W.mroIn K c_NoLand (.type "object") = some true
  kv_NoLand : PySem.W.kitOne K (.ref c_NoLand) (.type "ValueError") = some true
  kt_NoLand_NoLand : PySem.W.kitOne K (.ref c_NoLand) (.ref c_NoLand) = some true
  kt_NoLand_NoHill : PySem.W.kitOne K (.ref c_NoLand) (.ref c_NoHill) = some false
  kt_NoLand_SameHill : PySem.W.kitOne K (.ref c_NoLand) (.ref c_SameHill) = some false
  kt_NoLand_TooHigh : PySem.W.kitOne K (.ref c_NoLand) (.ref c_TooHigh) = some false
  kt_NoLand_NothingDone : PySem.W.kitOne K (.ref c_NoLand) (.ref c_NothingDone) = some false
  kt_NoLand_HillError : PySem.W.kitOne K (.ref c_NoLand) (.ref c_HillError) = some true
  na_hills : NoAttr K c_Land "hills"
  na_done : NoAttr K c_Land "done"
  w_MOST_HILLS : Tok
  g_MOST_HILLS : mg "MOST_HILLS" = some (.int 200 w_MOST_HILLS)
  w_MOST_HEIGHT : Tok
  g_MOST_HEIGHT : mg "MOST_HEIGHT" = some (.int 1000000000000000000 w_MOST_HEIGHT)
  n_ValueError : mg "ValueError" = none
  n_all : mg "all" = none
  n_bool : mg "bool" = none
  n_int : mg "int" = none
  n_isinstance : mg "isinstance" = none
  n_len : mg "len" = none
  n_list : mg "list" = none
  n_range : mg "range" = none
  n_tuple : mg "tuple" = none
section
variable {P : Program} {w : World} {K : PySem.W.Frag} {mg : Str → Option Value} {base : Heap}
theorem exm_of {S C : Addr} {b : Bool} (h1 : PySem.W.subIn K (.ref C) (.type "BaseException") = some true) (h2 : PySem.W.isClsIn K C = true) (h3 : PySem.W.typeIn K (.ref C) = some (.type "type")) (h4 : PySem.W.subIn K (.ref S) (.ref C) = some b) :
    PySem.W.exmOne K (.ref S) (.ref C) = some b := by
  have e1 : (PySem.W.subIn K (.ref C) (.type "BaseException") == some true) = true := by rw [h1] <;> rfl
  have e2 : ((PySem.W.clsIn K C).isSome && PySem.W.typeIn K (.ref C) == some (.type "type")) = true := by
    have h2' : (PySem.W.clsIn K C).isSome = true := h2
    rw [h2', h3] <;> rfl
  show (if (PySem.W.subIn K (.ref C) (.type "BaseException") == some true) = true then (if ((PySem.W.clsIn K C).isSome && PySem.W.typeIn K (.ref C) == some (.type "type")) = true then PySem.W.subIn K (.ref S) (.ref C) else none) else none) = some b
  rw [if_pos e1, if_pos e2]
  exact h4
theorem atI_mem {xs : List V} {i : Int} (h0 : 0 ≤ i) (h : i < xs.length) : ∃ x, x ∈ xs ∧ atI xs i = some x := by
  obtain ⟨k, rfl⟩ : ∃ k : Nat, i = (k : Int) := ⟨i.toNat, by omega⟩
  have hk : k < xs.length := by omega
  exact ⟨xs[k], List.getElem_mem hk, atI_nat (List.getElem?_eq_getElem hk)⟩

/-! ## sole -/
/-- which errors may be asked -/
structure Sole (T : Txt K mg) (D : Addr) (b1 b2 b3 b4 b5 : Bool) : Prop where
  ec : ExcC K D
  k1 : PySem.W.kitOne K (.ref D) (.ref T.c_NoLand) = some b1
  k2 : PySem.W.kitOne K (.ref D) (.ref T.c_NoHill) = some b2
  k3 : PySem.W.kitOne K (.ref D) (.ref T.c_SameHill) = some b3
  k4 : PySem.W.kitOne K (.ref D) (.ref T.c_TooHigh) = some b4
  k5 : PySem.W.kitOne K (.ref D) (.ref T.c_NothingDone) = some b5
  k6 : PySem.W.kitOne K (.ref D) (.ref T.c_HillError) = some true
  k7 : PySem.W.kitOne K (.ref D) (.type "ValueError") = some true
  one : (0 : Int) + (if b1 = true then 1 else 0) + (if b2 = true then 1 else 0) + (if b3 = true then 1 else 0) + (if b4 = true then 1 else 0) + (if b5 = true then 1 else 0) = 1
def spSole (T : Txt K mg) (a : Addr) (cls : Value) (d : Option Addr) : Sp := fun vs H Q _ => vs = [.ref a] ∧ d = none ∧ (∃ D b1 b2 b3 b4 b5, cls = .ref D ∧ Sole T D b1 b2 b3 b4 b5) ∧ Q (.bl true) H
theorem okP_law_sole (T : Txt K mg) {p : Addr × Obj} {cls : Value} {d : Option Addr} (hz : L2N.Zn cls d p.2) (hf : ∃ vs, p.2.data = .fields vs) : FnP P w K mg base 1 T.a_law_sole T.d_law_sole ["_law_error"] p (spSole T p.1 cls d) := by
  refine okP T.F_law_sole sc_law_sole (fun vs H Q E h => ?_) (fun cdv A outer s H vs Q E hot hr h => ?_)
  · obtain ⟨rfl, _⟩ := h
    rfl
  · obtain ⟨rfl, rfl, ⟨D, b1, b2, b3, b4, b5, rfl, S⟩, q⟩ := h
    have C := S.ec
    have hz' : Zc (.ref D) none p.2 := hz.zc
    refine ⟨_, (pss_cons (ps_set (i := 1) sc_law_sole.nd rfl (Or.inl rfl) pe_int)
      (pss_cons (ps_set (i := 1) sc_law_sole.nd rfl (Or.inl rfl) (pe_op op_add (pv 1) (pe_callTy call_int1 rfl T.n_int (by decide +kernel) (pa_cons (pe_callB (call_isP (p := p) (show p ∈ [p] from List.mem_singleton.mpr rfl) C hz' hf) rfl T.n_isinstance (by decide +kernel) (pa_cons (pv 0) (pa_cons (pe_glob (v := .ref T.c_NoLand) rfl T.g_NoLand rfl) pa_nil))) pa_nil))))
      (pss_cons (ps_set (i := 1) sc_law_sole.nd rfl (Or.inl rfl) (pe_op op_add (pv 1) (pe_callTy call_int1 rfl T.n_int (by decide +kernel) (pa_cons (pe_callB (call_isP (p := p) (show p ∈ [p] from List.mem_singleton.mpr rfl) C hz' hf) rfl T.n_isinstance (by decide +kernel) (pa_cons (pv 0) (pa_cons (pe_glob (v := .ref T.c_NoHill) rfl T.g_NoHill rfl) pa_nil))) pa_nil))))
      (pss_cons (ps_set (i := 1) sc_law_sole.nd rfl (Or.inl rfl) (pe_op op_add (pv 1) (pe_callTy call_int1 rfl T.n_int (by decide +kernel) (pa_cons (pe_callB (call_isP (p := p) (show p ∈ [p] from List.mem_singleton.mpr rfl) C hz' hf) rfl T.n_isinstance (by decide +kernel) (pa_cons (pv 0) (pa_cons (pe_glob (v := .ref T.c_SameHill) rfl T.g_SameHill rfl) pa_nil))) pa_nil))))
      (pss_cons (ps_set (i := 1) sc_law_sole.nd rfl (Or.inl rfl) (pe_op op_add (pv 1) (pe_callTy call_int1 rfl T.n_int (by decide +kernel) (pa_cons (pe_callB (call_isP (p := p) (show p ∈ [p] from List.mem_singleton.mpr rfl) C hz' hf) rfl T.n_isinstance (by decide +kernel) (pa_cons (pv 0) (pa_cons (pe_glob (v := .ref T.c_TooHigh) rfl T.g_TooHigh rfl) pa_nil))) pa_nil))))
      (pss_cons (ps_set (i := 1) sc_law_sole.nd rfl (Or.inl rfl) (pe_op op_add (pv 1) (pe_callTy call_int1 rfl T.n_int (by decide +kernel) (pa_cons (pe_callB (call_isP (p := p) (show p ∈ [p] from List.mem_singleton.mpr rfl) C hz' hf) rfl T.n_isinstance (by decide +kernel) (pa_cons (pv 0) (pa_cons (pe_glob (v := .ref T.c_NothingDone) rfl T.g_NothingDone rfl) pa_nil))) pa_nil))))
      (pss_one (ps_ret (pe_and (pe_cmpR op_eq (pv 1) pe_int (nomark _)) (pe_and (pe_callB (call_isP (p := p) (show p ∈ [p] from List.mem_singleton.mpr rfl) C hz' hf) rfl T.n_isinstance (by decide +kernel) (pa_cons (pv 0) (pa_cons (pe_glob (v := .ref T.c_HillError) rfl T.g_HillError rfl) pa_nil))) (pe_one (pe_callB (call_isP (p := p) (show p ∈ [p] from List.mem_singleton.mpr rfl) C hz' hf) rfl T.n_isinstance (by decide +kernel) (pa_cons (pv 0) (pa_cons (pe_bltn (v := .ty "ValueError") (by rfl) T.n_ValueError (by decide +kernel) rfl) pa_nil)))))))))))))), ?_⟩
    walk_at "rd"
    refine rd_isE S.k1 ?_
    refine .inr ⟨_, rfl, ?_⟩
    walk_at "rd"
    refine rd_isE S.k2 ?_
    refine .inr ⟨_, rfl, ?_⟩
    walk_at "rd"
    refine rd_isE S.k3 ?_
    refine .inr ⟨_, rfl, ?_⟩
    walk_at "rd"
    refine rd_isE S.k4 ?_
    refine .inr ⟨_, rfl, ?_⟩
    walk_at "rd"
    refine rd_isE S.k5 ?_
    refine .inr ⟨_, rfl, ?_⟩
    walk_at "rd"
    rw [S.one]
    walk_at "rd"
    refine rd_yes (by simp) ?_
    walk_at "rd"
    refine rd_isE S.k6 ?_
    walk_at "rd"
    refine rd_isT S.k7 ?_
    exact q

theorem ok_law_cell_at (T : Txt K mg) : FnOk P w K mg base CX0 1 T.a_law_cell_at T.d_law_cell_at ["_law_script", "_law_k"] (spCell K) := by
  refine T.F_law_cell_at.ok sc_law_cell_at (fun vs H Q E h => ?_) (fun cdv A outer s H vs Q E hr h => ⟨_, (pss_cons (ps_if (pt_cmpR op_lt (pv 1) (pe_callB (call_lenK (K := K) rfl) rfl T.n_len (by decide +kernel) (pa_cons (pv 0) pa_nil)) (nomark _)) (pss_one (ps_ret (pe_ix (ix_listK (K := K) rfl) (pv 0) (pv 1) (fun _ _ => rfl)))) pss_nil)
      (pss_one (ps_ret pe_int))), ?_⟩)
  · obtain ⟨l, ns, k, rfl, _⟩ := h
    rfl
  · obtain ⟨l, ns, k, rfl, h0, hS, q⟩ := h
    walk_at "rd"
    refine ite2 (fun c => ?_) (fun c => ?_)
    · have c' : k < (ns.length : Int) := by simpa using c
      walk_at "rd"
      exact rd_ixL hS (IL_at h0 c') q
    · have c' : ¬ k < (ns.length : Int) := by simpa using c
      walk_at "rd"
      have e : cell ns k.toNat = 0 := by
        unfold cell
        rw [List.getD_eq_getElem?_getD, List.getElem?_eq_none (by omega)]
        rfl
      rw [e] at q
      exact q

theorem ok_law_whole (T : Txt K mg) : FnOk P w K mg base CX0 1 T.a_law_whole T.d_law_whole ["_law_found"] (spWhole K) := by
  refine T.F_law_whole.ok sc_law_whole (fun vs H Q E h => ?_) (fun cdv A outer s H vs Q E hr h => ⟨_, (pss_one (ps_ret (pe_and (pe_callB (call_isiK0 (K := K) rfl) rfl T.n_isinstance (by decide +kernel) (pa_cons (pv 0) (pa_cons (pe_bltn (v := .ty "int") (by rfl) T.n_int (by decide +kernel) rfl) pa_nil))) (pe_one (pe_not (pe_callB (call_isiK0 (K := K) rfl) rfl T.n_isinstance (by decide +kernel) (pa_cons (pv 0) (pa_cons (pe_bltn (v := .ty "bool") (by rfl) T.n_bool (by decide +kernel) rfl) pa_nil)))))))), ?_⟩)
  · obtain ⟨x, r, rfl, _⟩ := h
    rfl
  · exact whole_run h

theorem ok_is_whole (T : Txt K mg) : FnOk P w K mg base CX0 1 T.a_is_whole T.d_is_whole ["thing"] (spWhole K) := by
  refine T.F_is_whole.ok sc_is_whole (fun vs H Q E h => ?_) (fun cdv A outer s H vs Q E hr h => ⟨_, (pss_one (ps_ret (pe_and (pe_callB (call_isiK0 (K := K) rfl) rfl T.n_isinstance (by decide +kernel) (pa_cons (pv 0) (pa_cons (pe_bltn (v := .ty "int") (by rfl) T.n_int (by decide +kernel) rfl) pa_nil))) (pe_one (pe_not (pe_callB (call_isiK0 (K := K) rfl) rfl T.n_isinstance (by decide +kernel) (pa_cons (pv 0) (pa_cons (pe_bltn (v := .ty "bool") (by rfl) T.n_bool (by decide +kernel) rfl) pa_nil)))))))), ?_⟩)
  · obtain ⟨x, r, rfl, _⟩ := h
    rfl
  · exact whole_run h

/-! ## heights, lists of heights -/
/-- what is_height answers of a value -/
def Ht (K : PySem.W.Frag) (H : Hp) (x : V) (b : Bool) : Prop := ∃ r, Whole K H x r ∧ ((r = false ∧ b = false) ∨ ∃ i : Int, r = true ∧ x = .int i ∧ b = decide (-1000000000000000000 ≤ i ∧ i ≤ 1000000000000000000))
def spIsHt (K : PySem.W.Frag) : Sp := fun vs H Q _ => ∃ x b, vs = [x] ∧ Ht K H x b ∧ Q (.bl b) H
theorem ok_is_height (T : Txt K mg) : FnOk P w K mg base CX0 2 T.a_is_height T.d_is_height ["thing"] (spIsHt K) := by
  refine T.F_is_height.ok sc_is_height (fun vs H Q E h => ?_) (fun cdv A outer s H vs Q E hr h => ⟨_, (pss_one (ps_ret (pe_and (pe_call (ok_is_whole T) (hr.mono (by decide)) rfl T.g_is_whole T.F_is_whole.kp T.b_is_whole .nil pass0 (pa_cons (pv 0) pa_nil)) (pe_one (pe_chain op_le op_le (pe_un un_neg (pe_glob (v := .int 1000000000000000000) rfl T.g_MOST_HEIGHT ⟨_, rfl⟩)) (pv 0) (pe_glob (v := .int 1000000000000000000) rfl T.g_MOST_HEIGHT ⟨_, rfl⟩)))))), ?_⟩)
  · obtain ⟨x, b, rfl, _⟩ := h
    rfl
  · obtain ⟨x, b, rfl, ⟨r, hw, hr⟩, q⟩ := h
    walk_at "rd"
    refine ⟨x, r, rfl, hw, ?_⟩
    rcases hr with ⟨rfl, rfl⟩ | ⟨i, rfl, rfl, rfl⟩
    · walk_at "rd"
      exact q
    · walk_at "rd"
      refine ite2 (fun c => ?_) (fun c => ?_)
      · have c' : -1000000000000000000 ≤ i := of_decide_eq_true c
        walk_at "rd"
        have e : decide (i ≤ 1000000000000000000) = decide (-1000000000000000000 ≤ i ∧ i ≤ 1000000000000000000) := decide_eq_decide.mpr ⟨fun h => ⟨c', h⟩, fun h => h.2⟩
        rw [e]
        exact q
      · have c' : ¬ -1000000000000000000 ≤ i := fun z => c (decide_eq_true z)
        walk_at "rd"
        rw [decide_eq_false (fun h => c' h.1)] at q
        exact q
/-- what checked asks -/
def spChecked (K : PySem.W.Frag) (C : Addr) : Sp := fun vs H Q E => ∃ x, vs = [x] ∧
  ((∃ t, TyX K H x (.type t) ∧ kitB t "list" = some false ∧ E (.ref C) none H) ∨
   (∃ (l : Addr) (xs : List V) (g : V → Bool), x = .ref l ∧ H l = some (.lst xs) ∧ xs.length ≤ 90000 ∧ (∀ H' v, Same H H' → v ∈ xs → Ht K H' v (g v)) ∧
     ((1 ≤ xs.length ∧ xs.length ≤ 200) ∧ xs.all g = true → ∀ D H', Same H H' → H D = none → H' D = some (.lst xs) → Q (.ref D) H') ∧
     (¬ ((1 ≤ xs.length ∧ xs.length ≤ 200) ∧ xs.all g = true) → ∀ H', Same H H' → E (.ref C) none H')))
theorem ok_checked (T : Txt K mg) : FnOk P w K mg base (L2N.CX P w) 3 T.a_checked T.d_checked ["land"] (spChecked K T.c_NoLand) := by
  refine okN T.F_checked sc_checked (fun vs H Q E h => ?_) (fun cdv A outer s H vs Q E hr h => ⟨_, (pss_cons (ps_if (PW.pt (pw_or (pt_not (pt_val (pe_callB (call_isiK0 (K := K) rfl) rfl T.n_isinstance (by decide +kernel) (pa_cons (pv 0) (pa_cons (pe_bltn (v := .ty "list") (by rfl) T.n_list (by decide +kernel) rfl) pa_nil))))) (pw_or1 (pt_not (pt_chain op_le op_le pe_int (pe_callB (call_lenK (K := K) rfl) rfl T.n_len (by decide +kernel) (pa_cons (pv 0) pa_nil)) (pe_glob (v := .int 200) rfl T.g_MOST_HILLS ⟨_, rfl⟩)))))) (pss_one (L2N.ps_raise rfl (L2N.takes_of rfl rfl rfl rfl) (L2N.pmk_own PySem.F.excBase_ValueError T.x_NoLand T.g_NoLand T.k_NoLand (raises_own T.e_NoLand T.t_NoLand) (by rfl)))) pss_nil)
      (pss_cons (ps_if (pt_not (pt_val (pe_callB (cr_allK (K := K) rfl rfl) rfl T.n_all (by decide +kernel) (pa_cons (pe_lc (own := [("height", 1)]) (g := gName 1) rfl sc_checked.nd (pi_listK (K := K) rfl (pv 0)) (blkOk_by (own := [("height", 1)]) (N := ["land", "height"]) (sc := defScope s_checked) (by decide +kernel)) (fun _ _ _ _ _ => (pg_name (i := 1) sc_checked.nd rfl (Or.inl rfl))) (fun _ _ _ _ _ => pts_nil) (fun _ _ _ _ _ => (pe_call (ok_is_height T) (hr.mono (by decide)) rfl T.g_is_height T.F_is_height.kp T.b_is_height .nil pass0 (pa_cons (pv 1) pa_nil)))) pa_nil)))) (pss_one (L2N.ps_raise rfl (L2N.takes_of rfl rfl rfl rfl) (L2N.pmk_own PySem.F.excBase_ValueError T.x_NoLand T.g_NoLand T.k_NoLand (raises_own T.e_NoLand T.t_NoLand) (by rfl)))) pss_nil)
      (pss_one (ps_ret (pe_callTy (call_listK (K := K) rfl) rfl T.n_list (by decide +kernel) (pa_cons (pv 0) pa_nil)))))), ?_⟩)
  · obtain ⟨x, rfl, _⟩ := h
    rfl
  · obtain ⟨x, rfl, ⟨t, ty, kt, e⟩ | ⟨l, xs, g, rfl, hS, hx, hg, q, e⟩⟩ := h
    · walk_at "rd"
      refine rd_isi ty kt ?_
      walk_at "rd"
      exact e
    · walk_at "rd"
      refine rd_isi (b := true) (ty_lst hS) (by decide +kernel) ?_
      have no : (¬ (1 ≤ xs.length ∧ xs.length ≤ 200)) → ∀ H', Same H H' → E (.ref T.c_NoLand) none H' := fun h => e fun z => h z.1
      walk_at "rd"
      refine ite2 (fun c => ?_) (fun c => ?_)
      · have c' : (1 : Int) ≤ (xs.length : Int) := of_decide_eq_true c
        walk_at "rd"
        refine ite2 (fun d => ?_) (fun d => ?_)
        · have d' : ¬ (xs.length : Int) ≤ 200 := by simpa using d
          exact no (by omega) _ (Same.refl _)
        · have d' : (xs.length : Int) ≤ 200 := by simpa using d
          walk_at "rd"
          refine ⟨l, rfl, ⟨_, .of hS⟩, fun D nD => lc_listM (fun v => .bl (g v)) (.of hS) nD (by omega) (fun _ => rfl) (fun v H' R hv s1 q' => ?_) (fun H1 s1 hD => ?_)⟩
          · walk_at "rd"
            exact ⟨v, g v, rfl, hg H' v s1 hv, q' _ (Same.refl _)⟩
          have hS1 := s1 _ _ hS
          walk_at "rd"
          refine rd_allP g (fun _ _ => rfl) hD ?_
          walk_at "rd"
          refine ite2 (fun a => ?_) (fun a => ?_)
          · exact e (fun z => by rw [z.2] at a; cases a) _ s1
          · have a' : xs.all g = true := by simpa using a
            walk_at "rd"
            intro G nG
            exact q ⟨⟨by omega, by omega⟩, a'⟩ G _ (s1.trans (same_upd nG)) (same_fresh s1 nG) upd_same
      · have c' : ¬ (1 : Int) ≤ (xs.length : Int) := fun z => c (decide_eq_true z)
        walk_at "rd"
        exact no (by omega) _ (Same.refl _)
theorem spChecked_mono {K : PySem.W.Frag} {C : Addr} {vs : List V} {H : Hp} {Q Q' : VK} {E : XK} (h : spChecked K C vs H Q E) (m : ∀ v H', Q v H' → Q' v H') : spChecked K C vs H Q' E := by
  obtain ⟨x, rfl, ⟨t, ty, kt, e⟩ | ⟨l, xs, g, rfl, hS, hx, hg, q, e⟩⟩ := h
  · exact ⟨x, rfl, .inl ⟨t, ty, kt, e⟩⟩
  · exact ⟨_, rfl, .inr ⟨l, xs, g, rfl, hS, hx, hg, fun hh D H' s n d => m _ _ (q hh D H' s n d), e⟩⟩
/-- what checked takes, what it refuses -/
def BadAt (K : PySem.W.Frag) (H : Hp) (x : V) : Prop := (∃ t, TyX K H x (.type t) ∧ kitB t "list" = some false) ∨ ∃ (l : Addr) (xs : List V) (g : V → Bool), x = .ref l ∧ H l = some (.lst xs) ∧ xs.length ≤ 90000 ∧ (∀ H' v, Same H H' → v ∈ xs → Ht K H' v (g v)) ∧ ¬ ((1 ≤ xs.length ∧ xs.length ≤ 200) ∧ xs.all g = true)
def BadL (K : PySem.W.Frag) (H : Hp) (x : V) : Prop := ∀ H', Same H H' → BadAt K H' x
theorem BadL.mono {K : PySem.W.Frag} {H H' : Hp} {x : V} (s : Same H H') (h : BadL K H x) : BadL K H' x := fun H2 s2 => h H2 (s.trans s2)
theorem BadAt.checked {K : PySem.W.Frag} {H : Hp} {x : V} {C : Addr} {Q : VK} {E : XK} (h : BadAt K H x) (e : ∀ H', Same H H' → E (.ref C) none H') : spChecked K C [x] H Q E := by
  rcases h with ⟨t, ty, k⟩ | ⟨l, xs, g, rfl, hl, hx, hg, no⟩
  · exact ⟨x, rfl, .inl ⟨t, ty, k, e _ (Same.refl _)⟩⟩
  · exact ⟨_, rfl, .inr ⟨l, xs, g, rfl, hl, hx, hg, fun z => absurd z no, fun _ => e⟩⟩
theorem good_checked {K : PySem.W.Frag} {H : Hp} {l C : Addr} {zs : List Int} {Q : VK} {E : XK} (hl : H l = some (.lst (IL zs))) (hn : 1 ≤ zs.length ∧ zs.length ≤ 200) (hb : ∀ z ∈ zs, -1000000000000000000 ≤ z ∧ z ≤ 1000000000000000000)
    (q : ∀ D H', Same H H' → H D = none → H' D = some (.lst (IL zs)) → Q (.ref D) H') : spChecked K C [.ref l] H Q E := by
  have e : (IL zs).length = zs.length := List.length_map _
  refine ⟨_, rfl, .inr ⟨l, IL zs, fun _ => true, rfl, hl, by omega, fun H' v _ hv => ?_, fun _ => q, fun z => absurd ⟨⟨by omega, by omega⟩, ?_⟩ z⟩⟩
  · obtain ⟨z, hz, rfl⟩ := List.mem_map.mp hv
    exact ⟨true, whole_int, .inr ⟨z, rfl, rfl, (decide_eq_true (hb z hz)).symm⟩⟩
  · rw [List.all_eq_true]
    intro _ _
    rfl

/-! ## a Land, made and told -/
theorem rd_sFld {K : PySem.W.Frag} {ta tv : TE} {f : Str} {D : Ends} {σ : L2.St} {H : Hp} (q : tv σ H fun y H1 => ta σ H1 fun x H2 => ∃ a C dx fs, x = .ref a ∧ H2 a = some (.ins C dx fs) ∧ Cls K C ∧ NoAttr K C f ∧ fs.length < 1000 ∧ D.nx σ (upd H2 a (.ins C dx (putF f y fs)))) : sFld K ta tv f D σ H := q
/-- a Land at y: its hills at D, its deeds at F -/
def LandAt (H : Hp) (CL y D F : Addr) (xs ds : List V) : Prop := (∃ dx, H y = some (.ins CL dx [("hills", .ref D), ("done", .ref F)])) ∧ H D = some (.lst xs) ∧ H F = some (.lst ds)
theorem LandAt.mono {H H' : Hp} {CL y D F : Addr} {xs ds : List V} (s : Same H H') (h : LandAt H CL y D F xs ds) : LandAt H' CL y D F xs ds := by
  obtain ⟨⟨dx, h1⟩, h2, h3⟩ := h
  exact ⟨⟨dx, s _ _ h1⟩, s _ _ h2, s _ _ h3⟩
theorem rd_fld {K : PySem.W.Frag} {ta : TE} {f : Str} {σ : L2.St} {H : Hp} {Q : VK} (q : ta σ H fun x H1 => ∃ a C dx fs v, x = .ref a ∧ H1 a = some (.ins C dx fs) ∧ Cls K C ∧ NoAttr K C f ∧ fs.lookup f = some v ∧ Q v H1) : tFld K ta f σ H Q := q
theorem rd_meth {C : Addr} {m : Str} {sp : Sp} {E : XK} {ta : TE} {t : TA} {σ : L2.St} {H : Hp} {Q : VK} (q : ta σ H fun x H1 => ∃ a dx fs, x = .ref a ∧ H1 a = some (.ins C dx fs) ∧ fs.lookup m = none ∧ t σ H1 fun vs H2 => sp (x :: (vs ++ [])) H2 Q E) : tMeth C m sp [] E ta t σ H Q := q
theorem rd_make {C : Addr} {sp : Sp} {E : XK} {t : TA} {σ : L2.St} {H : Hp} {Q : VK} (q : t σ H fun vs H1 => ∀ x dx, H1 x = none → H1 dx = none → dx ≠ x → sp (.ref x :: (vs ++ [])) (upd (upd H1 dx (.own x)) x (.ins C dx [])) (fun v H2 => v = .non ∧ Q (.ref x) H2) E) : tMake C sp [] E t σ H Q := q
def spInit (K : PySem.W.Frag) (C CL : Addr) : Sp := fun vs H Q E => ∃ (y dx : Addr) (x : V), vs = [.ref y, x] ∧ H y = some (.ins CL dx []) ∧ spChecked K C [x] H (fun v H1 => ∃ D xs, v = .ref D ∧ H D = none ∧ Same H H1 ∧ H1 D = some (.lst xs) ∧
  ∀ H' F, (∀ p u, p ≠ y → H1 p = some u → H' p = some u) → H1 F = none → D ≠ F → LandAt H' CL y D F xs [] → Q .non H') E
theorem ok_Land___init__ (T : Txt K mg) : FnOk P w K mg base (L2N.CX P w) 4 T.a_Land___init__ T.d_Land___init__ ["self", "heights"] (spInit K T.c_NoLand T.c_Land) := by
  refine okN T.F_Land___init__ sc_Land___init__ (fun vs H Q E h => ?_) (fun cdv A outer s H vs Q E hr h => ⟨_, (pss_cons (ps_fld (pv 0) (pe_callS (ok_checked T) (hr.mono (by decide)) rfl T.g_checked T.F_checked.kp T.b_checked (fun σ => L2N.passAt (L2N.takes_of rfl rfl rfl rfl) σ) (pa_cons (pv 1) pa_nil)) rfl)
      (pss_one (ps_fld (pv 0) (pe_lst pa_nil) rfl))), ?_⟩)
  · obtain ⟨y, dx, x, rfl, _⟩ := h
    rfl
  · obtain ⟨y, dx, x, rfl, hy, h⟩ := h
    walk_at "rd"
    with_reducible refine rd_sFld ?_
    walk_at "rd"
    refine spChecked_mono h fun v H1 hv => ?_
    obtain ⟨D, xs, rfl, nD, s1, hD, q⟩ := hv
    have hy1 := s1 _ _ hy
    have yD : D ≠ y := fun z => by
      rw [z, hy] at nD
      cases nD
    walk_at "rd"
    refine ⟨y, _, dx, _, rfl, hy1, T.cl_Land, T.na_hills, by decide, ?_⟩
    walk_at "rd"
    with_reducible refine rd_sFld ?_
    walk_at "rd"
    refine ⟨sz 0, fun F nF => ?_⟩
    have yF : F ≠ y := fun z => by
      rw [z, upd_same] at nF
      cases nF
    rw [upd_ne yF] at nF
    have DF : D ≠ F := fun z => by
      rw [← z, hD] at nF
      cases nF
    walk_at "rd"
    refine ⟨y, _, dx, _, rfl, (by rw [upd_ne (fun z => yF z.symm), upd_same]), T.cl_Land, T.na_done, (by show (1 : Nat) < 1000; decide), ?_⟩
    refine q _ F (fun p u hp hu => ?_) nF DF ⟨⟨dx, ?_⟩, ?_, ?_⟩
    · rw [upd_ne hp, upd_ne (fun z => by
        rw [z, nF] at hu
        cases hu), upd_ne hp]
      exact hu
    · rw [upd_same]
      rfl
    · rw [upd_ne yD, upd_ne DF, upd_ne yD]
      exact hD
    · rw [upd_ne yF, upd_same]
def spTold (CL : Addr) : Sp := fun vs H Q _ => ∃ (y D F : Addr) (xs ds : List V), vs = [.ref y] ∧ LandAt H CL y D F xs ds ∧ ∀ l, H l = none → Q (.ref l) (upd H l (.lst xs))
theorem ok_Land_told (T : Txt K mg) : FnOk P w K mg base CX0 1 T.a_Land_told T.d_Land_told ["self"] (spTold T.c_Land) := by
  refine T.F_Land_told.ok sc_Land_told (fun vs H Q E h => ?_) (fun cdv A outer s H vs Q E hr h => ⟨_, (pss_one (ps_ret (pe_callTy (call_listK (K := K) rfl) rfl T.n_list (by decide +kernel) (pa_cons (pe_fld (pv 0) rfl) pa_nil)))), ?_⟩)
  · obtain ⟨y, D, F, xs, ds, rfl, _⟩ := h
    rfl
  · obtain ⟨y, D, F, xs, ds, rfl, ⟨⟨dx, hy⟩, hD, hF⟩, q⟩ := h
    walk_at "rd"
    with_reducible refine rd_fld ?_
    walk_at "rd"
    refine ⟨y, _, dx, _, _, rfl, hy, T.cl_Land, T.na_hills, rfl, ?_⟩
    walk_at "rd"
    exact q

/-! ## law k12 -/
theorem so_NoLand (T : Txt K mg) : Sole T T.c_NoLand true false false false false := ⟨⟨T.hg_NoLand, T.hk_NoLand, T.e_NoLand, T.hd_NoLand, T.ha_NoLand, T.hn_obj, T.ht_obj, T.hm_NoLand⟩, T.kt_NoLand_NoLand, T.kt_NoLand_NoHill, T.kt_NoLand_SameHill, T.kt_NoLand_TooHigh, T.kt_NoLand_NothingDone, T.kt_NoLand_HillError, T.kv_NoLand, rfl⟩
def spRefused (K : PySem.W.Frag) : Sp := fun vs H Q _ => ∃ (x : V) (b : Bool), vs = [x, .bl b] ∧ BadL K H x ∧ ∀ H', Same H H' → Q (.bl true) H'
theorem same_inst {H : Hp} {y dx C : Addr} (ny : H y = none) (nd : H dx = none) (ne : dx ≠ y) : Same H (upd (upd H dx (.own y)) y (.ins C dx [])) :=
  (same_upd nd).trans (same_upd (by rw [upd_ne (fun z => ne z.symm)]; exact ny))
theorem ok_law_refused (T : Txt K mg) : FnOk P w K mg base CX0 6 T.a_law_refused T.d_law_refused ["_law_thing", "_law_by_land"] (spRefused K) := by
  refine T.F_law_refused.ok sc_law_refused (fun vs H Q E h => ?_) (fun cdv A outer s H vs Q E hr h => ⟨_, (pss_cons (ps_try_manyA rfl rfl sc_law_refused.nd takes0N (fun W pn xe tk po => (pss_one (ps_if (pt_val (pv 1)) (pss_one (ps_expr (pe_makeS T.mk_Land (ok_Land___init__ T) (hr.mono (by decide)) tk rfl T.g_Land T.b_Land___init__ (pa_cons (pv 0) pa_nil)))) (pss_one (ps_expr (pe_callS (ok_checked T) (hr.mono (by decide)) rfl T.g_checked T.F_checked.kp T.b_checked (fun σ => L2N.passAt tk σ) (pa_cons (pv 0) pa_nil))))))) (.consA (i := 2) rfl rfl ⟨rfl, by decide, .inl T.g_NoLand⟩ (fun a oe cls d pn hz hf => (pss_one (ps_ret (pe_callP (p := (a, oe)) (okP_law_sole T hz hf) (roomM (j := 1) hr (by decide)) ⟨rfl, hot2 hz hf⟩ List.mem_cons_self rfl T.g_law_sole T.F_law_sole.kp T.b_law_sole (pa_cons (pv 2) pa_nil))))) (.cons ⟨rfl, by decide, .inl T.g_HillError⟩ (fun a oe cls d pn hz hf => (pss_one (ps_ret pe_bl))) .nil)))
      (pss_one (ps_ret pe_bl))), ?_⟩)
  · obtain ⟨x, b, rfl, _⟩ := h
    rfl
  · obtain ⟨x, b, rfl, hx, q⟩ := h
    walk_at "rd"
    refine ite2 (fun c => ?_) (fun c => ?_)
    · walk_at "rd"
      with_reducible refine rd_make ?_
      walk_at "rd"
      intro y dx ny nd ne
      have s1 := same_inst (C := T.c_Land) ny nd ne
      refine ⟨y, dx, x, rfl, upd_same, BadAt.checked (hx _ s1) fun H' s2 => ?_⟩
      rintro σ hσ
      refine ⟨true, exm_of T.e_NoLand T.i_NoLand T.t_NoLand T.s_NoLand_NoLand, fun _ ae nae => ?_, fun z => (by cases z)⟩
      match σ, hσ with
      | [u1, u2, u3], _ =>
        dsimp only [endsOf, slotOf]
        walk_at "rd"
        refine ⟨rfl, rfl, ⟨T.c_NoLand, _, _, _, _, _, rfl, so_NoLand T⟩, ?_⟩
        exact q _ (s1.trans s2)
    · walk_at "rd"
      refine BadAt.checked (hx _ (Same.refl _)) fun H' s2 => ?_
      refine ⟨true, exm_of T.e_NoLand T.i_NoLand T.t_NoLand T.s_NoLand_NoLand, fun _ ae nae => ?_, fun z => (by cases z)⟩
      dsimp only [endsOf, slotOf]
      walk_at "rd"
      refine ⟨rfl, rfl, ⟨T.c_NoLand, _, _, _, _, _, rfl, so_NoLand T⟩, ?_⟩
      exact q _ s2
/-! ## what is no height -/
def isH : V → Bool
  | .int i => decide (-1000000000000000000 ≤ i ∧ i ≤ 1000000000000000000)
  | _ => false
theorem ht_int {K : PySem.W.Frag} {H : Hp} {i : Int} : Ht K H (.int i) (isH (.int i)) := ⟨true, whole_int, .inr ⟨i, rfl, rfl, rfl⟩⟩
theorem ht_no {K : PySem.W.Frag} {H : Hp} {x : V} (h : Whole K H x false) (n : isH x = false) : Ht K H x (isH x) := ⟨false, h, .inl ⟨rfl, n⟩⟩
theorem cutV_mem {xs : List V} {a b : Option Int} {v : V} (h : v ∈ cutV xs a b) : v ∈ xs := by
  unfold cutV at h
  exact List.mem_of_mem_drop (List.mem_of_mem_take h)
theorem cutV_len (xs : List V) (a b : Option Int) : (cutV xs a b).length ≤ xs.length := by
  unfold cutV
  rw [List.length_take, List.length_drop]
  omega
theorem bad_ty {K : PySem.W.Frag} {H : Hp} {x : V} {t : String} (ty : ∀ H', Same H H' → TyX K H' x (.type t)) (k : kitB t "list" = some false) : BadL K H x := fun H' s => .inl ⟨t, ty H' s, k⟩
theorem bad_lst {K : PySem.W.Frag} {H : Hp} {l : Addr} {xs : List V} (hl : H l = some (.lst xs)) (hn : xs.length ≤ 90000) (hh : ∀ H', Same H H' → ∀ v ∈ xs, Ht K H' v (isH v)) (no : ¬ ((1 ≤ xs.length ∧ xs.length ≤ 200) ∧ xs.all isH = true)) : BadL K H (.ref l) :=
  fun H' s => .inr ⟨l, xs, isH, rfl, s _ _ hl, hn, fun H2 v s2 hv => hh H2 (s.trans s2) v hv, no⟩
def spLaw (K : PySem.W.Frag) : Sp := fun vs H Q _ => ∃ (a : Addr) (ns : List Int), vs = [.ref a] ∧ SqL K H a (IL ns) ∧ ns.length ≤ 63 ∧ ∀ H', Q (.bl true) H'
theorem FAR_eq : (10 : Int) ^ (18 : Int).toNat = 1000000000000000000 := by decide +kernel
def Bd (z : Int) : Prop := -1000000000000000000 ≤ z ∧ z ≤ 1000000000000000000
theorem ok_law (T : Txt K mg) : FnOk P w K mg base CX0 7 T.a_law T.d_law ["_law_script"] (spLaw K) := by
  refine T.F_law.ok sc_law (fun vs H Q E h => ?_) (fun cdv A outer s H vs Q E hr h => ⟨_, (pss_cons (ps_set (i := 1) sc_law.nd rfl (Or.inr rfl) (pe_op op_pow pe_int pe_int))
      (pss_cons (ps_set (i := 2) sc_law.nd rfl (Or.inl rfl) (pe_op op_add pe_int (pe_op op_mod (pe_call (ok_law_cell_at T) (hr.mono (by decide)) rfl T.g_law_cell_at T.F_law_cell_at.kp T.b_law_cell_at .nil pass0 (pa_cons (pv 0) (pa_cons pe_int pa_nil))) pe_int)))
      (pss_cons (ps_setLc (i := 3) (own := [("_law_k", 4)]) (g := gName 4) rfl sc_law.nd rfl rfl (sw_true rfl rfl rfl (by decide +kernel)) (pi_range1 rfl T.n_range (pa_cons (pv 2) pa_nil)) (blkOk_by (own := [("_law_k", 4)]) (N := ["_law_script", "_law_far", "_law_size", "_law_good", "_law_k", "_law_place", "_law_kind", "_law_handed", "_law_found", "_law_height", "_law_land", "_law_wrong", "_law_bad", "_law_some"]) (sc := defScope s_law) (by decide +kernel)) (fun _ _ _ _ _ => (pg_name (i := 4) sc_law.nd rfl (Or.inl rfl))) (fun _ _ _ _ _ => pts_nil) (fun _ _ _ _ _ => (pe_op op_sub (pe_op op_mod (pe_op op_mul (pe_call (ok_law_cell_at T) (hr.mono (by decide)) rfl T.g_law_cell_at T.F_law_cell_at.kp T.b_law_cell_at .nil pass0 (pa_cons (pv 0) (pa_cons (pe_op op_add pe_int (pe_op op_mod (pv 4) pe_int)) pa_nil))) (pe_op op_add pe_int (pe_op op_mul pe_int (pv 4)))) (pe_op op_add (pe_op op_mul pe_int (pv 1)) pe_int)) (pv 1))))
      (pss_cons (ps_asg (pe_ix (ix_listK (K := K) rfl) (pe_lst (pa_cons (pv 1) (pa_cons (pe_un un_neg (pv 1)) (pa_cons pe_int pa_nil)))) (pe_op op_mod (pe_op op_fdiv (pe_call (ok_law_cell_at T) (hr.mono (by decide)) rfl T.g_law_cell_at T.F_law_cell_at.kp T.b_law_cell_at .nil pass0 (pa_cons (pv 0) (pa_cons pe_int pa_nil))) pe_int) pe_int) (fun _ _ => rfl)) (pg_sub (pv 3) (pe_op op_mod (pe_call (ok_law_cell_at T) (hr.mono (by decide)) rfl T.g_law_cell_at T.F_law_cell_at.kp T.b_law_cell_at .nil pass0 (pa_cons (pv 0) (pa_cons pe_int pa_nil))) (pv 2)) set_list))
      (pss_cons (ps_set (i := 5) sc_law.nd rfl (Or.inl rfl) (pe_op op_mod (pe_call (ok_law_cell_at T) (hr.mono (by decide)) rfl T.g_law_cell_at T.F_law_cell_at.kp T.b_law_cell_at .nil pass0 (pa_cons (pv 0) (pa_cons pe_int pa_nil))) (pv 2)))
      (pss_cons (ps_set (i := 6) sc_law.nd rfl (Or.inl rfl) (pe_op op_mod (pe_call (ok_law_cell_at T) (hr.mono (by decide)) rfl T.g_law_cell_at T.F_law_cell_at.kp T.b_law_cell_at .nil pass0 (pa_cons (pv 0) (pa_cons pe_int pa_nil))) pe_int))
      (pss_cons (ps_if (pt_cmpR op_eq (pv 6) pe_int (nomark _)) (pss_cons (ps_set (i := 7) sc_law.nd rfl (Or.inl rfl) (pe_callTy (call_listK (K := K) rfl) rfl T.n_list (by decide +kernel) (pa_cons (pv 3) pa_nil)))
        (pss_cons (ps_set (i := 8) sc_law.nd rfl (Or.inl rfl) (pe_call (ok_checked T) (hr.mono (by decide)) rfl T.g_checked T.F_checked.kp T.b_checked .nil passLN (pa_cons (pv 7) pa_nil)))
        (pss_cons (ps_if (PW.pt (pw_or (pt_not (pt_val (pe_callB (call_isiK0 (K := K) rfl) rfl T.n_isinstance (by decide +kernel) (pa_cons (pv 8) (pa_cons (pe_bltn (v := .ty "list") (by rfl) T.n_list (by decide +kernel) rfl) pa_nil))))) (pw_or (pt_not (pt_val (pe_callB (cr_allK (K := K) rfl rfl) rfl T.n_all (by decide +kernel) (pa_cons (pe_lc (own := [("_law_height", 9)]) (g := gName 9) rfl sc_law.nd (pi_listK (K := K) rfl (pv 8)) (blkOk_by (own := [("_law_height", 9)]) (N := ["_law_script", "_law_far", "_law_size", "_law_good", "_law_k", "_law_place", "_law_kind", "_law_handed", "_law_found", "_law_height", "_law_land", "_law_wrong", "_law_bad", "_law_some"]) (sc := defScope s_law) (by decide +kernel)) (fun _ _ _ _ _ => (pg_name (i := 9) sc_law.nd rfl (Or.inl rfl))) (fun _ _ _ _ _ => pts_nil) (fun _ _ _ _ _ => (pe_call (ok_law_whole T) (hr.mono (by decide)) rfl T.g_law_whole T.F_law_whole.kp T.b_law_whole .nil pass0 (pa_cons (pv 9) pa_nil)))) pa_nil)))) (pw_or1 (pt_cmpR (op_neDK (K := K) rfl hr.units) (pv 8) (pv 3) (nomark _)))))) (pss_one (ps_ret pe_bl)) pss_nil)
        (pss_cons (ps_expr (pe_bmK (K := K) rfl PySem.F.plainAttrs_list PySem.F.slot_list_append PySem.F.type_list_append mt_append (pv 8) (pa_cons pe_int pa_nil)))
        (pss_cons (ps_if (PW.pt (pw_or (pt_cmpR (op_neDK (K := K) rfl hr.units) (pe_call (ok_checked T) (hr.mono (by decide)) rfl T.g_checked T.F_checked.kp T.b_checked .nil passLN (pa_cons (pv 7) pa_nil)) (pv 3) (nomark _)) (pw_or1 (pt_cmpR (op_neDK (K := K) rfl hr.units) (pv 8) (pe_op op_cat (pv 3) (pe_lst (pa_cons pe_int pa_nil))) (nomark _))))) (pss_one (ps_ret pe_bl)) pss_nil)
        (pss_cons (ps_set (i := 10) sc_law.nd rfl (Or.inl rfl) (pe_make T.mk_Land (ok_Land___init__ T) (hr.mono (by decide)) rfl T.g_Land T.b_Land___init__ .nil passLN (pa_cons (pv 7) pa_nil)))
        (pss_cons (ps_expr (pe_bmK (K := K) rfl PySem.F.plainAttrs_list PySem.F.slot_list_append PySem.F.type_list_append mt_append (pv 7) (pa_cons pe_int pa_nil)))
        (pss_one (ps_ret (pe_and (pe_cmpR (op_eqDK (K := K) rfl hr.units) (pe_meth0 (pv 10) T.cl_Land T.m_Land_told (ok_Land_told T) (hr.mono (by decide)) T.b_Land_told .nil pass0) (pv 3) (nomark _)) (pe_one (pe_cmpR (op_eqDK (K := K) rfl hr.units) (pv 7) (pe_op op_cat (pv 3) (pe_lst (pa_cons pe_int pa_nil))) (nomark _))))))))))))) pss_nil)
      (pss_cons (ps_set (i := 11) sc_law.nd rfl (Or.inl rfl) (pe_ix (ix_listK (K := K) rfl) (pe_lst (pa_cons pe_bl (pa_cons pe_bl (pa_cons pe_non (pa_cons pe_str (pa_cons (pe_tup (pa_cons pe_int pa_nil)) (pa_cons (pe_op op_add (pv 1) pe_int) (pa_cons (pe_op op_sub (pe_un un_neg (pv 1)) pe_int) (pa_cons (pe_op op_mul (pv 1) (pv 1)) pa_nil))))))))) (pe_op op_mod (pe_op op_fdiv (pe_call (ok_law_cell_at T) (hr.mono (by decide)) rfl T.g_law_cell_at T.F_law_cell_at.kp T.b_law_cell_at .nil pass0 (pa_cons (pv 0) (pa_cons pe_int pa_nil))) pe_int) pe_int) (fun _ _ => rfl)))
      (pss_cons (ps_set (i := 12) sc_law.nd rfl (Or.inl rfl) (pe_op op_cat (pe_op op_cat (pe_slice (sl_listK (K := K) rfl) (pv 3) po_none (po_some (pv 5))) (pe_lst (pa_cons (pv 11) pa_nil))) (pe_slice (sl_listK (K := K) rfl) (pv 3) (po_some (pe_op op_add (pv 5) pe_int)) po_none)))
      (pss_cons (ps_if (pt_cmpR op_eq (pv 6) pe_int (nomark _)) (pss_cons (ps_set (i := 13) sc_law.nd rfl (Or.inl rfl) (pe_lst (pa_cons (pe_lst pa_nil) (pa_cons (pe_lc (own := [("_law_k", 4)]) (g := gName 4) rfl sc_law.nd (pi_range1 rfl T.n_range (pa_cons pe_int pa_nil)) (blkOk_by (own := [("_law_k", 4)]) (N := ["_law_script", "_law_far", "_law_size", "_law_good", "_law_k", "_law_place", "_law_kind", "_law_handed", "_law_found", "_law_height", "_law_land", "_law_wrong", "_law_bad", "_law_some"]) (sc := defScope s_law) (by decide +kernel)) (fun _ _ _ _ _ => (pg_name (i := 4) sc_law.nd rfl (Or.inl rfl))) (fun _ _ _ _ _ => pts_nil) (fun _ _ _ _ _ => pe_int)) (pa_cons (pe_callTy call_tuple_of rfl T.n_tuple (by decide +kernel) (pa_cons (pv 3) pa_nil)) (pa_cons pe_str (pa_cons pe_non (pa_cons pe_int (pa_cons (pe_disp (pps_cons pe_int pe_int pps_nil) (by rfl) (by rfl) (fun z => by cases z) (by decide)) (pa_cons (pe_lst (pa_cons (pv 3) pa_nil)) pa_nil))))))))))
        (pss_one (ps_set (i := 12) sc_law.nd rfl (Or.inl rfl) (pe_ix (ix_listK (K := K) rfl) (pv 13) (pe_op op_mod (pe_op op_fdiv (pe_call (ok_law_cell_at T) (hr.mono (by decide)) rfl T.g_law_cell_at T.F_law_cell_at.kp T.b_law_cell_at .nil pass0 (pa_cons (pv 0) (pa_cons pe_int pa_nil))) pe_int) pe_int) (fun _ _ => rfl))))) pss_nil)
      (pss_one (ps_ret (pe_and (pe_call (ok_law_refused T) (hr.mono (by decide)) rfl T.g_law_refused T.F_law_refused.kp T.b_law_refused .nil pass0 (pa_cons (pv 12) (pa_cons pe_bl pa_nil))) (pe_one (pe_call (ok_law_refused T) (hr.mono (by decide)) rfl T.g_law_refused T.F_law_refused.kp T.b_law_refused .nil pass0 (pa_cons (pv 12) (pa_cons pe_bl pa_nil))))))))))))))))), ?_⟩)
  · obtain ⟨a, ns, rfl, _⟩ := h
    rfl
  · obtain ⟨s0, ns, rfl, hS, hlen, k⟩ := h
    have hF := FAR_eq
    walk_at "rd"
    generalize (10 : Int) ^ (18 : Int).toNat = F at *
    obtain ⟨n, hn, hn0⟩ : ∃ n : Nat, 1 + cell ns (Int.toNat 0) % 200 = (n : Int) ∧ 1 ≤ n ∧ n ≤ 200 := by
      have := emod_b (x := cell ns (Int.toNat 0)) (n := 200) (by decide)
      exact ⟨(1 + cell ns (Int.toNat 0) % 200).toNat, by omega, by omega, by omega⟩
    rw [hn]
    refine ⟨n, rfl, by omega, by omega, fun G nG => lc_range (lo := 0) (n := Int.toNat n) (fun i H' => ∃ zs : List Int, H' = upd H G (.lst (IL zs)) ∧ zs.length = i ∧ ∀ z ∈ zs, Bd z) ⟨[], rfl, rfl, fun _ h => by cases h⟩ ?_ ?_⟩
    · rintro i _ hi ⟨zs, rfl, hl, hb⟩
      have hS1 := (same_upd (o := .lst (IL zs)) nG).seq hS
      walk_at "rd"
      refine ⟨rfl, ?_⟩
      walk_at "rd"
      have m1 := emod_b (x := cell ns (Int.toNat (4 + (0 + (i : Int)) % 30)) * (48271 + 2 * (0 + (i : Int)))) (n := 2 * F + 1) (by omega)
      refine ⟨_, upd_same, by rw [List.length_map]; exact szlt (by omega), zs ++ [_], upd_snoc, len_snoc hl, fun y hy => ?_⟩
      rcases List.mem_append.mp hy with h | h
      · exact hb y h
      · rw [List.mem_singleton.mp h]
        exact ⟨by omega, by omega⟩
    rintro _ ⟨zs, rfl, hl, hb⟩
    rw [show Int.toNat (n : Int) = n by omega] at hl
    have s1 := same_upd (o := .lst (IL zs)) nG
    have hG : (upd H G (.lst (IL zs))) G = some (.lst (IL zs)) := upd_same
    generalize upd H G (.lst (IL zs)) = H1 at *
    have hS1 := s1.seq hS
    walk_at "rd"
    refine ⟨sz 3, fun L nL => ?_⟩
    have s2 := same_upd (o := .lst (IL [F, -F, 0])) nL
    have hL : (upd H1 L (.lst (IL [F, -F, 0]))) L = some (.lst (IL [F, -F, 0])) := upd_same
    have hG2 := upd_keep (u := .lst (IL [F, -F, 0])) hG nL
    show tOp _ _ _ _ (upd H1 L (.lst (IL [F, -F, 0]))) _
    have s12 := s1.trans s2
    have LG : L ≠ G := fun z => by rw [z, hG] at nL; cases nL
    generalize upd H1 L (.lst (IL [F, -F, 0])) = H2 at *
    have hS2 := s12.seq hS
    walk_at "rd"
    have m3 := emod_b (x := cell ns (Int.toNat 1) / 200) (n := 3) (by decide)
    refine rd_ixL (.of hL) (IL_at m3.1 m3.2) ?_
    obtain ⟨v, hv, bv⟩ : ∃ v : Int, [F, -F, 0].getD (cell ns (Int.toNat 1) / 200 % 3).toNat 0 = v ∧ Bd v := by
      refine ⟨_, rfl, ?_⟩
      have : (cell ns (Int.toNat 1) / 200 % 3).toNat = 0 ∨ (cell ns (Int.toNat 1) / 200 % 3).toNat = 1 ∨ (cell ns (Int.toNat 1) / 200 % 3).toNat = 2 := by omega
      rcases this with h | h | h <;> rw [h]
      · exact ⟨by show _ ≤ F; omega, by show F ≤ _; omega⟩
      · exact ⟨by show _ ≤ -F; omega, by show -F ≤ _; omega⟩
      · exact ⟨by show _ ≤ (0 : Int); decide, by show (0 : Int) ≤ _; decide⟩
    rw [hv]
    walk_at "rd"
    obtain ⟨i0, ei0, hi0⟩ : ∃ i : Nat, cell ns (Int.toNat 1) % (n : Int) = (i : Int) ∧ i < n := by
      have := emod_b (x := cell ns (Int.toNat 1)) (n := (n : Int)) (by omega)
      exact ⟨(cell ns (Int.toNat 1) % (n : Int)).toNat, by omega, by omega⟩
    rw [ei0]
    refine rd_setL hG2 (by rw [List.length_map]; omega) ?_
    have eG : (IL zs).set i0 (V.int v) = IL (zs.set i0 v) := by rw [IL, IL, List.map_set]
    rw [eG]
    have bz : ∀ z ∈ zs.set i0 v, Bd z := fun z hz => by
      rcases List.mem_or_eq_of_mem_set hz with h | h
      · exact hb z h
      · rw [h]; exact bv
    have lz : (zs.set i0 v).length = n := by rw [List.length_set, hl]
    generalize zs.set i0 v = gs at *
    have s3 : Same H (upd H2 G (.lst (IL gs))) := Same.mut s12 nG
    have hG3 : (upd H2 G (.lst (IL gs))) G = some (.lst (IL gs)) := upd_same
    generalize upd H2 G (.lst (IL gs)) = H3 at *
    have hS3 := s3.seq hS
    walk_at "rd"
    obtain ⟨pl, epl, hpl⟩ : ∃ i : Nat, cell ns (Int.toNat 2) % (n : Int) = (i : Int) ∧ i < n := by
      have := emod_b (x := cell ns (Int.toNat 2)) (n := (n : Int)) (by omega)
      exact ⟨(cell ns (Int.toNat 2) % (n : Int)).toNat, by omega, by omega⟩
    rw [epl]
    clear eG hG2 hL LG nL ei0 hi0 epl
    have nG3 : gs ≠ [] := fun z => by rw [z] at lz; simp at lz; omega
    have gl : (IL gs).length = n := by rw [List.length_map]; exact lz
    refine ite2 (fun c0 => ?_) (fun c0 => ?_)
    · walk_at "rd"
      intro A nA
      have s4 := s3.trans (same_upd (o := .lst (IL gs)) nA)
      have hA : (upd H3 A (.lst (IL gs))) A = some (.lst (IL gs)) := upd_same
      have hG4 := upd_keep (u := .lst (IL gs)) hG3 nA
      have GA : G ≠ A := fun z => by rw [← z, hG3] at nA; cases nA
      generalize upd H3 A (.lst (IL gs)) = H4 at *
      walk_at "rd"
      refine good_checked hA ⟨by omega, by omega⟩ bz fun D H5 s5 nD hD => ?_
      have s5' := s4.trans s5
      have hA5 := s5 _ _ hA
      have hG5 := s5 _ _ hG4
      have DA : D ≠ A := fun z => by rw [z, hA] at nD; cases nD
      have DG : D ≠ G := fun z => by rw [z, hG4] at nD; cases nD
      walk_at "rd"
      refine rd_isi (b := true) (ty_lst hD) (by decide +kernel) ?_
      walk_at "rd"
      refine ⟨D, rfl, ⟨_, .of hD⟩, fun B nB => lc_listM (fun _ => .bl true) (.of hD) nB (by omega) (fun _ => rfl) (fun x H' R hx s6 q' => ?_) (fun H6 s6 hB => ?_)⟩
      · walk_at "rd"
        obtain ⟨z, _, rfl⟩ := List.mem_map.mp hx
        exact ⟨_, true, rfl, whole_int, q' _ (Same.refl _)⟩
      walk_at "rd"
      refine rd_allP (fun _ => true) (fun _ _ => rfl) hB ?_
      rw [show (IL gs).all (fun _ => true) = true by simp]
      have hA6 := s6 _ _ hA5
      have hG6 := s6 _ _ hG5
      have hD6 := s6 _ _ hD
      have s6' := s5'.trans s6
      walk_at "rd"
      refine rd_neI (.of hD6) (.of hG6) ?_
      walk_at "rd"
      refine rd_no (by simp) ?_
      walk_at "rd"
      refine ⟨ty_list (.of hD6), ?_⟩
      walk_at "rd"
      refine rd_append hD6 (by omega) ?_
      have nD0 : H D = none := same_fresh s4 nD
      have s7 : Same H (upd H6 D (.lst (IL gs ++ [V.int 0]))) := Same.mut s6' nD0
      have hD7 : (upd H6 D (.lst (IL gs ++ [V.int 0]))) D = some (.lst (IL (gs ++ [0]))) := by rw [upd_same, IL_snoc]
      have hA7 : (upd H6 D (.lst (IL gs ++ [V.int 0]))) A = some (.lst (IL gs)) := by rw [upd_ne (fun z => DA z.symm)]; exact hA6
      have hG7 : (upd H6 D (.lst (IL gs ++ [V.int 0]))) G = some (.lst (IL gs)) := by rw [upd_ne (fun z => DG z.symm)]; exact hG6
      generalize upd H6 D (.lst (IL gs ++ [V.int 0])) = H7 at *
      walk_at "rd"
      refine good_checked hA7 ⟨by omega, by omega⟩ bz fun D2 H8 s8 nD2 hD2 => ?_
      have hA8 := s8 _ _ hA7
      have hG8 := s8 _ _ hG7
      have hD8 := s8 _ _ hD7
      walk_at "rd"
      refine rd_neI (.of hD2) (.of hG8) ?_
      walk_at "rd"
      refine rd_no (by simp) ?_
      walk_at "rd"
      refine ⟨sz 1, fun W nW => ?_⟩
      have sW := same_upd (o := .lst [V.int 0]) nW
      have hW : (upd H8 W (.lst [V.int 0])) W = some (.lst (IL [0])) := upd_same
      have hA9 := sW _ _ hA8
      have hG9 := sW _ _ hG8
      have hD9 := sW _ _ hD8
      generalize upd H8 W (.lst [V.int 0]) = H9 at *
      refine ⟨G, W, _, _, rfl, rfl, hG9, hW, by rw [gl]; exact sz (n + 1) (by omega), fun W2 nW2 => ?_⟩
      have sW2 := same_upd (o := .lst (IL gs ++ IL [0])) nW2
      have hW2 : (upd H9 W2 (.lst (IL gs ++ IL [0]))) W2 = some (.lst (IL (gs ++ [0]))) := by rw [upd_same]; simp [IL]
      have hA10 := sW2 _ _ hA9
      have hG10 := sW2 _ _ hG9
      have hD10 := sW2 _ _ hD9
      generalize upd H9 W2 (.lst (IL gs ++ IL [0])) = H10 at *
      walk_at "rd"
      refine rd_neI (.of hD10) (.of hW2) ?_
      walk_at "rd"
      refine rd_no (by simp) ?_
      walk_at "rd"
      with_reducible refine rd_make ?_
      walk_at "rd"
      intro y dx ny nd ne
      have si := same_inst (C := T.c_Land) ny nd ne
      have hA11 := si _ _ hA10
      refine ⟨y, dx, _, rfl, upd_same, good_checked hA11 ⟨by omega, by omega⟩ bz fun D3 H12 s12 nD3 hD3 => ⟨D3, _, rfl, nD3, s12, hD3, fun H13 F3 fr nF3 DF hL => ⟨rfl, ?_⟩⟩⟩
      have yn : ∀ p u, H10 p = some u → p ≠ y := fun p u h z => by rw [z, ny] at h; cases h
      have s13 : Same H10 H13 := fun p u h => fr p u (yn p u h) (s12 _ _ (si _ _ h))
      have hA13 := s13 _ _ hA10
      have hG13 := s13 _ _ hG10
      have AD3 : A ≠ D3 := fun z => by rw [← z, hA11] at nD3; cases nD3
      have AF3 : A ≠ F3 := fun z => by rw [← z, s12 _ _ hA11] at nF3; cases nF3
      walk_at "rd"
      refine ⟨ty_list (.of hA13), ?_⟩
      walk_at "rd"
      refine rd_append hA13 (by omega) ?_
      obtain ⟨⟨dx3, hy3⟩, hD3', hF3'⟩ := hL
      have hA14 : (upd H13 A (.lst (IL gs ++ [V.int 1]))) A = some (.lst (IL (gs ++ [1]))) := by rw [upd_same, IL_snoc]
      have hG14 : (upd H13 A (.lst (IL gs ++ [V.int 1]))) G = some (.lst (IL gs)) := by rw [upd_ne GA]; exact hG13
      have hL14 : LandAt (upd H13 A (.lst (IL gs ++ [V.int 1]))) T.c_Land y D3 F3 (IL gs) [] := by
        refine ⟨⟨dx3, ?_⟩, ?_, ?_⟩
        · rw [upd_ne (ne_of hy3 hA13 (by intro z; cases z))]
          exact hy3
        · rw [upd_ne (fun z => AD3 z.symm)]
          exact hD3'
        · rw [upd_ne (fun z => AF3 z.symm)]
          exact hF3'
      generalize upd H13 A (.lst (IL gs ++ [V.int 1])) = H14 at *
      walk_at "rd"
      with_reducible refine rd_meth ?_
      walk_at "rd"
      obtain ⟨⟨dx4, hy4⟩, hD4, hF4⟩ := id hL14
      refine ⟨y, dx4, _, rfl, hy4, rfl, ?_⟩
      walk_at "rd"
      refine ⟨y, D3, F3, _, _, rfl, hL14, fun W3 nW3 => ?_⟩
      have sW3 := same_upd (o := .lst (IL gs)) nW3
      have hW3 : (upd H14 W3 (.lst (IL gs))) W3 = some (.lst (IL gs)) := upd_same
      have hA15 := sW3 _ _ hA14
      have hG15 := sW3 _ _ hG14
      generalize upd H14 W3 (.lst (IL gs)) = H15 at *
      walk_at "rd"
      refine rd_eqI (.of hW3) (.of hG15) ?_
      walk_at "rd"
      refine rd_yes (by simp) ?_
      walk_at "rd"
      refine ⟨sz 1, fun W4 nW4 => ?_⟩
      have sW4 := same_upd (o := .lst [V.int 1]) nW4
      have hW4 : (upd H15 W4 (.lst [V.int 1])) W4 = some (.lst (IL [1])) := upd_same
      have hA16 := sW4 _ _ hA15
      have hG16 := sW4 _ _ hG15
      generalize upd H15 W4 (.lst [V.int 1]) = H16 at *
      refine ⟨G, W4, _, _, rfl, rfl, hG16, hW4, by rw [gl]; exact sz (n + 1) (by omega), fun W5 nW5 => ?_⟩
      have sW5 := same_upd (o := .lst (IL gs ++ IL [1])) nW5
      have hW5 : (upd H16 W5 (.lst (IL gs ++ IL [1]))) W5 = some (.lst (IL (gs ++ [1]))) := by rw [upd_same]; simp [IL]
      have hA17 := sW5 _ _ hA16
      generalize upd H16 W5 (.lst (IL gs ++ IL [1])) = H17 at *
      refine rd_eqI (.of hA17) (.of hW5) ?_
      rw [decide_eq_true rfl]
      exact k _
    · walk_at "rd"
      refine ⟨sz 1, fun t nt => ?_⟩
      have s4 := s3.trans (same_upd (o := .tup [.int 1]) nt)
      have ht : (upd H3 t (.tup [.int 1])) t = some (.tup [.int 1]) := upd_same
      have hG4 := upd_keep (u := .tup [.int 1]) hG3 nt
      generalize upd H3 t (.tup [.int 1]) = H4 at *
      walk_at "rd"
      refine ⟨sz 8, fun W nW => ?_⟩
      obtain ⟨xs, hxs⟩ : ∃ xs : List V, xs = [V.bl true, .bl false, .non, .str "1", .ref t, .int (F + 1), .int (-F - 1), .int (F * F)] := ⟨_, rfl⟩
      have hbad : ∀ x ∈ xs, isH x = false ∧ ∀ H', Same H4 H' → Ht K H' x (isH x) := by
        intro x hx
        rw [hxs] at hx
        simp only [List.mem_cons, List.mem_nil_iff, or_false] at hx
        have big : ∀ i : Int, (i < -1000000000000000000 ∨ 1000000000000000000 < i) → isH (.int i) = false := fun i h => decide_eq_false (by omega)
        rcases hx with rfl | rfl | rfl | rfl | rfl | rfl | rfl | rfl
        · exact ⟨rfl, fun H' _ => ht_no whole_bl rfl⟩
        · exact ⟨rfl, fun H' _ => ht_no whole_bl rfl⟩
        · exact ⟨rfl, fun H' _ => ht_no whole_non rfl⟩
        · exact ⟨rfl, fun H' _ => ht_no whole_str rfl⟩
        · exact ⟨rfl, fun H' s => ht_no (whole_tup (s _ _ ht)) rfl⟩
        · exact ⟨big _ (by omega), fun H' _ => ht_int⟩
        · exact ⟨big _ (by omega), fun H' _ => ht_int⟩
        · refine ⟨big _ (by rw [hF]; decide), fun H' _ => ht_int⟩
      have hW : (upd H4 W (.lst xs)) W = some (.lst xs) := upd_same
      have s5 := same_upd (o := .lst xs) nW
      have s45 := s4.trans s5
      have hxl : xs.length = 8 := by rw [hxs]; rfl
      rw [← hxs]
      have hG5 := upd_keep (u := .lst xs) hG4 nW
      generalize upd H4 W (.lst xs) = H5 at *
      have hS5 := s45.seq hS
      walk_at "rd"
      have m8 := emod_b (x := cell ns (Int.toNat 3) / 3) (n := 8) (by decide)
      obtain ⟨x, hx, ex⟩ := atI_mem (xs := xs) m8.1 (by omega)
      obtain ⟨x1, x2⟩ := hbad x hx
      refine rd_ixL (.of hW) ex ?_
      walk_at "rd"
      intro P1 nP1
      have s6 := same_upd (o := .lst (cutV (IL gs) none (some (pl : Int)))) nP1
      have hP1 : (upd H5 P1 (.lst (cutV (IL gs) none (some (pl : Int))))) P1 = some (.lst (cutV (IL gs) none (some (pl : Int)))) := upd_same
      have hG6 := s6 _ _ hG5
      generalize upd H5 P1 (.lst (cutV (IL gs) none (some (pl : Int)))) = H6 at *
      walk_at "rd"
      refine ⟨sz 1, fun P2 nP2 => ?_⟩
      have s7 := same_upd (o := .lst [x]) nP2
      have hP2 : (upd H6 P2 (.lst [x])) P2 = some (.lst [x]) := upd_same
      have hP17 := s7 _ _ hP1
      have hG7 := s7 _ _ hG6
      generalize upd H6 P2 (.lst [x]) = H7 at *
      have lc1 := cutV_len (IL gs) none (some (pl : Int))
      refine ⟨P1, P2, _, _, rfl, rfl, hP17, hP2, by show _ + 1 ≤ sizeLine; exact sz _ (by omega), fun P3 nP3 => ?_⟩
      have s8 := same_upd (o := .lst (cutV (IL gs) none (some (pl : Int)) ++ [x])) nP3
      have hP3 : (upd H7 P3 (.lst (cutV (IL gs) none (some (pl : Int)) ++ [x]))) P3 = some (.lst (cutV (IL gs) none (some (pl : Int)) ++ [x])) := upd_same
      have hG8 := s8 _ _ hG7
      generalize upd H7 P3 (.lst (cutV (IL gs) none (some (pl : Int)) ++ [x])) = H8 at *
      walk_at "rd"
      intro P4 nP4
      have s9 := same_upd (o := .lst (cutV (IL gs) (some ((pl : Int) + 1)) none)) nP4
      have hP4 : (upd H8 P4 (.lst (cutV (IL gs) (some ((pl : Int) + 1)) none))) P4 = some (.lst (cutV (IL gs) (some ((pl : Int) + 1)) none)) := upd_same
      have hP39 := s9 _ _ hP3
      have hG9 := s9 _ _ hG8
      generalize upd H8 P4 (.lst (cutV (IL gs) (some ((pl : Int) + 1)) none)) = H9 at *
      have lc2 := cutV_len (IL gs) (some ((pl : Int) + 1)) none
      refine ⟨P3, P4, _, _, rfl, rfl, hP39, hP4, by rw [List.length_append]; show _ + 1 + _ ≤ sizeLine; exact sz _ (by omega), fun P5 nP5 => ?_⟩
      obtain ⟨bs, hbs⟩ : ∃ bs, bs = cutV (IL gs) none (some (pl : Int)) ++ [x] ++ cutV (IL gs) (some ((pl : Int) + 1)) none := ⟨_, rfl⟩
      rw [← hbs]
      have s10 := same_upd (o := .lst bs) nP5
      have hP5 : (upd H9 P5 (.lst bs)) P5 = some (.lst bs) := upd_same
      have hG10 := s10 _ _ hG9
      have s510 := ((((s5.trans s6).trans s7).trans s8).trans s9).trans s10
      generalize upd H9 P5 (.lst bs) = H10 at *
      have hbad5 : BadL K H10 (.ref P5) := by
        refine bad_lst hP5 ?_ (fun H' s v hv => ?_) (fun z => ?_)
        · rw [hbs, List.length_append, List.length_append]
          show _ + 1 + _ ≤ 90000
          omega
        · rw [hbs] at hv
          rcases List.mem_append.mp hv with h | h
          · rcases List.mem_append.mp h with h | h
            · obtain ⟨i, _, rfl⟩ := List.mem_map.mp (cutV_mem h)
              exact ht_int
            · rw [List.mem_singleton.mp h]
              exact x2 _ (s510.trans s)
          · obtain ⟨i, _, rfl⟩ := List.mem_map.mp (cutV_mem h)
            exact ht_int
        · have := List.all_eq_true.mp z.2 x (by rw [hbs]; simp)
          rw [x1] at this
          cases this
      have hS10 := (s4.trans s510).seq hS
      walk_at "rq"
      with_reducible refine rd_cut (fun σ' H' => ∃ (y : V) (o : Option V), σ' = [some (.ref s0), some (.int F), some (.int (n : Int)), some (.ref G), none, some (.int (pl : Int)), some (.int (cell ns (Int.toNat 3) % 3)), none, none, none, none, some x, some y, o] ∧ BadL K H' y) (fun N hN => ?_) ?_
      · walk_at "rd"
        refine ite2 (fun c2 => ?_) (fun c2 => ?_)
        · walk_at "rd"
          refine ⟨sz 0, fun A1 nA1 => ?_⟩
          have t1 := same_upd (o := .lst []) nA1
          have hA1 : (upd H10 A1 (.lst [])) A1 = some (.lst []) := upd_same
          have hG11 := t1 _ _ hG10
          generalize upd H10 A1 (.lst []) = H11 at *
          walk_at "rd"
          refine ⟨_, rfl, by decide, by decide, fun A2 nA2 => lc_rangeM (fun _ => .int 0) nA2 (by decide) (fun _ => rfl) (fun i H' R _ _ q' => ?_) (fun H12 t2 hA2 => ?_)⟩
          · walk_at "rd"
            exact q' _ (Same.refl _)
          have hG12 := t2 _ _ hG11
          walk_at "rd"
          refine ⟨G, _, rfl, .inl ⟨.of hG12, fun A3 nA3 => ?_⟩⟩
          have t3 := same_upd (o := .tup (IL gs)) nA3
          have hA3 : (upd H12 A3 (.tup (IL gs))) A3 = some (.tup (IL gs)) := upd_same
          have hG13 := t3 _ _ hG12
          generalize upd H12 A3 (.tup (IL gs)) = H13 at *
          walk_at "rd"
          intro A4 nA4
          refine And.intro upd_same ?_
          refine ⟨[(Sum.inl 0, .int 1)], rfl, by decide, ?_⟩
          rw [upd_upd]
          have t4 := same_upd (o := .dK (mergeK [] [(Sum.inl 0, V.int 1)])) nA4
          have hA4 : (upd H13 A4 (.dK (mergeK [] [(Sum.inl 0, V.int 1)]))) A4 = some (.dK (mergeK [] [(Sum.inl 0, V.int 1)])) := upd_same
          have hG14 := t4 _ _ hG13
          generalize upd H13 A4 (.dK (mergeK [] [(Sum.inl 0, V.int 1)])) = H14 at *
          walk_at "rd"
          refine ⟨sz 1, fun A5 nA5 => ?_⟩
          have t5 := same_upd (o := .lst [.ref G]) nA5
          have hA5 : (upd H14 A5 (.lst [.ref G])) A5 = some (.lst [.ref G]) := upd_same
          have hG15 := t5 _ _ hG14
          generalize upd H14 A5 (.lst [.ref G]) = H15 at *
          walk_at "rd"
          refine ⟨sz 8, fun A6 nA6 => ?_⟩
          obtain ⟨ys, hys⟩ : ∃ ys : List V, ys = [V.ref A1, .ref A2, .ref A3, .str "1 2", .non, .int 7, .ref A4, .ref A5] := ⟨_, rfl⟩
          rw [← hys]
          have t6 := same_upd (o := .lst ys) nA6
          have hA6 : (upd H15 A6 (.lst ys)) A6 = some (.lst ys) := upd_same
          have hyl : ys.length = 8 := by rw [hys]; rfl
          have t15 := (((t1.trans t2).trans t3).trans t4).trans t5
          have hb1 := (((t2.trans t3).trans t4).trans t5) _ _ hA1
          have hb2 := ((t3.trans t4).trans t5) _ _ hA2
          have hb3 := (t4.trans t5) _ _ hA3
          have hb4 := t5 _ _ hA4
          have hall : ∀ v ∈ ys, BadL K H15 v := by
            intro v hv
            rw [hys] at hv
            simp only [List.mem_cons, List.mem_nil_iff, or_false] at hv
            rcases hv with rfl | rfl | rfl | rfl | rfl | rfl | rfl | rfl
            · exact bad_lst hb1 (by decide) (fun H' _ v hv => by cases hv) (fun z => by
                have := z.1.1
                simp at this)
            · refine bad_lst hb2 (by rw [List.length_map, List.length_range]; decide) (fun H' _ v hv => ?_) (fun z => by
                have := z.1.2
                rw [List.length_map, List.length_range] at this
                revert this
                decide)
              obtain ⟨i, _, rfl⟩ := List.mem_map.mp hv
              exact ht_int
            · exact bad_ty (fun H' s => .base (.tup (s _ _ hb3))) (by decide +kernel)
            · exact bad_ty (fun H' s => .base (.str _)) (by decide +kernel)
            · exact bad_ty (fun H' s => .base .non) (by decide +kernel)
            · exact bad_ty (fun H' s => .base (.int _)) (by decide +kernel)
            · exact bad_ty (fun H' s => .base (.dK (s _ _ hb4))) (by decide +kernel)
            · refine bad_lst hA5 (by show (1 : Nat) ≤ 90000; decide) (fun H' s v hv => ?_) (fun z => by
                have := z.2
                simp [isH] at this)
              rw [List.mem_singleton.mp hv]
              exact ht_no (whole_lst (s _ _ hG15)) rfl
          have hS15 := (t15.trans t6).seq hS10
          generalize upd H15 A6 (.lst ys) = H16 at *
          walk_at "rd"
          have m9 := emod_b (x := cell ns (Int.toNat 3) / 3) (n := 8) (by decide)
          obtain ⟨v, hv, ev⟩ := atI_mem (xs := ys) m9.1 (by omega)
          refine rd_ixL (.of hA6) ev ?_
          exact hN _ _ ⟨v, _, rfl, (hall v hv).mono t6⟩
        · walk_at "rd"
          exact hN _ _ ⟨_, none, rfl, hbad5⟩
      rintro σ1 Hz ⟨y, o, rfl, hy⟩
      walk_at "rd"
      refine ⟨y, false, rfl, hy, fun Hy sy => ?_⟩
      walk_at "rd"
      exact ⟨y, true, rfl, hy.mono sy, fun Hx sx => k _⟩


end
theorem all_mk {l : PySem.W.OpenLaw} {w : World} {K : PySem.W.Frag} {h : Heap} {mg : Str → Option Value} {fa : Addr} (X : K.In h) (G : h.Ns mainGlobals mg) (hfa : mg "law" = some (.ref fa))
    {c_Land : Addr} {f_is_whole : Addr} {od_is_whole an_is_whole : Option Addr} {sl_is_whole : Array (Option Value)} {oc_is_whole kV_is_whole dc_is_whole pm_is_whole cd_is_whole ct_is_whole : Value} {f_is_height : Addr} {od_is_height an_is_height : Option Addr} {sl_is_height : Array (Option Value)} {oc_is_height kV_is_height dc_is_height pm_is_height cd_is_height ct_is_height : Value} {f_checked : Addr} {od_checked an_checked : Option Addr} {sl_checked : Array (Option Value)} {oc_checked kV_checked dc_checked pm_checked cd_checked ct_checked : Value} {f_Land___init__ : Addr} {od_Land___init__ an_Land___init__ : Option Addr} {sl_Land___init__ : Array (Option Value)} {oc_Land___init__ kV_Land___init__ dc_Land___init__ pm_Land___init__ cd_Land___init__ ct_Land___init__ : Value} {f_Land_told : Addr} {od_Land_told an_Land_told : Option Addr} {sl_Land_told : Array (Option Value)} {oc_Land_told kV_Land_told dc_Land_told pm_Land_told cd_Land_told ct_Land_told : Value} {f_law_sole : Addr} {od_law_sole an_law_sole : Option Addr} {sl_law_sole : Array (Option Value)} {oc_law_sole kV_law_sole dc_law_sole pm_law_sole cd_law_sole ct_law_sole : Value} {f_law_whole : Addr} {od_law_whole an_law_whole : Option Addr} {sl_law_whole : Array (Option Value)} {oc_law_whole kV_law_whole dc_law_whole pm_law_whole cd_law_whole ct_law_whole : Value} {f_law_cell_at : Addr} {od_law_cell_at an_law_cell_at : Option Addr} {sl_law_cell_at : Array (Option Value)} {oc_law_cell_at kV_law_cell_at dc_law_cell_at pm_law_cell_at cd_law_cell_at ct_law_cell_at : Value} {f_law_refused : Addr} {od_law_refused an_law_refused : Option Addr} {sl_law_refused : Array (Option Value)} {oc_law_refused kV_law_refused dc_law_refused pm_law_refused cd_law_refused ct_law_refused : Value} {f_law : Addr} {od_law an_law : Option Addr} {sl_law : Array (Option Value)} {oc_law kV_law dc_law pm_law cd_law ct_law : Value} {c_HillError : Addr} {c_NoLand : Addr} {c_NoHill : Addr} {c_SameHill : Addr} {c_TooHigh : Addr} {c_NothingDone : Addr} {w_MOST_HILLS : Tok} {w_MOST_HEIGHT : Tok}
    (a_Land : PySem.W.nsIn K mainGlobals "Land" = some (some (.ref c_Land)))
    (a_is_whole : PySem.W.nsIn K mainGlobals "is_whole" = some (some (.ref f_is_whole)))
    (l_is_whole : K.lookup f_is_whole = some ⟨oc_is_whole, od_is_whole, .func (PySem.W.fnOf "is_whole" "is_whole" (defArgs s_is_whole) (defBody s_is_whole) (defScope s_is_whole) .none kV_is_whole dc_is_whole pm_is_whole an_is_whole cd_is_whole ct_is_whole), sl_is_whole⟩)
    (q_is_whole : PySem.W.codeIn K cd_is_whole "is_whole" = true)
    (k_is_whole : PySem.W.keepIn K (.ref f_is_whole) = true)
    (a_is_height : PySem.W.nsIn K mainGlobals "is_height" = some (some (.ref f_is_height)))
    (l_is_height : K.lookup f_is_height = some ⟨oc_is_height, od_is_height, .func (PySem.W.fnOf "is_height" "is_height" (defArgs s_is_height) (defBody s_is_height) (defScope s_is_height) .none kV_is_height dc_is_height pm_is_height an_is_height cd_is_height ct_is_height), sl_is_height⟩)
    (q_is_height : PySem.W.codeIn K cd_is_height "is_height" = true)
    (k_is_height : PySem.W.keepIn K (.ref f_is_height) = true)
    (a_checked : PySem.W.nsIn K mainGlobals "checked" = some (some (.ref f_checked)))
    (l_checked : K.lookup f_checked = some ⟨oc_checked, od_checked, .func (PySem.W.fnOf "checked" "checked" (defArgs s_checked) (defBody s_checked) (defScope s_checked) .none kV_checked dc_checked pm_checked an_checked cd_checked ct_checked), sl_checked⟩)
    (q_checked : PySem.W.codeIn K cd_checked "checked" = true)
    (k_checked : PySem.W.keepIn K (.ref f_checked) = true)
    (a_Land___init__ : PySem.W.findIn K (.ref c_Land) "__init__" = some (some (.ref f_Land___init__)))
    (i_Land___init__ : PySem.W.isFn K (.ref f_Land___init__) = true)
    (l_Land___init__ : K.lookup f_Land___init__ = some ⟨oc_Land___init__, od_Land___init__, .func (PySem.W.fnOf "__init__" "Land.__init__" (defArgs s_Land___init__) (defBody s_Land___init__) (defScope s_Land___init__) .none kV_Land___init__ dc_Land___init__ pm_Land___init__ an_Land___init__ cd_Land___init__ ct_Land___init__), sl_Land___init__⟩)
    (q_Land___init__ : PySem.W.codeIn K cd_Land___init__ "Land.__init__" = true)
    (k_Land___init__ : PySem.W.keepIn K (.ref f_Land___init__) = true)
    (a_Land_told : PySem.W.findIn K (.ref c_Land) "told" = some (some (.ref f_Land_told)))
    (i_Land_told : PySem.W.isFn K (.ref f_Land_told) = true)
    (l_Land_told : K.lookup f_Land_told = some ⟨oc_Land_told, od_Land_told, .func (PySem.W.fnOf "told" "Land.told" (defArgs s_Land_told) (defBody s_Land_told) (defScope s_Land_told) .none kV_Land_told dc_Land_told pm_Land_told an_Land_told cd_Land_told ct_Land_told), sl_Land_told⟩)
    (q_Land_told : PySem.W.codeIn K cd_Land_told "Land.told" = true)
    (k_Land_told : PySem.W.keepIn K (.ref f_Land_told) = true)
    (a_law_sole : PySem.W.nsIn K mainGlobals "_law_sole" = some (some (.ref f_law_sole)))
    (l_law_sole : K.lookup f_law_sole = some ⟨oc_law_sole, od_law_sole, .func (PySem.W.fnOf "_law_sole" "_law_sole" (defArgs s_law_sole) (defBody s_law_sole) (defScope s_law_sole) .none kV_law_sole dc_law_sole pm_law_sole an_law_sole cd_law_sole ct_law_sole), sl_law_sole⟩)
    (q_law_sole : PySem.W.codeIn K cd_law_sole "_law_sole" = true)
    (k_law_sole : PySem.W.keepIn K (.ref f_law_sole) = true)
    (a_law_whole : PySem.W.nsIn K mainGlobals "_law_whole" = some (some (.ref f_law_whole)))
    (l_law_whole : K.lookup f_law_whole = some ⟨oc_law_whole, od_law_whole, .func (PySem.W.fnOf "_law_whole" "_law_whole" (defArgs s_law_whole) (defBody s_law_whole) (defScope s_law_whole) .none kV_law_whole dc_law_whole pm_law_whole an_law_whole cd_law_whole ct_law_whole), sl_law_whole⟩)
    (q_law_whole : PySem.W.codeIn K cd_law_whole "_law_whole" = true)
    (k_law_whole : PySem.W.keepIn K (.ref f_law_whole) = true)
    (a_law_cell_at : PySem.W.nsIn K mainGlobals "_law_cell_at" = some (some (.ref f_law_cell_at)))
    (l_law_cell_at : K.lookup f_law_cell_at = some ⟨oc_law_cell_at, od_law_cell_at, .func (PySem.W.fnOf "_law_cell_at" "_law_cell_at" (defArgs s_law_cell_at) (defBody s_law_cell_at) (defScope s_law_cell_at) .none kV_law_cell_at dc_law_cell_at pm_law_cell_at an_law_cell_at cd_law_cell_at ct_law_cell_at), sl_law_cell_at⟩)
    (q_law_cell_at : PySem.W.codeIn K cd_law_cell_at "_law_cell_at" = true)
    (k_law_cell_at : PySem.W.keepIn K (.ref f_law_cell_at) = true)
    (a_law_refused : PySem.W.nsIn K mainGlobals "_law_refused" = some (some (.ref f_law_refused)))
    (l_law_refused : K.lookup f_law_refused = some ⟨oc_law_refused, od_law_refused, .func (PySem.W.fnOf "_law_refused" "_law_refused" (defArgs s_law_refused) (defBody s_law_refused) (defScope s_law_refused) .none kV_law_refused dc_law_refused pm_law_refused an_law_refused cd_law_refused ct_law_refused), sl_law_refused⟩)
    (q_law_refused : PySem.W.codeIn K cd_law_refused "_law_refused" = true)
    (k_law_refused : PySem.W.keepIn K (.ref f_law_refused) = true)
    (a_law : PySem.W.nsIn K mainGlobals "law" = some (some (.ref f_law)))
    (l_law : K.lookup f_law = some ⟨oc_law, od_law, .func (PySem.W.fnOf "law" "law" (defArgs s_law) (defBody s_law) (defScope s_law) .none kV_law dc_law pm_law an_law cd_law ct_law), sl_law⟩)
    (q_law : PySem.W.codeIn K cd_law "law" = true)
    (k_law : PySem.W.keepIn K (.ref f_law) = true)
    (a_HillError : PySem.W.nsIn K mainGlobals "HillError" = some (some (.ref c_HillError)))
    (x_HillError : PySem.W.excIn K c_HillError [.type "ValueError", .type "Exception", .type "BaseException", .type "object"] "ValueError.__new__" = true)
    (k_HillError : PySem.W.keepIn K (.ref c_HillError) = true)
    (e_HillError : PySem.W.subIn K (.ref c_HillError) (.type "BaseException") = some true)
    (t_HillError : PySem.W.typeIn K (.ref c_HillError) = some (.type "type"))
    (i_HillError : PySem.W.isClsIn K c_HillError = true)
    (a_NoLand : PySem.W.nsIn K mainGlobals "NoLand" = some (some (.ref c_NoLand)))
    (x_NoLand : PySem.W.excIn K c_NoLand [.type "ValueError", .type "Exception", .type "BaseException", .type "object"] "ValueError.__new__" = true)
    (k_NoLand : PySem.W.keepIn K (.ref c_NoLand) = true)
    (e_NoLand : PySem.W.subIn K (.ref c_NoLand) (.type "BaseException") = some true)
    (t_NoLand : PySem.W.typeIn K (.ref c_NoLand) = some (.type "type"))
    (i_NoLand : PySem.W.isClsIn K c_NoLand = true)
    (a_NoHill : PySem.W.nsIn K mainGlobals "NoHill" = some (some (.ref c_NoHill)))
    (x_NoHill : PySem.W.excIn K c_NoHill [.type "ValueError", .type "Exception", .type "BaseException", .type "object"] "ValueError.__new__" = true)
    (k_NoHill : PySem.W.keepIn K (.ref c_NoHill) = true)
    (e_NoHill : PySem.W.subIn K (.ref c_NoHill) (.type "BaseException") = some true)
    (t_NoHill : PySem.W.typeIn K (.ref c_NoHill) = some (.type "type"))
    (i_NoHill : PySem.W.isClsIn K c_NoHill = true)
    (a_SameHill : PySem.W.nsIn K mainGlobals "SameHill" = some (some (.ref c_SameHill)))
    (x_SameHill : PySem.W.excIn K c_SameHill [.type "ValueError", .type "Exception", .type "BaseException", .type "object"] "ValueError.__new__" = true)
    (k_SameHill : PySem.W.keepIn K (.ref c_SameHill) = true)
    (e_SameHill : PySem.W.subIn K (.ref c_SameHill) (.type "BaseException") = some true)
    (t_SameHill : PySem.W.typeIn K (.ref c_SameHill) = some (.type "type"))
    (i_SameHill : PySem.W.isClsIn K c_SameHill = true)
    (a_TooHigh : PySem.W.nsIn K mainGlobals "TooHigh" = some (some (.ref c_TooHigh)))
    (x_TooHigh : PySem.W.excIn K c_TooHigh [.type "ValueError", .type "Exception", .type "BaseException", .type "object"] "ValueError.__new__" = true)
    (k_TooHigh : PySem.W.keepIn K (.ref c_TooHigh) = true)
    (e_TooHigh : PySem.W.subIn K (.ref c_TooHigh) (.type "BaseException") = some true)
    (t_TooHigh : PySem.W.typeIn K (.ref c_TooHigh) = some (.type "type"))
    (i_TooHigh : PySem.W.isClsIn K c_TooHigh = true)
    (a_NothingDone : PySem.W.nsIn K mainGlobals "NothingDone" = some (some (.ref c_NothingDone)))
    (x_NothingDone : PySem.W.excIn K c_NothingDone [.type "ValueError", .type "Exception", .type "BaseException", .type "object"] "ValueError.__new__" = true)
    (k_NothingDone : PySem.W.keepIn K (.ref c_NothingDone) = true)
    (e_NothingDone : PySem.W.subIn K (.ref c_NothingDone) (.type "BaseException") = some true)
    (t_NothingDone : PySem.W.typeIn K (.ref c_NothingDone) = some (.type "type"))
    (i_NothingDone : PySem.W.isClsIn K c_NothingDone = true)
    (s_NoLand_NoLand : PySem.W.subIn K (.ref c_NoLand) (.ref c_NoLand) = some true)
    (pg_Land : PySem.W.plainGet K c_Land Str.empty = true)
    (hd_Land : PySem.W.hasDictIn K c_Land = true)
    (po_Land : PySem.W.plainOver K c_Land = true)
    (sa_Land : PySem.W.findIn K (.ref c_Land) "__setattr__" = some (some (.builtin "object.__setattr__")))
    (ms_Land : PySem.W.makesIn K c_Land = true)
    (kp_Land : PySem.W.keepIn K (.ref c_Land) = true)
    (hn_obj : PySem.W.specialIn K (.builtin "object.__class__") "__get__" = some (some (.builtin "getset_descriptor.__get__")))
    (ht_obj : PySem.W.takesIn K (.builtin "object.__class__") = some true)
    (hg_NoLand : PySem.W.findIn K (.ref c_NoLand) "__getattribute__" = some (some (.builtin "BaseException.__getattribute__")))
    (hk_NoLand : PySem.W.findIn K (.ref c_NoLand) "__getattr__" = some none)
    (hd_NoLand : PySem.W.hasDictIn K c_NoLand = true)
    (ha_NoLand : PySem.W.findIn K (.ref c_NoLand) "__class__" = some (some (.builtin "object.__class__")))
    (hm_NoLand : PySem.W.mroIn K c_NoLand (.type "object") = some true)
    (kv_NoLand : PySem.W.kitOne K (.ref c_NoLand) (.type "ValueError") = some true)
    (kt_NoLand_NoLand : PySem.W.kitOne K (.ref c_NoLand) (.ref c_NoLand) = some true)
    (kt_NoLand_NoHill : PySem.W.kitOne K (.ref c_NoLand) (.ref c_NoHill) = some false)
    (kt_NoLand_SameHill : PySem.W.kitOne K (.ref c_NoLand) (.ref c_SameHill) = some false)
    (kt_NoLand_TooHigh : PySem.W.kitOne K (.ref c_NoLand) (.ref c_TooHigh) = some false)
    (kt_NoLand_NothingDone : PySem.W.kitOne K (.ref c_NoLand) (.ref c_NothingDone) = some false)
    (kt_NoLand_HillError : PySem.W.kitOne K (.ref c_NoLand) (.ref c_HillError) = some true)
    (na_hills : NoAttr K c_Land "hills")
    (na_done : NoAttr K c_Land "done")
    (a_MOST_HILLS : PySem.W.nsIn K mainGlobals "MOST_HILLS" = some (some (.int 200 w_MOST_HILLS)))
    (a_MOST_HEIGHT : PySem.W.nsIn K mainGlobals "MOST_HEIGHT" = some (some (.int 1000000000000000000 w_MOST_HEIGHT)))
    (n_ValueError : PySem.W.nsIn K mainGlobals "ValueError" = some none)
    (n_all : PySem.W.nsIn K mainGlobals "all" = some none)
    (n_bool : PySem.W.nsIn K mainGlobals "bool" = some none)
    (n_int : PySem.W.nsIn K mainGlobals "int" = some none)
    (n_isinstance : PySem.W.nsIn K mainGlobals "isinstance" = some none)
    (n_len : PySem.W.nsIn K mainGlobals "len" = some none)
    (n_list : PySem.W.nsIn K mainGlobals "list" = some none)
    (n_range : PySem.W.nsIn K mainGlobals "range" = some none)
    (n_tuple : PySem.W.nsIn K mainGlobals "tuple" = some none)
    : ∃ fd : FuncData, (∀ (s : Shared) (v : Value), BindsTo s fd ⟨[v], []⟩ [("_law_script", v)]) ∧ ∀ base : Heap, K.In base → base.Ns mainGlobals mg → FnOk l.prog w K mg base CX0 7 fa fd ["_law_script"] (spLaw K) := by
  have e : fa = f_law := Value.ref.inj (Option.some.inj (hfa.symm.trans (PySem.W.mg_of X G a_law)))
  rw [e]
  have T : ∃ T : Txt K mg, T.a_law = f_law ∧ T.d_law = PySem.W.fnOf "law" "law" (defArgs s_law) (defBody s_law) (defScope s_law) .none kV_law dc_law pm_law an_law cd_law ct_law := ⟨{
    a_is_whole := f_is_whole, d_is_whole := PySem.W.fnOf "is_whole" "is_whole" (defArgs s_is_whole) (defBody s_is_whole) (defScope s_is_whole) .none kV_is_whole dc_is_whole pm_is_whole an_is_whole cd_is_whole ct_is_whole, F_is_whole := fun_mk (st := s_is_whole) l_is_whole q_is_whole k_is_whole,
    b_is_whole := (fun_mk (st := s_is_whole) l_is_whole q_is_whole k_is_whole).binds (ps := ["thing"]) fun _ _ _ _ _ _ us hl => match us, hl with | [_], _ => rfl,
    g_is_whole := PySem.W.mg_of X G a_is_whole,
    a_is_height := f_is_height, d_is_height := PySem.W.fnOf "is_height" "is_height" (defArgs s_is_height) (defBody s_is_height) (defScope s_is_height) .none kV_is_height dc_is_height pm_is_height an_is_height cd_is_height ct_is_height, F_is_height := fun_mk (st := s_is_height) l_is_height q_is_height k_is_height,
    b_is_height := (fun_mk (st := s_is_height) l_is_height q_is_height k_is_height).binds (ps := ["thing"]) fun _ _ _ _ _ _ us hl => match us, hl with | [_], _ => rfl,
    g_is_height := PySem.W.mg_of X G a_is_height,
    a_checked := f_checked, d_checked := PySem.W.fnOf "checked" "checked" (defArgs s_checked) (defBody s_checked) (defScope s_checked) .none kV_checked dc_checked pm_checked an_checked cd_checked ct_checked, F_checked := fun_mk (st := s_checked) l_checked q_checked k_checked,
    b_checked := (fun_mk (st := s_checked) l_checked q_checked k_checked).binds (ps := ["land"]) fun _ _ _ _ _ _ us hl => match us, hl with | [_], _ => rfl,
    g_checked := PySem.W.mg_of X G a_checked,
    a_Land___init__ := f_Land___init__, d_Land___init__ := PySem.W.fnOf "__init__" "Land.__init__" (defArgs s_Land___init__) (defBody s_Land___init__) (defScope s_Land___init__) .none kV_Land___init__ dc_Land___init__ pm_Land___init__ an_Land___init__ cd_Land___init__ ct_Land___init__, F_Land___init__ := fun_mk (st := s_Land___init__) l_Land___init__ q_Land___init__ k_Land___init__,
    b_Land___init__ := (fun_mk (st := s_Land___init__) l_Land___init__ q_Land___init__ k_Land___init__).binds (ps := ["self", "heights"]) fun _ _ _ _ _ _ us hl => match us, hl with | [_, _], _ => rfl,
    a_Land_told := f_Land_told, d_Land_told := PySem.W.fnOf "told" "Land.told" (defArgs s_Land_told) (defBody s_Land_told) (defScope s_Land_told) .none kV_Land_told dc_Land_told pm_Land_told an_Land_told cd_Land_told ct_Land_told, F_Land_told := fun_mk (st := s_Land_told) l_Land_told q_Land_told k_Land_told,
    b_Land_told := (fun_mk (st := s_Land_told) l_Land_told q_Land_told k_Land_told).binds (ps := ["self"]) fun _ _ _ _ _ _ us hl => match us, hl with | [_], _ => rfl,
    a_law_sole := f_law_sole, d_law_sole := PySem.W.fnOf "_law_sole" "_law_sole" (defArgs s_law_sole) (defBody s_law_sole) (defScope s_law_sole) .none kV_law_sole dc_law_sole pm_law_sole an_law_sole cd_law_sole ct_law_sole, F_law_sole := fun_mk (st := s_law_sole) l_law_sole q_law_sole k_law_sole,
    b_law_sole := (fun_mk (st := s_law_sole) l_law_sole q_law_sole k_law_sole).binds (ps := ["_law_error"]) fun _ _ _ _ _ _ us hl => match us, hl with | [_], _ => rfl,
    g_law_sole := PySem.W.mg_of X G a_law_sole,
    a_law_whole := f_law_whole, d_law_whole := PySem.W.fnOf "_law_whole" "_law_whole" (defArgs s_law_whole) (defBody s_law_whole) (defScope s_law_whole) .none kV_law_whole dc_law_whole pm_law_whole an_law_whole cd_law_whole ct_law_whole, F_law_whole := fun_mk (st := s_law_whole) l_law_whole q_law_whole k_law_whole,
    b_law_whole := (fun_mk (st := s_law_whole) l_law_whole q_law_whole k_law_whole).binds (ps := ["_law_found"]) fun _ _ _ _ _ _ us hl => match us, hl with | [_], _ => rfl,
    g_law_whole := PySem.W.mg_of X G a_law_whole,
    a_law_cell_at := f_law_cell_at, d_law_cell_at := PySem.W.fnOf "_law_cell_at" "_law_cell_at" (defArgs s_law_cell_at) (defBody s_law_cell_at) (defScope s_law_cell_at) .none kV_law_cell_at dc_law_cell_at pm_law_cell_at an_law_cell_at cd_law_cell_at ct_law_cell_at, F_law_cell_at := fun_mk (st := s_law_cell_at) l_law_cell_at q_law_cell_at k_law_cell_at,
    b_law_cell_at := (fun_mk (st := s_law_cell_at) l_law_cell_at q_law_cell_at k_law_cell_at).binds (ps := ["_law_script", "_law_k"]) fun _ _ _ _ _ _ us hl => match us, hl with | [_, _], _ => rfl,
    g_law_cell_at := PySem.W.mg_of X G a_law_cell_at,
    a_law_refused := f_law_refused, d_law_refused := PySem.W.fnOf "_law_refused" "_law_refused" (defArgs s_law_refused) (defBody s_law_refused) (defScope s_law_refused) .none kV_law_refused dc_law_refused pm_law_refused an_law_refused cd_law_refused ct_law_refused, F_law_refused := fun_mk (st := s_law_refused) l_law_refused q_law_refused k_law_refused,
    b_law_refused := (fun_mk (st := s_law_refused) l_law_refused q_law_refused k_law_refused).binds (ps := ["_law_thing", "_law_by_land"]) fun _ _ _ _ _ _ us hl => match us, hl with | [_, _], _ => rfl,
    g_law_refused := PySem.W.mg_of X G a_law_refused,
    a_law := f_law, d_law := PySem.W.fnOf "law" "law" (defArgs s_law) (defBody s_law) (defScope s_law) .none kV_law dc_law pm_law an_law cd_law ct_law, F_law := fun_mk (st := s_law) l_law q_law k_law,
    b_law := (fun_mk (st := s_law) l_law q_law k_law).binds (ps := ["_law_script"]) fun _ _ _ _ _ _ us hl => match us, hl with | [_], _ => rfl,
    g_law := PySem.W.mg_of X G a_law,
    c_HillError := c_HillError, g_HillError := PySem.W.mg_of X G a_HillError, x_HillError := x_HillError, k_HillError := k_HillError, e_HillError := e_HillError, t_HillError := t_HillError, i_HillError := i_HillError,
    c_NoLand := c_NoLand, g_NoLand := PySem.W.mg_of X G a_NoLand, x_NoLand := x_NoLand, k_NoLand := k_NoLand, e_NoLand := e_NoLand, t_NoLand := t_NoLand, i_NoLand := i_NoLand,
    c_NoHill := c_NoHill, g_NoHill := PySem.W.mg_of X G a_NoHill, x_NoHill := x_NoHill, k_NoHill := k_NoHill, e_NoHill := e_NoHill, t_NoHill := t_NoHill, i_NoHill := i_NoHill,
    c_SameHill := c_SameHill, g_SameHill := PySem.W.mg_of X G a_SameHill, x_SameHill := x_SameHill, k_SameHill := k_SameHill, e_SameHill := e_SameHill, t_SameHill := t_SameHill, i_SameHill := i_SameHill,
    c_TooHigh := c_TooHigh, g_TooHigh := PySem.W.mg_of X G a_TooHigh, x_TooHigh := x_TooHigh, k_TooHigh := k_TooHigh, e_TooHigh := e_TooHigh, t_TooHigh := t_TooHigh, i_TooHigh := i_TooHigh,
    c_NothingDone := c_NothingDone, g_NothingDone := PySem.W.mg_of X G a_NothingDone, x_NothingDone := x_NothingDone, k_NothingDone := k_NothingDone, e_NothingDone := e_NothingDone, t_NothingDone := t_NothingDone, i_NothingDone := i_NothingDone,
    s_NoLand_NoLand := s_NoLand_NoLand,
    c_Land := c_Land, g_Land := PySem.W.mg_of X G a_Land, cl_Land := ⟨pg_Land, hd_Land, po_Land, sa_Land⟩, mk_Land := ⟨ms_Land, a_Land___init__, i_Land___init__, kp_Land⟩,
    m_Land___init__ := ⟨a_Land___init__, i_Land___init__, k_Land___init__⟩,
    m_Land_told := ⟨a_Land_told, i_Land_told, k_Land_told⟩,
    hn_obj := hn_obj,
    ht_obj := ht_obj,
    hg_NoLand := hg_NoLand,
    hk_NoLand := hk_NoLand,
    hd_NoLand := hd_NoLand,
    ha_NoLand := ha_NoLand,
    hm_NoLand := hm_NoLand,
    kv_NoLand := kv_NoLand,
    kt_NoLand_NoLand := kt_NoLand_NoLand,
    kt_NoLand_NoHill := kt_NoLand_NoHill,
    kt_NoLand_SameHill := kt_NoLand_SameHill,
    kt_NoLand_TooHigh := kt_NoLand_TooHigh,
    kt_NoLand_NothingDone := kt_NoLand_NothingDone,
    kt_NoLand_HillError := kt_NoLand_HillError,
    na_hills := na_hills,
    na_done := na_done,
    w_MOST_HILLS := w_MOST_HILLS, g_MOST_HILLS := PySem.W.mg_of X G a_MOST_HILLS,
    w_MOST_HEIGHT := w_MOST_HEIGHT, g_MOST_HEIGHT := PySem.W.mg_of X G a_MOST_HEIGHT,
    n_ValueError := PySem.W.mg_none_of X G n_ValueError,
    n_all := PySem.W.mg_none_of X G n_all,
    n_bool := PySem.W.mg_none_of X G n_bool,
    n_int := PySem.W.mg_none_of X G n_int,
    n_isinstance := PySem.W.mg_none_of X G n_isinstance,
    n_len := PySem.W.mg_none_of X G n_len,
    n_list := PySem.W.mg_none_of X G n_list,
    n_range := PySem.W.mg_none_of X G n_range,
    n_tuple := PySem.W.mg_none_of X G n_tuple }, rfl, rfl⟩
  obtain ⟨T, e1, e2⟩ := T
  refine ⟨PySem.W.fnOf "law" "law" (defArgs s_law) (defBody s_law) (defScope s_law) .none kV_law dc_law pm_law an_law cd_law ct_law, fun s v => .of_eq rfl, fun base _ _ => ?_⟩
  rw [← e1, ← e2]
  exact ok_law T
end Hs
open PySem PySem.W PyProof.Rows
set_option maxRecDepth 100000 in
set_option maxHeartbeats 0 in
theorem PySem.Challenge.cw_hillsight_k12_lands_checked_holds : PySem.Challenge.rw_hillsight_k12_lands_checked.Holds := by
  w_on; o_law; k_head; (case hw => w_witness2)
  k_fill
  refine L2.walk_ofK (l := PySem.Challenge.rw_hillsight_k12_lands_checked) (n := 63) (k := 7) (x := "_law_script") (CX := L2.CX0) (sp := Hs.spLaw) rfl (by decide) rfl ⟨rfl, by decide, by decide⟩ (fun w h Y => PySem.W.kIn_of Y) ?F (fun _ _ a ns hl _ hS => ⟨a, ns, rfl, hS, hl, fun _ => rfl⟩) (fun _ _ _ _ h => h)
  case F =>
    intro w mg fa h KX G hmg
    refine' Hs.all_mk KX G hmg ?a_Land ?a_is_whole ?l_is_whole ?q_is_whole ?k_is_whole ?a_is_height ?l_is_height ?q_is_height ?k_is_height ?a_checked ?l_checked ?q_checked ?k_checked ?a_Land___init__ ?i_Land___init__ ?l_Land___init__ ?q_Land___init__ ?k_Land___init__ ?a_Land_told ?i_Land_told ?l_Land_told ?q_Land_told ?k_Land_told ?a_law_sole ?l_law_sole ?q_law_sole ?k_law_sole ?a_law_whole ?l_law_whole ?q_law_whole ?k_law_whole ?a_law_cell_at ?l_law_cell_at ?q_law_cell_at ?k_law_cell_at ?a_law_refused ?l_law_refused ?q_law_refused ?k_law_refused ?a_law ?l_law ?q_law ?k_law ?a_HillError ?x_HillError ?k_HillError ?e_HillError ?t_HillError ?i_HillError ?a_NoLand ?x_NoLand ?k_NoLand ?e_NoLand ?t_NoLand ?i_NoLand ?a_NoHill ?x_NoHill ?k_NoHill ?e_NoHill ?t_NoHill ?i_NoHill ?a_SameHill ?x_SameHill ?k_SameHill ?e_SameHill ?t_SameHill ?i_SameHill ?a_TooHigh ?x_TooHigh ?k_TooHigh ?e_TooHigh ?t_TooHigh ?i_TooHigh ?a_NothingDone ?x_NothingDone ?k_NothingDone ?e_NothingDone ?t_NothingDone ?i_NothingDone ?s_NoLand_NoLand ?pg_Land ?hd_Land ?po_Land ?sa_Land ?ms_Land ?kp_Land ?hn_obj ?ht_obj ?hg_NoLand ?hk_NoLand ?hd_NoLand ?ha_NoLand ?hm_NoLand ?kv_NoLand ?kt_NoLand_NoLand ?kt_NoLand_NoHill ?kt_NoLand_SameHill ?kt_NoLand_TooHigh ?kt_NoLand_NothingDone ?kt_NoLand_HillError ?na_hills ?na_done ?a_MOST_HILLS ?a_MOST_HEIGHT ?n_ValueError ?n_all ?n_bool ?n_int ?n_isinstance ?n_len ?n_list ?n_range ?n_tuple
    (case a_Land => first | k_is | rfl)
    (case a_is_whole => first | k_is | rfl)
    (case l_is_whole => first | k_is | rfl)
    (case q_is_whole => first | k_is | rfl)
    (case k_is_whole => first | k_is | rfl)
    (case a_is_height => first | k_is | rfl)
    (case l_is_height => first | k_is | rfl)
    (case q_is_height => first | k_is | rfl)
    (case k_is_height => first | k_is | rfl)
    (case a_checked => first | k_is | rfl)
    (case l_checked => first | k_is | rfl)
    (case q_checked => first | k_is | rfl)
    (case k_checked => first | k_is | rfl)
    (case a_Land___init__ => first | k_is | rfl)
    (case i_Land___init__ => first | k_is | rfl)
    (case l_Land___init__ => first | k_is | rfl)
    (case q_Land___init__ => first | k_is | rfl)
    (case k_Land___init__ => first | k_is | rfl)
    (case a_Land_told => first | k_is | rfl)
    (case i_Land_told => first | k_is | rfl)
    (case l_Land_told => first | k_is | rfl)
    (case q_Land_told => first | k_is | rfl)
    (case k_Land_told => first | k_is | rfl)
    (case a_law_sole => first | k_is | rfl)
    (case l_law_sole => first | k_is | rfl)
    (case q_law_sole => first | k_is | rfl)
    (case k_law_sole => first | k_is | rfl)
    (case a_law_whole => first | k_is | rfl)
    (case l_law_whole => first | k_is | rfl)
    (case q_law_whole => first | k_is | rfl)
    (case k_law_whole => first | k_is | rfl)
    (case a_law_cell_at => first | k_is | rfl)
    (case l_law_cell_at => first | k_is | rfl)
    (case q_law_cell_at => first | k_is | rfl)
    (case k_law_cell_at => first | k_is | rfl)
    (case a_law_refused => first | k_is | rfl)
    (case l_law_refused => first | k_is | rfl)
    (case q_law_refused => first | k_is | rfl)
    (case k_law_refused => first | k_is | rfl)
    (case a_law => first | k_is | rfl)
    (case l_law => first | k_is | rfl)
    (case q_law => first | k_is | rfl)
    (case k_law => first | k_is | rfl)
    (case a_HillError => first | k_is | rfl)
    (case x_HillError => k_exc)
    (case k_HillError => first | k_is | rfl)
    (case e_HillError => first | k_is | rfl)
    (case t_HillError => first | k_is | rfl)
    (case i_HillError => first | k_is | rfl)
    (case a_NoLand => first | k_is | rfl)
    (case x_NoLand => k_exc)
    (case k_NoLand => first | k_is | rfl)
    (case e_NoLand => first | k_is | rfl)
    (case t_NoLand => first | k_is | rfl)
    (case i_NoLand => first | k_is | rfl)
    (case a_NoHill => first | k_is | rfl)
    (case x_NoHill => k_exc)
    (case k_NoHill => first | k_is | rfl)
    (case e_NoHill => first | k_is | rfl)
    (case t_NoHill => first | k_is | rfl)
    (case i_NoHill => first | k_is | rfl)
    (case a_SameHill => first | k_is | rfl)
    (case x_SameHill => k_exc)
    (case k_SameHill => first | k_is | rfl)
    (case e_SameHill => first | k_is | rfl)
    (case t_SameHill => first | k_is | rfl)
    (case i_SameHill => first | k_is | rfl)
    (case a_TooHigh => first | k_is | rfl)
    (case x_TooHigh => k_exc)
    (case k_TooHigh => first | k_is | rfl)
    (case e_TooHigh => first | k_is | rfl)
    (case t_TooHigh => first | k_is | rfl)
    (case i_TooHigh => first | k_is | rfl)
    (case a_NothingDone => first | k_is | rfl)
    (case x_NothingDone => k_exc)
    (case k_NothingDone => first | k_is | rfl)
    (case e_NothingDone => first | k_is | rfl)
    (case t_NothingDone => first | k_is | rfl)
    (case i_NothingDone => first | k_is | rfl)
    (case s_NoLand_NoLand => first | k_is | rfl)
    (case pg_Land => first | k_is | rfl)
    (case hd_Land => first | k_is | rfl)
    (case po_Land => first | k_is | rfl)
    (case sa_Land => first | k_is | rfl)
    (case ms_Land => first | k_is | rfl)
    (case kp_Land => first | k_is | rfl)
    (case hn_obj => first | k_is | rfl)
    (case ht_obj => first | k_is | rfl)
    (case hg_NoLand => first | k_is | rfl)
    (case hk_NoLand => first | k_is | rfl)
    (case hd_NoLand => first | k_is | rfl)
    (case ha_NoLand => first | k_is | rfl)
    (case hm_NoLand => first | k_is | rfl)
    (case kv_NoLand => first | k_is | rfl)
    (case kt_NoLand_NoLand => first | k_is | rfl)
    (case kt_NoLand_NoHill => first | k_is | rfl)
    (case kt_NoLand_SameHill => first | k_is | rfl)
    (case kt_NoLand_TooHigh => first | k_is | rfl)
    (case kt_NoLand_NothingDone => first | k_is | rfl)
    (case kt_NoLand_HillError => first | k_is | rfl)
    (case na_hills => first | k_is | rfl)
    (case na_done => first | k_is | rfl)
    (case a_MOST_HILLS => first | k_is | rfl)
    (case a_MOST_HEIGHT => first | k_is | rfl)
    (case n_ValueError => first | k_is | rfl)
    (case n_all => first | k_is | rfl)
    (case n_bool => first | k_is | rfl)
    (case n_int => first | k_is | rfl)
    (case n_isinstance => first | k_is | rfl)
    (case n_len => first | k_is | rfl)
    (case n_list => first | k_is | rfl)
    (case n_range => first | k_is | rfl)
    (case n_tuple => first | k_is | rfl)
