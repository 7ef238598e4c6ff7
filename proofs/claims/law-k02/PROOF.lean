import PyProof.Rows.All
import Wide.All
import OpenK.AllK
import Wide.FinOn
import HandS.ForMost
import HandS.Exc
import HandS.ExcOwn
import HandS.TryOnly
import HandS.TryMany
import HandS.WordsExc
import HandS.IsInst
import HandS.Steps
import HandS.Style
import HandS.ExcCtx
import HandS.HotCalls
import HandS.ExcIs
import PySem.Challenge.RW_hillsight_k02_what_hides
set_option Elab.async false
set_option linter.all false
set_option maxRecDepth 100000
set_option maxHeartbeats 4000000
namespace Hs
open PySem PySem.Spec PyProof.Rows L2
/-! ## readings, step by step -/
theorem rd_var {i : Nat} {σ : L2.St} {H : Hp} {Q : VK} {v : V} (h : σ[i]? = some (some v)) (q : Q v H) : tVar i σ H Q := ⟨v, h, q⟩
theorem rd_c {v : V} {σ : L2.St} {H : Hp} {Q : VK} (q : Q v H) : tC v σ H Q := q
theorem rd_op {r : R2} {ta tb : TE} {σ : L2.St} {H : Hp} {Q : VK} (q : ta σ H fun x H1 => tb σ H1 fun y H2 => r x y H2 Q) : tOp r ta tb σ H Q := q
theorem rd_un {r : V → Hp → VK → Prop} {ta : TE} {σ : L2.St} {H : Hp} {Q : VK} (q : ta σ H fun x H1 => r x H1 Q) : tUn r ta σ H Q := q
theorem rd_U {g : Int → V} {i : Int} {H : Hp} {Q : VK} (q : Q (g i) H) : rU g (.int i) H Q := ⟨i, rfl, q⟩
theorem rd_I0 {g : Int → Int → V} {i j : Int} {H : Hp} {Q : VK} (q : Q (g i j) H) : rI0 g (.int i) (.int j) H Q := ⟨i, j, rfl, rfl, q⟩
theorem rd_I {C : Int → Int → Prop} {g : Int → Int → V} {i j : Int} {H : Hp} {Q : VK} (c : C i j) (q : Q (g i j) H) : rI C g (.int i) (.int j) H Q := ⟨i, j, rfl, rfl, c, q⟩
theorem rd_eq {x y : V} {H : Hp} {Q : VK} (c : scal x y = true) (q : Q (.bl (decide (x = y))) H) : rEq x y H Q := ⟨c, q⟩
theorem rd_ne {x y : V} {H : Hp} {Q : VK} (c : scal x y = true) (q : Q (.bl (!decide (x = y))) H) : rNe x y H Q := ⟨c, q⟩
theorem rd_nil {σ : L2.St} {H : Hp} {Q : List V → Hp → Prop} (q : Q [] H) : tNil σ H Q := q
theorem rd_cons {ta : TE} {tr : TA} {σ : L2.St} {H : Hp} {Q : List V → Hp → Prop} (q : ta σ H fun x H1 => tr σ H1 fun xs H2 => Q (x :: xs) H2) : tCons ta tr σ H Q := q
theorem rd_cb {r : List V → Hp → VK → Prop} {ta : TA} {σ : L2.St} {H : Hp} {Q : VK} (q : ta σ H fun xs H1 => r xs H1 Q) : tCB r ta σ H Q := q
theorem rd_call {sp : Sp} {E : XK} {ta : TA} {σ : L2.St} {H : Hp} {Q : VK} (q : ta σ H fun xs H1 => sp (xs ++ []) H1 Q E) : tCall sp [] E ta σ H Q := q
theorem rd_callS {sp : Sp} {E : L2.St → XK} {ta : TA} {σ : L2.St} {H : Hp} {Q : VK} (q : ta σ H fun xs H1 => sp xs H1 Q (E σ)) : tCallS sp E ta σ H Q := q
theorem rd_test {t : TE} {σ : L2.St} {H : Hp} {Q : Bool → Hp → Prop} (q : t σ H fun x H' => ∃ k, x = .bl k ∧ Q k H') : tTest t σ H Q := q
theorem rd_tB {t : TE} {σ : L2.St} {H : Hp} {Q : Bool → Hp → Prop} (q : t σ H fun x H' => ∃ k, x = .bl k ∧ Q k H') : tB t σ H Q := q
theorem rd_bl {k : Bool} {R : Bool → Prop} (q : R k) : ∃ k', V.bl k = .bl k' ∧ R k' := ⟨k, rfl, q⟩
theorem rd_not {t : TT} {σ : L2.St} {H : Hp} {Q : Bool → Hp → Prop} (q : t σ H fun c H1 => Q (!c) H1) : tNot t σ H Q := q
theorem rd_and {t u : TT} {σ : L2.St} {H : Hp} {Q : Bool → Hp → Prop} (q : t σ H fun c H1 => if c = true then u σ H1 Q else Q false H1) : tAnd t u σ H Q := q
theorem rd_or {t u : TT} {σ : L2.St} {H : Hp} {Q : Bool → Hp → Prop} (q : t σ H fun c H1 => if c = true then Q true H1 else u σ H1 Q) : tOr t u σ H Q := q
theorem rd_andV {t u : TE} {σ : L2.St} {H : Hp} {Q : VK} (q : t σ H fun x H1 => ∃ c, x = .bl c ∧ if c = true then u σ H1 Q else Q (.bl false) H1) : tAndV t u σ H Q := q
theorem rd_orV {t u : TE} {σ : L2.St} {H : Hp} {Q : VK} (q : t σ H fun x H1 => ∃ c, x = .bl c ∧ if c = true then Q (.bl true) H1 else u σ H1 Q) : tOrV t u σ H Q := q
theorem rd_notV {t : TE} {σ : L2.St} {H : Hp} {Q : VK} (q : t σ H fun x H1 => ∃ c, x = .bl c ∧ Q (.bl (!c)) H1) : tNotV t σ H Q := q
theorem rd_if {c : TT} {ta tb : TE} {σ : L2.St} {H : Hp} {Q : VK} (q : c σ H fun b H1 => if b = true then ta σ H1 Q else tb σ H1 Q) : tIf c ta tb σ H Q := q
theorem rd_seq {t u : TS} {D : Ends} {σ : L2.St} {H : Hp} (q : t { D with nx := u D } σ H) : tSeq t u D σ H := q
theorem rd_asg {te : TE} {g : TG} {D : Ends} {σ : L2.St} {H : Hp} (q : te σ H fun x H1 => g x σ H1 D.nx) : tAsg te g D σ H := q
theorem rd_name {i : Nat} {v : V} {σ : L2.St} {H : Hp} {Q : L2.St → Hp → Prop} (q : Q (σ.set i (some v)) H) : gName i v σ H Q := q
theorem rd_ret {te : TE} {D : Ends} {σ : L2.St} {H : Hp} (q : te σ H D.rt) : tRet te D σ H := q
theorem rd_drop {te : TE} {D : Ends} {σ : L2.St} {H : Hp} (q : te σ H fun _ H1 => D.nx σ H1) : tDrop te D σ H := q
theorem rd_ifS {c : TT} {t u : TS} {D : Ends} {σ : L2.St} {H : Hp} (q : c σ H fun b H1 => if b = true then t D σ H1 else u D σ H1) : tIfS c t u D σ H := q
theorem rd_next {D : Ends} {σ : L2.St} {H : Hp} (q : D.nx σ H) : tNext D σ H := q
theorem rd_cont {D : Ends} {σ : L2.St} {H : Hp} (q : D.ct σ H) : tCont D σ H := q
theorem rd_tup {ta : TA} {σ : L2.St} {H : Hp} {Q : VK} (q : ta σ H fun xs H1 => xs.length ≤ sizeLine ∧ ∀ p, H1 p = none → Q (.ref p) (upd H1 p (.tup xs))) : tTup ta σ H Q := q
theorem rd_lst {ta : TA} {σ : L2.St} {H : Hp} {Q : VK} (q : ta σ H fun xs H1 => xs.length ≤ sizeLine ∧ ∀ p, H1 p = none → Q (.ref p) (upd H1 p (.lst xs))) : tLst ta σ H Q := q
theorem rd_ixL {K : PySem.W.Frag} {p : Addr} {xs : List V} {i : Int} {v : V} {H : Hp} {Q : VK} (h : SqL K H p xs) (a : atI xs i = some v) (q : Q v H) : rIxL K (.ref p) (.int i) H Q := ⟨p, xs, i, v, rfl, rfl, h, a, q⟩
theorem rd_ixT {K : PySem.W.Frag} {p : Addr} {xs : List V} {i : Int} {v : V} {H : Hp} {Q : VK} (h : SqT K H p xs) (a : atI xs i = some v) (q : Q v H) : rIxT K (.ref p) (.int i) H Q := ⟨p, xs, i, v, rfl, rfl, h, a, q⟩
theorem rd_yes {c A B : Prop} [Decidable c] (hc : c) (q : A) : if c then A else B := by rw [if_pos hc]; exact q
theorem rd_no {c A B : Prop} [Decidable c] (hc : ¬ c) (q : B) : if c then A else B := by rw [if_neg hc]; exact q
/-! ## heaps -/
theorem same_upd {H : Hp} {p : Addr} {o : HO} (h : H p = none) : Same H (upd H p o) := fun b x e => by
  rw [upd_ne (ne_of_none e h)]
  exact e
theorem Same.seqT {K : PySem.W.Frag} {H H' : Hp} {a : Addr} {xs : List V} (e : Same H H') (h : SqT K H a xs) : SqT K H' a xs := by
  rcases h with (h | ⟨o, h⟩) | h
  · exact .inl (.inl (e _ _ h))
  · exact .inl (.inr ⟨o, e _ _ h⟩)
  · exact .inr h
theorem sz (n : Nat) (h : n ≤ 100000 := by decide) : n ≤ sizeLine := Nat.le_trans h (by decide)
theorem szlt {n : Nat} (h : n < 100000) : n < sizeLine := Nat.lt_of_lt_of_le h (by decide)
abbrev IL (ns : List Int) : List V := ns.map V.int
theorem IL_get {ns : List Int} {k : Nat} (h : k < ns.length) : (IL ns)[k]? = some (V.int (ns.getD k 0)) := by
  rw [List.getElem?_map, List.getElem?_eq_getElem h, List.getD_eq_getElem?_getD, List.getElem?_eq_getElem h]
  rfl
theorem IL_at {ns : List Int} {i : Int} (h0 : 0 ≤ i) (h : i < ns.length) : atI (IL ns) i = some (V.int (ns.getD i.toNat 0)) := by
  obtain ⟨k, rfl⟩ : ∃ k : Nat, i = (k : Int) := ⟨i.toNat, by omega⟩
  have hk : k < ns.length := by omega
  exact atI_nat (IL_get hk)
/-! ## the law's cells -/
def cell (ns : List Int) (k : Nat) : Int := ns.getD k 0
/-! ## loops, cuts, methods -/
theorem rd_cut {t u : TS} {D : Ends} {σ : L2.St} {H : Hp} (J : L2.St → Hp → Prop) (h : ∀ N : L2.St → Hp → Prop, (∀ σ' H', J σ' H' → N σ' H') → t { D with nx := N } σ H) (k : ∀ σ' H', J σ' H' → u D σ' H') : tSeq t u D σ H := h (u D) k
theorem rd_for {wi : TI} {g : TG} {tb : TS} {D : Ends} {σ : L2.St} {H : Hp} (q : wi σ H fun J H1 => ∃ W : Nat → Nat → L2.St → Hp → Prop, (∃ m, W 0 m σ H1) ∧ ∀ i m σ H, W i m σ H →
    (J.stop i H ∧ D.nx σ H) ∨ (J.go i H ∧ ∃ N : L2.St → Hp → Prop, (∀ σ' H', N σ' H' → ∃ m', m' < m ∧ W (i + 1) m' σ' H') ∧ ∀ x H', J.yld i H x H' → g x σ H' fun σ2 H2 => tb { D with nx := N, ct := N, bk := D.nx } σ2 H2)) : tFor wi g tb D σ H := q
/-- what a for over a range asks, its bound known -/
abbrev LoopR (lo : Int) (n : Nat) (g : TG) (tb : TS) (D : Ends) (σ : L2.St) (H : Hp) : Prop := ∃ W : Nat → Nat → L2.St → Hp → Prop, (∃ m, W 0 m σ H) ∧ ∀ i m σ H, W i m σ H →
    ((Itr lo n).stop i H ∧ D.nx σ H) ∨ ((Itr lo n).go i H ∧ ∃ N : L2.St → Hp → Prop, (∀ σ' H', N σ' H' → ∃ m', m' < m ∧ W (i + 1) m' σ' H') ∧ ∀ x H', (Itr lo n).yld i H x H' → g x σ H' fun σ2 H2 => tb { D with nx := N, ct := N, bk := D.nx } σ2 H2)
theorem rd_rng1 {ta : TA} {σ : L2.St} {H : Hp} {R : It → Hp → Prop} (q : ta σ H fun vs H1 => ∃ j : Int, vs = [.int j] ∧ -(2 ^ 62) ≤ j ∧ j < 2 ^ 62 ∧ R (Itr 0 j.toNat) H1) : iRng1 ta σ H R := q
theorem rd_rng2 {ta : TA} {σ : L2.St} {H : Hp} {R : It → Hp → Prop} (q : ta σ H fun vs H1 => ∃ i j : Int, vs = [.int i, .int j] ∧ (-(2 ^ 62) ≤ i ∧ i < 2 ^ 62 ∧ -(2 ^ 62) ≤ j ∧ j < 2 ^ 62) ∧ R (Itr i (j - i).toNat) H1) : iRng2 ta σ H R := q
theorem rd_iList {K : PySem.W.Frag} {tl : TE} {σ : L2.St} {H : Hp} {R : It → Hp → Prop} (q : tl σ H fun x H1 => ∃ a, x = .ref a ∧ (∃ xs, SqL K H1 a xs) ∧ R (Itl K a) H1) : iList K tl σ H R := q
theorem rd_iTup {K : PySem.W.Frag} {tl : TE} {σ : L2.St} {H : Hp} {R : It → Hp → Prop} (q : tl σ H fun x H1 => ∃ a, x = .ref a ∧ (∃ xs, SqT K H1 a xs) ∧ R (Itt K a) H1) : iTup K tl σ H R := q
/-- behind the argument of range: the bound, an invariant by the turn -/
theorem rng1 {n : Int} {g : TG} {tb : TS} {D : Ends} {σ : L2.St} {H : Hp} (b : -1000000 ≤ n ∧ n ≤ 1000000) (Pv : Nat → L2.St → Hp → Prop) (h0 : Pv 0 σ H)
    (hs : ∀ (k : Nat) σ' H', (k : Int) < n → Pv k σ' H' → g (.int (k : Int)) σ' H' fun σ2 H2 => tb { D with nx := Pv (k + 1), ct := Pv (k + 1), bk := D.nx } σ2 H2) (hd : ∀ σ' H', Pv n.toNat σ' H' → D.nx σ' H') :
    ∃ j : Int, [V.int n] = [.int j] ∧ -(2 ^ 62) ≤ j ∧ j < 2 ^ 62 ∧ LoopR 0 j.toNat g tb D σ H := by
  refine ⟨n, rfl, by omega, by omega, for_range (lo := 0) (n := n.toNat) Pv h0 (fun i σ' H' hi p => ?_) hd⟩
  have e0 : (0 : Int) + (i : Int) = (i : Int) := Int.zero_add _
  rw [e0]
  exact hs i σ' H' (by omega) p
theorem rng2 {lo n : Int} {g : TG} {tb : TS} {D : Ends} {σ : L2.St} {H : Hp} (b : (-1000000 ≤ lo ∧ lo ≤ 1000000) ∧ -1000000 ≤ n ∧ n ≤ 1000000) (Pv : Nat → L2.St → Hp → Prop) (h0 : Pv 0 σ H)
    (hs : ∀ (k : Nat) σ' H', lo + (k : Int) < n → Pv k σ' H' → g (.int (lo + (k : Int))) σ' H' fun σ2 H2 => tb { D with nx := Pv (k + 1), ct := Pv (k + 1), bk := D.nx } σ2 H2) (hd : ∀ σ' H', Pv (n - lo).toNat σ' H' → D.nx σ' H') :
    ∃ i j : Int, [V.int lo, V.int n] = [.int i, .int j] ∧ (-(2 ^ 62) ≤ i ∧ i < 2 ^ 62 ∧ -(2 ^ 62) ≤ j ∧ j < 2 ^ 62) ∧ LoopR i (j - i).toNat g tb D σ H := by
  refine ⟨lo, n, rfl, ⟨by omega, by omega, by omega, by omega⟩, for_range (lo := lo) (n := (n - lo).toNat) Pv h0 (fun i σ' H' hi p => hs i σ' H' (by omega) p) hd⟩
theorem rd_bm {K : PySem.W.Frag} {T : String} {r : V → List V → Hp → VK → Prop} {to : TE} {t : TA} {σ : L2.St} {H : Hp} {Q : VK} (q : to σ H fun x H1 => tyV K T x H1 ∧ t σ H1 fun xs H2 => r x xs H2 Q) : tBM K T r to t σ H Q := q
theorem rd_bm0 {K : PySem.W.Frag} {T : String} {r : V → List V → Hp → VK → Prop} {to : TE} {σ : L2.St} {H : Hp} {Q : VK} (q : to σ H fun x H1 => tyV K T x H1 ∧ r x [] H1 Q) : tBM0 K T r to σ H Q := q
theorem ty_list {K : PySem.W.Frag} {H : Hp} {l : Addr} {xs : List V} (h : SqL K H l xs) : tyV K "list" (.ref l) H := .inl ⟨rfl, _, h⟩
theorem rd_append {H : Hp} {l : Addr} {xs : List V} {y : V} {Q : VK} (h : H l = some (.lst xs)) (hz : xs.length < 100000) (q : Q .non (upd H l (.lst (xs ++ [y])))) : rAppend (.ref l) [y] H Q := ⟨l, xs, y, rfl, rfl, h, szlt hz, q⟩
theorem rd_gTup2 {K : PySem.W.Frag} {i j : Nat} {a : Addr} {x y : V} {σ : L2.St} {H : Hp} {Q : L2.St → Hp → Prop} (h : SqT K H a [x, y]) (q : Q ((σ.set i (some x)).set j (some y)) H) : gTup K 2 (gCons (gName i) (gCons (gName j) gNil)) (.ref a) σ H Q :=
  ⟨a, [x, y], rfl, h, rfl, x, [y], rfl, y, [], rfl, rfl, q⟩
theorem same_sq {K : PySem.W.Frag} {H H' : Hp} {a : Addr} {xs : List V} (e : Same H H') (h : SqL K H a xs) : SqL K H' a xs := e.seq h
theorem upd_keep {H : Hp} {a b : Addr} {o u : HO} (h : H a = some o) (n : H b = none) : upd H b u a = some o := by rw [upd_ne (ne_of_none h n)]; exact h
/-! ## the law's cells -/
def spCell (K : PySem.W.Frag) : Sp := fun vs H Q _ => ∃ (l : Addr) (ns : List Int) (k : Int), vs = [.ref l, .int k] ∧ 0 ≤ k ∧ SqL K H l (IL ns) ∧ Q (.int (cell ns k.toNat)) H
theorem rd_cell {K : PySem.W.Frag} {l : Addr} {ns : List Int} {k : Int} {H : Hp} {Q : VK} {E : XK} (h0 : 0 ≤ k) (h : SqL K H l (IL ns)) (q : Q (.int (cell ns k.toNat)) H) : spCell K ([V.ref l, V.int k] ++ []) H Q E := ⟨l, ns, k, rfl, h0, h, q⟩
theorem rd_isi {K : PySem.W.Frag} {H : Hp} {x : V} {t n : String} {b : Bool} {Q : VK} (ty : TyX K H x (.type t)) (e : kitB t n = some b) (q : Q (.bl b) H) : rIsi K [x, .ty n] H Q := ⟨x, .ty n, _, _, b, rfl, .ty _, ty, kit_ty e, q⟩
theorem ty_lst {K : PySem.W.Frag} {H : Hp} {a : Addr} {xs : List V} (h : H a = some (.lst xs)) : TyX K H (.ref a) (.type "list") := .base (.lst h)
theorem ty_tup {K : PySem.W.Frag} {H : Hp} {a : Addr} {xs : List V} (h : H a = some (.tup xs)) : TyX K H (.ref a) (.type "tuple") := .base (.tup h)
theorem emod_b {x n : Int} (h : 0 < n) : 0 ≤ x % n ∧ x % n < n := ⟨Int.emod_nonneg _ (by omega), Int.emod_lt_of_pos _ h⟩
theorem IL_snoc (zs : List Int) (z : Int) : IL zs ++ [V.int z] = IL (zs ++ [z]) := by simp [IL]
theorem upd_snoc {H : Hp} {L : Addr} {o : HO} {zs : List Int} {z : Int} : upd (upd H L o) L (.lst (IL zs ++ [V.int z])) = upd H L (.lst (IL (zs ++ [z]))) := by rw [upd_upd, IL_snoc]
theorem len_snoc {α : Type} {zs : List α} {z : α} {i : Nat} (h : zs.length = i) : (zs ++ [z]).length = i + 1 := by rw [List.length_append, h]; rfl
/-! ## what stands over a change -/
theorem Same.mut {H H' : Hp} {p : Addr} {o : HO} (e : Same H H') (h : H p = none) : Same H (upd H' p o) := fun a u ha => by
  rw [upd_ne (ne_of_none ha h)]
  exact e a u ha
theorem SqT.upd {K : PySem.W.Frag} {H : Hp} {D t : Addr} {ys xs : List V} {o : HO} (hD : H D = some (.lst ys)) (h : SqT K H t xs) : SqT K (upd H D o) t xs := by
  rcases h with (h | ⟨u, h⟩) | h
  · exact .inl (.inl (by rw [upd_ne (ne_of h hD (by intro z; cases z))]; exact h))
  · exact .inl (.inr ⟨u, by rw [upd_ne (ne_of h hD (by intro z; cases z))]; exact h⟩)
  · exact .inr h
theorem SqL.upd {K : PySem.W.Frag} {H : Hp} {D t : Addr} {xs : List V} {o : HO} (hD : t ≠ D) (h : SqL K H t xs) : SqL K (upd H D o) t xs := by
  rcases h with (h | ⟨u, h⟩) | h
  · exact .inl (.inl (by rw [upd_ne hD]; exact h))
  · exact .inl (.inr ⟨u, by rw [upd_ne hD]; exact h⟩)
  · exact .inr h
theorem rd_lc {wi : TI} {g : TG} {tt : TT} {te : TE} {vs : List Nat} {σ : L2.St} {H : Hp} {Q : VK} (q : wi σ H fun J H1 => ∀ D, H1 D = none → ∃ W : Nat → Nat → Hp → Prop, (∃ m, W 0 m (upd H1 D (.lst []))) ∧ ∀ i m H, W i m H →
  (J.stop i H ∧ Q (.ref D) H) ∨ (J.go i H ∧ ∃ Nx : Hp → Prop, (∀ H', Nx H' → ∃ m', m' < m ∧ W (i + 1) m' H') ∧ ∀ x H', J.yld i H x H' → g x (wipe σ vs) H' fun σ2 H2 => wipe σ2 vs = wipe σ vs ∧ tt σ2 H2 fun b H3 =>
    if b = true then te σ2 H3 fun y H4 => ∃ acc, H4 D = some (.lst acc) ∧ acc.length < sizeLine ∧ Nx (upd H4 D (.lst (acc ++ [y]))) else Nx H3)) : tLc wi g tt te vs σ H Q := q
theorem rd_tYes {σ : L2.St} {H : Hp} {Q : Bool → Hp → Prop} (q : Q true H) : tYes σ H Q := q
theorem rd_isN {x : V} {H : Hp} {Q : VK} (q : Q (.bl (decide (x = .non))) H) : rIsN x .non H Q := ⟨rfl, q⟩
theorem rd_notN {x : V} {H : Hp} {Q : VK} (q : Q (.bl (!decide (x = .non))) H) : rNotN x .non H Q := ⟨rfl, q⟩
theorem rd_chain {r r' : R2} {ta tb tc : TE} {σ : L2.St} {H : Hp} {Q : VK} (q : ta σ H fun x H1 => tb σ H1 fun y H2 => r x y H2 fun z H3 => ∃ k, z = .bl k ∧ (if k = true then tc σ H3 fun w' H4 => r' y w' H4 Q else Q (.bl false) H3)) : tChain r r' ta tb tc σ H Q := q
theorem iteNT {A B : Prop} (h : B) : if (!true) = true then A else B := iteF h
theorem iteNF {A B : Prop} (h : A) : if (!false) = true then A else B := iteT h
/-- what a while asks: a word with its measure -/
theorem rd_while {c : TT} {tb : TS} {D : Ends} {σ : L2.St} {H : Hp} (W : Nat → L2.St → Hp → Prop) (m : Nat) (h0 : W m σ H)
    (hs : ∀ m σ H, W m σ H → ∀ N : L2.St → Hp → Prop, (∀ m' σ' H', m' < m → W m' σ' H' → N σ' H') → c σ H fun b H1 => if b = true then tb { D with nx := N, ct := N, bk := D.nx } σ H1 else D.nx σ H1)
    (mono : ∀ σ H Q Q', (∀ b H1, Q b H1 → Q' b H1) → c σ H Q → c σ H Q') : tWhile c tb D σ H := by
  refine ⟨W, ⟨m, h0⟩, fun m σ H w => ?_⟩
  refine mono σ H _ _ (fun b H1 q => ?_) (hs m σ H w (fun σ' H' => ∃ m', m' < m ∧ W m' σ' H') (fun m' σ' H' h w' => ⟨m', h, w'⟩))
  cases b with
  | true => exact iteT ⟨_, fun σ' H' n => n, q⟩
  | false => exact q
/-! ## storing at an index -/
theorem rd_gSub {to ti : TE} {t : TSet} {v : V} {σ : L2.St} {H : Hp} {Q : L2.St → Hp → Prop} (q : to σ H fun o H1 => ti σ H1 fun i H2 => t o i v H2 fun H3 => Q σ H3) : gSub to ti t v σ H Q := q
theorem rd_setL {H : Hp} {p : Addr} {xs : List V} {i : Nat} {v : V} {Q : Hp → Prop} (h : H p = some (.lst xs)) (hi : i < xs.length) (q : Q (upd H p (.lst (xs.set i v)))) : rSetL (.ref p) (.int (i : Int)) v H Q :=
  ⟨p, xs, (i : Int), i, rfl, rfl, h, by unfold ixN; rw [if_pos (by omega), if_pos (by omega)]; rfl, q⟩
theorem rd_aug {i : Nat} {te : TE} {ti : TIp} {D : Ends} {σ : L2.St} {H : Hp} {x : V} (h : σ[i]? = some (some x)) (q : te σ H fun y H1 => ti x y H1 fun z H2 => D.nx (σ.set i (some z)) H2) : tAug i te ti D σ H := ⟨x, h, q⟩
theorem rd_ipI {f : Int → Int → Int} {i j : Int} {H : Hp} {Q : VK} (q : Q (.int (f i j)) H) : ipI f (.int i) (.int j) H Q := ⟨i, j, rfl, rfl, q⟩

/-! ## the rules with K said -/
section
variable {X : Cx} {K : PySem.W.Frag}
theorem ix_listK (h : X.K = K) : IxR X (rIxL K) := by subst h; exact ix_list
theorem ix_tupK (h : X.K = K) : IxR X (rIxT K) := by subst h; exact ix_tup
theorem call_isiK0 (h : X.K = K) : CallR X (.builtin "isinstance") (rIsi K) := by subst h; exact call_isi
def rLenK (K : PySem.W.Frag) : List V → Hp → VK → Prop := fun xs H Q => ∃ p ys, xs = [.ref p] ∧ (SqL K H p ys ∨ SqT K H p ys) ∧ Q (.int ys.length) H
theorem call_lenK (h : X.K = K) : CallR X (.builtin "len") (rLenK K) := by subst h; exact call_len_seq
def rListK (K : PySem.W.Frag) : List V → Hp → VK → Prop := fun xs H Q => ∃ p ys, xs = [.ref p] ∧ (SqL K H p ys ∨ SqT K H p ys) ∧ ∀ l, H l = none → Q (.ref l) (upd H l (.lst ys))
theorem call_listK (h : X.K = K) : CallR X (.type "list") (rListK K) := by subst h; exact call_list_of
theorem op_eqDK (h : X.K = K) (hu : X.A.units + 64 < cLine) : OpR X (compareOp .Eq) (rEqD K) := by subst h; exact op_eqD hu
theorem op_neDK (h : X.K = K) (hu : X.A.units + 64 < cLine) : OpR X (compareOp .NotEq) (rNeD K) := by subst h; exact op_neD hu
theorem sl_listK (h : X.K = K) : SlR X (rSlL K) := by subst h; exact sl_list
theorem cr_allK (h : X.K = K) (hc : X.calm = true) : CallR X (.builtin "all") (rAll K) := by subst h; exact cr_all hc
theorem cr_anyK (h : X.K = K) (hc : X.calm = true) : CallR X (.builtin "any") (rAny K) := by subst h; exact cr_any hc
theorem cr_minK (h : X.K = K) (hc : X.calm = true) : CallR X (.builtin "min") (rMin K) := by subst h; exact cr_min hc
theorem op_ltTK (h : X.K = K) (hu : X.A.units < cLine) : OpR X (compareOp .Lt) (rLtT K) := by subst h; exact op_ltT hu
theorem op_inK (h : X.K = K) : OpR X (compareOp .In) (rIn K false) := by subst h; exact op_in_seq
theorem pi_listK {tg l : Expr} {tl : TE} (h : X.K = K) (hl : PE X l tl) : PI X tg l (iList K tl) := by subst h; exact pi_list hl
theorem pi_tupK {tg l : Expr} {tl : TE} (h : X.K = K) (hl : PE X l tl) : PI X tg l (iTup K tl) := by subst h; exact pi_tup hl
theorem pg_tupK {es : List Expr} {k : Nat} {t : TGs} {n : Nat} {pos : Pos} (h : X.K = K) (hc : X.calm = true) (hg : PGs X es t)
    (hn : (assignEach es X.env).length = n := by rfl) (hst : (assignEach es X.env).findIdx? (·.1) = none := by rfl) : PG X (.Tuple es k pos) (gTup K n t) := by subst h; exact pg_tup hc hg hn hst
section
variable {o e : Expr} {es : List Expr} {to : TE} {t : TA} {name : Str} {apos cpos : Pos} {T id : String} {r : V → List V → Hp → VK → Prop}
theorem pe_bm0K (h : X.K = K) (pa : PlainAttrs T) (slot : Slot T name id) (hty : typeOf (.builtin id) = pure (.type "method_descriptor")) (hm : MtR X id r) (ho : PE X o to)
    (hbase : attributeBase o name X.env (eval o X.env) = eval o X.env := by rfl) (hline : (apos.endLine == cpos.line) = true := by rfl) : PE X (.Call (.Attribute o name apos) [] [] cpos) (tBM0 K T r to) := by
  subst h; exact pe_bm0 pa slot hty hm ho hbase hline
theorem pe_bmK (h : X.K = K) (pa : PlainAttrs T) (slot : Slot T name id) (hty : typeOf (.builtin id) = pure (.type "method_descriptor")) (hm : MtR X id r) (ho : PE X o to) (ha : PA X (e :: es) t)
    (hbase : attributeBase o name X.env (eval o X.env) = eval o X.env := by rfl)
    (hfew : ((backTo cpos (starEach (e :: es) X.env)).all (fun x => !x.1) && (backToKw cpos (keywordEach [] X.env)).all (fun x => x.1.isSome)
      && decide ((e :: es).length + ([] : List Keyword).length + (if ([] : List Keyword).isEmpty then 0 else 1) < 30)) = true := by rfl)
    (hline : (apos.endLine == cpos.line) = true := by rfl) (hs : starEach (e :: es) X.env = (false, eval e X.env) :: starEach es X.env := by rfl) (hplain : (backTo cpos (starEach es X.env)).any (·.1) = false := by rfl) :
    PE X (.Call (.Attribute o name apos) (e :: es) [] cpos) (tBM K T r to t) := by
  subst h; exact pe_bm pa slot hty hm ho ha hbase hfew hline hs hplain
end
end
def rMin2 : List V → Hp → VK → Prop := fun xs H Q => ∃ i j, xs = [.int i, .int j] ∧ Q (.int (if j < i then j else i)) H
def rMax2 : List V → Hp → VK → Prop := fun xs H Q => ∃ i j, xs = [.int i, .int j] ∧ Q (.int (if j > i then j else i)) H
theorem call_min2K {X : Cx} (hc : X.calm = true) : CallR X (.builtin "min") rMin2 := call_min2 hc
theorem call_max2K {X : Cx} (hc : X.calm = true) : CallR X (.builtin "max") rMax2 := call_max2 hc
theorem rd_min2 {a b : Nat} {H : Hp} {Q : VK} (q : Q (.int ((min a b : Nat) : Int)) H) : rMin2 [.int (a : Int), .int (b : Int)] H Q := by
  refine ⟨_, _, rfl, ?_⟩
  have m1 : ((min a b : Nat) : Int) = if (b : Int) < (a : Int) then (b : Int) else (a : Int) := by split <;> omega
  rw [m1] at q
  exact q
theorem rd_max2 {a b : Nat} {H : Hp} {Q : VK} (q : Q (.int ((max a b : Nat) : Int)) H) : rMax2 [.int (a : Int), .int (b : Int)] H Q := by
  refine ⟨_, _, rfl, ?_⟩
  have m2 : ((max a b : Nat) : Int) = if (b : Int) > (a : Int) then (b : Int) else (a : Int) := by split <;> omega
  rw [m2] at q
  exact q
def rAbs : List V → Hp → VK → Prop := fun xs H Q => ∃ i, xs = [.int i] ∧ Q (.int (if i < 0 then -i else i)) H
theorem call_absK {X : Cx} : CallR X (.builtin "abs") rAbs := call_abs
theorem rd_abs {i : Int} {H : Hp} {Q : VK} (q : Q (.int (i.natAbs : Int)) H) : rAbs [.int i] H Q := by
  refine ⟨i, rfl, ?_⟩
  have : ((i.natAbs : Nat) : Int) = if i < 0 then -i else i := by split <;> omega
  rw [this] at q
  exact q

/-! ## comprehensions -/
theorem rd_len {K : PySem.W.Frag} {H : Hp} {a : Addr} {xs : List V} {Q : VK} (h : SqL K H a xs) (q : Q (.int xs.length) H) : rLenK K [.ref a] H Q := ⟨a, xs, rfl, .inl h, q⟩
theorem rd_lenT {K : PySem.W.Frag} {H : Hp} {a : Addr} {xs : List V} {Q : VK} (h : SqT K H a xs) (q : Q (.int xs.length) H) : rLenK K [.ref a] H Q := ⟨a, xs, rfl, .inr h, q⟩
theorem rd_list {K : PySem.W.Frag} {H : Hp} {a : Addr} {xs : List V} {Q : VK} (h : SqL K H a xs) (q : ∀ l, H l = none → Q (.ref l) (upd H l (.lst xs))) : rListK K [.ref a] H Q := ⟨a, xs, rfl, .inl h, q⟩
/-- what a comprehension over a list, over a range asks of its block -/
abbrev CompO (J : It) (g : TG) (tt : TT) (te : TE) (vs : List Nat) (σ : L2.St) (H1 : Hp) (D : Addr) (Qd : Hp → Prop) : Prop :=
  ∃ W : Nat → Nat → Hp → Prop, (∃ m, W 0 m (upd H1 D (.lst []))) ∧ ∀ i m H, W i m H →
    (J.stop i H ∧ Qd H) ∨ (J.go i H ∧ ∃ Nx : Hp → Prop, (∀ H', Nx H' → ∃ m', m' < m ∧ W (i + 1) m' H') ∧ ∀ x H', J.yld i H x H' → g x (wipe σ vs) H' fun σ2 H2 => wipe σ2 vs = wipe σ vs ∧ tt σ2 H2 fun b H3 =>
      if b = true then te σ2 H3 fun y H4 => ∃ acc, H4 D = some (.lst acc) ∧ acc.length < sizeLine ∧ Nx (upd H4 D (.lst (acc ++ [y]))) else Nx H3)
theorem filter_range_succ {p : Nat → Bool} {i : Nat} : (List.range (i + 1)).filter p = (List.range i).filter p ++ (if p i = true then [i] else []) := by
  rw [List.range_succ, List.filter_append]
  congr 1
  by_cases h : p i = true <;> simp [h]
theorem filter_len {α : Type} (p : α → Bool) (l : List α) : (l.filter p).length ≤ l.length := List.length_filter_le p l
theorem lc_rangeF {n : Nat} {D : Addr} {σ : L2.St} {vs : List Nat} {s : Nat} {tt : TT} {te : TE} {H1 : Hp} {Qd : Hp → Prop} (p : Nat → Bool) (f : Nat → V) (nD : H1 D = none) (hlen : n < 100000) (hw : ∀ v, wipe ((wipe σ vs).set s (some v)) vs = wipe σ vs)
    (ht : ∀ (i : Nat) H' (R : Bool → Hp → Prop), i < n → Same H1 H' → (∀ H'', Same H' H'' → R (p i) H'') → tt ((wipe σ vs).set s (some (.int (i : Int)))) H' R)
    (he : ∀ (i : Nat) H' (R : VK), i < n → p i = true → Same H1 H' → (∀ H'', Same H' H'' → R (f i) H'') → te ((wipe σ vs).set s (some (.int (i : Int)))) H' R)
    (hd : ∀ H', Same H1 H' → H' D = some (.lst (((List.range n).filter p).map f)) → Qd H') : CompO (Itr 0 n) (gName s) tt te vs σ H1 D Qd := by
  refine lc_range (lo := 0) (n := n) (fun i H' => Same H1 H' ∧ H' D = some (.lst (((List.range i).filter p).map f))) ⟨same_upd nD, upd_same⟩ (fun i H' hi ⟨s1, hD⟩ => ?_) (fun H' ⟨s1, hD⟩ => hd H' s1 hD)
  show wipe ((wipe σ vs).set s (some (.int (0 + (i : Int))))) vs = wipe σ vs ∧ _
  rw [show (0 : Int) + (i : Int) = (i : Int) by omega]
  refine ⟨hw _, ht i H' _ hi s1 fun H2 s2 => ?_⟩
  cases hp : p i with
  | true =>
    refine iteT ?_
    refine he i H2 _ hi hp (s1.trans s2) fun H3 s3 => ?_
    refine ⟨_, s3 _ _ (s2 _ _ hD), ?_, Same.mut ((s1.trans s2).trans s3) nD, ?_⟩
    · have := filter_len p (List.range i)
      rw [List.length_map]
      rw [List.length_range] at this
      exact szlt (by omega)
    · rw [upd_same, filter_range_succ, hp, if_pos rfl, List.map_append]
      rfl
  | false =>
    refine iteF ?_
    refine ⟨s1.trans s2, ?_⟩
    rw [s2 _ _ hD, filter_range_succ, hp, if_neg (by decide), List.append_nil]
theorem lc_rangeM {n : Nat} {D : Addr} {σ : L2.St} {vs : List Nat} {s : Nat} {te : TE} {H1 : Hp} {Qd : Hp → Prop} (f : Nat → V) (nD : H1 D = none) (hlen : n < 100000) (hw : ∀ v, wipe ((wipe σ vs).set s (some v)) vs = wipe σ vs)
    (he : ∀ (i : Nat) H' (R : VK), i < n → Same H1 H' → (∀ H'', Same H' H'' → R (f i) H'') → te ((wipe σ vs).set s (some (.int (i : Int)))) H' R)
    (hd : ∀ H', Same H1 H' → H' D = some (.lst ((List.range n).map f)) → Qd H') : CompO (Itr 0 n) (gName s) tYes te vs σ H1 D Qd :=
  lc_rangeF (fun _ => true) f nD hlen hw (fun i H' R _ _ q => q H' (Same.refl _)) (fun i H' R hi _ s1 q => he i H' R hi s1 q) (fun H' s1 h => hd H' s1 (by rw [h, List.filter_eq_self.mpr (fun _ _ => rfl)]))
theorem take_filter_succ {α : Type} {p : α → Bool} {xs : List α} {i : Nat} {x : α} (h : xs[i]? = some x) : (xs.take (i + 1)).filter p = (xs.take i).filter p ++ (if p x = true then [x] else []) := by
  rw [List.take_add_one, h, List.filter_append]
  congr 1
  by_cases hp : p x = true <;> simp [hp]
/-- over a list: the target of any form stores at some slots; T: what it leaves -/
theorem lc_listG {K : PySem.W.Frag} {a D : Addr} {xs : List V} {g : TG} {σ : L2.St} {vs : List Nat} {tt : TT} {te : TE} {H1 : Hp} {Qd : Hp → Prop} (T : V → L2.St) (p : V → Bool) (f : V → V) (hL : SqL K H1 a xs) (nD : H1 D = none) (hlen : xs.length < 100000)
    (hg : ∀ x H' (R : L2.St → Hp → Prop), x ∈ xs → Same H1 H' → R (T x) H' → g x (wipe σ vs) H' R) (hw : ∀ x ∈ xs, wipe (T x) vs = wipe σ vs)
    (ht : ∀ x H' (R : Bool → Hp → Prop), x ∈ xs → Same H1 H' → (∀ H'', Same H' H'' → R (p x) H'') → tt (T x) H' R)
    (he : ∀ x H' (R : VK), x ∈ xs → p x = true → Same H1 H' → (∀ H'', Same H' H'' → R (f x) H'') → te (T x) H' R)
    (hd : ∀ H', Same H1 H' → H' D = some (.lst ((xs.filter p).map f)) → Qd H') : CompO (Itl K a) g tt te vs σ H1 D Qd := by
  refine lc_list (K := K) (a := a) (xs := xs) (fun i H' => Same H1 H' ∧ H' D = some (.lst (((xs.take i).filter p).map f))) ⟨same_upd nD, upd_same⟩ (fun i H' _ ⟨s1, _⟩ => s1.seq hL) (fun i x H' hx ⟨s1, hD⟩ => ?_) (fun H' ⟨s1, hD⟩ => hd H' s1 (by rw [hD, List.take_length]))
  have hm := List.mem_of_getElem? hx
  refine hg x H' _ hm s1 ⟨hw x hm, ht x H' _ hm s1 fun H2 s2 => ?_⟩
  have hi : i < xs.length := (List.getElem?_eq_some_iff.mp hx).1
  cases hp : p x with
  | true =>
    refine iteT ?_
    refine he x H2 _ hm hp (s1.trans s2) fun H3 s3 => ?_
    refine ⟨_, s3 _ _ (s2 _ _ hD), ?_, Same.mut ((s1.trans s2).trans s3) nD, ?_⟩
    · have := filter_len p (xs.take i)
      rw [List.length_map]
      rw [List.length_take] at this
      exact szlt (by omega)
    · rw [upd_same, take_filter_succ hx, hp, if_pos rfl, List.map_append]
      rfl
  | false =>
    refine iteF ?_
    refine ⟨s1.trans s2, ?_⟩
    rw [s2 _ _ hD, take_filter_succ hx, hp, if_neg (by decide), List.append_nil]
theorem lc_listM {K : PySem.W.Frag} {a D : Addr} {xs : List V} {s : Nat} {σ : L2.St} {vs : List Nat} {te : TE} {H1 : Hp} {Qd : Hp → Prop} (f : V → V) (hL : SqL K H1 a xs) (nD : H1 D = none) (hlen : xs.length < 100000)
    (hw : ∀ v, wipe ((wipe σ vs).set s (some v)) vs = wipe σ vs)
    (he : ∀ x H' (R : VK), x ∈ xs → Same H1 H' → (∀ H'', Same H' H'' → R (f x) H'') → te ((wipe σ vs).set s (some x)) H' R)
    (hd : ∀ H', Same H1 H' → H' D = some (.lst (xs.map f)) → Qd H') : CompO (Itl K a) (gName s) tYes te vs σ H1 D Qd :=
  lc_listG (fun x => (wipe σ vs).set s (some x)) (fun _ => true) f hL nD hlen (fun x H' R _ _ q => q) (fun x _ => hw x) (fun x H' R _ _ q => q H' (Same.refl _)) (fun x H' R hx _ s1 q => he x H' R hx s1 q)
    (fun H' s1 h => hd H' s1 (by rw [h, List.filter_eq_self.mpr (fun _ _ => rfl)]))
theorem IL_mapR (n : Nat) (f : Nat → Int) : (List.range n).map (fun i => V.int (f i)) = IL ((List.range n).map f) := by rw [IL, List.map_map]; rfl
theorem IL_mapL (xs : List Int) (f : V → V) (h : Int → Int) (e : ∀ x, f (.int x) = .int (h x)) : (IL xs).map f = IL (xs.map h) := by
  rw [IL, IL, List.map_map, List.map_map]
  exact List.map_congr_left fun x _ => e x
theorem lc_range2M {lo : Int} {n : Nat} {D : Addr} {σ : L2.St} {vs : List Nat} {s : Nat} {te : TE} {H1 : Hp} {Qd : Hp → Prop} (f : Nat → V) (nD : H1 D = none) (hlen : n < 100000) (hw : ∀ v, wipe ((wipe σ vs).set s (some v)) vs = wipe σ vs)
    (he : ∀ (i : Nat) H' (R : VK), i < n → Same H1 H' → (∀ H'', Same H' H'' → R (f i) H'') → te ((wipe σ vs).set s (some (.int (lo + (i : Int))))) H' R)
    (hd : ∀ H', Same H1 H' → H' D = some (.lst ((List.range n).map f)) → Qd H') : CompO (Itr lo n) (gName s) tYes te vs σ H1 D Qd := by
  refine lc_range (lo := lo) (n := n) (fun i H' => Same H1 H' ∧ H' D = some (.lst ((List.range i).map f))) ⟨same_upd nD, upd_same⟩ (fun i H' hi ⟨s1, hD⟩ => ?_) (fun H' ⟨s1, hD⟩ => hd H' s1 hD)
  refine ⟨hw _, ?_⟩
  refine rd_tYes ?_
  refine iteT ?_
  refine he i H' _ hi s1 fun H3 s3 => ?_
  refine ⟨_, s3 _ _ hD, ?_, Same.mut (s1.trans s3) nD, ?_⟩
  · rw [List.length_map, List.length_range]
    exact szlt (by omega)
  · rw [upd_same, List.range_succ, List.map_append]
    rfl

/-! ## zip, slices, all -/
theorem for_zipS {K : PySem.W.Frag} {a b : Addr} {xs ys : List V} {g : TG} {tb : TS} {D : Ends} {σ : L2.St} {H : Hp} (hl : ys.length ≤ xs.length) (Pv : Nat → L2.St → Hp → Prop) (h0 : Pv 0 σ H) (hq : ∀ i σ H, Pv i σ H → SqL K H a xs ∧ SqL K H b ys)
    (hs : ∀ (i : Nat) (x y : V) (T : Addr) (σ : L2.St) (H : Hp), xs[i]? = some x → ys[i]? = some y → Pv i σ H → H T = none → g (.ref T) σ (upd H T (.tup [x, y])) fun σ2 H2 => tb { D with nx := Pv (i + 1), ct := Pv (i + 1), bk := D.nx } σ2 H2) (hd : ∀ σ H, Pv ys.length σ H → D.nx σ H) :
    ∃ W : Nat → Nat → L2.St → Hp → Prop, (∃ m, W 0 m σ H) ∧ ∀ i m σ H, W i m σ H →
      ((Itz K a b).stop i H ∧ D.nx σ H) ∨ ((Itz K a b).go i H ∧ ∃ N : L2.St → Hp → Prop, (∀ σ' H', N σ' H' → ∃ m', m' < m ∧ W (i + 1) m' σ' H') ∧ ∀ v H', (Itz K a b).yld i H v H' → g v σ H' fun σ2 H2 => tb { D with nx := N, ct := N, bk := D.nx } σ2 H2) := by
  refine ⟨fun i m σ H => m = ys.length - i ∧ i ≤ ys.length ∧ Pv i σ H, ⟨ys.length, rfl, Nat.zero_le _, h0⟩, ?_⟩
  rintro i m σ H ⟨rfl, hi, p⟩
  obtain ⟨qx, qy⟩ := hq i σ H p
  by_cases hlt : i < ys.length
  · have hlt2 : i < xs.length := by omega
    have hx : xs[i]? = some xs[i] := List.getElem?_eq_getElem hlt2
    have hy : ys[i]? = some ys[i] := List.getElem?_eq_getElem hlt
    refine .inr ⟨⟨xs, ys, _, _, qx, qy, hx, hy⟩, Pv (i + 1), fun σ' H' p' => ⟨ys.length - (i + 1), by omega, rfl, hlt, p'⟩, fun v H' y => ?_⟩
    obtain ⟨T, x', y', rfl, hT, rfl, f1, f2⟩ := y
    exact hs i x' y' T σ H (f1 xs qx) (f2 ys qy) p hT
  · have e : i = ys.length := by omega
    subst e
    exact .inl ⟨⟨xs, ys, qx, qy, Or.inr (Nat.le_refl _)⟩, hd σ H p⟩
theorem cut1 (xs : List V) : cutV xs (some 1) none = xs.drop 1 := by
  unfold cutV
  rw [show HT.sIx xs.length 0 (some 1) = min 1 xs.length from HT.sIx_nat xs.length 0 1, HT.sIx_none]
  cases xs with
  | nil => rfl
  | cons x r =>
    rw [show min 1 (x :: r).length = 1 by
      rw [List.length_cons]
      omega]
    show (List.take ((x :: r).length - 1) r) = r
    rw [List.length_cons, Nat.add_sub_cancel]
    exact List.take_length
theorem cutL (xs : List V) (h : xs ≠ []) : cutV xs none (some (-1)) = xs.dropLast := by
  unfold cutV
  rw [HT.sIx_none]
  have : 0 < xs.length := List.length_pos_iff.mpr h
  have e : HT.sIx xs.length xs.length (some (-1)) = xs.length - 1 := by
    unfold HT.sIx
    simp only
    rw [if_pos (by decide)]
    omega
  rw [e, List.drop_zero, Nat.sub_zero, List.dropLast_eq_take]
theorem rd_sl {K : PySem.W.Frag} {te : TE} {tl th : TO} {σ : L2.St} {H : Hp} {Q : VK} (q : te σ H fun x H1 => tl σ H1 fun l H2 => th σ H2 fun u H3 => rSlL K x l u H3 Q) : tSl (rSlL K) te tl th σ H Q := q
theorem rd_noPart {σ : L2.St} {H : Hp} {Q : Option Int → Hp → Prop} (q : Q none H) : tNoPart σ H Q := q
theorem rd_part {t : TE} {σ : L2.St} {H : Hp} {Q : Option Int → Hp → Prop} (q : t σ H fun x H1 => ∃ i, x = .int i ∧ Q (some i) H1) : tPart t σ H Q := q
theorem rd_cut0 {K : PySem.W.Frag} {a : Addr} {xs : List V} {lo hi : Option Int} {H : Hp} {Q : VK} (h : SqL K H a xs) (q : ∀ p, H p = none → Q (.ref p) (upd H p (.lst (cutV xs lo hi)))) : rSlL K (.ref a) lo hi H Q := ⟨a, xs, rfl, h, q⟩
theorem rd_allP {α : Type} {K : PySem.W.Frag} {H : Hp} {a : Addr} {Q : VK} {l : List α} {f : α → V} (p : α → Bool) (hf : ∀ x ∈ l, f x = .bl (p x)) (h : H a = some (.lst (l.map f))) (q : Q (.bl (l.all p)) H) : rAll K [.ref a] H Q := by
  refine ⟨a, l.map p, rfl, .of ?_, ?_⟩
  · rw [h, List.map_map]
    exact congrArg (fun z => some (HO.lst z)) (List.map_congr_left hf)
  · rw [List.all_map]
    exact q
theorem rd_anyP {α : Type} {K : PySem.W.Frag} {H : Hp} {a : Addr} {Q : VK} {l : List α} {f : α → V} (p : α → Bool) (hf : ∀ x ∈ l, f x = .bl (p x)) (h : H a = some (.lst (l.map f))) (q : Q (.bl (l.any p)) H) : rAny K [.ref a] H Q := by
  refine ⟨a, l.map p, rfl, .of ?_, ?_⟩
  · rw [h, List.map_map]
    exact congrArg (fun z => some (HO.lst z)) (List.map_congr_left hf)
  · rw [List.any_map]
    exact q
theorem pi_zipK {X : Cx} {K : PySem.W.Frag} {e e2 : Expr} {ta : TA} {p pos tpos : Pos} {elts : List Expr} {kk : Nat} (h : X.K = K) (hg : Gl X "zip") (hm : X.mg "zip" = none) (ha : PA X [e, e2] ta)
    (hs : starEach [e, e2] X.env = (false, eval e X.env) :: starEach [e2] X.env := by rfl) (hpl : (backTo pos (starEach [e2] X.env)).any (·.1) = false := by rfl) :
    PI X (.Tuple elts kk tpos) (.Call (.Name "zip" p) [e, e2] [] pos) (iZip K ta) := by subst h; exact pi_zip hg hm ha hs hpl
theorem rd_zip {K : PySem.W.Frag} {ta : TA} {σ : L2.St} {H : Hp} {R : It → Hp → Prop} (q : ta σ H fun vs H1 => ∃ a b xs ys, vs = [.ref a, .ref b] ∧ SqL K H1 a xs ∧ SqL K H1 b ys ∧ R (Itz K a b) H1) : iZip K ta σ H R := q
theorem rd_in1 {i : Int} {R : Int → Prop} (q : R i) : ∃ j, V.int i = .int j ∧ R j := ⟨i, rfl, q⟩

/-! ## a <= b < c < d as a test -/
def tChain3 (r r' r'' : R2) (ta tb tc td : TE) : TE := fun σ H Q => ta σ H fun x H1 => tb σ H1 fun y H2 => r x y H2 fun z H3 => ∃ k, z = .bl k ∧
  (if k = true then tc σ H3 fun u H4 => r' y u H4 fun z2 H5 => ∃ k2, z2 = .bl k2 ∧ (if k2 = true then td σ H5 fun u2 H6 => r'' u u2 H6 Q else Q (.bl false) H5) else Q (.bl false) H3)
theorem pt_chain3 {X : Cx} {a b c d : Expr} {ta tb tc td : TE} {pos : Pos} {op op' op'' : CmpOp} {r r' r'' : R2} (ho : OpR X (compareOp op) r) (ho' : OpR X (compareOp op') r') (ho'' : OpR X (compareOp op'') r'') (ha : PE X a ta) (hb : PE X b tb) (hc : PE X c tc) (hd : PE X d td)
    (hm : lastMarks [op, op', op''] [b, c, d] = false := by with_unfolding_all rfl) : PT X (.Compare a [op, op', op''] [b, c, d] pos) (tTest (tChain3 r r' r'' ta tb tc td)) := by
  refine ⟨fun pins s σ H Q I h => ?_⟩
  refine isTrue_chain (thn (ha.run pins s σ H _ I h) fun v s1 ⟨x, H1, I1, r1, q1⟩ => test_link (thn (hb.run pins s1 σ H1 _ I1 q1) fun u s2 ⟨y, H2, I2, r2, q2⟩ =>
    thn (ho pins s2 σ H2 x y v u _ I2 r1 r2 q2) fun d s3 ⟨z, H3, I3, r3, k, e, q3⟩ => ?_)) hm
  subst e
  cases r3
  refine wpAny_truthy_bool ?_
  cases k with
  | false =>
    obtain ⟨k', e', q'⟩ := q3
    cases e'
    exact ite_ff ⟨H3, I3, q'⟩
  | true =>
    refine ite_tt (test_link (thn (hc.run pins s3 σ H3 _ I3 q3) fun w' s4 ⟨z', H4, I4, r4, q4⟩ => thn (ho' pins s4 σ H4 y z' u w' _ I4 r2 r4 q4) fun d' s5 ⟨z2, H5, I5, r5, k2, e2, q5⟩ => ?_))
    subst e2
    cases r5
    refine wpAny_truthy_bool ?_
    cases k2 with
    | false =>
      obtain ⟨k', e', q'⟩ := q5
      cases e'
      exact ite_ff ⟨H5, I5, q'⟩
    | true =>
      refine ite_tt (test_last (thn (hd.run pins s5 σ H5 _ I5 q5) fun w2 s6 ⟨z6, H6, I6, r6, q6⟩ => thn (ho'' pins s6 σ H6 z' z6 w' w2 _ I6 r4 r6 q6) fun d3 s7 ⟨z7, H7, I7, r7, k7, e7, q7⟩ => ?_))
      subst e7
      cases r7
      exact wpAny_truthy_bool ⟨H7, I7, q7⟩
theorem rd_chain3 {r r' r'' : R2} {ta tb tc td : TE} {σ : L2.St} {H : Hp} {Q : VK} (q : ta σ H fun x H1 => tb σ H1 fun y H2 => r x y H2 fun z H3 => ∃ k, z = .bl k ∧
  (if k = true then tc σ H3 fun u H4 => r' y u H4 fun z2 H5 => ∃ k2, z2 = .bl k2 ∧ (if k2 = true then td σ H5 fun u2 H6 => r'' u u2 H6 Q else Q (.bl false) H5) else Q (.bl false) H3)) : tChain3 r r' r'' ta tb tc td σ H Q := q

/-! ## lists of ints, lists of pairs, compared -/
def dI (ns : List Int) : PyData := .list (ns.map PyData.int)
theorem depthAll_ints : ∀ ns : List Int, PyData.depthAll (ns.map PyData.int) ≤ 1
  | [] => by simp [PyData.depthAll]
  | n :: ns => by
    have ih := depthAll_ints ns
    simp only [List.map_cons, PyData.depthAll, PyData.depth]
    omega
theorem layAll_ints : ∀ ns : List Int, PyData.canLayAll0 (ns.map PyData.int) = true
  | [] => by simp [PyData.canLayAll0]
  | n :: ns => by
    have ih := layAll_ints ns
    simp [PyData.canLayAll0, PyData.canLay0, ih]
theorem shaped_dI (ns : List Int) : SeqAt.shaped (dI ns) = true := by
  have h := depthAll_ints ns
  have h2 := layAll_ints ns
  unfold SeqAt.shaped dI
  rw [Bool.and_eq_true]
  refine ⟨by simpa only [PyData.canLay0] using h2, decide_eq_true ?_⟩
  show PyData.depthAll (ns.map PyData.int) + 1 ≤ 64
  omega
theorem eqvAll_ints : ∀ xs ys : List Int, PyData.eqvAll (xs.map PyData.int) (ys.map PyData.int) = decide (xs = ys)
  | [], [] => by simp [PyData.eqvAll]
  | [], y :: ys => by simp [PyData.eqvAll]
  | x :: xs, [] => by simp [PyData.eqvAll]
  | x :: xs, y :: ys => by
    have ih := eqvAll_ints xs ys
    simp only [List.map_cons, PyData.eqvAll, PyData.eqv, ih]
    by_cases h : x = y <;> by_cases h2 : xs = ys <;> simp [h, h2]
theorem eqv_dI (xs ys : List Int) : PyData.eqv (dI xs) (dI ys) = decide (xs = ys) := by
  unfold dI
  rw [PyData.eqv]
  exact eqvAll_ints xs ys
theorem dpAll_ints {K : PySem.W.Frag} {H : Hp} : ∀ ns : List Int, DpAll K H (IL ns) (ns.map PyData.int)
  | [] => .nil
  | n :: ns => .cons (.int n) (dpAll_ints ns)
theorem dp_ints {K : PySem.W.Frag} {H : Hp} {a : Addr} {ns : List Int} (h : SqL K H a (IL ns)) : Dp K H (.ref a) (dI ns) := .lst h (dpAll_ints ns)
theorem rd_neI {K : PySem.W.Frag} {H : Hp} {a b : Addr} {xs ys : List Int} {Q : VK} (ha : SqL K H a (IL xs)) (hb : SqL K H b (IL ys)) (q : Q (.bl (!decide (xs = ys))) H) : rNeD K (.ref a) (.ref b) H Q :=
  ⟨_, _, dp_ints ha, dp_ints hb, shaped_dI _, shaped_dI _, by rw [eqv_dI]; exact q⟩
theorem rd_eqI {K : PySem.W.Frag} {H : Hp} {a b : Addr} {xs ys : List Int} {Q : VK} (ha : SqL K H a (IL xs)) (hb : SqL K H b (IL ys)) (q : Q (.bl (decide (xs = ys))) H) : rEqD K (.ref a) (.ref b) H Q :=
  ⟨_, _, dp_ints ha, dp_ints hb, shaped_dI _, shaped_dI _, by rw [eqv_dI]; exact q⟩
/-- a list of pairs of ints -/
def Prs (K : PySem.W.Frag) (H : Hp) (vs : List V) (ps : List (Int × Int)) : Prop := Paired (fun v p => ∃ t, v = V.ref t ∧ SqT K H t [.int p.1, .int p.2]) vs ps
def dpr (p : Int × Int) : PyData := .tuple [.int p.1, .int p.2]
def dP (ps : List (Int × Int)) : PyData := .list (ps.map dpr)
theorem Prs.mono {K : PySem.W.Frag} {H H' : Hp} {vs : List V} {ps : List (Int × Int)} (s : Same H H') (h : Prs K H vs ps) : Prs K H' vs ps := by
  unfold Prs at h ⊢
  exact Paired.mapP h fun v p ⟨t, e, q⟩ => ⟨t, e, Same.seqT s q⟩
theorem depthAll_prs : ∀ ps : List (Int × Int), PyData.depthAll (ps.map dpr) ≤ 3
  | [] => by simp [PyData.depthAll]
  | p :: ps => by
    have ih := depthAll_prs ps
    simp only [List.map_cons, PyData.depthAll, PyData.depth, dpr]
    omega
theorem layAll_prs : ∀ ps : List (Int × Int), PyData.canLayAll0 (ps.map dpr) = true
  | [] => by simp [PyData.canLayAll0]
  | p :: ps => by
    have ih := layAll_prs ps
    simp [PyData.canLayAll0, PyData.canLay0, dpr, ih]
theorem shaped_dP (ps : List (Int × Int)) : SeqAt.shaped (dP ps) = true := by
  have h := depthAll_prs ps
  have h2 := layAll_prs ps
  unfold SeqAt.shaped dP
  rw [Bool.and_eq_true]
  refine ⟨by simpa only [PyData.canLay0] using h2, decide_eq_true ?_⟩
  show PyData.depthAll (ps.map dpr) + 1 ≤ 64
  omega
theorem eqv_dpr (p q : Int × Int) : PyData.eqv (dpr p) (dpr q) = decide (p = q) := by
  obtain ⟨a, b⟩ := p
  obtain ⟨c, d⟩ := q
  unfold dpr
  simp only [PyData.eqv, PyData.eqvAll, Bool.and_true]
  by_cases h : a = c <;> by_cases h2 : b = d <;> simp [h, h2]
theorem eqvAll_prs : ∀ xs ys : List (Int × Int), PyData.eqvAll (xs.map dpr) (ys.map dpr) = decide (xs = ys)
  | [], [] => by simp [PyData.eqvAll]
  | [], y :: ys => by simp [PyData.eqvAll]
  | x :: xs, [] => by simp [PyData.eqvAll]
  | x :: xs, y :: ys => by
    have ih := eqvAll_prs xs ys
    simp only [List.map_cons, PyData.eqvAll, eqv_dpr, ih]
    by_cases h : x = y <;> by_cases h2 : xs = ys <;> simp [h, h2]
theorem eqv_dP (xs ys : List (Int × Int)) : PyData.eqv (dP xs) (dP ys) = decide (xs = ys) := by
  unfold dP
  rw [PyData.eqv]
  exact eqvAll_prs xs ys
theorem dp_pr {K : PySem.W.Frag} {H : Hp} {t : Addr} {p : Int × Int} (h : SqT K H t [.int p.1, .int p.2]) : Dp K H (.ref t) (dpr p) := .tup h (.cons (.int _) (.cons (.int _) .nil))
theorem dpAll_prs {K : PySem.W.Frag} {H : Hp} {vs : List V} {ps : List (Int × Int)} (h : Prs K H vs ps) : DpAll K H vs (ps.map dpr) := by
  unfold Prs at h
  induction h with
  | nil => exact .nil
  | cons r t ih =>
    obtain ⟨a, rfl, q⟩ := r
    exact .cons (dp_pr q) ih
theorem dp_prs {K : PySem.W.Frag} {H : Hp} {a : Addr} {vs : List V} {ps : List (Int × Int)} (h : SqL K H a vs) (hp : Prs K H vs ps) : Dp K H (.ref a) (dP ps) := .lst h (dpAll_prs hp)
theorem rd_neP {K : PySem.W.Frag} {H : Hp} {a b : Addr} {vs us : List V} {xs ys : List (Int × Int)} {Q : VK} (ha : SqL K H a vs) (pa : Prs K H vs xs) (hb : SqL K H b us) (pb : Prs K H us ys) (q : Q (.bl (!decide (xs = ys))) H) : rNeD K (.ref a) (.ref b) H Q :=
  ⟨_, _, dp_prs ha pa, dp_prs hb pb, shaped_dP _, shaped_dP _, by rw [eqv_dP]; exact q⟩
theorem rd_eqP {K : PySem.W.Frag} {H : Hp} {a b : Addr} {vs us : List V} {xs ys : List (Int × Int)} {Q : VK} (ha : SqL K H a vs) (pa : Prs K H vs xs) (hb : SqL K H b us) (pb : Prs K H us ys) (q : Q (.bl (decide (xs = ys))) H) : rEqD K (.ref a) (.ref b) H Q :=
  ⟨_, _, dp_prs ha pa, dp_prs hb pb, shaped_dP _, shaped_dP _, by rw [eqv_dP]; exact q⟩
theorem Prs.upd {K : PySem.W.Frag} {H : Hp} {D : Addr} {ys vs : List V} {o : HO} {ps : List (Int × Int)} (hD : H D = some (.lst ys)) (h : Prs K H vs ps) : Prs K (upd H D o) vs ps := by
  unfold Prs at h ⊢
  exact Paired.mapP h fun v p ⟨t, e, q⟩ => ⟨t, e, SqT.upd hD q⟩
theorem Prs.snoc {K : PySem.W.Frag} {H : Hp} {vs : List V} {ps : List (Int × Int)} {t : Addr} {p : Int × Int} (h : Prs K H vs ps) (ht : SqT K H t [.int p.1, .int p.2]) : Prs K H (vs ++ [.ref t]) (ps ++ [p]) :=
  Paired.snoc h ⟨t, rfl, ht⟩
theorem Prs.length {K : PySem.W.Frag} {H : Hp} {vs : List V} {ps : List (Int × Int)} (h : Prs K H vs ps) : vs.length = ps.length := Paired.length h

/-! ## pairs that are tracked -/
def PrsH (H : Hp) (vs : List V) (ps : List (Int × Int)) : Prop := Paired (fun v p => ∃ t, v = V.ref t ∧ H t = some (.tup [.int p.1, .int p.2])) vs ps
theorem PrsH.prs {K : PySem.W.Frag} {H : Hp} {vs : List V} {ps : List (Int × Int)} (h : PrsH H vs ps) : Prs K H vs ps := by
  unfold PrsH at h
  unfold Prs
  exact Paired.mapP h fun v p ⟨t, e, q⟩ => ⟨t, e, .of q⟩
theorem PrsH.mono {H H' : Hp} {vs : List V} {ps : List (Int × Int)} (s : Same H H') (h : PrsH H vs ps) : PrsH H' vs ps := by
  unfold PrsH at h ⊢
  exact Paired.mapP h fun v p ⟨t, e, q⟩ => ⟨t, e, s _ _ q⟩
theorem PrsH.upd {H : Hp} {D : Addr} {ys vs : List V} {o : HO} {ps : List (Int × Int)} (hD : H D = some (.lst ys)) (h : PrsH H vs ps) : PrsH (upd H D o) vs ps := by
  unfold PrsH at h ⊢
  exact Paired.mapP h fun v p ⟨t, e, q⟩ => ⟨t, e, by rw [upd_ne (ne_of q hD (by intro z; cases z))]; exact q⟩
theorem PrsH.snoc {H : Hp} {vs : List V} {ps : List (Int × Int)} {t : Addr} {p : Int × Int} (h : PrsH H vs ps) (ht : H t = some (.tup [.int p.1, .int p.2])) : PrsH H (vs ++ [.ref t]) (ps ++ [p]) := Paired.snoc h ⟨t, rfl, ht⟩
theorem Prs.get {K : PySem.W.Frag} {H : Hp} {vs : List V} {ps : List (Int × Int)} (h : Prs K H vs ps) : ∀ {i : Nat} {v : V}, vs[i]? = some v → ∃ t p, ps[i]? = some p ∧ v = .ref t ∧ SqT K H t [.int p.1, .int p.2] := by
  unfold Prs at h
  induction h with
  | nil => intro i v h; simp at h
  | cons r t ih =>
    intro i v hv
    cases i with
    | zero =>
      obtain ⟨a, rfl, q⟩ := r
      exact ⟨a, _, rfl, (Option.some.inj hv).symm, q⟩
    | succ i => exact ih hv
theorem PrsH.get {H : Hp} {vs : List V} {ps : List (Int × Int)} (h : PrsH H vs ps) : ∀ {i : Nat} {v : V}, vs[i]? = some v → ∃ t p, ps[i]? = some p ∧ v = .ref t ∧ H t = some (.tup [.int p.1, .int p.2]) := by
  unfold PrsH at h
  induction h with
  | nil => intro i v h; simp at h
  | cons r t ih =>
    intro i v hv
    cases i with
    | zero =>
      obtain ⟨a, rfl, q⟩ := r
      exact ⟨a, _, rfl, (Option.some.inj hv).symm, q⟩
    | succ i => exact ih hv
theorem PrsH.length {H : Hp} {vs : List V} {ps : List (Int × Int)} (h : PrsH H vs ps) : vs.length = ps.length := Paired.length h
theorem lc_rangeP {n : Nat} {D : Addr} {σ : L2.St} {vs : List Nat} {s : Nat} {te : TE} {H1 : Hp} {Qd : Hp → Prop} (f : Nat → Int × Int) (nD : H1 D = none) (hlen : n < 100000) (hw : ∀ v, wipe ((wipe σ vs).set s (some v)) vs = wipe σ vs)
    (he : ∀ (i : Nat) H' (R : VK), i < n → Same H1 H' → (∀ t, H' t = none → R (.ref t) (L2.upd H' t (.tup [.int (f i).1, .int (f i).2]))) → te ((wipe σ vs).set s (some (.int (i : Int)))) H' R)
    (hd : ∀ H' ys, Same H1 H' → H' D = some (.lst ys) → PrsH H' ys ((List.range n).map f) → Qd H') : CompO (Itr 0 n) (gName s) tYes te vs σ H1 D Qd := by
  refine lc_range (lo := 0) (n := n) (fun i H' => Same H1 H' ∧ ∃ ys, H' D = some (.lst ys) ∧ PrsH H' ys ((List.range i).map f)) ⟨same_upd nD, [], upd_same, .nil⟩ (fun i H' hi ⟨s1, ys, hD, hp⟩ => ?_) (fun H' ⟨s1, ys, hD, hp⟩ => hd H' ys s1 hD hp)
  show wipe ((wipe σ vs).set s (some (.int (0 + (i : Int))))) vs = wipe σ vs ∧ _
  rw [show (0 : Int) + (i : Int) = (i : Int) by omega]
  refine ⟨hw _, ?_⟩
  refine rd_tYes ?_
  refine iteT ?_
  refine he i H' _ hi s1 fun t nt => ?_
  have s2 := same_upd (o := .tup [.int (f i).1, .int (f i).2]) nt
  have ht : (L2.upd H' t (.tup [.int (f i).1, .int (f i).2])) t = some (.tup [.int (f i).1, .int (f i).2]) := upd_same
  refine ⟨_, s2 _ _ hD, ?_, Same.mut (s1.trans s2) nD, ys ++ [.ref t], upd_same, ?_⟩
  · rw [hp.length, List.length_map, List.length_range]
    exact szlt (by omega)
  · rw [List.range_succ, List.map_append]
    refine ((hp.mono s2).upd (s2 _ _ hD)).snoc ?_
    rw [upd_ne (ne_of ht (s2 _ _ hD) (by intro z; cases z))]
    exact ht
/-! ## dicts of pairs -/
theorem rd_dIn {ty td : TE} {σ : L2.St} {H : Hp} {Q : VK} (q : ty σ H fun y H1 => td σ H1 fun x H2 => ∃ a o, x = .ref a ∧ DGet H2 a y o ∧ Q (.bl o.isSome) H2) : tDIn ty td σ H Q := q
theorem rd_dNotIn {ty td : TE} {σ : L2.St} {H : Hp} {Q : VK} (q : ty σ H fun y H1 => td σ H1 fun x H2 => ∃ a o, x = .ref a ∧ DGet H2 a y o ∧ Q (.bl (!o.isSome)) H2) : tDNotIn ty td σ H Q := q
theorem rd_dput {td ty tv : TE} {D : Ends} {σ : L2.St} {H : Hp} (q : tv σ H fun v H1 => td σ H1 fun x H2 => ty σ H2 fun y H3 => ∃ a H4, x = .ref a ∧ DPut H3 a y v H4 ∧ D.nx σ H4) : sDPut td ty tv D σ H := q
theorem rd_dnewT {σ : L2.St} {H : Hp} {Q : VK} (q : ∀ p, H p = none → Q (.ref p) (L2.upd H p (.dT []))) : tDNewT σ H Q := q
/-- the keys of a dict are just these pairs -/
def Keys (kvs : List (List L2.Key × V)) (ps : List (Int × Int)) : Prop := kvs.length ≤ ps.length ∧ ∀ p : Int × Int, (valV kvs [.inl p.1, .inl p.2]).isSome = decide (p ∈ ps)
theorem Keys.nil : Keys [] [] := ⟨Nat.le_refl _, fun p => by simp [valV]⟩
theorem len_put {kvs : List (List L2.Key × V)} {k : List L2.Key} {v : V} : (putK kvs k v).length ≤ kvs.length + 1 := by
  unfold putK
  split
  · rw [List.length_map]
    omega
  · rw [List.length_append]
    exact Nat.le_refl _
theorem Keys.put {kvs : List (List L2.Key × V)} {ps : List (Int × Int)} {v : V} (h : Keys kvs ps) (p : Int × Int) : Keys (putK kvs [.inl p.1, .inl p.2] v) (ps ++ [p]) := by
  refine ⟨?_, fun q => ?_⟩
  · have := len_put (kvs := kvs) (k := [.inl p.1, .inl p.2]) (v := v)
    have := h.1
    rw [List.length_append]
    simp
    omega
  · rw [valV_put]
    by_cases e : q = p
    · subst e
      rw [if_pos rfl]
      simp
    · have : ¬ ([Sum.inl q.1, Sum.inl q.2] : List L2.Key) = [.inl p.1, .inl p.2] := fun z => e (by
        have h1 := List.cons.inj z
        have h2 := List.cons.inj h1.2
        exact Prod.ext (Sum.inl.inj h1.1) (Sum.inl.inj h2.1))
      rw [if_neg this, h.2 q]
      simp [e]
theorem keys_get {H : Hp} {a t : Addr} {kvs : List (List L2.Key × V)} {p : Int × Int} (hd : H a = some (.dT kvs)) (ht : H t = some (.tup [.int p.1, .int p.2])) : DGet H a (.ref t) (valV kvs [.inl p.1, .inl p.2]) := .t hd ht
theorem keys_put {H : Hp} {a t : Addr} {kvs : List (List L2.Key × V)} {p : Int × Int} {v : V} (hd : H a = some (.dT kvs)) (ht : H t = some (.tup [.int p.1, .int p.2])) (hl : kvs.length < 100000) :
    DPut H a (.ref t) v (L2.upd H a (.dT (putK kvs [.inl p.1, .inl p.2] v))) := .t hd ht (szlt hl)
theorem PrsH.updD {H : Hp} {D : Addr} {ks : List (List L2.Key × V)} {vs : List V} {o : HO} {ps : List (Int × Int)} (hD : H D = some (.dT ks)) (h : PrsH H vs ps) : PrsH (L2.upd H D o) vs ps := by
  unfold PrsH at h ⊢
  exact Paired.mapP h fun v p ⟨t, e, q⟩ => ⟨t, e, by rw [upd_ne (ne_of q hD (by intro z; cases z))]; exact q⟩

/-! ## the steps -/
local macro_rules | `(tactic| walk_at "rd1") => `(tactic| first
  | ((with_reducible refine' rd_var ?h ?_); (case h => rfl))
  | with_reducible refine rd_c ?_
  | with_reducible refine rd_op ?_
  | with_reducible refine rd_I0 ?_
  | with_reducible refine rd_cons ?_
  | with_reducible refine rd_nil ?_
  | with_reducible refine rd_un ?_
  | with_reducible refine rd_U ?_
  | ((with_reducible refine rd_eq ?h ?_); (case h => rfl))
  | ((with_reducible refine rd_ne ?h ?_); (case h => rfl))
  | with_reducible refine rd_cb ?_
  | with_reducible refine rd_call ?_
  | with_reducible refine rd_callS ?_
  | with_reducible refine rd_test ?_
  | with_reducible refine rd_tB ?_
  | with_reducible refine rd_bl ?_
  | with_reducible refine rd_not ?_
  | with_reducible refine rd_and ?_
  | with_reducible refine rd_or ?_
  | with_reducible refine rd_andV ?_
  | with_reducible refine rd_orV ?_
  | with_reducible refine rd_notV ?_
  | with_reducible refine rd_if ?_
  | with_reducible refine rd_seq ?_
  | with_reducible refine rd_asg ?_
  | with_reducible refine rd_name ?_
  | ((with_reducible refine' rd_aug ?h ?_); (case h => rfl))
  | with_reducible refine rd_ipI ?_
  | with_reducible refine rd_gSub ?_
  | with_reducible refine rd_ret ?_
  | with_reducible refine rd_drop ?_
  | with_reducible refine rd_ifS ?_
  | with_reducible refine rd_next ?_
  | with_reducible refine rd_cont ?_
  | with_reducible refine rd_tup ?_
  | with_reducible refine rd_lst ?_
  | with_reducible refine rd_for ?_
  | with_reducible refine rd_lc ?_
  | with_reducible refine rd_min2 ?_
  | with_reducible refine rd_max2 ?_
  | with_reducible refine rd_abs ?_
  | with_reducible refine rd_dIn ?_
  | with_reducible refine rd_dNotIn ?_
  | with_reducible refine rd_dput ?_
  | with_reducible refine rd_dnewT ?_
  | with_reducible refine rd_chain3 ?_
  | with_reducible refine rd_sl ?_
  | with_reducible refine rd_noPart ?_
  | with_reducible refine rd_part ?_
  | with_reducible refine rd_zip ?_
  | with_reducible refine rd_in1 ?_
  | ((with_reducible refine' rd_cut0 ?h ?_); (case h => first | assumption | exact SqL.of (by assumption) | exact SqL.of upd_same))
  | with_reducible refine rd_chain ?_
  | ((with_reducible refine' rd_len ?h ?_); (case h => first | assumption | exact SqL.of (by assumption) | exact SqL.of upd_same))
  | ((with_reducible refine' rd_list ?h ?_); (case h => first | assumption | exact SqL.of (by assumption) | exact SqL.of upd_same))
  | with_reducible refine rd_isN ?_
  | with_reducible refine rd_notN ?_
  | with_reducible refine rd_tYes ?_
  | with_reducible refine iteT ?_
  | with_reducible refine iteF ?_
  | with_reducible refine iteNT ?_
  | with_reducible refine iteNF ?_
  | with_reducible refine rd_rng1 ?_
  | with_reducible refine rd_rng2 ?_
  | with_reducible refine rd_iList ?_
  | with_reducible refine rd_iTup ?_
  | with_reducible refine rd_bm ?_
  | with_reducible refine rd_bm0 ?_
  | ((with_reducible refine rd_I (C := CPow) ?c ?_); (case c => exact ⟨by decide, by decide, by decide⟩))
  | ((with_reducible refine rd_I (C := fun _ j => 0 < j) ?c ?_); (case c => (show (0 : Int) < _); first | omega | decide +kernel))
  | ((with_reducible refine rd_I (C := CDiv) ?c ?_); (case c => first | exact ⟨by decide, by decide⟩ | exact ⟨by omega, by omega⟩))
  | ((with_reducible refine rd_I (C := CMul) ?c ?_); (case c => first | exact .inr ⟨by omega, by omega⟩ | exact .inl ⟨by omega, by omega⟩))
  | ((with_reducible refine' rd_cell ?h0 ?h ?_); (case h => assumption); (case h0 => first | decide | omega)))
local macro_rules | `(tactic| walk_at "rd") => `(tactic| repeat walk_at "rd1")
local macro_rules | `(tactic| walk_at "rq1") => `(tactic| first
  | ((with_reducible refine' rd_var ?h ?_); (case h => rfl))
  | with_reducible refine rd_c ?_
  | with_reducible refine rd_op ?_
  | with_reducible refine rd_I0 ?_
  | with_reducible refine rd_cons ?_
  | with_reducible refine rd_nil ?_
  | with_reducible refine rd_un ?_
  | with_reducible refine rd_U ?_
  | ((with_reducible refine rd_eq ?h ?_); (case h => rfl))
  | ((with_reducible refine rd_ne ?h ?_); (case h => rfl))
  | with_reducible refine rd_cb ?_
  | with_reducible refine rd_call ?_
  | with_reducible refine rd_callS ?_
  | with_reducible refine rd_test ?_
  | with_reducible refine rd_tB ?_
  | with_reducible refine rd_bl ?_
  | with_reducible refine rd_not ?_
  | with_reducible refine rd_and ?_
  | with_reducible refine rd_or ?_
  | with_reducible refine rd_andV ?_
  | with_reducible refine rd_orV ?_
  | with_reducible refine rd_notV ?_
  | with_reducible refine rd_if ?_
  | with_reducible refine rd_asg ?_
  | with_reducible refine rd_name ?_
  | ((with_reducible refine' rd_aug ?h ?_); (case h => rfl))
  | with_reducible refine rd_ipI ?_
  | with_reducible refine rd_gSub ?_
  | with_reducible refine rd_ret ?_
  | with_reducible refine rd_drop ?_
  | with_reducible refine rd_ifS ?_
  | with_reducible refine rd_next ?_
  | with_reducible refine rd_cont ?_
  | with_reducible refine rd_tup ?_
  | with_reducible refine rd_lst ?_
  | with_reducible refine rd_for ?_
  | with_reducible refine rd_lc ?_
  | with_reducible refine rd_min2 ?_
  | with_reducible refine rd_max2 ?_
  | with_reducible refine rd_abs ?_
  | with_reducible refine rd_dIn ?_
  | with_reducible refine rd_dNotIn ?_
  | with_reducible refine rd_dput ?_
  | with_reducible refine rd_dnewT ?_
  | with_reducible refine rd_chain3 ?_
  | with_reducible refine rd_sl ?_
  | with_reducible refine rd_noPart ?_
  | with_reducible refine rd_part ?_
  | with_reducible refine rd_zip ?_
  | with_reducible refine rd_in1 ?_
  | ((with_reducible refine' rd_cut0 ?h ?_); (case h => first | assumption | exact SqL.of (by assumption) | exact SqL.of upd_same))
  | with_reducible refine rd_chain ?_
  | ((with_reducible refine' rd_len ?h ?_); (case h => first | assumption | exact SqL.of (by assumption) | exact SqL.of upd_same))
  | ((with_reducible refine' rd_list ?h ?_); (case h => first | assumption | exact SqL.of (by assumption) | exact SqL.of upd_same))
  | with_reducible refine rd_isN ?_
  | with_reducible refine rd_notN ?_
  | with_reducible refine rd_tYes ?_
  | with_reducible refine iteT ?_
  | with_reducible refine iteF ?_
  | with_reducible refine iteNT ?_
  | with_reducible refine iteNF ?_
  | with_reducible refine rd_rng1 ?_
  | with_reducible refine rd_rng2 ?_
  | with_reducible refine rd_iList ?_
  | with_reducible refine rd_iTup ?_
  | with_reducible refine rd_bm ?_
  | with_reducible refine rd_bm0 ?_
  | ((with_reducible refine rd_I (C := CPow) ?c ?_); (case c => exact ⟨by decide, by decide, by decide⟩))
  | ((with_reducible refine rd_I (C := fun _ j => 0 < j) ?c ?_); (case c => (show (0 : Int) < _); first | omega | decide +kernel))
  | ((with_reducible refine rd_I (C := CDiv) ?c ?_); (case c => first | exact ⟨by decide, by decide⟩ | exact ⟨by omega, by omega⟩))
  | ((with_reducible refine rd_I (C := CMul) ?c ?_); (case c => first | exact .inr ⟨by omega, by omega⟩ | exact .inl ⟨by omega, by omega⟩))
  | ((with_reducible refine' rd_cell ?h0 ?h ?_); (case h => assumption); (case h0 => first | decide | omega)))
local macro_rules | `(tactic| walk_at "rq") => `(tactic| repeat walk_at "rq1")

/-! ## isinstance(x, int) and not isinstance(x, bool) -/
/-- what the two questions answer of a value of the type t -/
def wholeT (K : PySem.W.Frag) (t : Value) (r : Bool) : Prop := ∃ b1 b2, PySem.W.kitOne K t (.type "int") = some b1 ∧ PySem.W.kitOne K t (.type "bool") = some b2 ∧ r = (b1 && !b2)
def Whole (K : PySem.W.Frag) (H : Hp) (x : V) (r : Bool) : Prop := ∃ t, TyX K H x t ∧ wholeT K t r
theorem whole_int {K : PySem.W.Frag} {H : Hp} {i : Int} : Whole K H (.int i) true := ⟨_, .base (.int i), true, false, kit_ty (by decide +kernel), kit_ty (by decide +kernel), rfl⟩
theorem whole_bl {K : PySem.W.Frag} {H : Hp} {b : Bool} : Whole K H (.bl b) false := ⟨_, .base (.bl b), true, true, kit_ty (by decide +kernel), kit_ty (by decide +kernel), rfl⟩
theorem whole_non {K : PySem.W.Frag} {H : Hp} : Whole K H .non false := ⟨_, .base .non, false, false, kit_ty (by decide +kernel), kit_ty (by decide +kernel), rfl⟩
theorem whole_str {K : PySem.W.Frag} {H : Hp} {z : Str} : Whole K H (.str z) false := ⟨_, .base (.str z), false, false, kit_ty (by decide +kernel), kit_ty (by decide +kernel), rfl⟩
theorem whole_lst {K : PySem.W.Frag} {H : Hp} {a : Addr} {xs : List V} (h : H a = some (.lst xs)) : Whole K H (.ref a) false := ⟨_, .base (.lst h), false, false, kit_ty (by decide +kernel), kit_ty (by decide +kernel), rfl⟩
theorem whole_tup {K : PySem.W.Frag} {H : Hp} {a : Addr} {xs : List V} (h : H a = some (.tup xs)) : Whole K H (.ref a) false := ⟨_, .base (.tup h), false, false, kit_ty (by decide +kernel), kit_ty (by decide +kernel), rfl⟩
def spWhole (K : PySem.W.Frag) : Sp := fun vs H Q _ => ∃ (x : V) (r : Bool), vs = [x] ∧ Whole K H x r ∧ Q (.bl r) H
theorem whole_run {K : PySem.W.Frag} {D : Ends} {H : Hp} {vs : List V} {E : XK} {N : List Str} (h : spWhole K vs H D.rt E) :
    tRet (tAndV (tCB (rIsi K) (tCons (tVar 0) (tCons (tC (.ty "int")) tNil))) (tNotV (tCB (rIsi K) (tCons (tVar 0) (tCons (tC (.ty "bool")) tNil))))) D (start N vs) H := by
  obtain ⟨x, r, rfl, ⟨t, ty, b1, b2, h1, h2, rfl⟩, q⟩ := h
  walk_at "rd"
  refine ⟨x, .ty "int", t, _, b1, rfl, .ty _, ty, h1, b1, rfl, ?_⟩
  cases b1 with
  | false => exact iteF q
  | true =>
    refine iteT ?_
    walk_at "rd"
    refine ⟨x, .ty "bool", t, _, b2, rfl, .ty _, ty, h2, b2, rfl, ?_⟩
    exact q

/-! ## slopes, by places -/
def g (ns : List Int) (i : Nat) : Int := ns.getD i 0
/-- from a, x is steeper than y -/
abbrev Stp (ns : List Int) (a x y : Nat) : Prop := (g ns y - g ns a) * ((x : Int) - (a : Int)) < (g ns x - g ns a) * ((y : Int) - (a : Int))
theorem cross {x y z p q r : Int} (hp : 0 < p) (hq : 0 < q) (hr : 0 < r) (h1 : y * p < x * q) (h2 : z * q ≤ y * r) : z * p < x * r := by
  have e1 : z * q * p ≤ y * r * p := Int.mul_le_mul_of_nonneg_right h2 (by omega)
  have e2 : y * p * r < x * q * r := Int.mul_lt_mul_of_pos_right h1 hr
  have e3 : z * p * q < x * r * q := by
    have a1 : z * p * q = z * q * p := by rw [Int.mul_assoc, Int.mul_comm p q, ← Int.mul_assoc]
    have a2 : x * r * q = x * q * r := by rw [Int.mul_assoc, Int.mul_comm r q, ← Int.mul_assoc]
    have a3 : y * p * r = y * r * p := by rw [Int.mul_assoc, Int.mul_comm p r, ← Int.mul_assoc]
    omega
  exact Int.lt_of_mul_lt_mul_right e3 (by omega)
theorem stp_trans {ns : List Int} {a x y z : Nat} (hx : a < x) (hy : a < y) (hz : a < z) (h1 : Stp ns a x y) (h2 : ¬ Stp ns a z y) : Stp ns a x z := by
  unfold Stp at *
  exact cross (p := (x : Int) - a) (q := (y : Int) - a) (r := (z : Int) - a) (by omega) (by omega) (by omega) h1 (by omega)
theorem stp_asymm {ns : List Int} {a x y : Nat} (h : Stp ns a x y) : ¬ Stp ns a y x := by
  unfold Stp at *
  omega
theorem stp_irrefl {ns : List Int} {a x : Nat} : ¬ Stp ns a x x := by
  unfold Stp
  omega
/-- every top between lies below the line from a to b -/
def seeB (ns : List Int) (a b : Nat) : Bool := decide (∀ k, k < b → a < k → Stp ns a b k)
theorem seeB_iff {ns : List Int} {a b : Nat} : seeB ns a b = true ↔ ∀ k, k < b → a < k → Stp ns a b k := by
  unfold seeB
  exact decide_eq_true_iff
theorem seeB_next {ns : List Int} {a : Nat} : seeB ns a (a + 1) = true := seeB_iff.mpr fun k h1 h2 => by omega
/-- m is the steepest of those between a and n -/
structure Steep (ns : List Int) (a n m : Nat) : Prop where
  lo : a < m
  hi : m < n
  top : ∀ k, k < n → a < k → ¬ Stp ns a k m
theorem Steep.see {ns : List Int} {a n m : Nat} (s : Steep ns a n m) : seeB ns a n = true ↔ Stp ns a n m := by
  rw [seeB_iff]
  constructor
  · intro h
    exact h m s.hi s.lo
  · intro h k hk ha
    exact stp_trans (Nat.lt_trans s.lo s.hi) s.lo ha h (s.top k hk ha)
theorem Steep.up {ns : List Int} {a n m : Nat} (s : Steep ns a n m) (h : Stp ns a n m) : Steep ns a (n + 1) n := by
  refine ⟨Nat.lt_trans s.lo s.hi, Nat.lt_succ_self n, fun k hk ha => ?_⟩
  by_cases e : k = n
  · subst e
    exact stp_irrefl
  · exact stp_asymm (stp_trans (Nat.lt_trans s.lo s.hi) s.lo ha h (s.top k (by omega) ha))
theorem Steep.stay {ns : List Int} {a n m : Nat} (s : Steep ns a n m) (h : ¬ Stp ns a n m) : Steep ns a (n + 1) m := by
  refine ⟨s.lo, Nat.lt_succ_of_lt s.hi, fun k hk ha => ?_⟩
  by_cases e : k = n
  · subst e
    exact h
  · exact s.top k (by omega) ha
theorem Steep.first {ns : List Int} {a : Nat} : Steep ns a (a + 1 + 1) (a + 1) := by
  refine ⟨Nat.lt_succ_self _, Nat.lt_succ_self _, fun k hk ha => ?_⟩
  have e : k = a + 1 := by omega
  subst e
  exact stp_irrefl
/-- the later places that a sees, below n -/
def behN (ns : List Int) (a n : Nat) : List Nat := (List.range n).filter fun b => decide (a < b) && seeB ns a b
theorem behN_low {ns : List Int} {a n : Nat} (h : n ≤ a + 1) : behN ns a n = [] := by
  unfold behN
  rw [List.filter_eq_nil_iff]
  intro b hb
  have := List.mem_range.mp hb
  simp
  omega
theorem behN_succ {ns : List Int} {a n : Nat} : behN ns a (n + 1) = behN ns a n ++ (if a < n ∧ seeB ns a n = true then [n] else []) := by
  unfold behN
  rw [List.range_succ, List.filter_append]
  congr 1
  by_cases h1 : a < n <;> by_cases h2 : seeB ns a n = true <;> simp [h1, h2]
theorem behN_yes {ns : List Int} {a n : Nat} (h1 : a < n) (h2 : seeB ns a n = true) : behN ns a (n + 1) = behN ns a n ++ [n] := by rw [behN_succ, if_pos ⟨h1, h2⟩]
theorem behN_no {ns : List Int} {a n : Nat} (h2 : ¬ seeB ns a n = true) : behN ns a (n + 1) = behN ns a n := by rw [behN_succ, if_neg (fun z => h2 z.2), List.append_nil]
theorem mem_behN {ns : List Int} {a n b : Nat} : b ∈ behN ns a n ↔ a < b ∧ b < n ∧ seeB ns a b = true := by
  unfold behN
  rw [List.mem_filter, List.mem_range]
  simp
  exact ⟨fun ⟨h, h1, h2⟩ => ⟨h1, h, h2⟩, fun ⟨h1, h, h2⟩ => ⟨h, h1, h2⟩⟩
abbrev NI (l : List Nat) : List Int := l.map fun (n : Nat) => ((n : Nat) : Int)
abbrev NP (l : List (Nat × Nat)) : List (Int × Int) := l.map fun (p : Nat × Nat) => (((p.1 : Nat) : Int), ((p.2 : Nat) : Int))
/-- the pairs of the first n places -/
def sigN (ns : List Int) (n : Nat) : List (Nat × Nat) := (List.range n).flatMap fun a => (behN ns a ns.length).map fun b => (a, b)
theorem sigN_succ {ns : List Int} {n : Nat} : sigN ns (n + 1) = sigN ns n ++ (behN ns n ns.length).map fun b => (n, b) := by
  unfold sigN
  rw [List.range_succ, List.flatMap_append]
  simp
abbrev sights (ns : List Int) : List (Nat × Nat) := sigN ns ns.length
theorem mem_sights {ns : List Int} {a b : Nat} : (a, b) ∈ sights ns ↔ a < b ∧ b < ns.length ∧ seeB ns a b = true := by
  unfold sights sigN
  rw [List.mem_flatMap]
  constructor
  · rintro ⟨a', _, h⟩
    obtain ⟨b', hb, e⟩ := List.mem_map.mp h
    cases e
    exact mem_behN.mp hb
  · rintro ⟨h1, h2, h3⟩
    exact ⟨a, List.mem_range.mpr (Nat.lt_trans h1 h2), List.mem_map.mpr ⟨b, mem_behN.mpr ⟨h1, h2, h3⟩, rfl⟩⟩
/-- the steepest of the first i places behind a, the earliest of equals -/
def stM (ns : List Int) (a : Nat) : Nat → Option Nat
  | 0 => none
  | i + 1 => match stM ns a i with
    | none => some (a + 1 + i)
    | some m => if Stp ns a (a + 1 + i) m then some (a + 1 + i) else some m
theorem stM_none {ns : List Int} {a i : Nat} (h : stM ns a i = none) : i = 0 := by
  cases i with
  | zero => rfl
  | succ i =>
    unfold stM at h
    split at h
    · cases h
    · split at h <;> cases h
theorem stM_some {ns : List Int} {a : Nat} : ∀ {i m : Nat}, stM ns a i = some m → Steep ns a (a + 1 + i) m
  | 0, m, h => by cases h
  | i + 1, m, h => by
    unfold stM at h
    split at h
    · rename_i h0
      have e := stM_none h0
      subst e
      cases h
      exact Steep.first
    · rename_i m' h0
      have s := stM_some h0
      split at h
      · rename_i h1
        cases h
        exact s.up h1
      · rename_i h1
        cases h
        exact s.stay h1
/-- the hider -/
def hidM (ns : List Int) (a b : Nat) : Option Nat := match stM ns a (b - a - 1) with
  | none => none
  | some m => if Stp ns a b m then none else some m
theorem hidM_none {ns : List Int} {a b : Nat} (h : a < b) : hidM ns a b = none ↔ seeB ns a b = true := by
  unfold hidM
  split
  · rename_i h0
    have e := stM_none h0
    have e2 : b = a + 1 := by omega
    subst e2
    exact ⟨fun _ => seeB_next, fun _ => rfl⟩
  · rename_i m h0
    have s := stM_some h0
    rw [show a + 1 + (b - a - 1) = b by omega] at s
    rw [s.see]
    split
    · rename_i h1
      exact ⟨fun _ => h1, fun _ => rfl⟩
    · rename_i h1
      exact ⟨fun q => (by cases q), fun q => absurd q h1⟩
theorem hidM_some {ns : List Int} {a b m : Nat} (h : a < b) (e : hidM ns a b = some m) : a < m ∧ m < b ∧ ¬ Stp ns a b m := by
  unfold hidM at e
  split at e
  · cases e
  · rename_i m' h0
    have s := stM_some h0
    rw [show a + 1 + (b - a - 1) = b by omega] at s
    split at e
    · cases e
    · rename_i h1
      cases e
      exact ⟨s.lo, s.hi, h1⟩

/-! ## errors caught where nothing else is handled: several clauses, with a name -/
theorem passLN {X : Cx} : Passes (L2N.CX X.prog X.w) X E0 := fun _ _ _ _ _ _ _ h => by
  obtain ⟨_, _, _, _, _, _, _, _, _, _, _, _, z⟩ := h
  exact z.elim
theorem takes0N {X : Cx} : L2N.Takes X (fun _ _ _ _ => False) := fun _ _ x => by
  obtain ⟨_, _, _, _, _, _, _, _, _, _, _, _, _, _, _, _, z⟩ := x
  exact z.elim
theorem okN {P : Program} {w : World} {K : PySem.W.Frag} {mg : Str → Option Value} {base : Heap} {x qual : Str} {st : Stmt} {f : Addr} {fd : FuncData} {N ps : List Str} {k : Nat} {sp : Sp} (F : Fun K x qual st f fd) (S : FnScope N ps (defScope st)) (len : ∀ vs H Q E, sp vs H Q E → vs.length = ps.length)
    (hbody : ∀ (cdv : Value) (A : Around) (outer : List Env) (s : Shared) (H : Hp) (vs : List V) (Q : VK) (E : XK), Room k (A.deeper (envOfC qual (defScope st) s.heap.objs.size f cdv)) → sp vs H Q E →
      ∃ t, PSs (cxOf (L2N.CX P w) P w K mg base N qual (defScope st) f cdv A outer s H E) (defBody st) t ∧ t { nx := fun _ H' => Q .non H', rt := Q } (L2.start N vs) H) : FnOk P w K mg base (L2N.CX P w) (k + 1) f fd ps sp := by
  obtain ⟨oc, od, kV, doc, pm, an, cdv, ct, osl, rfl, lk, hcd⟩ := F.ex
  exact fn_of lk hcd S len fun A outer s H vs Q E hr hsp => hbody cdv A outer s H vs Q E hr hsp
/-- one clause: the class, the slot of its name, its suite -/
abbrev Clause : Type := Value × Option Nat × (Addr → Value → Option Addr → TS)
def endsOf (D : Ends) : Option Nat → Ends
  | none => D
  | some i => { nx := fun σ H => D.nx (σ.set i none) H, rt := D.rt, bk := fun σ H => D.bk (σ.set i none) H, ct := fun σ H => D.ct (σ.set i none) H }
def slotOf (σ : L2.St) (a : Addr) : Option Nat → L2.St
  | none => σ
  | some i => σ.set i (some (.ref a))
def wManyA (K : PySem.W.Frag) (Wout : WX) (D : Ends) : List Clause → WX
  | [] => Wout
  | (c, n, ts) :: r => fun cls d σ H => ∃ b, PySem.W.exmOne K cls c = some b ∧ (b = true → ∀ a, H a = none → ts a cls d (endsOf D n) (slotOf σ a n) H) ∧ (b = false → wManyA K Wout D r cls d σ H)
inductive HdsA (X : Cx) : List ExceptHandler → List Clause → Prop
  | nil : HdsA X [] []
  | cons {x : Str} {c : Value} {ts : Addr → Value → Option Addr → TS} {b₀ : Stmt} {suite : List Stmt} {np pos' : Pos} {hds : List ExceptHandler} {l : List Clause} (hc : Names X x c)
      (hsu : ∀ (a : Addr) (oe : Obj) (cls : Value) (d : Option Addr) (pn : List (Addr × Obj)), L2N.Zn cls d oe → (∃ vs, oe.data = .fields vs) → PSs (X.suite a ((a, oe) :: pn)) (b₀ :: suite) (ts a cls d)) (r : HdsA X hds l) :
      HdsA X (.ExceptHandler (some (.Name x np)) none (b₀ :: suite) pos' :: hds) ((c, none, ts) :: l)
  | consA {i : Nat} {x n : Str} {c : Value} {ts : Addr → Value → Option Addr → TS} {b₀ : Stmt} {suite : List Stmt} {np pos' : Pos} {hds : List ExceptHandler} {l : List Clause} (hi : X.N[i]? = some n) (hln : X.env.kindOf n = some .local) (hc : Names X x c)
      (hsu : ∀ (a : Addr) (oe : Obj) (cls : Value) (d : Option Addr) (pn : List (Addr × Obj)), L2N.Zn cls d oe → (∃ vs, oe.data = .fields vs) → PSs (X.suite a ((a, oe) :: pn)) (b₀ :: suite) (ts a cls d)) (r : HdsA X hds l) :
      HdsA X (.ExceptHandler (some (.Name x np)) (some n) (b₀ :: suite) pos' :: hds) ((c, some i, ts) :: l)
section
variable {X : Cx} {body : List Stmt} {h₀ : ExceptHandler} {hds : List ExceptHandler} {l : List Clause} {pos : Pos} {tb : WX → TS} {Wout : WX}
theorem ps_try_manyA (hs : X.stack = X.env :: X.outer) (hf : X.env.frame = some X.env.locals) (hN : X.N.Nodup) (tk : L2N.Takes X Wout)
    (hb : ∀ (W : WX) (pn : List (Addr × Obj)) (xe : Value → Shared → Prop), L2N.Takes (X.tr pn xe) W → PassesOwn (model X.prog X.w) X.A X.env xe → PSs (X.tr pn xe) body (tb W))
    (hh : HdsA X (h₀ :: hds) l) : PS X (.Try body (h₀ :: hds) [] [] pos) (fun D σ H => tb (wManyA X.K Wout D l) D σ H) := by
  refine ⟨fun pins s σ H D I h => ?_⟩
  have ok := I.ok
  have hfr : X.A.frames = some (X.env :: X.outer) := by rw [ok.frames, hs]
  refine wpAny_Try_except ?_
  refine wpAny_mono ((hb (wManyA X.K Wout D l) (X.pn ++ pins) (fun e s₁ => wpAny (model X.prog X.w) X.A (noteFrame e X.env) (fun _ s₂ => wpAny (model X.prog X.w) X.A (setFlight e none) (fun _ s₃ =>
    wpAny (model X.prog X.w) X.A (handleBy e X.env (h₀ :: hds)) (SP X pins D) X.xe s₃) X.xe s₂) X.xe s₁) (fun u s' xx => ?_) PassesOwn.looking).run [] s σ H D (I.toTry _) h) (fun f s1 hsp => ?_) (fun e s1 he => he)
  · obtain ⟨a, B, sI, pins', σ', H', cls, d, rfl, J', nb, up, sky, na, os, ag, w⟩ := xx
    have J : Inv X pins σ' H' sI := J'.ofTry ok
    have sky' : Sky B (X.env :: X.outer) a (L2N.Zn cls d) X.env.locals s'.heap := by rw [← hs]; exact sky
    show wpAny (model X.prog X.w) X.A (noteFrame (.ref a) X.env) _ _ _
    refine L2N.Sky.land L2N.Zn.steady hfr hf sky' fun h3 fl3 up3 => ?_
    have J3 : Inv X pins σ' H' { s' with heap := h3 } := J.landed nb fl3.1 (up.trans up3) os ag
    obtain ⟨oe3, vs3, he3, hz3, hd3⟩ := fl3.there
    have nfr : a ∉ frs (X.env :: X.outer) := fun hm => by
      obtain ⟨_, o', e', hnf⟩ := fl3.2.2.1.mem hm
      rw [he3] at e'; cases e'
      exact hnf _ hd3
    have nL : a ≠ X.env.locals := fun z => nfr (List.mem_filterMap.mpr ⟨X.env, List.mem_cons_self, by rw [hf, z]⟩)
    have nF : a ∉ X.fs := fun hm => by
      obtain ⟨e, he, q⟩ := List.mem_filterMap.mp hm
      exact nfr (List.mem_filterMap.mpr ⟨e, List.mem_cons_of_mem _ he, q⟩)
    have S3 := J3.suite he3 hd3 na nL nF
    have LT : PySem.W.Looks (model X.prog X.w) h3 (typeOf (.ref a)) cls := fun A Q E s k q => wpAny_typeOf_ref (k _ _ he3) (by rw [hz3.1]; exact q)
    have test : ∀ {x : Str} {c : Value} {np : Pos} {Q : Value → Shared → Prop} {E : Value → Shared → Prop}, Names X x c → Q c { s' with heap := h3 } → wpAny (model X.prog X.w) (X.A.mark (some (.ref a))) (eval (.Name x np) X.env) Q E { s' with heap := h3 } := fun {x c np Q E} hc q => by
      obtain ⟨hg, hdbg, hm | ⟨hm, hv, hnn⟩⟩ := hc
      · exact ld_glob (X := X.suite a ((a, oe3) :: (X.pn ++ pins))) S3 hg hm q hdbg
      · exact ld_blt (X := X.suite a ((a, oe3) :: (X.pn ++ pins))) S3 hg hm hv q hnn hdbg
    have go : ∀ {hds' : List ExceptHandler} {l' : List Clause}, HdsA X hds' l' → wManyA X.K Wout D l' cls d σ' H' →
        wpAny (model X.prog X.w) X.A (handleBy (.ref a) X.env hds') (SP X pins D) X.xe { s' with heap := h3 } := by
      intro hds' l' hk
      induction hk with
      | nil =>
        intro w
        refine wpAny_handleBy_nil ?_
        obtain ⟨k1, k2, k3, oe, vs, T, oT, ts', he, hz, hd, h1, hr⟩ := id fl3
        unfold PySem.passOn
        refine wpAny_bind (wpAny_field he hd h1 ?_)
        rw [if_neg (show ¬ ((Value.ref T == Value.none) = true) from by simp)]
        have fin : wpAny (model X.prog X.w) X.A (setFlight (.ref a) X.env.frame) (fun _ s4 => wpAny (model X.prog X.w) X.A (throw (.ref a) : Sem Flow) (SP X pins D) X.xe s4) X.xe { s' with heap := h3 } := by
          rw [hf]
          refine HandSPX.setFlight_upZ fl3 fun h4 hh4 up4 => wpAny_throw (tk _ _ ?_)
          exact ⟨a, B, sI, pins, σ', H', cls, d, rfl, J, nb, (up.trans up3).trans up4, .inr (.inr (by rw [hs]; exact hh4)), na, os, ag, w⟩
        first
          | exact wpAny_bind (wpAny_pure (wpAny_bind fin))
          | exact wpAny_bind fin
      | @cons x c ts b₀ suite np pos' hds2 l2 hc hsu r ih =>
        intro w
        obtain ⟨b, hb1, hyes, hno⟩ := w
        refine wpAny_handleBy_cons (codeAny_handlers_test ?_) (by intro q; cases q)
        refine test hc ((PySem.W.exm_one (M := model X.prog X.w) (J3.kIn) LT hb1).here ?_)
        cases b with
        | true =>
          refine codeAny_handlers_suite ?_
          refine HandSPX.lands_againZ fl3 fun h4 fl4 up4 => ?_
          have J4 : Inv X pins σ' H' { s' with heap := h4 } := J.landed nb fl4.1 ((up.trans up3).trans up4) os ag
          obtain ⟨oe4, vs4, he4, hz4, hd4⟩ := fl4.there
          have S4 := J4.suite he4 hd4 na nL nF
          refine wpAny_mono ((hsu a oe4 cls d (X.pn ++ pins) hz4 ⟨_, hd4⟩).run [] _ _ H' _ S4 (hyes rfl a na)) (fun f s6 hsp => ?_) (fun _ _ z => False.elim z)
          cases f with
          | ret u =>
            obtain ⟨v6, σ6, H6, S6, r6, q6⟩ := hsp
            exact ⟨_, _, _, S6.unsuite ok, r6, q6⟩
          | _ =>
            obtain ⟨σ6, H6, S6, q6⟩ := hsp
            exact ⟨_, _, S6.unsuite ok, q6⟩
        | false =>
          show wpAny _ X.A (handleBy (.ref a) X.env hds2) _ _ _
          exact ih (hno rfl)
      | @consA i x n c ts b₀ suite np pos' hds2 l2 hi hln hc hsu r ih =>
        intro w
        obtain ⟨b, hb1, hyes, hno⟩ := w
        refine wpAny_handleBy_cons (codeAny_handlers_test ?_) (by intro q; cases q)
        refine test hc ((PySem.W.exm_one (M := model X.prog X.w) (J3.kIn) LT hb1).here ?_)
        cases b with
        | true =>
          refine codeAny_handlers_suite_as ?_
          refine HandSPX.lands_againZ fl3 fun h4 fl4 up4 => ?_
          have J4 : Inv X pins σ' H' { s' with heap := h4 } := J.landed nb fl4.1 ((up.trans up3).trans up4) os ag
          obtain ⟨oe4, vs4, he4, hz4, hd4⟩ := fl4.there
          have S4 := J4.suite he4 hd4 na nL nF
          refine store_ok (X := X.suite a ((a, oe4) :: (X.pn ++ pins))) (v := .ref a) S4 hN hi (.inl hln) rfl (fun s5 S5 => ?_) (.inr hln)
          refine wpAny_mono ((hsu a oe4 cls d (X.pn ++ pins) hz4 ⟨_, hd4⟩).run [] s5 _ H' _ S5 (hyes rfl a na)) (fun f s6 hsp => ?_) (fun _ _ z => False.elim z)
          have end_ : ∀ {σ6 : L2.St} {H6 : Hp} {Q : Shared → Prop}, Inv (X.suite a ((a, oe4) :: (X.pn ++ pins))) [] σ6 H6 s6 → (∀ s7, Inv X pins (σ6.set i none) H6 s7 → Q s7) →
              wpAny (model X.prog X.w) X.A (do bindName X.env n .none; unbindBehindTheSuite X.env n pos') (fun _ s7 => Q s7) X.xe s6 := fun {σ6 H6 Q} S6 hq => gone_ok (S6.unsuite ok) hN hi hln hq
          cases f with
          | ret u =>
            obtain ⟨v6, σ6, H6, S6, r6, q6⟩ := hsp
            exact end_ S6 fun s7 J7 => ⟨_, _, _, J7, r6, q6⟩
          | _ =>
            obtain ⟨σ6, H6, S6, q6⟩ := hsp
            exact end_ S6 fun s7 J7 => ⟨_, _, J7, q6⟩
        | false =>
          show wpAny _ X.A (handleBy (.ref a) X.env hds2) _ _ _
          exact ih (hno rfl)
    exact go hh w
  · cases f with
    | ret u =>
      obtain ⟨v, σ', H', J', r, q⟩ := hsp
      exact ⟨v, σ', H', J'.ofTry ok, r, q⟩
    | next =>
      obtain ⟨σ', H', J', q⟩ := hsp
      exact wpAny_execs_nil ⟨σ', H', J'.ofTry ok, q⟩
    | _ =>
      obtain ⟨σ', H', J', q⟩ := hsp
      exact ⟨σ', H', J'.ofTry ok, q⟩
end
/-! ## a law's def called on the caught error -/
open L2H in
/-- what such a def promises while p is the error that is handled -/
structure FnP (P : Program) (w : World) (K : PySem.W.Frag) (mg : Str → Option Value) (base : Heap) (k : Nat) (f : Addr) (fd : FuncData) (ps : List Str) (p : Addr × Obj) (sp : Sp) : Prop where
  len : ∀ vs H Q E, sp vs H Q E → vs.length = ps.length
  run : ∀ (A : Around) (outer : List Env) (s : Shared) (H : Hp) (args : Args) (us : List Value) (vs : List V) (Q : VK) (E : XK), RoomH k A → Hot1 A p → PinOk outer H s p → Env0 P w K mg base A outer s H → BindsTo s fd args (ps.zip us) → Vals vs us → sp vs H Q E →
    codeAny (model P w) A (.call (.ref f) args) (CR CX0 outer P w H s Q E) s
open L2H in
theorem okP {P : Program} {w : World} {K : PySem.W.Frag} {mg : Str → Option Value} {base : Heap} {x qual : Str} {st : Stmt} {f : Addr} {fd : FuncData} {N ps : List Str} {k : Nat} {p : Addr × Obj} {sp : Sp} (F : Fun K x qual st f fd) (S : FnScope N ps (defScope st)) (len : ∀ vs H Q E, sp vs H Q E → vs.length = ps.length)
    (hbody : ∀ (cdv : Value) (A : Around) (outer : List Env) (s : Shared) (H : Hp) (vs : List V) (Q : VK) (E : XK), Hot1 A p → RoomH k (A.deeper (envOfC qual (defScope st) s.heap.objs.size f cdv)) → sp vs H Q E →
      ∃ t, PSs (cxH CX0 P w K mg base N qual (defScope st) f cdv A outer s H E p) (defBody st) t ∧ t { nx := fun _ H' => Q .non H', rt := Q } (L2.start N vs) H) : FnP P w K mg base (k + 1) f fd ps p sp := by
  obtain ⟨oc, od, kV, doc, pm, an, cdv, ct, osl, rfl, lk, hcd⟩ := F.ex
  refine ⟨len, fun A outer s H args us vs Q E hr hot hpin e0 hb r hsp => ?_⟩
  have hl := len _ _ _ _ hsp
  have kin : K.In s.heap := e0.mod.kin.keeps fun b o e => (e0.bs b o e).1
  have hkind : ∀ y ∈ ps.zip us, (defScope st).names.lookup y.1 = some .local ∨ ((defScope st).names.lookup y.1 = some .cell ∧ ((cellsFrom (s.heap.objs.size + 1) (defScope st).names []).lookup y.1).isSome = true) := fun ⟨n, v⟩ hy =>
    (S.par n (List.of_mem_zip hy).1).imp id fun q => ⟨q, PySem.W.cellsFrom_some _ _ _ (.inl q)⟩
  refine codeAny_call_function hr.depth (kin _ _ lk) rfl S.co S.gen rfl (PySem.W.codeRec_of kin hcd) (hb _ _ _ _ ?_)
  refine wpAny_newFunctionEnv_cells S.kind hkind fun env he s1 x => ?_
  subst he
  refine ⟨(e0.mod.nolimit.keeps fun b o e => (e0.bs b o e).1).keeps x.toInCall.keep, codeAny_func ?_⟩
  obtain ⟨t, ht, hq⟩ := hbody cdv A outer s H vs Q E hot (hr.deeper _) hsp
  refine wpAny_mono (ht.run [] s1 (L2.start N vs) H _ (inv_startH S hpin e0 hl r x) hq) (fun fl s' hs => ?_) fun e s' hs => hs
  cases fl with
  | ret u =>
    obtain ⟨v, σ', H', J, rv, q⟩ := hs
    exact ⟨v, H', J.os, J.bare, J.base, J.hok, rv, q⟩
  | next =>
    obtain ⟨σ', H', J, q⟩ := hs
    exact ⟨V.non, H', J.os, J.bare, J.base, J.hok, rfl, q⟩
  | brk =>
    obtain ⟨_, _, _, q⟩ := hs
    exact q.elim
  | cont =>
    obtain ⟨_, _, _, q⟩ := hs
    exact q.elim
open L2H in
theorem pe_callP {X : Cx} {k : Nat} {f : Addr} {fd : FuncData} {ps : List Str} {p : Addr × Obj} {sp : Sp} {x : Str} {q pos : Pos} {e : Expr} {es : List Expr} {t : TA} (F : FnP X.prog X.w X.K X.mg X.base k f fd ps p sp) (hr : RoomH k X.A) (hot : Hot1 X.A p) (hp : p ∈ X.pn) (hg : Gl X x) (hm : X.mg x = some (.ref f)) (hk : PySem.W.keepIn X.K (.ref f) = true) (hb : Binds X.K fd ps [])
    (ha : PA X (e :: es) t) (hdb : (x == ("__debug__" : Str)) = false := by decide) (he : starEach (e :: es) X.env = (false, eval e X.env) :: starEach es X.env := by rfl) (hpl : (backTo pos (starEach es X.env)).any (·.1) = false := by rfl) :
    PE X (.Call (.Name x q) (e :: es) [] pos) (tCallS sp (fun _ => E0) t) := by
  refine ⟨fun pins s σ H Q I h => ?_⟩
  refine wpAny_Call_Name_kw (ld_glob I hg hm ?_ hdb)
  refine PySem.W.callWith_K (h₀ := X.base) I.ok.mod.kin hk (thn (ha.run pos pins s σ H _ I h) fun us s1 ⟨vs, H1, I1, r, q⟩ => ⟨I1.kIn, ?_⟩) he hpl
  have hl : us.length = ps.length := by rw [← r.length]; exact F.len _ _ _ _ q
  have b := hb s1 us I1.kIn (by rw [List.append_nil]; exact hl)
  rw [List.append_nil] at b
  obtain ⟨p1, p2, p3, p4, p5⟩ := I1.pin p (List.mem_append_left _ hp)
  refine wpAny_call (codeAny_mono (F.run X.A X.stack s1 H1 ⟨us, []⟩ us vs Q E0 hr hot ⟨p1, p2, fun hm => (List.mem_cons.mp (I1.stkSub p.1 hm)).elim p3 p4, p5⟩ I1.env0 b r q) fun r s' hq => ?_)
  cases r with
  | error e => exact False.elim hq
  | ok fl =>
    cases fl with
    | ret u => exact I1.after hq
    | _ => exact False.elim hq
theorem call_isP {X : Cx} {p : Addr × Obj} {D : Addr} (hp : p ∈ X.pn) (C : ExcC X.K D) (hz : Zc (.ref D) none p.2) (hf : ∃ vs, p.2.data = .fields vs) : CallR X (.builtin "isinstance") (rIsE X.K D p.1) := by
  intro pins s σ H xs us Q I r h
  obtain ⟨c, cv, b, rfl, hcv, e, q⟩ := h
  cases r with
  | cons rx rr =>
    cases rr with
    | cons rt rr =>
      cases rr
      cases rx
      have ec := hcv _ rt
      subst ec
      obtain ⟨hget, _⟩ := I.pin p (List.mem_append_left _ hp)
      obtain ⟨vs, hv⟩ := hf
      have J : PySem.W.InstAt s.heap p.1 p.2 D none := by
        obtain ⟨pa, oc, od, oda, osl⟩ := p
        obtain ⟨h1, h2⟩ := hz
        dsimp only at h1 h2 hv hget ⊢
        subst h1 h2 hv
        exact ⟨hget, rfl, rfl, trivial⟩
      exact PySem.W.kia_one (PySem.W.handS_kitx_exc C.hg C.hk C.hs C.hd C.ha C.hn C.ht C.hm) I.kIn J e (fun z => nomatch z) fun tk => ⟨.bl b, H, I.kept (t' := tk) fun _ _ z => z, rfl, q⟩
theorem hot2 {cls : Value} {d : Option Addr} {oe : Obj} (hz : L2N.Zn cls d oe) (hf : ∃ vs, oe.data = .fields vs) : ∃ vs : Array Value, oe.data = .fields vs ∧ vs[2]? = some .none := by
  obtain ⟨vs, e⟩ := hf
  exact ⟨vs, e, hz.2.2 vs e⟩
theorem rd_isE {K : PySem.W.Frag} {D a C : Addr} {b : Bool} {H : Hp} {Q : VK} (e : PySem.W.kitOne K (.ref D) (.ref C) = some b) (q : Q (.bl b) H) : rIsE K D a [.ref a, .ref C] H Q := ⟨.ref C, .ref C, b, rfl, fun _ r => r, e, q⟩
theorem rd_isT {K : PySem.W.Frag} {D a : Addr} {n : String} {b : Bool} {H : Hp} {Q : VK} (e : PySem.W.kitOne K (.ref D) (.type n) = some b) (q : Q (.bl b) H) : rIsE K D a [.ref a, .ty n] H Q := ⟨.ty n, .type n, b, rfl, fun _ r => r, e, q⟩
theorem roomM {j k : Nat} {A : Around} {v : Option Value} (r : Room k A) (h : j ≤ k) : L2H.RoomH j (A.mark v) := ⟨(r.mono h).dp, (r.mono h).un⟩
/-- a for over a tuple, its body not yet opened -/
abbrev ForT (K : PySem.W.Frag) (a : Addr) (xs : List V) (g : TG) (tb : TS) (D : Ends) (σ : L2.St) (H : Hp) : Prop := ∃ Pv : Nat → L2.St → Hp → Prop, Pv 0 σ H ∧ (∀ i σ H, i ≤ xs.length → Pv i σ H → SqT K H a xs) ∧
  (∀ i x σ H, xs[i]? = some x → Pv i σ H → g x σ H fun σ2 H2 => tb { D with nx := Pv (i + 1), ct := Pv (i + 1), bk := D.nx } σ2 H2) ∧ (∀ σ H, Pv xs.length σ H → D.nx σ H)
theorem rd_forTup {K : PySem.W.Frag} {tl : TE} {g : TG} {tb : TS} {D : Ends} {σ : L2.St} {H : Hp} (mono : ∀ σ H Q Q', (∀ x H1, Q x H1 → Q' x H1) → tl σ H Q → tl σ H Q') (q : tl σ H fun x H1 => ∃ a xs, x = .ref a ∧ SqT K H1 a xs ∧ ForT K a xs g tb D σ H1) : tFor (iTup K tl) g tb D σ H := by
  refine mono σ H _ _ (fun x H1 h => ?_) q
  obtain ⟨a, xs, e, hs, Pv, h0, hl, h1, h2⟩ := h
  exact ⟨a, e, ⟨xs, hs⟩, for_tup Pv h0 hl h1 h2⟩


def top (i : Nat) : Stmt := PySem.Challenge.pw_hillsight_k02_what_hides.main.body.getD i (.Pass ⟨0, 0, 0, 0⟩)
abbrev s_is_whole : Stmt := top 8
abbrev s_need_hill : Stmt := top 9
abbrev s_need_two : Stmt := top 10
abbrev s_slope : Stmt := top 11
abbrev s_steeper : Stmt := top 12
abbrev s_steepest : Stmt := top 14
abbrev s_hider : Stmt := top 15
abbrev s_sees : Stmt := top 16
abbrev s_law_sole : Stmt := top 18
abbrev s_law_whole : Stmt := top 19
abbrev s_law_cell_at : Stmt := top 20
abbrev s_law_height_by : Stmt := top 21
abbrev s_law_longer : Stmt := top 22
abbrev s_law_land_by : Stmt := top 23
abbrev s_law_above : Stmt := top 24
abbrev s_law_hider_by : Stmt := top 25
abbrev s_law_refused : Stmt := top 26
abbrev s_law : Stmt := top 27
theorem sc_is_whole : FnScope ["thing"] ["thing"] (defScope s_is_whole) := ⟨rfl, rfl, rfl, by decide +kernel, rfl, by decide +kernel, by decide +kernel⟩
theorem sc_need_hill : FnScope ["land", "place"] ["land", "place"] (defScope s_need_hill) := ⟨rfl, rfl, rfl, by decide +kernel, rfl, by decide +kernel, by decide +kernel⟩
theorem sc_need_two : FnScope ["land", "a", "b"] ["land", "a", "b"] (defScope s_need_two) := ⟨rfl, rfl, rfl, by decide +kernel, rfl, by decide +kernel, by decide +kernel⟩
theorem sc_slope : FnScope ["land", "a", "b"] ["land", "a", "b"] (defScope s_slope) := ⟨rfl, rfl, rfl, by decide +kernel, rfl, by decide +kernel, by decide +kernel⟩
theorem sc_steeper : FnScope ["one", "other"] ["one", "other"] (defScope s_steeper) := ⟨rfl, rfl, rfl, by decide +kernel, rfl, by decide +kernel, by decide +kernel⟩
theorem sc_steepest : FnScope ["land", "low", "high", "found", "place"] ["land", "low", "high"] (defScope s_steepest) := ⟨rfl, rfl, rfl, by decide +kernel, rfl, by decide +kernel, by decide +kernel⟩
theorem sc_hider : FnScope ["land", "a", "b", "low", "high", "found"] ["land", "a", "b"] (defScope s_hider) := ⟨rfl, rfl, rfl, by decide +kernel, rfl, by decide +kernel, by decide +kernel⟩
theorem sc_sees : FnScope ["land", "a", "b"] ["land", "a", "b"] (defScope s_sees) := ⟨rfl, rfl, rfl, by decide +kernel, rfl, by decide +kernel, by decide +kernel⟩
theorem sc_law_sole : FnScope ["_law_error", "_law_many"] ["_law_error"] (defScope s_law_sole) := ⟨rfl, rfl, rfl, by decide +kernel, rfl, by decide +kernel, by decide +kernel⟩
theorem sc_law_whole : FnScope ["_law_found"] ["_law_found"] (defScope s_law_whole) := ⟨rfl, rfl, rfl, by decide +kernel, rfl, by decide +kernel, by decide +kernel⟩
theorem sc_law_cell_at : FnScope ["_law_script", "_law_k"] ["_law_script", "_law_k"] (defScope s_law_cell_at) := ⟨rfl, rfl, rfl, by decide +kernel, rfl, by decide +kernel, by decide +kernel⟩
theorem sc_law_height_by : FnScope ["_law_cell", "_law_k", "_law_kind", "_law_tilt", "_law_far"] ["_law_cell", "_law_k", "_law_kind", "_law_tilt"] (defScope s_law_height_by) := ⟨rfl, rfl, rfl, by decide +kernel, rfl, by decide +kernel, by decide +kernel⟩
theorem sc_law_longer : FnScope ["_law_script", "_law_land", "_law_most", "_law_many", "_law_head", "_law_tilt", "_law_found", "_law_k", "_law_cell"] ["_law_script", "_law_land", "_law_most", "_law_many"] (defScope s_law_longer) := ⟨rfl, rfl, rfl, by decide +kernel, rfl, by decide +kernel, by decide +kernel⟩
theorem sc_law_land_by : FnScope ["_law_script", "_law_most", "_law_head", "_law_size", "_law_kind", "_law_tilt", "_law_k"] ["_law_script", "_law_most"] (defScope s_law_land_by) := ⟨rfl, rfl, rfl, by decide +kernel, rfl, by decide +kernel, by decide +kernel⟩
theorem sc_law_above : FnScope ["_law_land", "_law_low", "_law_one", "_law_other", "_law_rise"] ["_law_land", "_law_low", "_law_one", "_law_other"] (defScope s_law_above) := ⟨rfl, rfl, rfl, by decide +kernel, rfl, by decide +kernel, by decide +kernel⟩
theorem sc_law_hider_by : FnScope ["_law_land", "_law_low", "_law_high", "_law_found", "_law_k"] ["_law_land", "_law_low", "_law_high"] (defScope s_law_hider_by) := ⟨rfl, rfl, rfl, by decide +kernel, rfl, by decide +kernel, by decide +kernel⟩
theorem sc_law_refused : FnScope ["_law_land", "_law_a", "_law_b", "_law_words", "_law_asked", "_law_error"] ["_law_land", "_law_a", "_law_b"] (defScope s_law_refused) := ⟨rfl, rfl, rfl, by decide +kernel, rfl, by decide +kernel, by decide +kernel⟩
theorem sc_law : FnScope ["_law_script", "_law_land", "_law_handed", "_law_a", "_law_b", "_law_strange", "_law_turn", "_law_due", "_law_found", "_law_seen"] ["_law_script"] (defScope s_law) := ⟨rfl, rfl, rfl, by decide +kernel, rfl, by decide +kernel, by decide +kernel⟩
structure Txt (K : PySem.W.Frag) (mg : Str → Option Value) where
  a_is_whole : Addr
  d_is_whole : FuncData
  F_is_whole : Fun K "is_whole" "is_whole" s_is_whole a_is_whole d_is_whole
  b_is_whole : Binds K d_is_whole ["thing"] []
  g_is_whole : mg "is_whole" = some (.ref a_is_whole)
  a_need_hill : Addr
  d_need_hill : FuncData
  F_need_hill : Fun K "need_hill" "need_hill" s_need_hill a_need_hill d_need_hill
  b_need_hill : Binds K d_need_hill ["land", "place"] []
  g_need_hill : mg "need_hill" = some (.ref a_need_hill)
  a_need_two : Addr
  d_need_two : FuncData
  F_need_two : Fun K "need_two" "need_two" s_need_two a_need_two d_need_two
  b_need_two : Binds K d_need_two ["land", "a", "b"] []
  g_need_two : mg "need_two" = some (.ref a_need_two)
  a_slope : Addr
  d_slope : FuncData
  F_slope : Fun K "slope" "slope" s_slope a_slope d_slope
  b_slope : Binds K d_slope ["land", "a", "b"] []
  g_slope : mg "slope" = some (.ref a_slope)
  a_steeper : Addr
  d_steeper : FuncData
  F_steeper : Fun K "steeper" "steeper" s_steeper a_steeper d_steeper
  b_steeper : Binds K d_steeper ["one", "other"] []
  g_steeper : mg "steeper" = some (.ref a_steeper)
  a_steepest : Addr
  d_steepest : FuncData
  F_steepest : Fun K "steepest" "steepest" s_steepest a_steepest d_steepest
  b_steepest : Binds K d_steepest ["land", "low", "high"] []
  g_steepest : mg "steepest" = some (.ref a_steepest)
  a_hider : Addr
  d_hider : FuncData
  F_hider : Fun K "hider" "hider" s_hider a_hider d_hider
  b_hider : Binds K d_hider ["land", "a", "b"] []
  g_hider : mg "hider" = some (.ref a_hider)
  a_sees : Addr
  d_sees : FuncData
  F_sees : Fun K "sees" "sees" s_sees a_sees d_sees
  b_sees : Binds K d_sees ["land", "a", "b"] []
  g_sees : mg "sees" = some (.ref a_sees)
  a_law_sole : Addr
  d_law_sole : FuncData
  F_law_sole : Fun K "_law_sole" "_law_sole" s_law_sole a_law_sole d_law_sole
  b_law_sole : Binds K d_law_sole ["_law_error"] []
  g_law_sole : mg "_law_sole" = some (.ref a_law_sole)
  a_law_whole : Addr
  d_law_whole : FuncData
  F_law_whole : Fun K "_law_whole" "_law_whole" s_law_whole a_law_whole d_law_whole
  b_law_whole : Binds K d_law_whole ["_law_found"] []
  g_law_whole : mg "_law_whole" = some (.ref a_law_whole)
  a_law_cell_at : Addr
  d_law_cell_at : FuncData
  F_law_cell_at : Fun K "_law_cell_at" "_law_cell_at" s_law_cell_at a_law_cell_at d_law_cell_at
  b_law_cell_at : Binds K d_law_cell_at ["_law_script", "_law_k"] []
  g_law_cell_at : mg "_law_cell_at" = some (.ref a_law_cell_at)
  a_law_height_by : Addr
  d_law_height_by : FuncData
  F_law_height_by : Fun K "_law_height_by" "_law_height_by" s_law_height_by a_law_height_by d_law_height_by
  b_law_height_by : Binds K d_law_height_by ["_law_cell", "_law_k", "_law_kind", "_law_tilt"] []
  g_law_height_by : mg "_law_height_by" = some (.ref a_law_height_by)
  a_law_longer : Addr
  d_law_longer : FuncData
  F_law_longer : Fun K "_law_longer" "_law_longer" s_law_longer a_law_longer d_law_longer
  b_law_longer : Binds K d_law_longer ["_law_script", "_law_land", "_law_most", "_law_many"] []
  g_law_longer : mg "_law_longer" = some (.ref a_law_longer)
  a_law_land_by : Addr
  d_law_land_by : FuncData
  F_law_land_by : Fun K "_law_land_by" "_law_land_by" s_law_land_by a_law_land_by d_law_land_by
  b_law_land_by : Binds K d_law_land_by ["_law_script", "_law_most"] []
  g_law_land_by : mg "_law_land_by" = some (.ref a_law_land_by)
  a_law_above : Addr
  d_law_above : FuncData
  F_law_above : Fun K "_law_above" "_law_above" s_law_above a_law_above d_law_above
  b_law_above : Binds K d_law_above ["_law_land", "_law_low", "_law_one", "_law_other"] []
  g_law_above : mg "_law_above" = some (.ref a_law_above)
  a_law_hider_by : Addr
  d_law_hider_by : FuncData
  F_law_hider_by : Fun K "_law_hider_by" "_law_hider_by" s_law_hider_by a_law_hider_by d_law_hider_by
  b_law_hider_by : Binds K d_law_hider_by ["_law_land", "_law_low", "_law_high"] []
  g_law_hider_by : mg "_law_hider_by" = some (.ref a_law_hider_by)
  a_law_refused : Addr
  d_law_refused : FuncData
  F_law_refused : Fun K "_law_refused" "_law_refused" s_law_refused a_law_refused d_law_refused
  b_law_refused : Binds K d_law_refused ["_law_land", "_law_a", "_law_b"] []
  g_law_refused : mg "_law_refused" = some (.ref a_law_refused)
  a_law : Addr
  d_law : FuncData
  F_law : Fun K "law" "law" s_law a_law d_law
  b_law : Binds K d_law ["_law_script"] []
  g_law : mg "law" = some (.ref a_law)
  c_HillError : Addr
  g_HillError : mg "HillError" = some (.ref c_HillError)
  x_HillError : PySem.W.excIn K c_HillError [.type "ValueError", .type "Exception", .type "BaseException", .type "object"] "ValueError.__new__" = true
  k_HillError : PySem.W.keepIn K (.ref c_HillError) = true
  e_HillError : PySem.W.subIn K (.ref c_HillError) (.type "BaseException") = some true
  t_HillError : PySem.W.typeIn K (.ref c_HillError) = some (.type "type")
  i_HillError : PySem.W.isClsIn K c_HillError = true
  c_NoLand : Addr
  g_NoLand : mg "NoLand" = some (.ref c_NoLand)
  x_NoLand : PySem.W.excIn K c_NoLand [.type "ValueError", .type "Exception", .type "BaseException", .type "object"] "ValueError.__new__" = true
  k_NoLand : PySem.W.keepIn K (.ref c_NoLand) = true
  e_NoLand : PySem.W.subIn K (.ref c_NoLand) (.type "BaseException") = some true
  t_NoLand : PySem.W.typeIn K (.ref c_NoLand) = some (.type "type")
  i_NoLand : PySem.W.isClsIn K c_NoLand = true
  c_NoHill : Addr
  g_NoHill : mg "NoHill" = some (.ref c_NoHill)
  x_NoHill : PySem.W.excIn K c_NoHill [.type "ValueError", .type "Exception", .type "BaseException", .type "object"] "ValueError.__new__" = true
  k_NoHill : PySem.W.keepIn K (.ref c_NoHill) = true
  e_NoHill : PySem.W.subIn K (.ref c_NoHill) (.type "BaseException") = some true
  t_NoHill : PySem.W.typeIn K (.ref c_NoHill) = some (.type "type")
  i_NoHill : PySem.W.isClsIn K c_NoHill = true
  c_SameHill : Addr
  g_SameHill : mg "SameHill" = some (.ref c_SameHill)
  x_SameHill : PySem.W.excIn K c_SameHill [.type "ValueError", .type "Exception", .type "BaseException", .type "object"] "ValueError.__new__" = true
  k_SameHill : PySem.W.keepIn K (.ref c_SameHill) = true
  e_SameHill : PySem.W.subIn K (.ref c_SameHill) (.type "BaseException") = some true
  t_SameHill : PySem.W.typeIn K (.ref c_SameHill) = some (.type "type")
  i_SameHill : PySem.W.isClsIn K c_SameHill = true
  c_TooHigh : Addr
  g_TooHigh : mg "TooHigh" = some (.ref c_TooHigh)
  x_TooHigh : PySem.W.excIn K c_TooHigh [.type "ValueError", .type "Exception", .type "BaseException", .type "object"] "ValueError.__new__" = true
  k_TooHigh : PySem.W.keepIn K (.ref c_TooHigh) = true
  e_TooHigh : PySem.W.subIn K (.ref c_TooHigh) (.type "BaseException") = some true
  t_TooHigh : PySem.W.typeIn K (.ref c_TooHigh) = some (.type "type")
  i_TooHigh : PySem.W.isClsIn K c_TooHigh = true
  c_NothingDone : Addr
  g_NothingDone : mg "NothingDone" = some (.ref c_NothingDone)
  x_NothingDone : PySem.W.excIn K c_NothingDone [.type "ValueError", .type "Exception", .type "BaseException", .type "object"] "ValueError.__new__" = true
  k_NothingDone : PySem.W.keepIn K (.ref c_NothingDone) = true
  e_NothingDone : PySem.W.subIn K (.ref c_NothingDone) (.type "BaseException") = some true
  t_NothingDone : PySem.W.typeIn K (.ref c_NothingDone) = some (.type "type")
  i_NothingDone : PySem.W.isClsIn K c_NothingDone = true
  s_NoHill_NoHill : PySem.W.subIn K (.ref c_NoHill) (.ref c_NoHill) = some true
  s_NoHill_SameHill : PySem.W.subIn K (.ref c_NoHill) (.ref c_SameHill) = some false
  s_SameHill_SameHill : PySem.W.subIn K (.ref c_SameHill) (.ref c_SameHill) = some true
  s_SameHill_NoHill : PySem.W.subIn K (.ref c_SameHill) (.ref c_NoHill) = some false
  hn_obj : PySem.W.specialIn K (.builtin "object.__class__") "__get__" = some (some (.builtin "getset_descriptor.__get__"))
  ht_obj : PySem.W.takesIn K (.builtin "object.__class__") = some true
  hg_NoHill : PySem.W.findIn K (.ref c_NoHill) "__getattribute__" = some (some (.builtin "BaseException.__getattribute__"))
  hk_NoHill : PySem.W.findIn K (.ref c_NoHill) "__getattr__" = some none
  hd_NoHill : PySem.W.hasDictIn K c_NoHill = true
  ha_NoHill : PySem.W.findIn K (.ref c_NoHill) "__class__" = some (some (.builtin "object.__class__"))
  hm_NoHill : PySem.W.mroIn K c_NoHill (.type "object") = some true
  kv_NoHill : PySem.W.kitOne K (.ref c_NoHill) (.type "ValueError") = some true
  kt_NoHill_NoLand : PySem.W.kitOne K (.ref c_NoHill) (.ref c_NoLand) = some false
  kt_NoHill_NoHill : PySem.W.kitOne K (.ref c_NoHill) (.ref c_NoHill) = some true
  kt_NoHill_SameHill : PySem.W.kitOne K (.ref c_NoHill) (.ref c_SameHill) = some false
  kt_NoHill_TooHigh : PySem.W.kitOne K (.ref c_NoHill) (.ref c_TooHigh) = some false
  kt_NoHill_NothingDone : PySem.W.kitOne K (.ref c_NoHill) (.ref c_NothingDone) = some false
  kt_NoHill_HillError : PySem.W.kitOne K (.ref c_NoHill) (.ref c_HillError) = some true
  hg_SameHill : PySem.W.findIn K (.ref c_SameHill) "__getattribute__" = some (some (.builtin "BaseException.__getattribute__"))
  hk_SameHill : PySem.W.findIn K (.ref c_SameHill) "__getattr__" = some none
  hd_SameHill : PySem.W.hasDictIn K c_SameHill = true
  ha_SameHill : PySem.W.findIn K (.ref c_SameHill) "__class__" = some (some (.builtin "object.__class__"))
  hm_SameHill : PySem.W.mroIn K c_SameHill (.type "object") = some true
  kv_SameHill : PySem.W.kitOne K (.ref c_SameHill) (.type "ValueError") = some true
  kt_SameHill_NoLand : PySem.W.kitOne K (.ref c_SameHill) (.ref c_NoLand) = some false
  kt_SameHill_NoHill : PySem.W.kitOne K (.ref c_SameHill) (.ref c_NoHill) = some false
  kt_SameHill_SameHill : PySem.W.kitOne K (.ref c_SameHill) (.ref c_SameHill) = some true
  kt_SameHill_TooHigh : PySem.W.kitOne K (.ref c_SameHill) (.ref c_TooHigh) = some false
  kt_SameHill_NothingDone : PySem.W.kitOne K (.ref c_SameHill) (.ref c_NothingDone) = some false
  kt_SameHill_HillError : PySem.W.kitOne K (.ref c_SameHill) (.ref c_HillError) = some true
  n_ValueError : mg "ValueError" = none
  n_bool : mg "bool" = none
  n_int : mg "int" = none
  n_isinstance : mg "isinstance" = none
  n_len : mg "len" = none
  n_list : mg "list" = none
  n_max : mg "max" = none
  n_min : mg "min" = none
  n_range : mg "range" = none
section
variable {P : Program} {w : World} {K : PySem.W.Frag} {mg : Str → Option Value} {base : Heap}
/-! ## sole -/
/-- which errors may be asked -/
structure Sole (T : Txt K mg) (D : Addr) (b1 b2 b3 b4 b5 : Bool) : Prop where
  ec : ExcC K D
  k1 : PySem.W.kitOne K (.ref D) (.ref T.c_NoLand) = some b1
  k2 : PySem.W.kitOne K (.ref D) (.ref T.c_NoHill) = some b2
  k3 : PySem.W.kitOne K (.ref D) (.ref T.c_SameHill) = some b3
  k4 : PySem.W.kitOne K (.ref D) (.ref T.c_TooHigh) = some b4
  k5 : PySem.W.kitOne K (.ref D) (.ref T.c_NothingDone) = some b5
  k6 : PySem.W.kitOne K (.ref D) (.ref T.c_HillError) = some true
  k7 : PySem.W.kitOne K (.ref D) (.type "ValueError") = some true
  one : (0 : Int) + (if b1 = true then 1 else 0) + (if b2 = true then 1 else 0) + (if b3 = true then 1 else 0) + (if b4 = true then 1 else 0) + (if b5 = true then 1 else 0) = 1
def spSole (T : Txt K mg) (a : Addr) (cls : Value) (d : Option Addr) : Sp := fun vs H Q _ => vs = [.ref a] ∧ d = none ∧ (∃ D b1 b2 b3 b4 b5, cls = .ref D ∧ Sole T D b1 b2 b3 b4 b5) ∧ Q (.bl true) H
theorem okP_law_sole (T : Txt K mg) {p : Addr × Obj} {cls : Value} {d : Option Addr} (hz : L2N.Zn cls d p.2) (hf : ∃ vs, p.2.data = .fields vs) : FnP P w K mg base 1 T.a_law_sole T.d_law_sole ["_law_error"] p (spSole T p.1 cls d) := by
  refine okP T.F_law_sole sc_law_sole (fun vs H Q E h => ?_) (fun cdv A outer s H vs Q E hot hr h => ?_)
  · obtain ⟨rfl, _⟩ := h
    rfl
  · obtain ⟨rfl, rfl, ⟨D, b1, b2, b3, b4, b5, rfl, S⟩, q⟩ := h
    have C := S.ec
    have hz' : Zc (.ref D) none p.2 := hz.zc
    refine ⟨_, (pss_cons (ps_set (i := 1) sc_law_sole.nd rfl (Or.inl rfl) pe_int)
      (pss_cons (ps_set (i := 1) sc_law_sole.nd rfl (Or.inl rfl) (pe_op op_add (pv 1) (pe_callTy call_int1 rfl T.n_int (by decide +kernel) (pa_cons (pe_callB (call_isP (p := p) (show p ∈ [p] from List.mem_singleton.mpr rfl) C hz' hf) rfl T.n_isinstance (by decide +kernel) (pa_cons (pv 0) (pa_cons (pe_glob (v := .ref T.c_NoLand) rfl T.g_NoLand rfl) pa_nil))) pa_nil))))
      (pss_cons (ps_set (i := 1) sc_law_sole.nd rfl (Or.inl rfl) (pe_op op_add (pv 1) (pe_callTy call_int1 rfl T.n_int (by decide +kernel) (pa_cons (pe_callB (call_isP (p := p) (show p ∈ [p] from List.mem_singleton.mpr rfl) C hz' hf) rfl T.n_isinstance (by decide +kernel) (pa_cons (pv 0) (pa_cons (pe_glob (v := .ref T.c_NoHill) rfl T.g_NoHill rfl) pa_nil))) pa_nil))))
      (pss_cons (ps_set (i := 1) sc_law_sole.nd rfl (Or.inl rfl) (pe_op op_add (pv 1) (pe_callTy call_int1 rfl T.n_int (by decide +kernel) (pa_cons (pe_callB (call_isP (p := p) (show p ∈ [p] from List.mem_singleton.mpr rfl) C hz' hf) rfl T.n_isinstance (by decide +kernel) (pa_cons (pv 0) (pa_cons (pe_glob (v := .ref T.c_SameHill) rfl T.g_SameHill rfl) pa_nil))) pa_nil))))
      (pss_cons (ps_set (i := 1) sc_law_sole.nd rfl (Or.inl rfl) (pe_op op_add (pv 1) (pe_callTy call_int1 rfl T.n_int (by decide +kernel) (pa_cons (pe_callB (call_isP (p := p) (show p ∈ [p] from List.mem_singleton.mpr rfl) C hz' hf) rfl T.n_isinstance (by decide +kernel) (pa_cons (pv 0) (pa_cons (pe_glob (v := .ref T.c_TooHigh) rfl T.g_TooHigh rfl) pa_nil))) pa_nil))))
      (pss_cons (ps_set (i := 1) sc_law_sole.nd rfl (Or.inl rfl) (pe_op op_add (pv 1) (pe_callTy call_int1 rfl T.n_int (by decide +kernel) (pa_cons (pe_callB (call_isP (p := p) (show p ∈ [p] from List.mem_singleton.mpr rfl) C hz' hf) rfl T.n_isinstance (by decide +kernel) (pa_cons (pv 0) (pa_cons (pe_glob (v := .ref T.c_NothingDone) rfl T.g_NothingDone rfl) pa_nil))) pa_nil))))
      (pss_one (ps_ret (pe_and (pe_cmpR op_eq (pv 1) pe_int (nomark _)) (pe_and (pe_callB (call_isP (p := p) (show p ∈ [p] from List.mem_singleton.mpr rfl) C hz' hf) rfl T.n_isinstance (by decide +kernel) (pa_cons (pv 0) (pa_cons (pe_glob (v := .ref T.c_HillError) rfl T.g_HillError rfl) pa_nil))) (pe_one (pe_callB (call_isP (p := p) (show p ∈ [p] from List.mem_singleton.mpr rfl) C hz' hf) rfl T.n_isinstance (by decide +kernel) (pa_cons (pv 0) (pa_cons (pe_bltn (v := .ty "ValueError") (by rfl) T.n_ValueError (by decide +kernel) rfl) pa_nil)))))))))))))), ?_⟩
    walk_at "rd"
    refine rd_isE S.k1 ?_
    refine .inr ⟨_, rfl, ?_⟩
    walk_at "rd"
    refine rd_isE S.k2 ?_
    refine .inr ⟨_, rfl, ?_⟩
    walk_at "rd"
    refine rd_isE S.k3 ?_
    refine .inr ⟨_, rfl, ?_⟩
    walk_at "rd"
    refine rd_isE S.k4 ?_
    refine .inr ⟨_, rfl, ?_⟩
    walk_at "rd"
    refine rd_isE S.k5 ?_
    refine .inr ⟨_, rfl, ?_⟩
    walk_at "rd"
    rw [S.one]
    walk_at "rd"
    refine rd_yes (by simp) ?_
    walk_at "rd"
    refine rd_isE S.k6 ?_
    walk_at "rd"
    refine rd_isT S.k7 ?_
    exact q

theorem ok_law_cell_at (T : Txt K mg) : FnOk P w K mg base CX0 1 T.a_law_cell_at T.d_law_cell_at ["_law_script", "_law_k"] (spCell K) := by
  refine T.F_law_cell_at.ok sc_law_cell_at (fun vs H Q E h => ?_) (fun cdv A outer s H vs Q E hr h => ⟨_, (pss_cons (ps_if (pt_cmpR op_lt (pv 1) (pe_callB (call_lenK (K := K) rfl) rfl T.n_len (by decide +kernel) (pa_cons (pv 0) pa_nil)) (nomark _)) (pss_one (ps_ret (pe_ix (ix_listK (K := K) rfl) (pv 0) (pv 1) (fun _ _ => rfl)))) pss_nil)
      (pss_one (ps_ret pe_int))), ?_⟩)
  · obtain ⟨l, ns, k, rfl, _⟩ := h
    rfl
  · obtain ⟨l, ns, k, rfl, h0, hS, q⟩ := h
    walk_at "rd"
    refine ite2 (fun c => ?_) (fun c => ?_)
    · have c' : k < (ns.length : Int) := by simpa using c
      walk_at "rd"
      exact rd_ixL hS (IL_at h0 c') q
    · have c' : ¬ k < (ns.length : Int) := by simpa using c
      walk_at "rd"
      have e : cell ns k.toNat = 0 := by
        unfold cell
        rw [List.getD_eq_getElem?_getD, List.getElem?_eq_none (by omega)]
        rfl
      rw [e] at q
      exact q

theorem ok_law_whole (T : Txt K mg) : FnOk P w K mg base CX0 1 T.a_law_whole T.d_law_whole ["_law_found"] (spWhole K) := by
  refine T.F_law_whole.ok sc_law_whole (fun vs H Q E h => ?_) (fun cdv A outer s H vs Q E hr h => ⟨_, (pss_one (ps_ret (pe_and (pe_callB (call_isiK0 (K := K) rfl) rfl T.n_isinstance (by decide +kernel) (pa_cons (pv 0) (pa_cons (pe_bltn (v := .ty "int") (by rfl) T.n_int (by decide +kernel) rfl) pa_nil))) (pe_one (pe_not (pe_callB (call_isiK0 (K := K) rfl) rfl T.n_isinstance (by decide +kernel) (pa_cons (pv 0) (pa_cons (pe_bltn (v := .ty "bool") (by rfl) T.n_bool (by decide +kernel) rfl) pa_nil)))))))), ?_⟩)
  · obtain ⟨x, r, rfl, _⟩ := h
    rfl
  · exact whole_run h

/-! ## heights and lands of the script -/
def Bd (z : Int) : Prop := -1000000000000000000 ≤ z ∧ z ≤ 1000000000000000000
theorem FAR_eq : (10 : Int) ^ (18 : Int).toNat = 1000000000000000000 := by decide +kernel
theorem tilt_b {t k : Int} (ht : -3 ≤ t ∧ t ≤ 3) (hk : 0 ≤ k ∧ k ≤ 1000) : -3000 ≤ t * k ∧ t * k ≤ 3000 := by
  have : t = -3 ∨ t = -2 ∨ t = -1 ∨ t = 0 ∨ t = 1 ∨ t = 2 ∨ t = 3 := by omega
  rcases this with h | h | h | h | h | h | h <;> subst h <;> omega
theorem sq_b {k u : Int} (hk : 0 ≤ k ∧ k ≤ 1000) (hu : -1 ≤ u ∧ u ≤ 1) : -1000000 ≤ k * k * u ∧ k * k * u ≤ 1000000 := by
  have h1 : 0 ≤ k * k := Int.mul_nonneg hk.1 hk.1
  have h2 : k * k ≤ 1000 * 1000 := Int.mul_le_mul hk.2 hk.2 hk.1 (by decide)
  have : u = -1 ∨ u = 0 ∨ u = 1 := by omega
  rcases this with h | h | h <;> subst h <;> omega
def spHeight : Sp := fun vs H Q _ => ∃ (c k kind tilt : Int), vs = [.int c, .int k, .int kind, .int tilt] ∧ (0 ≤ k ∧ k ≤ 1000) ∧ (-3 ≤ tilt ∧ tilt ≤ 3) ∧ ∀ z, Bd z → Q (.int z) H
theorem ok_law_height_by (T : Txt K mg) : FnOk P w K mg base CX0 1 T.a_law_height_by T.d_law_height_by ["_law_cell", "_law_k", "_law_kind", "_law_tilt"] spHeight := by
  refine T.F_law_height_by.ok sc_law_height_by (fun vs H Q E h => ?_) (fun cdv A outer s H vs Q E hr h => ⟨_, (pss_cons (ps_set (i := 4) sc_law_height_by.nd rfl (Or.inl rfl) (pe_op op_pow pe_int pe_int))
      (pss_cons (ps_if (pt_cmpR op_eq (pv 2) pe_int (nomark _)) (pss_one (ps_ret (pe_op op_sub (pe_op op_mod (pv 0) pe_int) pe_int))) pss_nil)
      (pss_cons (ps_if (pt_cmpR op_eq (pv 2) pe_int (nomark _)) (pss_one (ps_ret (pe_op op_add (pe_op op_mul (pv 3) (pv 1)) (pe_op op_mod (pv 0) pe_int)))) pss_nil)
      (pss_cons (ps_if (pt_cmpR op_eq (pv 2) pe_int (nomark _)) (pss_one (ps_ret (pe_op op_sub (pe_op op_mod (pe_op op_mul (pv 0) pe_int) (pe_op op_add (pe_op op_mul pe_int (pv 4)) pe_int)) (pv 4)))) pss_nil)
      (pss_cons (ps_if (pt_cmpR op_eq (pv 2) pe_int (nomark _)) (pss_one (ps_ret (pe_op op_add (pe_op op_mul (pe_op op_mul (pv 1) (pv 1)) (pe_op op_sub (pe_op op_mod (pv 3) pe_int) pe_int)) (pe_op op_mod (pv 0) pe_int)))) pss_nil)
      (pss_one (ps_ret (pe_op op_sub (pv 4) (pe_op op_mod (pv 0) pe_int))))))))), ?_⟩)
  · obtain ⟨c, k, kind, tilt, rfl, _⟩ := h
    rfl
  · obtain ⟨c, k, kind, tilt, rfl, hk, ht, q⟩ := h
    have hF := FAR_eq
    walk_at "rd"
    generalize (10 : Int) ^ (18 : Int).toNat = F at *
    refine ite2 (fun _ => ?_) (fun _ => ?_)
    · walk_at "rd"
      exact q _ ⟨by omega, by omega⟩
    walk_at "rd"
    refine ite2 (fun _ => ?_) (fun _ => ?_)
    · walk_at "rd"
      have := tilt_b ht hk
      exact q _ ⟨by omega, by omega⟩
    walk_at "rd"
    refine ite2 (fun _ => ?_) (fun _ => ?_)
    · walk_at "rd"
      have := emod_b (x := c * 48271) (n := 2 * F + 1) (by omega)
      exact q _ ⟨by omega, by omega⟩
    walk_at "rd"
    refine ite2 (fun _ => ?_) (fun _ => ?_)
    · walk_at "rd"
      have := sq_b (u := tilt % 3 - 1) hk (by omega)
      exact q _ ⟨by omega, by omega⟩
    walk_at "rd"
    exact q _ ⟨by omega, by omega⟩
def spLandBy (K : PySem.W.Frag) : Sp := fun vs H Q _ => ∃ (l : Addr) (ns : List Int) (most : Int), vs = [.ref l, .int most] ∧ SqL K H l (IL ns) ∧ (0 < most ∧ most ≤ 900) ∧
  ∀ D hs, H D = none → (0 < hs.length ∧ (hs.length : Int) ≤ most) → (∀ z ∈ hs, Bd z) → Q (.ref D) (upd H D (.lst (IL hs)))
theorem ok_law_land_by (T : Txt K mg) : FnOk P w K mg base CX0 2 T.a_law_land_by T.d_law_land_by ["_law_script", "_law_most"] (spLandBy K) := by
  refine T.F_law_land_by.ok sc_law_land_by (fun vs H Q E h => ?_) (fun cdv A outer s H vs Q E hr h => ⟨_, (pss_cons (ps_set (i := 2) sc_law_land_by.nd rfl (Or.inl rfl) (pe_call (ok_law_cell_at T) (hr.mono (by decide)) rfl T.g_law_cell_at T.F_law_cell_at.kp T.b_law_cell_at .nil pass0 (pa_cons (pv 0) (pa_cons pe_int pa_nil))))
      (pss_cons (ps_set (i := 3) sc_law_land_by.nd rfl (Or.inl rfl) (pe_op op_add pe_int (pe_op op_mod (pv 2) (pv 1))))
      (pss_cons (ps_set (i := 4) sc_law_land_by.nd rfl (Or.inr rfl) (pe_op op_mod (pe_op op_fdiv (pv 2) (pv 1)) pe_int))
      (pss_cons (ps_set (i := 5) sc_law_land_by.nd rfl (Or.inr rfl) (pe_op op_sub (pe_op op_mod (pe_op op_fdiv (pe_op op_fdiv (pv 2) (pv 1)) pe_int) pe_int) pe_int))
      (pss_one (ps_ret (pe_lc (own := [("_law_k", 6)]) (g := gName 6) rfl sc_law_land_by.nd (pi_range1 rfl T.n_range (pa_cons (pv 3) pa_nil)) (blkOk_by (own := [("_law_k", 6)]) (N := ["_law_script", "_law_most", "_law_head", "_law_size", "_law_kind", "_law_tilt", "_law_k"]) (sc := defScope s_law_land_by) (by decide +kernel)) (fun _ _ _ _ _ => (pg_name (i := 6) sc_law_land_by.nd rfl (Or.inl rfl))) (fun _ _ _ _ _ => pts_nil) (fun _ _ _ _ _ => (pe_call (ok_law_height_by T) (hr.mono (by decide)) rfl T.g_law_height_by T.F_law_height_by.kp T.b_law_height_by .nil pass0 (pa_cons (pe_call (ok_law_cell_at T) (hr.mono (by decide)) rfl T.g_law_cell_at T.F_law_cell_at.kp T.b_law_cell_at .nil pass0 (pa_cons (pv 0) (pa_cons (pe_op op_add pe_int (pv 6)) pa_nil))) (pa_cons (pv 6) (pa_cons (pv 4) (pa_cons (pv 5) pa_nil))))))))))))), ?_⟩)
  · obtain ⟨l, ns, most, rfl, _⟩ := h
    rfl
  · obtain ⟨l, ns, most, rfl, hS, hm, q⟩ := h
    walk_at "rd"
    generalize cell ns (Int.toNat 0) = hd
    have m1 := emod_b (x := hd) hm.1
    obtain ⟨n, hn⟩ : ∃ n, n = 1 + hd % most := ⟨_, rfl⟩
    rw [← hn]
    refine ⟨n, rfl, by omega, by omega, fun D nD => lc_range (lo := 0) (n := n.toNat) (fun i H' => ∃ zs : List Int, H' = upd H D (.lst (IL zs)) ∧ zs.length = i ∧ ∀ z ∈ zs, Bd z) ⟨[], rfl, rfl, fun _ h => by cases h⟩ ?_ ?_⟩
    · rintro i _ hi ⟨zs, rfl, hl, hb⟩
      have hS1 := (same_upd (o := .lst (IL zs)) nD).seq hS
      walk_at "rd"
      refine ⟨by rw [hn]; rfl, ?_⟩
      walk_at "rd"
      refine ⟨_, _, _, _, rfl, ⟨by omega, by omega⟩, ⟨by omega, by omega⟩, fun z bz => ?_⟩
      refine ⟨_, upd_same, by rw [List.length_map]; exact szlt (by omega), ?_⟩
      refine ⟨zs ++ [z], upd_snoc, len_snoc hl, fun y hy => ?_⟩
      rcases List.mem_append.mp hy with h | h
      · exact hb y h
      · rw [List.mem_singleton.mp h]
        exact bz
    · rintro _ ⟨zs, rfl, hl, hb⟩
      exact q D zs nD ⟨by omega, by omega⟩ hb

def spLonger (K : PySem.W.Frag) : Sp := fun vs H Q _ => ∃ (l a : Addr) (ns hs : List Int) (most many : Int), vs = [.ref l, .ref a, .int most, .int many] ∧ SqL K H l (IL ns) ∧ SqL K H a (IL hs) ∧ (0 < most ∧ most ≤ 900) ∧ (0 ≤ many ∧ (hs.length : Int) + many ≤ 900) ∧ (∀ z ∈ hs, Bd z) ∧
  ∀ D zs, H D = none → (zs.length : Int) = hs.length + many → (∀ z ∈ zs, Bd z) → Q (.ref D) (upd H D (.lst (IL zs)))
theorem ok_law_longer (T : Txt K mg) : FnOk P w K mg base CX0 2 T.a_law_longer T.d_law_longer ["_law_script", "_law_land", "_law_most", "_law_many"] (spLonger K) := by
  refine T.F_law_longer.ok sc_law_longer (fun vs H Q E h => ?_) (fun cdv A outer s H vs Q E hr h => ⟨_, (pss_cons (ps_set (i := 4) sc_law_longer.nd rfl (Or.inl rfl) (pe_call (ok_law_cell_at T) (hr.mono (by decide)) rfl T.g_law_cell_at T.F_law_cell_at.kp T.b_law_cell_at .nil pass0 (pa_cons (pv 0) (pa_cons pe_int pa_nil))))
      (pss_cons (ps_set (i := 5) sc_law_longer.nd rfl (Or.inl rfl) (pe_op op_sub (pe_op op_mod (pe_op op_fdiv (pe_op op_fdiv (pv 4) (pv 2)) pe_int) pe_int) pe_int))
      (pss_cons (ps_set (i := 6) sc_law_longer.nd rfl (Or.inl rfl) (pe_callTy (call_listK (K := K) rfl) rfl T.n_list (by decide +kernel) (pa_cons (pv 1) pa_nil)))
      (pss_cons (ps_for PassesOwn.never rfl (pi_range1 rfl T.n_range (pa_cons (pv 3) pa_nil)) (pg_name (i := 7) sc_law_longer.nd rfl (Or.inl rfl)) (pss_cons (ps_set (i := 8) sc_law_longer.nd rfl (Or.inl rfl) (pe_op op_mul (pe_call (ok_law_cell_at T) (hr.mono (by decide)) rfl T.g_law_cell_at T.F_law_cell_at.kp T.b_law_cell_at .nil pass0 (pa_cons (pv 0) (pa_cons (pe_op op_add pe_int (pe_op op_mod (pv 7) pe_int)) pa_nil))) (pe_op op_add (pv 7) pe_int)))
        (pss_one (ps_expr (pe_bmK (K := K) rfl PySem.F.plainAttrs_list PySem.F.slot_list_append PySem.F.type_list_append mt_append (pv 6) (pa_cons (pe_call (ok_law_height_by T) (hr.mono (by decide)) rfl T.g_law_height_by T.F_law_height_by.kp T.b_law_height_by .nil pass0 (pa_cons (pv 8) (pa_cons (pe_callB (call_lenK (K := K) rfl) rfl T.n_len (by decide +kernel) (pa_cons (pv 6) pa_nil)) (pa_cons (pe_op op_mod (pe_op op_fdiv (pv 4) (pv 2)) pe_int) (pa_cons (pv 5) pa_nil))))) pa_nil))))))
      (pss_one (ps_ret (pv 6))))))), ?_⟩)
  · obtain ⟨l, a, ns, hs, most, many, rfl, _⟩ := h
    rfl
  · obtain ⟨l, a, ns, hs, most, many, rfl, hS, hA, hm, hn, hb, q⟩ := h
    walk_at "rd"
    generalize cell ns (Int.toNat 0) = hd
    intro D nD
    have hS1 := (same_upd (o := .lst (IL hs)) nD).seq hS
    walk_at "rd"
    refine rng1 ⟨by omega, by omega⟩ (fun i σ H' => ∃ (zs : List Int) (v1 v2 : Option V), σ = [some (.ref l), some (.ref a), some (.int most), some (.int many), some (.int hd), some (.int (hd / most / 5 % 7 - 3)), some (.ref D), v1, v2] ∧ H' = upd H D (.lst (IL zs)) ∧ zs.length = hs.length + i ∧ ∀ z ∈ zs, Bd z)
      ⟨hs, none, none, rfl, rfl, rfl, hb⟩ ?_ ?_
    · rintro i σ H' hi ⟨zs, v1, v2, rfl, rfl, hl, hbz⟩
      have hS2 := (same_upd (o := .lst (IL zs)) nD).seq hS
      walk_at "rd"
      refine ⟨ty_list (.of upd_same), ?_⟩
      walk_at "rd"
      refine ⟨_, _, _, _, rfl, ⟨by omega, by rw [List.length_map]; omega⟩, ⟨by omega, by omega⟩, fun z bz => ?_⟩
      walk_at "rd"
      refine rd_append upd_same (by rw [List.length_map]; omega) ?_
      refine ⟨zs ++ [z], _, _, rfl, upd_snoc, by rw [List.length_append, hl]; rfl, fun y hy => ?_⟩
      rcases List.mem_append.mp hy with h | h
      · exact hbz y h
      · rw [List.mem_singleton.mp h]
        exact bz
    · rintro σ H' ⟨zs, v1, v2, rfl, rfl, hl, hbz⟩
      walk_at "rd"
      exact q D zs nD (by omega) hbz

theorem ok_is_whole (T : Txt K mg) : FnOk P w K mg base CX0 1 T.a_is_whole T.d_is_whole ["thing"] (spWhole K) := by
  refine T.F_is_whole.ok sc_is_whole (fun vs H Q E h => ?_) (fun cdv A outer s H vs Q E hr h => ⟨_, (pss_one (ps_ret (pe_and (pe_callB (call_isiK0 (K := K) rfl) rfl T.n_isinstance (by decide +kernel) (pa_cons (pv 0) (pa_cons (pe_bltn (v := .ty "int") (by rfl) T.n_int (by decide +kernel) rfl) pa_nil))) (pe_one (pe_not (pe_callB (call_isiK0 (K := K) rfl) rfl T.n_isinstance (by decide +kernel) (pa_cons (pv 0) (pa_cons (pe_bltn (v := .ty "bool") (by rfl) T.n_bool (by decide +kernel) rfl) pa_nil)))))))), ?_⟩)
  · obtain ⟨x, r, rfl, _⟩ := h
    rfl
  · exact whole_run h

/-! ## the places -/
/-- a place at which a hill stands -/
def Ok (x : V) (n : Nat) : Prop := ∃ i : Nat, x = .int (i : Int) ∧ i < n
theorem ok_int {i : Int} {n : Nat} : Ok (.int i) n ↔ 0 ≤ i ∧ i < n := by
  constructor
  · rintro ⟨k, e, h⟩
    have := V.int.inj e
    omega
  · rintro ⟨h1, h2⟩
    exact ⟨i.toNat, congrArg V.int (by omega), by omega⟩
/-- what x is, as is_whole tells -/
def Wh (K : PySem.W.Frag) (H : Hp) (x : V) : Prop := ∃ r, Whole K H x r ∧ (r = true ↔ ∃ i, x = .int i)
theorem wh_int {K : PySem.W.Frag} {H : Hp} {i : Int} : Wh K H (.int i) := ⟨true, whole_int, by simp⟩
theorem wh_bl {K : PySem.W.Frag} {H : Hp} {b : Bool} : Wh K H (.bl b) := ⟨false, whole_bl, by simp⟩
theorem wh_non {K : PySem.W.Frag} {H : Hp} : Wh K H .non := ⟨false, whole_non, by simp⟩
theorem wh_str {K : PySem.W.Frag} {H : Hp} {z : Str} : Wh K H (.str z) := ⟨false, whole_str, by simp⟩
theorem wh_lst {K : PySem.W.Frag} {H : Hp} {a : Addr} {xs : List V} (h : H a = some (.lst xs)) : Wh K H (.ref a) := ⟨false, whole_lst h, by simp⟩
theorem wh_tup {K : PySem.W.Frag} {H : Hp} {a : Addr} {xs : List V} (h : H a = some (.tup xs)) : Wh K H (.ref a) := ⟨false, whole_tup h, by simp⟩
def spNeed (K : PySem.W.Frag) (C : Addr) : Sp := fun vs H Q E => ∃ (l : Addr) (ns : List Int) (x : V), vs = [.ref l, x] ∧ SqL K H l (IL ns) ∧ Wh K H x ∧
  (¬ Ok x ns.length → E (.ref C) none H) ∧ (Ok x ns.length → Q x H)
theorem ok_need_hill (T : Txt K mg) : FnOk P w K mg base (L2N.CX P w) 2 T.a_need_hill T.d_need_hill ["land", "place"] (spNeed K T.c_NoHill) := by
  refine okN T.F_need_hill sc_need_hill (fun vs H Q E h => ?_) (fun cdv A outer s H vs Q E hr h => ⟨_, (pss_cons (ps_if (PW.pt (pw_or (pt_not (pt_val (pe_call (ok_is_whole T) (hr.mono (by decide)) rfl T.g_is_whole T.F_is_whole.kp T.b_is_whole .nil pass0 (pa_cons (pv 1) pa_nil)))) (pw_or1 (pt_not (pt_chain op_le op_lt pe_int (pv 1) (pe_callB (call_lenK (K := K) rfl) rfl T.n_len (by decide +kernel) (pa_cons (pv 0) pa_nil))))))) (pss_one (L2N.ps_raise rfl (L2N.takes_of rfl rfl rfl rfl) (L2N.pmk_own PySem.F.excBase_ValueError T.x_NoHill T.g_NoHill T.k_NoHill (raises_own T.e_NoHill T.t_NoHill) (by rfl)))) pss_nil)
      (pss_one (ps_ret (pv 1)))), ?_⟩)
  · obtain ⟨l, ns, x, rfl, _⟩ := h
    rfl
  · obtain ⟨l, ns, x, rfl, hS, ⟨r, hx, hi⟩, e, q⟩ := h
    walk_at "rd"
    refine ⟨x, r, rfl, hx, ?_⟩
    walk_at "rd"
    cases r with
    | false =>
      walk_at "rd"
      refine e ?_
      rintro ⟨i, rfl, _⟩
      exact Bool.false_ne_true (hi.mpr ⟨_, rfl⟩)
    | true =>
      obtain ⟨i, rfl⟩ := hi.mp rfl
      walk_at "rd"
      refine ite2 (fun c => ?_) (fun c => ?_)
      · have c' : 0 ≤ i := of_decide_eq_true c
        walk_at "rd"
        rw [List.length_map]
        refine ite2 (fun d => ?_) (fun d => ?_)
        · have d' : ¬ i < (ns.length : Int) := by simpa using d
          exact e fun z => d' (ok_int.mp z).2
        · have d' : i < (ns.length : Int) := by simpa using d
          walk_at "rd"
          exact q (ok_int.mpr ⟨c', d'⟩)
      · have c' : ¬ 0 ≤ i := fun z => c (decide_eq_true z)
        walk_at "rd"
        exact e fun z => c' (ok_int.mp z).1

/-- a, then b are looked at; then whether they are the same -/
def spTwo (K : PySem.W.Frag) (C D : Addr) : Sp := fun vs H Q E => ∃ (l : Addr) (ns : List Int) (x y : V), vs = [.ref l, x, y] ∧ SqL K H l (IL ns) ∧ Wh K H x ∧ Wh K H y ∧
  (¬ Ok x ns.length ∨ ¬ Ok y ns.length → E (.ref C) none H) ∧ (Ok x ns.length → x = y → E (.ref D) none H) ∧
  (∀ i j : Nat, x = .int (i : Int) → y = .int (j : Int) → i < ns.length → j < ns.length → i ≠ j → ∀ p, H p = none → Q (.ref p) (upd H p (.tup [.int ((min i j : Nat) : Int), .int ((max i j : Nat) : Int)])))
theorem ok_need_two (T : Txt K mg) : FnOk P w K mg base (L2N.CX P w) 3 T.a_need_two T.d_need_two ["land", "a", "b"] (spTwo K T.c_NoHill T.c_SameHill) := by
  refine okN T.F_need_two sc_need_two (fun vs H Q E h => ?_) (fun cdv A outer s H vs Q E hr h => ⟨_, (pss_cons (ps_expr (pe_callS (ok_need_hill T) (hr.mono (by decide)) rfl T.g_need_hill T.F_need_hill.kp T.b_need_hill (fun σ => L2N.passAt (L2N.takes_of rfl rfl rfl rfl) σ) (pa_cons (pv 0) (pa_cons (pv 1) pa_nil))))
      (pss_cons (ps_expr (pe_callS (ok_need_hill T) (hr.mono (by decide)) rfl T.g_need_hill T.F_need_hill.kp T.b_need_hill (fun σ => L2N.passAt (L2N.takes_of rfl rfl rfl rfl) σ) (pa_cons (pv 0) (pa_cons (pv 2) pa_nil))))
      (pss_cons (ps_if (pt_cmpR op_eq (pv 1) (pv 2) (nomark _)) (pss_one (L2N.ps_raise rfl (L2N.takes_of rfl rfl rfl rfl) (L2N.pmk_own PySem.F.excBase_ValueError T.x_SameHill T.g_SameHill T.k_SameHill (raises_own T.e_SameHill T.t_SameHill) (by rfl)))) pss_nil)
      (pss_one (ps_ret (pe_tup (pa_cons (pe_callB (call_min2K rfl) rfl T.n_min (by decide +kernel) (pa_cons (pv 1) (pa_cons (pv 2) pa_nil))) (pa_cons (pe_callB (call_max2K rfl) rfl T.n_max (by decide +kernel) (pa_cons (pv 1) (pa_cons (pv 2) pa_nil))) pa_nil)))))))), ?_⟩)
  · obtain ⟨l, ns, x, y, rfl, _⟩ := h
    rfl
  · obtain ⟨l, ns, x, y, rfl, hS, hx, hy, e, e2, q⟩ := h
    walk_at "rd"
    refine ⟨l, ns, x, rfl, hS, hx, fun n => e (.inl n), fun o1 => ?_⟩
    walk_at "rd"
    refine ⟨l, ns, y, rfl, hS, hy, fun n => e (.inr n), fun o2 => ?_⟩
    obtain ⟨i, rfl, hi⟩ := o1
    obtain ⟨j, rfl, hj⟩ := o2
    walk_at "rd"
    refine ite2 (fun c => ?_) (fun c => ?_)
    · exact e2 ⟨i, rfl, hi⟩ (of_decide_eq_true c)
    · have nij : i ≠ j := fun z => c (decide_eq_true (by rw [z]))
      walk_at "rd"
      exact ⟨sz 2, fun p np => q i j rfl rfl hi hj nij p np⟩

/-! ## slopes -/
def hv (ns : List Int) (i : Int) : Int := ns.getD i.toNat 0
def slO (ns : List Int) (a b : Int) : HO := .tup [.int (hv ns b - hv ns a), .int (b - a)]
def spSlope (K : PySem.W.Frag) : Sp := fun vs H Q _ => ∃ (l : Addr) (ns : List Int) (a b : Int), vs = [.ref l, .int a, .int b] ∧ SqL K H l (IL ns) ∧ (0 ≤ a ∧ a < ns.length ∧ 0 ≤ b ∧ b < ns.length) ∧
  ∀ p, H p = none → Q (.ref p) (upd H p (slO ns a b))
theorem ok_slope (T : Txt K mg) : FnOk P w K mg base CX0 1 T.a_slope T.d_slope ["land", "a", "b"] (spSlope K) := by
  refine T.F_slope.ok sc_slope (fun vs H Q E h => ?_) (fun cdv A outer s H vs Q E hr h => ⟨_, (pss_one (ps_ret (pe_tup (pa_cons (pe_op op_sub (pe_ix (ix_listK (K := K) rfl) (pv 0) (pv 2) (fun _ _ => rfl)) (pe_ix (ix_listK (K := K) rfl) (pv 0) (pv 1) (fun _ _ => rfl))) (pa_cons (pe_op op_sub (pv 2) (pv 1)) pa_nil))))), ?_⟩)
  · obtain ⟨l, ns, a, b, rfl, _⟩ := h
    rfl
  · obtain ⟨l, ns, a, b, rfl, hS, ⟨h1, h2, h3, h4⟩, q⟩ := h
    walk_at "rd"
    refine rd_ixL hS (IL_at h3 h4) ?_
    walk_at "rd"
    refine rd_ixL hS (IL_at h1 h2) ?_
    walk_at "rd"
    exact ⟨sz 2, q⟩
def spSteeper (K : PySem.W.Frag) : Sp := fun vs H Q _ => ∃ (p q : Addr) (r1 l1 r2 l2 : Int), vs = [.ref p, .ref q] ∧ SqT K H p [.int r1, .int l1] ∧ SqT K H q [.int r2, .int l2] ∧ CMul r1 l2 ∧ CMul r2 l1 ∧
  Q (.bl (decide (r2 * l1 < r1 * l2))) H
theorem ok_steeper (T : Txt K mg) : FnOk P w K mg base CX0 1 T.a_steeper T.d_steeper ["one", "other"] (spSteeper K) := by
  refine T.F_steeper.ok sc_steeper (fun vs H Q E h => ?_) (fun cdv A outer s H vs Q E hr h => ⟨_, (pss_one (ps_ret (pe_cmpR op_gt (pe_op op_mul (pe_ix (ix_tupK (K := K) rfl) (pv 0) pe_int (fun _ _ => rfl)) (pe_ix (ix_tupK (K := K) rfl) (pv 1) pe_int (fun _ _ => rfl))) (pe_op op_mul (pe_ix (ix_tupK (K := K) rfl) (pv 1) pe_int (fun _ _ => rfl)) (pe_ix (ix_tupK (K := K) rfl) (pv 0) pe_int (fun _ _ => rfl))) (nomark _)))), ?_⟩)
  · obtain ⟨p, q, r1, l1, r2, l2, rfl, _⟩ := h
    rfl
  · obtain ⟨p, q, r1, l1, r2, l2, rfl, h1, h2, c1, c2, k⟩ := h
    walk_at "rd"
    refine rd_ixT h1 (atI_nat (j := 0) rfl) ?_
    walk_at "rd"
    refine rd_ixT h2 (atI_nat (j := 1) rfl) ?_
    walk_at "rd"
    refine rd_I c1 ?_
    walk_at "rd"
    refine rd_ixT h2 (atI_nat (j := 0) rfl) ?_
    walk_at "rd"
    refine rd_ixT h1 (atI_nat (j := 1) rfl) ?_
    walk_at "rd"
    refine rd_I c2 ?_
    walk_at "rd"
    exact k

/-! ## steepest, hider, sees -/
def oV : Option Nat → V
  | none => .non
  | some m => .int (m : Int)
def spSteepest (K : PySem.W.Frag) : Sp := fun vs H Q _ => ∃ (l : Addr) (ns : List Int) (a b : Nat), vs = [.ref l, .int (a : Int), .int (b : Int)] ∧ SqL K H l (IL ns) ∧ a < b ∧ b < ns.length ∧ ns.length ≤ 1000 ∧
  ∀ H', Same H H' → Q (oV (stM ns a (b - a - 1))) H'
theorem ok_steepest (T : Txt K mg) : FnOk P w K mg base CX0 2 T.a_steepest T.d_steepest ["land", "low", "high"] (spSteepest K) := by
  refine T.F_steepest.ok sc_steepest (fun vs H Q E h => ?_) (fun cdv A outer s H vs Q E hr h => ⟨_, (pss_cons (ps_set (i := 3) sc_steepest.nd rfl (Or.inl rfl) pe_non)
      (pss_cons (ps_for PassesOwn.never rfl (pi_range2 rfl T.n_range (pa_cons (pe_op op_add (pv 1) pe_int) (pa_cons (pv 2) pa_nil))) (pg_name (i := 4) sc_steepest.nd rfl (Or.inl rfl)) (pss_one (ps_if (PW.pt (pw_or (pt_cmpR op_isN1 (pv 3) pe_non (nomark _)) (pw_or1 (pt_val (pe_call (ok_steeper T) (hr.mono (by decide)) rfl T.g_steeper T.F_steeper.kp T.b_steeper .nil pass0 (pa_cons (pe_call (ok_slope T) (hr.mono (by decide)) rfl T.g_slope T.F_slope.kp T.b_slope .nil pass0 (pa_cons (pv 0) (pa_cons (pv 1) (pa_cons (pv 4) pa_nil)))) (pa_cons (pe_call (ok_slope T) (hr.mono (by decide)) rfl T.g_slope T.F_slope.kp T.b_slope .nil pass0 (pa_cons (pv 0) (pa_cons (pv 1) (pa_cons (pv 3) pa_nil)))) pa_nil))))))) (pss_one (ps_set (i := 3) sc_steepest.nd rfl (Or.inl rfl) (pv 4))) pss_nil)))
      (pss_one (ps_ret (pv 3))))), ?_⟩)
  · obtain ⟨l, ns, a, b, rfl, _⟩ := h
    rfl
  · obtain ⟨l, ns, a, b, rfl, hS, hab, hb, hn, q⟩ := h
    walk_at "rd"
    refine rng2 ⟨⟨by omega, by omega⟩, by omega, by omega⟩ (fun i σ H' => ∃ (vp : Option V), σ = [some (.ref l), some (.int a), some (.int b), some (oV (stM ns a i)), vp] ∧ Same H H') ⟨none, rfl, Same.refl _⟩ ?_ ?_
    · rintro i σ H' hi ⟨vp, rfl, s1⟩
      have hS1 := s1.seq hS
      have ec : ((a : Int) + 1 + (i : Int)) = ((a + 1 + i : Nat) : Int) := by omega
      rw [ec]
      have hcl : a + 1 + i < ns.length := by omega
      have est : stM ns a (i + 1) = match stM ns a i with
        | none => some (a + 1 + i)
        | some m => if Stp ns a (a + 1 + i) m then some (a + 1 + i) else some m := rfl
      rw [est]
      cases e : stM ns a i with
      | none =>
        walk_at "rd"
        refine rd_yes (by simp [oV]) ?_
        walk_at "rd"
        exact ⟨_, rfl, s1⟩
      | some m =>
        have hst := stM_some e
        have hlo := hst.lo
        have hhi := hst.hi
        walk_at "rd"
        refine rd_no (by simp [oV]) ?_
        walk_at "rd"
        refine ⟨l, ns, a, ((a + 1 + i : Nat) : Int), rfl, hS1, ⟨by omega, by omega, by omega, by omega⟩, fun p np => ?_⟩
        have s2 := same_upd (o := slO ns a ((a + 1 + i : Nat) : Int)) np
        have hp : (upd H' p (slO ns a ((a + 1 + i : Nat) : Int))) p = some (slO ns a ((a + 1 + i : Nat) : Int)) := upd_same
        have hS2 := s2.seq hS1
        have s12 := s1.trans s2
        generalize upd H' p (slO ns a ((a + 1 + i : Nat) : Int)) = H2 at *
        walk_at "rd"
        refine ⟨l, ns, a, (m : Int), rfl, hS2, ⟨by omega, by omega, by omega, by omega⟩, fun p2 np2 => ?_⟩
        have s3 := same_upd (o := slO ns a (m : Int)) np2
        walk_at "rd"
        refine ⟨p, p2, _, _, _, _, rfl, .of (s3 _ _ hp), .of upd_same, .inr ⟨by omega, by omega⟩, .inr ⟨by omega, by omega⟩, ?_⟩
        walk_at "rd"
        refine ite2 (fun c => ?_) (fun c => ?_)
        · have c' : Stp ns a (a + 1 + i) m := of_decide_eq_true c
          walk_at "rd"
          exact ⟨_, by simp only [if_pos c']; rfl, s12.trans s3⟩
        · have c' : ¬ Stp ns a (a + 1 + i) m := fun z => c (decide_eq_true z)
          walk_at "rd"
          exact ⟨_, by simp only [if_neg c']; rfl, s12.trans s3⟩
    · rintro σ H' ⟨vp, rfl, s1⟩
      walk_at "rd"
      have := q H' s1
      rw [show ((b : Int) - ((a : Int) + 1)).toNat = b - a - 1 by omega]
      exact this
def spHid (K : PySem.W.Frag) (C D : Addr) (f : List Int → Nat → Nat → V) : Sp := fun vs H Q E => ∃ (l : Addr) (ns : List Int) (x y : V), vs = [.ref l, x, y] ∧ SqL K H l (IL ns) ∧ ns.length ≤ 1000 ∧ Wh K H x ∧ Wh K H y ∧
  (¬ Ok x ns.length ∨ ¬ Ok y ns.length → E (.ref C) none H) ∧ (Ok x ns.length → x = y → E (.ref D) none H) ∧
  (∀ i j : Nat, x = .int (i : Int) → y = .int (j : Int) → i < ns.length → j < ns.length → i ≠ j → ∀ H', Same H H' → Q (f ns (min i j) (max i j)) H')
theorem ok_hider (T : Txt K mg) : FnOk P w K mg base (L2N.CX P w) 4 T.a_hider T.d_hider ["land", "a", "b"] (spHid K T.c_NoHill T.c_SameHill fun ns i j => oV (hidM ns i j)) := by
  refine okN T.F_hider sc_hider (fun vs H Q E h => ?_) (fun cdv A outer s H vs Q E hr h => ⟨_, (pss_cons (ps_asg (pe_callS (ok_need_two T) (hr.mono (by decide)) rfl T.g_need_two T.F_need_two.kp T.b_need_two (fun σ => L2N.passAt (L2N.takes_of rfl rfl rfl rfl) σ) (pa_cons (pv 0) (pa_cons (pv 1) (pa_cons (pv 2) pa_nil)))) (pg_tupK (K := K) (n := 2) rfl rfl (pgs_cons (pg_name (i := 3) sc_hider.nd rfl (Or.inl rfl)) (pgs_cons (pg_name (i := 4) sc_hider.nd rfl (Or.inl rfl)) pgs_nil))))
      (pss_cons (ps_set (i := 5) sc_hider.nd rfl (Or.inl rfl) (pe_call (ok_steepest T) (hr.mono (by decide)) rfl T.g_steepest T.F_steepest.kp T.b_steepest .nil pass0 (pa_cons (pv 0) (pa_cons (pv 3) (pa_cons (pv 4) pa_nil)))))
      (pss_cons (ps_if (PW.pt (pw_or (pt_cmpR op_isN1 (pv 5) pe_non (nomark _)) (pw_or1 (pt_val (pe_call (ok_steeper T) (hr.mono (by decide)) rfl T.g_steeper T.F_steeper.kp T.b_steeper .nil pass0 (pa_cons (pe_call (ok_slope T) (hr.mono (by decide)) rfl T.g_slope T.F_slope.kp T.b_slope .nil pass0 (pa_cons (pv 0) (pa_cons (pv 3) (pa_cons (pv 4) pa_nil)))) (pa_cons (pe_call (ok_slope T) (hr.mono (by decide)) rfl T.g_slope T.F_slope.kp T.b_slope .nil pass0 (pa_cons (pv 0) (pa_cons (pv 3) (pa_cons (pv 5) pa_nil)))) pa_nil))))))) (pss_one (ps_ret pe_non)) pss_nil)
      (pss_one (ps_ret (pv 5)))))), ?_⟩)
  · obtain ⟨l, ns, x, y, rfl, _⟩ := h
    rfl
  · obtain ⟨l, ns, x, y, rfl, hS, hn, hx, hy, e1, e2, q⟩ := h
    walk_at "rd"
    refine ⟨l, ns, x, y, rfl, hS, hx, hy, e1, e2, fun i j ei ej hi hj hij p np => ?_⟩
    have q' : ∀ H', Same H H' → Q (oV (hidM ns (min i j) (max i j))) H' := q i j ei ej hi hj hij
    obtain ⟨a, ha⟩ : ∃ a, a = min i j := ⟨_, rfl⟩
    obtain ⟨b, hb⟩ : ∃ b, b = max i j := ⟨_, rfl⟩
    rw [← ha, ← hb] at q' ⊢
    have hab : a < b := by omega
    have hbl : b < ns.length := by omega
    clear e1 e2 q
    have s1 := same_upd (o := .tup [.int (a : Int), .int (b : Int)]) np
    refine rd_gTup2 (.of upd_same) ?_
    have hS1 := s1.seq hS
    generalize upd H p (.tup [.int (a : Int), .int (b : Int)]) = H1 at *
    walk_at "rd"
    refine ⟨l, ns, a, b, rfl, hS1, hab, hbl, hn, fun H2 s2 => ?_⟩
    have s12 := s1.trans s2
    have hS2 := s12.seq hS
    cases e : stM ns a (b - a - 1) with
    | none =>
      walk_at "rd"
      refine rd_yes (by simp [oV]) ?_
      walk_at "rd"
      have := q' H2 s12
      unfold hidM at this
      rw [e] at this
      exact this
    | some m =>
      have hst := stM_some e
      have hlo := hst.lo
      have hhi := hst.hi
      walk_at "rd"
      refine rd_no (by simp [oV]) ?_
      walk_at "rd"
      refine ⟨l, ns, a, (b : Int), rfl, hS2, ⟨by omega, by omega, by omega, by omega⟩, fun p3 np3 => ?_⟩
      have s3 := same_upd (o := slO ns a (b : Int)) np3
      have hp : (upd H2 p3 (slO ns a (b : Int))) p3 = some (slO ns a (b : Int)) := upd_same
      have hS3 := s3.seq hS2
      have s13 := s12.trans s3
      generalize upd H2 p3 (slO ns a (b : Int)) = H3 at *
      walk_at "rd"
      refine ⟨l, ns, a, (m : Int), rfl, hS3, ⟨by omega, by omega, by omega, by omega⟩, fun p4 np4 => ?_⟩
      have s4 := same_upd (o := slO ns a (m : Int)) np4
      walk_at "rd"
      refine ⟨p3, p4, _, _, _, _, rfl, .of (s4 _ _ hp), .of upd_same, .inr ⟨by omega, by omega⟩, .inr ⟨by omega, by omega⟩, ?_⟩
      have fin := q' _ (s13.trans s4)
      unfold hidM at fin
      rw [e] at fin
      walk_at "rd"
      refine ite2 (fun c => ?_) (fun c => ?_)
      · have c' : Stp ns a b m := of_decide_eq_true c
        simp only [if_pos c'] at fin
        walk_at "rd"
        exact fin
      · have c' : ¬ Stp ns a b m := fun z => c (decide_eq_true z)
        simp only [if_neg c'] at fin
        walk_at "rd"
        exact fin
theorem rd_hid {C D l : Addr} {f : List Int → Nat → Nat → V} {ns : List Int} {a b : Nat} {H : Hp} {Q : VK} {E : XK} (hS : SqL K H l (IL ns)) (hn : ns.length ≤ 1000) (ha : a < ns.length) (hb : b < ns.length) (hab : a ≠ b)
    (q : ∀ H', Same H H' → Q (f ns (min a b) (max a b)) H') : spHid K C D f [.ref l, .int (a : Int), .int (b : Int)] H Q E := by
  refine ⟨l, ns, _, _, rfl, hS, hn, wh_int, wh_int, fun h => ?_, fun _ h => ?_, fun i j ei ej _ _ _ => ?_⟩
  · exfalso
    rcases h with h | h
    · exact h (ok_int.mpr ⟨by omega, by omega⟩)
    · exact h (ok_int.mpr ⟨by omega, by omega⟩)
  · have := V.int.inj h
    omega
  · have e1 := V.int.inj ei
    have e2 := V.int.inj ej
    have e1' : i = a := by omega
    have e2' : j = b := by omega
    subst e1' e2'
    exact q
theorem rd_notB {a b : Bool} {H : Hp} {Q : VK} (q : Q (.bl (!decide (a = b))) H) : rNotB (.bl a) (.bl b) H Q := ⟨a, b, rfl, rfl, q⟩
theorem rd_isB {a b : Bool} {H : Hp} {Q : VK} (q : Q (.bl (decide (a = b))) H) : rIsB (.bl a) (.bl b) H Q := ⟨a, b, rfl, rfl, q⟩

theorem ok_sees (T : Txt K mg) : FnOk P w K mg base (L2N.CX P w) 5 T.a_sees T.d_sees ["land", "a", "b"] (spHid K T.c_NoHill T.c_SameHill fun ns i j => .bl (seeB ns i j)) := by
  refine okN T.F_sees sc_sees (fun vs H Q E h => ?_) (fun cdv A outer s H vs Q E hr h => ⟨_, (pss_one (ps_ret (pe_cmpR op_isN1 (pe_callS (ok_hider T) (hr.mono (by decide)) rfl T.g_hider T.F_hider.kp T.b_hider (fun σ => L2N.passAt (L2N.takes_of rfl rfl rfl rfl) σ) (pa_cons (pv 0) (pa_cons (pv 1) (pa_cons (pv 2) pa_nil)))) pe_non (nomark _)))), ?_⟩)
  · obtain ⟨l, ns, x, y, rfl, _⟩ := h
    rfl
  · obtain ⟨l, ns, x, y, rfl, hS, hn, hx, hy, e1, e2, q⟩ := h
    walk_at "rd"
    refine ⟨l, ns, x, y, rfl, hS, hn, hx, hy, e1, e2, fun i j ei ej hi hj hij H' s1 => ?_⟩
    have q' : Q (.bl (seeB ns (min i j) (max i j))) H' := q i j ei ej hi hj hij H' s1
    walk_at "rd"
    have e : decide (oV (hidM ns (min i j) (max i j)) = V.non) = seeB ns (min i j) (max i j) := by
      have h := hidM_none (ns := ns) (a := min i j) (b := max i j) (by omega)
      cases hh : hidM ns (min i j) (max i j) with
      | none => rw [h.mp hh]; rfl
      | some m =>
        have : ¬ seeB ns (min i j) (max i j) = true := fun z => by rw [h.mpr z] at hh; cases hh
        rw [Bool.not_eq_true] at this
        rw [this]
        simp [oV]
    rw [e]
    exact q'

/-! ## caught errors; things that are no places -/
theorem exm_of {S C : Addr} {b : Bool} (h1 : PySem.W.subIn K (.ref C) (.type "BaseException") = some true) (h2 : PySem.W.isClsIn K C = true) (h3 : PySem.W.typeIn K (.ref C) = some (.type "type")) (h4 : PySem.W.subIn K (.ref S) (.ref C) = some b) :
    PySem.W.exmOne K (.ref S) (.ref C) = some b := by
  have e1 : (PySem.W.subIn K (.ref C) (.type "BaseException") == some true) = true := by rw [h1] <;> rfl
  have e2 : ((PySem.W.clsIn K C).isSome && PySem.W.typeIn K (.ref C) == some (.type "type")) = true := by
    have h2' : (PySem.W.clsIn K C).isSome = true := h2
    rw [h2', h3] <;> rfl
  show (if (PySem.W.subIn K (.ref C) (.type "BaseException") == some true) = true then (if ((PySem.W.clsIn K C).isSome && PySem.W.typeIn K (.ref C) == some (.type "type")) = true then PySem.W.subIn K (.ref S) (.ref C) else none) else none) = some b
  rw [if_pos e1, if_pos e2]
  exact h4
def Odd (K : PySem.W.Frag) (H : Hp) (n : Nat) (x : V) : Prop := Wh K H x ∧ ¬ Ok x n
theorem odd_int {H : Hp} {n : Nat} {i : Int} (h : i < 0 ∨ (n : Int) ≤ i) : Odd K H n (.int i) := ⟨wh_int, fun z => by
  have := ok_int.mp z
  omega⟩
theorem odd_bl {H : Hp} {n : Nat} {b : Bool} : Odd K H n (.bl b) := ⟨wh_bl, fun ⟨i, e, _⟩ => by cases e⟩
theorem odd_non {H : Hp} {n : Nat} : Odd K H n .non := ⟨wh_non, fun ⟨i, e, _⟩ => by cases e⟩
theorem odd_str {H : Hp} {n : Nat} {z : Str} : Odd K H n (.str z) := ⟨wh_str, fun ⟨i, e, _⟩ => by cases e⟩
theorem odd_tup {H : Hp} {n : Nat} {a : Addr} {xs : List V} (h : H a = some (.tup xs)) : Odd K H n (.ref a) := ⟨wh_tup h, fun ⟨i, e, _⟩ => by cases e⟩
theorem odd_lst {H : Hp} {n : Nat} {a : Addr} {xs : List V} (h : H a = some (.lst xs)) : Odd K H n (.ref a) := ⟨wh_lst h, fun ⟨i, e, _⟩ => by cases e⟩
theorem atI_mem {xs : List V} {i : Int} (h0 : 0 ≤ i) (h : i < xs.length) : ∃ x, x ∈ xs ∧ atI xs i = some x := by
  obtain ⟨k, rfl⟩ : ∃ k : Nat, i = (k : Int) := ⟨i.toNat, by omega⟩
  have hk : k < xs.length := by omega
  exact ⟨xs[k], List.getElem_mem hk, atI_nat (List.getElem?_eq_getElem hk)⟩
theorem ten9 : (10 : Int) ^ (9 : Int).toNat = 1000000000 := by decide +kernel

/-! ## the law -/
def spAbove (K : PySem.W.Frag) : Sp := fun vs H Q _ => ∃ (l : Addr) (ns : List Int) (low one other : Nat), vs = [.ref l, .int (low : Int), .int (one : Int), .int (other : Int)] ∧ SqL K H l (IL ns) ∧ ns.length ≤ 1000 ∧ low < ns.length ∧ one < ns.length ∧ other < ns.length ∧
  Q (.bl (decide ((g ns other - g ns low) * ((one : Int) - (low : Int)) < (g ns one - g ns low) * ((other : Int) - (low : Int))))) H
theorem ok_law_above (T : Txt K mg) : FnOk P w K mg base CX0 1 T.a_law_above T.d_law_above ["_law_land", "_law_low", "_law_one", "_law_other"] (spAbove K) := by
  refine T.F_law_above.ok sc_law_above (fun vs H Q E h => ?_) (fun cdv A outer s H vs Q E hr h => ⟨_, (pss_cons (ps_set (i := 4) sc_law_above.nd rfl (Or.inl rfl) (pe_op op_sub (pe_ix (ix_listK (K := K) rfl) (pv 0) (pv 2) (fun _ _ => rfl)) (pe_ix (ix_listK (K := K) rfl) (pv 0) (pv 1) (fun _ _ => rfl))))
      (pss_one (ps_ret (pe_cmpR op_gt (pe_op op_mul (pv 4) (pe_op op_sub (pv 3) (pv 1))) (pe_op op_mul (pe_op op_sub (pe_ix (ix_listK (K := K) rfl) (pv 0) (pv 3) (fun _ _ => rfl)) (pe_ix (ix_listK (K := K) rfl) (pv 0) (pv 1) (fun _ _ => rfl))) (pe_op op_sub (pv 2) (pv 1))) (nomark _))))), ?_⟩)
  · obtain ⟨l, ns, low, one, other, rfl, _⟩ := h
    rfl
  · obtain ⟨l, ns, low, one, other, rfl, hS, hn, h1, h2, h3, q⟩ := h
    walk_at "rd"
    refine rd_ixL hS (IL_at (by omega) (by omega)) ?_
    walk_at "rd"
    refine rd_ixL hS (IL_at (by omega) (by omega)) ?_
    walk_at "rd"
    refine rd_ixL hS (IL_at (by omega) (by omega)) ?_
    walk_at "rd"
    refine rd_ixL hS (IL_at (by omega) (by omega)) ?_
    walk_at "rd"
    exact q
def spHiderBy (K : PySem.W.Frag) : Sp := fun vs H Q _ => ∃ (l : Addr) (ns : List Int) (a b : Nat), vs = [.ref l, .int (a : Int), .int (b : Int)] ∧ SqL K H l (IL ns) ∧ (a < b ∧ b < ns.length ∧ ns.length ≤ 1000) ∧ Q (oV (hidM ns a b)) H
theorem ok_law_hider_by (T : Txt K mg) : FnOk P w K mg base CX0 2 T.a_law_hider_by T.d_law_hider_by ["_law_land", "_law_low", "_law_high"] (spHiderBy K) := by
  refine T.F_law_hider_by.ok sc_law_hider_by (fun vs H Q E h => ?_) (fun cdv A outer s H vs Q E hr h => ⟨_, (pss_cons (ps_set (i := 3) sc_law_hider_by.nd rfl (Or.inl rfl) pe_non)
      (pss_cons (ps_for PassesOwn.never rfl (pi_range2 rfl T.n_range (pa_cons (pe_op op_add (pv 1) pe_int) (pa_cons (pv 2) pa_nil))) (pg_name (i := 4) sc_law_hider_by.nd rfl (Or.inl rfl)) (pss_one (ps_if (PW.pt (pw_or (pt_cmpR op_isN1 (pv 3) pe_non (nomark _)) (pw_or1 (pt_val (pe_call (ok_law_above T) (hr.mono (by decide)) rfl T.g_law_above T.F_law_above.kp T.b_law_above .nil pass0 (pa_cons (pv 0) (pa_cons (pv 1) (pa_cons (pv 4) (pa_cons (pv 3) pa_nil))))))))) (pss_one (ps_set (i := 3) sc_law_hider_by.nd rfl (Or.inl rfl) (pv 4))) pss_nil)))
      (pss_cons (ps_if (PW.pt (pw_or (pt_cmpR op_isN1 (pv 3) pe_non (nomark _)) (pw_or1 (pt_val (pe_call (ok_law_above T) (hr.mono (by decide)) rfl T.g_law_above T.F_law_above.kp T.b_law_above .nil pass0 (pa_cons (pv 0) (pa_cons (pv 1) (pa_cons (pv 2) (pa_cons (pv 3) pa_nil))))))))) (pss_one (ps_ret pe_non)) pss_nil)
      (pss_one (ps_ret (pv 3)))))), ?_⟩)
  · obtain ⟨l, ns, a, b, rfl, _⟩ := h
    rfl
  · obtain ⟨l, ns, a, b, rfl, hS, ⟨hab, hb, hn⟩, q⟩ := h
    walk_at "rd"
    refine rng2 ⟨⟨by omega, by omega⟩, by omega, by omega⟩ (fun i σ H' => ∃ (vp : Option V), σ = [some (.ref l), some (.int a), some (.int b), some (oV (stM ns a i)), vp] ∧ H' = H) ⟨none, rfl, rfl⟩ ?_ ?_
    · rintro i σ H' hi ⟨vp, rfl, rfl⟩
      have ec : ((a : Int) + 1 + (i : Int)) = ((a + 1 + i : Nat) : Int) := by omega
      rw [ec]
      have hcl : a + 1 + i < ns.length := by omega
      have est : stM ns a (i + 1) = match stM ns a i with
        | none => some (a + 1 + i)
        | some m => if Stp ns a (a + 1 + i) m then some (a + 1 + i) else some m := rfl
      rw [est]
      cases e : stM ns a i with
      | none =>
        walk_at "rd"
        refine rd_yes (by simp [oV]) ?_
        walk_at "rd"
        exact ⟨_, rfl, rfl⟩
      | some m =>
        have hst := stM_some e
        have hlo := hst.lo
        have hhi := hst.hi
        walk_at "rd"
        refine rd_no (by simp [oV]) ?_
        walk_at "rd"
        refine ⟨l, ns, a, a + 1 + i, m, rfl, hS, hn, by omega, by omega, by omega, ?_⟩
        walk_at "rd"
        refine ite2 (fun c => ?_) (fun c => ?_)
        · have c' : Stp ns a (a + 1 + i) m := of_decide_eq_true c
          walk_at "rd"
          exact ⟨_, by simp only [if_pos c']; rfl, rfl⟩
        · have c' : ¬ Stp ns a (a + 1 + i) m := fun z => c (decide_eq_true z)
          walk_at "rd"
          exact ⟨_, by simp only [if_neg c']; rfl, rfl⟩
    · rintro σ H' ⟨vp, rfl, rfl⟩
      rw [show ((b : Int) - ((a : Int) + 1)).toNat = b - a - 1 by omega]
      unfold hidM at q
      cases e : stM ns a (b - a - 1) with
      | none =>
        rw [e] at q
        walk_at "rd"
        refine rd_yes (by simp [oV]) ?_
        walk_at "rd"
        exact q
      | some m =>
        rw [e] at q
        have hst := stM_some e
        have hlo := hst.lo
        have hhi := hst.hi
        walk_at "rd"
        refine rd_no (by simp [oV]) ?_
        walk_at "rd"
        refine ⟨l, ns, a, b, m, rfl, hS, hn, by omega, by omega, by omega, ?_⟩
        walk_at "rd"
        refine ite2 (fun c => ?_) (fun c => ?_)
        · have c' : Stp ns a b m := of_decide_eq_true c
          simp only [if_pos c'] at q
          walk_at "rd"
          exact q
        · have c' : ¬ Stp ns a b m := fun z => c (decide_eq_true z)
          simp only [if_neg c'] at q
          walk_at "rd"
          exact q
theorem so_NoHill (T : Txt K mg) : Sole T T.c_NoHill false true false false false := ⟨⟨T.hg_NoHill, T.hk_NoHill, T.e_NoHill, T.hd_NoHill, T.ha_NoHill, T.hn_obj, T.ht_obj, T.hm_NoHill⟩, T.kt_NoHill_NoLand, T.kt_NoHill_NoHill, T.kt_NoHill_SameHill, T.kt_NoHill_TooHigh, T.kt_NoHill_NothingDone, T.kt_NoHill_HillError, T.kv_NoHill, rfl⟩
theorem so_SameHill (T : Txt K mg) : Sole T T.c_SameHill false false true false false := ⟨⟨T.hg_SameHill, T.hk_SameHill, T.e_SameHill, T.hd_SameHill, T.ha_SameHill, T.hn_obj, T.ht_obj, T.hm_SameHill⟩, T.kt_SameHill_NoLand, T.kt_SameHill_NoHill, T.kt_SameHill_SameHill, T.kt_SameHill_TooHigh, T.kt_SameHill_NothingDone, T.kt_SameHill_HillError, T.kv_SameHill, rfl⟩
/-- what is asked twice -/
def Wrong (x y : V) (n : Nat) (z : Str) : Prop := ((¬ Ok x n ∨ ¬ Ok y n) ∧ z = "no hill") ∨ ((Ok x n ∧ x = y) ∧ z = "same hill")
def spRefused (K : PySem.W.Frag) : Sp := fun vs H Q _ => ∃ (l : Addr) (ns : List Int) (x y : V) (z : Str), vs = [.ref l, x, y] ∧ SqL K H l (IL ns) ∧ ns.length ≤ 1000 ∧ (∀ H', Same H H' → Wh K H' x) ∧ (∀ H', Same H H' → Wh K H' y) ∧ Wrong x y ns.length z ∧ ∀ H', Same H H' → Q (.str z) H'
theorem ok_law_refused (T : Txt K mg) : FnOk P w K mg base CX0 6 T.a_law_refused T.d_law_refused ["_law_land", "_law_a", "_law_b"] (spRefused K) := by
  refine T.F_law_refused.ok sc_law_refused (fun vs H Q E h => ?_) (fun cdv A outer s H vs Q E hr h => ⟨_, (pss_cons (ps_set (i := 3) sc_law_refused.nd rfl (Or.inl rfl) (pe_lst pa_nil))
      (pss_cons (ps_for PassesOwn.never rfl (pi_tupK (K := K) rfl (pe_tup (pa_cons pe_int (pa_cons pe_int pa_nil)))) (pg_name (i := 4) sc_law_refused.nd rfl (Or.inl rfl)) (pss_one (ps_try_manyA rfl rfl sc_law_refused.nd takes0N (fun W pn xe tk po => (pss_cons (ps_if (pt_cmpR op_eq (pv 4) pe_int (nomark _)) (pss_one (ps_expr (pe_callS (ok_sees T) (hr.mono (by decide)) rfl T.g_sees T.F_sees.kp T.b_sees (fun σ => L2N.passAt tk σ) (pa_cons (pv 0) (pa_cons (pv 1) (pa_cons (pv 2) pa_nil)))))) (pss_one (ps_expr (pe_callS (ok_hider T) (hr.mono (by decide)) rfl T.g_hider T.F_hider.kp T.b_hider (fun σ => L2N.passAt tk σ) (pa_cons (pv 0) (pa_cons (pv 1) (pa_cons (pv 2) pa_nil)))))))
          (pss_one (ps_expr (pe_bmK (K := K) rfl PySem.F.plainAttrs_list PySem.F.slot_list_append PySem.F.type_list_append mt_append (pv 3) (pa_cons pe_str pa_nil)))))) (.consA (i := 5) rfl rfl ⟨rfl, by decide, .inl T.g_NoHill⟩ (fun a oe cls d pn hz hf => (pss_cons (ps_expr (pe_bmK (K := K) rfl PySem.F.plainAttrs_list PySem.F.slot_list_append PySem.F.type_list_append mt_append (pv 3) (pa_cons pe_str pa_nil)))
          (pss_one (ps_if (pt_not (pt_val (pe_callP (p := (a, oe)) (okP_law_sole T hz hf) (roomM (j := 1) hr (by decide)) ⟨rfl, hot2 hz hf⟩ List.mem_cons_self rfl T.g_law_sole T.F_law_sole.kp T.b_law_sole (pa_cons (pv 5) pa_nil)))) (pss_one (ps_ret pe_str)) pss_nil)))) (.consA (i := 5) rfl rfl ⟨rfl, by decide, .inl T.g_SameHill⟩ (fun a oe cls d pn hz hf => (pss_cons (ps_expr (pe_bmK (K := K) rfl PySem.F.plainAttrs_list PySem.F.slot_list_append PySem.F.type_list_append mt_append (pv 3) (pa_cons pe_str pa_nil)))
          (pss_one (ps_if (pt_not (pt_val (pe_callP (p := (a, oe)) (okP_law_sole T hz hf) (roomM (j := 1) hr (by decide)) ⟨rfl, hot2 hz hf⟩ List.mem_cons_self rfl T.g_law_sole T.F_law_sole.kp T.b_law_sole (pa_cons (pv 5) pa_nil)))) (pss_one (ps_ret pe_str)) pss_nil)))) .nil)))))
      (pss_cons (ps_if (pt_cmpR op_ne (pe_ix (ix_listK (K := K) rfl) (pv 3) pe_int (fun _ _ => rfl)) (pe_ix (ix_listK (K := K) rfl) (pv 3) pe_int (fun _ _ => rfl)) (nomark _)) (pss_one (ps_ret pe_str)) pss_nil)
      (pss_one (ps_ret (pe_ix (ix_listK (K := K) rfl) (pv 3) pe_int (fun _ _ => rfl))))))), ?_⟩)
  · obtain ⟨l, ns, x, y, z, rfl, _⟩ := h
    rfl
  · obtain ⟨l, ns, x, y, z, rfl, hS, hn, hx, hy, hw, q⟩ := h
    walk_at "rd"
    refine ⟨sz 0, fun W nW => ?_⟩
    have s1 := same_upd (o := .lst []) nW
    have hW : (upd H W (.lst [])) W = some (.lst (List.replicate 0 (V.str z))) := upd_same
    generalize upd H W (.lst []) = H1 at *
    with_reducible refine rd_name ?_
    with_reducible refine rd_seq ?_
    refine rd_forTup (fun σ H Q Q' h q => ?_) ?_
    · obtain ⟨q1, q2⟩ := q
      exact ⟨q1, fun p np => h _ _ (q2 p np)⟩
    walk_at "rd"
    refine ⟨sz 2, fun t nt => ?_⟩
    have s2 := s1.trans (same_upd (o := .tup [.int 0, .int 1]) nt)
    have ht : (upd H1 t (.tup [.int 0, .int 1])) t = some (.tup [.int 0, .int 1]) := upd_same
    have hW2 := upd_keep (u := .tup [.int 0, .int 1]) hW nt
    generalize upd H1 t (.tup [.int 0, .int 1]) = H2 at *
    refine ⟨t, [.int 0, .int 1], rfl, .of ht, (fun i σ H' => ∃ v4 : Option V, σ = [some (.ref l), some x, some y, some (.ref W), v4, none] ∧ Same H H' ∧ H' t = some (.tup [.int 0, .int 1]) ∧ H' W = some (.lst (List.replicate i (V.str z))) ∧ i ≤ 2),
      ⟨none, rfl, s2, ht, hW2, by omega⟩, (fun i σ H' _ ⟨_, _, _, h, _⟩ => .of h), ?_, ?_⟩
    · rintro i x' σ H' hxi ⟨v4, rfl, s3, ht3, hW3, hi2⟩
      have hnW : ∀ H', Same H H' → H W = none := fun _ _ => nW
      have hi : i < 2 := by
        have := (List.getElem?_eq_some_iff.mp hxi).1
        exact this
      have hS3 := s3.seq hS
      have ask : ∀ (Q' : VK) (E' : XK), ((¬ Ok x ns.length ∨ ¬ Ok y ns.length) ∧ z = "no hill" → E' (.ref T.c_NoHill) none H') → ((Ok x ns.length ∧ x = y) ∧ z = "same hill" → E' (.ref T.c_SameHill) none H') → ∀ f, spHid K T.c_NoHill T.c_SameHill f [.ref l, x, y] H' Q' E' := by
        intro Q' E' h1 h2 f
        refine ⟨l, ns, x, y, rfl, hS3, hn, hx _ s3, hy _ s3, fun h => ?_, fun ho he => ?_, fun i j ei ej hi hj hij => ?_⟩
        · rcases hw with hw | hw
          · exact h1 hw
          · exfalso
            rcases h with h | h
            · exact h hw.1.1
            · exact h (hw.1.2 ▸ hw.1.1)
        · rcases hw with hw | hw
          · exfalso
            rcases hw.1 with h | h
            · exact h ho
            · exact h (he ▸ ho)
          · exact h2 hw
        · exfalso
          rcases hw with hw | hw
          · rcases hw.1 with h | h
            · exact h (by rw [ei]; exact ok_int.mpr ⟨by omega, by omega⟩)
            · exact h (by rw [ej]; exact ok_int.mpr ⟨by omega, by omega⟩)
          · have := hw.1.2
            rw [ei, ej] at this
            have := V.int.inj this
            omega
      have step : (upd H' W (.lst (List.replicate i (V.str z) ++ [V.str z]))) = upd H' W (.lst (List.replicate (i + 1) (V.str z))) := by
        rw [List.replicate_succ']
      have nWt : W ≠ t := fun e => by
        rw [e, ht3] at hW3
        cases hW3
      have fin : ∀ v : Option V, ∃ v4 : Option V, ([some (.ref l), some x, some y, some (.ref W), v, none] : L2.St) = [some (.ref l), some x, some y, some (.ref W), v4, none] ∧ Same H (upd H' W (.lst (List.replicate i (V.str z) ++ [V.str z]))) ∧ (upd H' W (.lst (List.replicate i (V.str z) ++ [V.str z]))) t = some (.tup [.int 0, .int 1]) ∧ (upd H' W (.lst (List.replicate i (V.str z) ++ [V.str z]))) W = some (.lst (List.replicate (i + 1) (V.str z))) ∧ i + 1 ≤ 2 := fun v =>
        ⟨v, rfl, Same.mut s3 nW, by rw [upd_ne (fun e => nWt e.symm)]; exact ht3, by rw [step, upd_same], by omega⟩
      obtain ⟨ii, rfl⟩ : ∃ ii : Int, x' = .int ii := by
        have hm := List.mem_of_getElem? hxi
        simp only [List.mem_cons, List.mem_nil_iff, or_false] at hm
        rcases hm with rfl | rfl
        · exact ⟨_, rfl⟩
        · exact ⟨_, rfl⟩
      walk_at "rd"
      refine ite2 (fun c => ?_) (fun c => ?_)
      · walk_at "rd"
        refine ask _ _ (fun hh => ?_) (fun hh => ?_) _
        · obtain ⟨_, rfl⟩ := hh
          refine ⟨true, exm_of T.e_NoHill T.i_NoHill T.t_NoHill T.s_NoHill_NoHill, fun _ ae nae => ?_, fun z => (by cases z)⟩
          dsimp only [endsOf, slotOf]
          walk_at "rd"
          refine ⟨ty_list (.of hW3), ?_⟩
          walk_at "rd"
          refine rd_append hW3 (by rw [List.length_replicate]; omega) ?_
          walk_at "rd"
          refine ⟨rfl, rfl, ⟨T.c_NoHill, _, _, _, _, _, rfl, so_NoHill T⟩, ?_⟩
          walk_at "rd"
          exact fin _
        · obtain ⟨_, rfl⟩ := hh
          refine ⟨false, exm_of T.e_NoHill T.i_NoHill T.t_NoHill T.s_SameHill_NoHill, fun z => (by cases z), fun _ => ?_⟩
          refine ⟨true, exm_of T.e_SameHill T.i_SameHill T.t_SameHill T.s_SameHill_SameHill, fun _ ae nae => ?_, fun z => (by cases z)⟩
          dsimp only [endsOf, slotOf]
          walk_at "rd"
          refine ⟨ty_list (.of hW3), ?_⟩
          walk_at "rd"
          refine rd_append hW3 (by rw [List.length_replicate]; omega) ?_
          walk_at "rd"
          refine ⟨rfl, rfl, ⟨T.c_SameHill, _, _, _, _, _, rfl, so_SameHill T⟩, ?_⟩
          walk_at "rd"
          exact fin _
      · walk_at "rd"
        refine ask _ _ (fun hh => ?_) (fun hh => ?_) _
        · obtain ⟨_, rfl⟩ := hh
          refine ⟨true, exm_of T.e_NoHill T.i_NoHill T.t_NoHill T.s_NoHill_NoHill, fun _ ae nae => ?_, fun z => (by cases z)⟩
          dsimp only [endsOf, slotOf]
          walk_at "rd"
          refine ⟨ty_list (.of hW3), ?_⟩
          walk_at "rd"
          refine rd_append hW3 (by rw [List.length_replicate]; omega) ?_
          walk_at "rd"
          refine ⟨rfl, rfl, ⟨T.c_NoHill, _, _, _, _, _, rfl, so_NoHill T⟩, ?_⟩
          walk_at "rd"
          exact fin _
        · obtain ⟨_, rfl⟩ := hh
          refine ⟨false, exm_of T.e_NoHill T.i_NoHill T.t_NoHill T.s_SameHill_NoHill, fun z => (by cases z), fun _ => ?_⟩
          refine ⟨true, exm_of T.e_SameHill T.i_SameHill T.t_SameHill T.s_SameHill_SameHill, fun _ ae nae => ?_, fun z => (by cases z)⟩
          dsimp only [endsOf, slotOf]
          walk_at "rd"
          refine ⟨ty_list (.of hW3), ?_⟩
          walk_at "rd"
          refine rd_append hW3 (by rw [List.length_replicate]; omega) ?_
          walk_at "rd"
          refine ⟨rfl, rfl, ⟨T.c_SameHill, _, _, _, _, _, rfl, so_SameHill T⟩, ?_⟩
          walk_at "rd"
          exact fin _
    · rintro σ H' ⟨v4, rfl, s3, ht3, hW3, hi2⟩
      walk_at "rd"
      refine rd_ixL (.of hW3) (atI_nat (j := 0) rfl) ?_
      walk_at "rd"
      refine rd_ixL (.of hW3) (atI_nat (j := 1) rfl) ?_
      walk_at "rd"
      refine rd_no (by simp) ?_
      walk_at "rd"
      refine rd_ixL (.of hW3) (atI_nat (j := 0) rfl) ?_
      exact q _ s3
def spLaw (K : PySem.W.Frag) : Sp := fun vs H Q _ => ∃ (a : Addr) (ns : List Int), vs = [.ref a] ∧ SqL K H a (IL ns) ∧ ns.length ≤ 63 ∧ ∀ H', Q (.bl true) H'
theorem ok_law (T : Txt K mg) : FnOk P w K mg base CX0 7 T.a_law T.d_law ["_law_script"] (spLaw K) := by
  refine T.F_law.ok sc_law (fun vs H Q E h => ?_) (fun cdv A outer s H vs Q E hr h => ⟨_, (pss_cons (ps_set (i := 1) sc_law.nd rfl (Or.inl rfl) (pe_call (ok_law_land_by T) (hr.mono (by decide)) rfl T.g_law_land_by T.F_law_land_by.kp T.b_law_land_by .nil pass0 (pa_cons (pv 0) (pa_cons pe_int pa_nil))))
      (pss_cons (ps_if (pt_cmpR op_eq (pe_op op_mod (pe_call (ok_law_cell_at T) (hr.mono (by decide)) rfl T.g_law_cell_at T.F_law_cell_at.kp T.b_law_cell_at .nil pass0 (pa_cons (pv 0) (pa_cons pe_int pa_nil))) pe_int) pe_int (nomark _)) (pss_one (ps_set (i := 1) sc_law.nd rfl (Or.inl rfl) (pe_call (ok_law_longer T) (hr.mono (by decide)) rfl T.g_law_longer T.F_law_longer.kp T.b_law_longer .nil pass0 (pa_cons (pv 0) (pa_cons (pv 1) (pa_cons pe_int (pa_cons pe_int pa_nil))))))) pss_nil)
      (pss_cons (ps_set (i := 2) sc_law.nd rfl (Or.inl rfl) (pe_callTy (call_listK (K := K) rfl) rfl T.n_list (by decide +kernel) (pa_cons (pv 1) pa_nil)))
      (pss_cons (ps_set (i := 3) sc_law.nd rfl (Or.inl rfl) (pe_op op_mod (pe_call (ok_law_cell_at T) (hr.mono (by decide)) rfl T.g_law_cell_at T.F_law_cell_at.kp T.b_law_cell_at .nil pass0 (pa_cons (pv 0) (pa_cons pe_int pa_nil))) (pe_callB (call_lenK (K := K) rfl) rfl T.n_len (by decide +kernel) (pa_cons (pv 1) pa_nil))))
      (pss_cons (ps_set (i := 4) sc_law.nd rfl (Or.inl rfl) (pe_op op_mod (pe_op op_fdiv (pe_call (ok_law_cell_at T) (hr.mono (by decide)) rfl T.g_law_cell_at T.F_law_cell_at.kp T.b_law_cell_at .nil pass0 (pa_cons (pv 0) (pa_cons pe_int pa_nil))) pe_int) (pe_callB (call_lenK (K := K) rfl) rfl T.n_len (by decide +kernel) (pa_cons (pv 1) pa_nil))))
      (pss_cons (ps_set (i := 5) sc_law.nd rfl (Or.inl rfl) (pe_lst (pa_cons (pe_un un_neg pe_int) (pa_cons (pe_callB (call_lenK (K := K) rfl) rfl T.n_len (by decide +kernel) (pa_cons (pv 1) pa_nil)) (pa_cons (pe_op op_add (pe_callB (call_lenK (K := K) rfl) rfl T.n_len (by decide +kernel) (pa_cons (pv 1) pa_nil)) (pe_op op_pow pe_int pe_int)) (pa_cons pe_bl (pa_cons pe_str (pa_cons pe_non (pa_cons (pe_un un_neg (pe_callB (call_lenK (K := K) rfl) rfl T.n_len (by decide +kernel) (pa_cons (pv 1) pa_nil))) (pa_cons pe_bl (pa_cons (pe_tup (pa_cons pe_int pa_nil)) (pa_cons (pe_lst (pa_cons pe_int pa_nil)) pa_nil))))))))))))
      (pss_cons (ps_set (i := 6) sc_law.nd rfl (Or.inl rfl) (pe_op op_mod (pe_op op_fdiv (pe_call (ok_law_cell_at T) (hr.mono (by decide)) rfl T.g_law_cell_at T.F_law_cell_at.kp T.b_law_cell_at .nil pass0 (pa_cons (pv 0) (pa_cons pe_int pa_nil))) (pe_callB (call_lenK (K := K) rfl) rfl T.n_len (by decide +kernel) (pa_cons (pv 1) pa_nil))) pe_int))
      (pss_cons (ps_if (pt_cmpR op_eq (pv 6) pe_int (nomark _)) (pss_one (ps_set (i := 4) sc_law.nd rfl (Or.inl rfl) (pv 3))) pss_nil)
      (pss_cons (ps_if (pt_cmpR op_eq (pv 6) pe_int (nomark _)) (pss_cons (ps_set (i := 4) sc_law.nd rfl (Or.inl rfl) (pe_ix (ix_listK (K := K) rfl) (pv 5) (pe_op op_mod (pe_op op_fdiv (pe_call (ok_law_cell_at T) (hr.mono (by decide)) rfl T.g_law_cell_at T.F_law_cell_at.kp T.b_law_cell_at .nil pass0 (pa_cons (pv 0) (pa_cons pe_int pa_nil))) pe_int) pe_int) (fun _ _ => rfl)))
        (pss_cons (ps_if (pt_cmpR op_eq (pe_op op_mod (pe_op op_fdiv (pe_call (ok_law_cell_at T) (hr.mono (by decide)) rfl T.g_law_cell_at T.F_law_cell_at.kp T.b_law_cell_at .nil pass0 (pa_cons (pv 0) (pa_cons pe_int pa_nil))) pe_int) pe_int) pe_int (nomark _)) (pss_cons (ps_set (i := 3) sc_law.nd rfl (Or.inl rfl) (pv 4))
          (pss_one (ps_set (i := 4) sc_law.nd rfl (Or.inl rfl) (pe_op op_mod (pe_op op_fdiv (pe_call (ok_law_cell_at T) (hr.mono (by decide)) rfl T.g_law_cell_at T.F_law_cell_at.kp T.b_law_cell_at .nil pass0 (pa_cons (pv 0) (pa_cons pe_int pa_nil))) pe_int) (pe_callB (call_lenK (K := K) rfl) rfl T.n_len (by decide +kernel) (pa_cons (pv 1) pa_nil)))))) pss_nil)
        (pss_cons (ps_if (pt_cmpR op_ne (pe_call (ok_law_refused T) (hr.mono (by decide)) rfl T.g_law_refused T.F_law_refused.kp T.b_law_refused .nil pass0 (pa_cons (pv 2) (pa_cons (pv 3) (pa_cons (pv 4) pa_nil)))) pe_str (nomark _)) (pss_one (ps_ret pe_bl)) pss_nil)
        (pss_cons (ps_if (PW.pt (pw_and (pt_val (pe_call (ok_law_whole T) (hr.mono (by decide)) rfl T.g_law_whole T.F_law_whole.kp T.b_law_whole .nil pass0 (pa_cons (pv 3) pa_nil))) (pw_and1 (pt_chain op_le op_lt pe_int (pv 3) (pe_callB (call_lenK (K := K) rfl) rfl T.n_len (by decide +kernel) (pa_cons (pv 1) pa_nil)))))) (pss_one (ps_set (i := 3) sc_law.nd rfl (Or.inl rfl) (pv 4))) pss_nil)
        (pss_one (ps_ret (pe_and (pe_cmpR op_eq (pe_call (ok_law_refused T) (hr.mono (by decide)) rfl T.g_law_refused T.F_law_refused.kp T.b_law_refused .nil pass0 (pa_cons (pv 2) (pa_cons (pv 3) (pa_cons (pv 3) pa_nil)))) pe_str (nomark _)) (pe_one (pe_cmpR (op_eqDK (K := K) rfl hr.units) (pv 2) (pv 1) (nomark _)))))))))) pss_nil)
      (pss_cons (ps_if (pt_cmpR op_eq (pv 3) (pv 4) (nomark _)) (pss_one (ps_ret (pe_and (pe_cmpR op_eq (pe_call (ok_law_refused T) (hr.mono (by decide)) rfl T.g_law_refused T.F_law_refused.kp T.b_law_refused .nil pass0 (pa_cons (pv 2) (pa_cons (pv 3) (pa_cons (pv 4) pa_nil)))) pe_str (nomark _)) (pe_one (pe_cmpR (op_eqDK (K := K) rfl hr.units) (pv 2) (pv 1) (nomark _)))))) pss_nil)
      (pss_cons (ps_set (i := 7) sc_law.nd rfl (Or.inl rfl) (pe_call (ok_law_hider_by T) (hr.mono (by decide)) rfl T.g_law_hider_by T.F_law_hider_by.kp T.b_law_hider_by .nil pass0 (pa_cons (pv 1) (pa_cons (pe_callB (call_min2K rfl) rfl T.n_min (by decide +kernel) (pa_cons (pv 3) (pa_cons (pv 4) pa_nil))) (pa_cons (pe_callB (call_max2K rfl) rfl T.n_max (by decide +kernel) (pa_cons (pv 3) (pa_cons (pv 4) pa_nil))) pa_nil)))))
      (pss_cons (ps_set (i := 8) sc_law.nd rfl (Or.inl rfl) (pe_call (ok_hider T) (hr.mono (by decide)) rfl T.g_hider T.F_hider.kp T.b_hider .nil passLN (pa_cons (pv 2) (pa_cons (pv 3) (pa_cons (pv 4) pa_nil)))))
      (pss_cons (ps_set (i := 9) sc_law.nd rfl (Or.inl rfl) (pe_call (ok_sees T) (hr.mono (by decide)) rfl T.g_sees T.F_sees.kp T.b_sees .nil passLN (pa_cons (pv 2) (pa_cons (pv 3) (pa_cons (pv 4) pa_nil)))))
      (pss_cons (ps_if (PW.pt (pw_or (pt_not (pt_val (pe_callB (call_isiK0 (K := K) rfl) rfl T.n_isinstance (by decide +kernel) (pa_cons (pv 9) (pa_cons (pe_bltn (v := .ty "bool") (by rfl) T.n_bool (by decide +kernel) rfl) pa_nil))))) (pw_or (pt_cmpR op_ne (pv 9) (pe_cmpR op_isN1 (pv 7) pe_non (nomark _)) (nomark _)) (pw_or1 (pt_cmpR (op_neDK (K := K) rfl hr.units) (pv 2) (pv 1) (nomark _)))))) (pss_one (ps_ret pe_bl)) pss_nil)
      (pss_cons (ps_if (pt_cmpR op_isN1 (pv 7) pe_non (nomark _)) (pss_one (ps_ret (pe_cmpR op_isN1 (pv 8) pe_non (nomark _)))) pss_nil)
      (pss_one (ps_ret (pe_and (pe_call (ok_law_whole T) (hr.mono (by decide)) rfl T.g_law_whole T.F_law_whole.kp T.b_law_whole .nil pass0 (pa_cons (pv 8) pa_nil)) (pe_one (pe_cmpR op_eq (pv 8) (pv 7) (nomark _))))))))))))))))))))), ?_⟩)
  · obtain ⟨a, ns, rfl, _⟩ := h
    rfl
  · obtain ⟨s0, ns, rfl, hS, hlen, k⟩ := h
    walk_at "rd"
    refine ⟨s0, ns, 12, rfl, hS, by omega, fun D1 hs n1 b1 b2 => ?_⟩
    have s1 := same_upd (o := .lst (IL hs)) n1
    have hD1 : (upd H D1 (.lst (IL hs))) D1 = some (.lst (IL hs)) := upd_same
    generalize upd H D1 (.lst (IL hs)) = H1 at *
    have hS1 := s1.seq hS
    walk_at "rq"
    with_reducible refine rd_cut (fun σ' H' => ∃ (L : Addr) (zs : List Int), σ' = [some (.ref s0), some (.ref L), none, none, none, none, none, none, none, none] ∧ Same H H' ∧ H' L = some (.lst (IL zs)) ∧ 0 < zs.length ∧ zs.length ≤ 200) (fun N hN => ?_) ?_
    · walk_at "rd"
      refine ite2 (fun c => ?_) (fun c => ?_)
      · walk_at "rd"
        refine ⟨s0, D1, ns, hs, 12, 188, rfl, hS1, .of hD1, by omega, by omega, b2, fun D3 zs n3 c1 c2 => ?_⟩
        walk_at "rd"
        exact hN _ _ ⟨D3, zs, rfl, s1.trans (same_upd n3), upd_same, by omega, by omega⟩
      · walk_at "rd"
        exact hN _ _ ⟨D1, hs, rfl, s1, hD1, by omega, by omega⟩
    clear hS1 hD1 s1 n1 b1 b2
    rintro σ1 H1 ⟨L, zs, rfl, s1, hL, hz0, hz⟩
    walk_at "rd"
    intro M nM
    have hM : (upd H1 M (.lst (IL zs))) M = some (.lst (IL zs)) := upd_same
    have hL2 := upd_keep (u := .lst (IL zs)) hL nM
    have s2 := s1.trans (same_upd (o := .lst (IL zs)) nM)
    generalize upd H1 M (.lst (IL zs)) = H2 at *
    have hS2 := s2.seq hS
    have hzl : (IL zs).length = zs.length := List.length_map _
    walk_at "rd"
    obtain ⟨a, ea, ha⟩ : ∃ i : Nat, cell ns (Int.toNat 1) % ((IL zs).length : Int) = (i : Int) ∧ i < zs.length := by
      have := emod_b (x := cell ns (Int.toNat 1)) (n := ((IL zs).length : Int)) (by omega)
      exact ⟨(cell ns (Int.toNat 1) % ((IL zs).length : Int)).toNat, by omega, by omega⟩
    obtain ⟨b, eb, hb⟩ : ∃ i : Nat, cell ns (Int.toNat 2) / 7 % ((IL zs).length : Int) = (i : Int) ∧ i < zs.length := by
      have := emod_b (x := cell ns (Int.toNat 2) / 7) (n := ((IL zs).length : Int)) (by omega)
      exact ⟨(cell ns (Int.toNat 2) / 7 % ((IL zs).length : Int)).toNat, by omega, by omega⟩
    obtain ⟨b2, eb2, hb2⟩ : ∃ i : Nat, cell ns (Int.toNat 1) / 7 % ((IL zs).length : Int) = (i : Int) ∧ i < zs.length := by
      have := emod_b (x := cell ns (Int.toNat 1) / 7) (n := ((IL zs).length : Int)) (by omega)
      exact ⟨(cell ns (Int.toNat 1) / 7 % ((IL zs).length : Int)).toNat, by omega, by omega⟩
    rw [ea, eb]
    walk_at "rd"
    refine ⟨sz 1, fun t nt => ?_⟩
    have s3 := same_upd (o := .tup [.int 0]) nt
    have ht : (upd H2 t (.tup [.int 0])) t = some (.tup [.int 0]) := upd_same
    generalize upd H2 t (.tup [.int 0]) = H3 at *
    walk_at "rd"
    refine ⟨sz 1, fun u nu => ?_⟩
    have s3' := same_upd (o := .lst [.int 1]) nu
    have hu : (upd H3 u (.lst [.int 1])) u = some (.lst [.int 1]) := upd_same
    have ht' := s3' _ _ ht
    have s33 := s3.trans s3'
    generalize upd H3 u (.lst [.int 1]) = H4 at *
    walk_at "rd"
    refine ⟨sz 10, fun S nS => ?_⟩
    obtain ⟨xs, hxs⟩ : ∃ xs : List V, xs = [V.int (-1), .int ((IL zs).length : Int), .int (((IL zs).length : Int) + 10 ^ (9 : Int).toNat), .bl true, .str "0", .non, .int (-((IL zs).length : Int)), .bl false, .ref t, .ref u] := ⟨_, rfl⟩
    have hodd : ∀ x, x ∈ xs → ∀ H', Same H4 H' → Odd K H' zs.length x := by
      intro x hx H' sH
      rw [hxs] at hx
      simp only [List.mem_cons, List.mem_nil_iff, or_false] at hx
      rcases hx with rfl | rfl | rfl | rfl | rfl | rfl | rfl | rfl | rfl | rfl
      · exact odd_int (.inl (by decide))
      · exact odd_int (.inr (by omega))
      · exact odd_int (.inr (by rw [ten9]; omega))
      · exact odd_bl
      · exact odd_str
      · exact odd_non
      · exact odd_int (.inl (by omega))
      · exact odd_bl
      · exact odd_tup (sH _ _ ht')
      · exact odd_lst (sH _ _ hu)
    have hSS : (upd H4 S (.lst xs)) S = some (.lst xs) := upd_same
    have s4 := same_upd (o := .lst xs) nS
    have s24 := s33.trans s4
    have hxl : xs.length = 10 := by rw [hxs]; rfl
    rw [← hxs]
    generalize upd H4 S (.lst xs) = H5 at *
    have hS5 := s24.seq hS2
    have hM5 := s24 _ _ hM
    have hL5 := s24 _ _ hL2
    walk_at "rq"
    with_reducible refine rd_seq ?_
    walk_at "rq"
    generalize cell ns (Int.toNat 1) / ((IL zs).length : Int) % 5 = turn
    with_reducible refine rd_cut (fun σ' H' => ∃ b' : Nat, b' < zs.length ∧ σ' = [some (.ref s0), some (.ref L), some (.ref M), some (.int (a : Int)), some (.int (b' : Int)), some (.ref S), some (.int turn), none, none, none] ∧ H' = H5) (fun N hN => ?_) ?_
    · walk_at "rd"
      refine ite2 (fun c => ?_) (fun c => ?_)
      · walk_at "rd"
        exact hN _ _ ⟨a, ha, rfl, rfl⟩
      · walk_at "rd"
        exact hN _ _ ⟨b, hb, rfl, rfl⟩
    clear hb eb b
    rintro σ5 H5' ⟨b, hb, rfl, eH⟩
    subst eH
    walk_at "rd"
    refine ite2 (fun c => ?_) (fun c => ?_)
    · walk_at "rd"
      obtain ⟨o, ho0, ex⟩ := atI_mem (xs := xs) (i := cell ns (Int.toNat 2) / 7 % 10) (by omega) (by rw [hxl]; omega)
      refine rd_ixL (.of hSS) ex ?_
      have ho : ∀ H', Same H5' H' → Odd K H' zs.length o := fun H' s => hodd o ho0 H' (s4.trans s)
      walk_at "rq"
      have whi : ∀ (z : Int) H', Same H5' H' → Wh K H' (.int z) := fun _ _ _ => wh_int
      with_reducible refine rd_cut (fun σ' H' => ∃ p q : V, σ' = [some (.ref s0), some (.ref L), some (.ref M), some p, some q, some (.ref S), some (.int turn), none, none, none] ∧ H' = H5' ∧ ((p = .int (a : Int) ∧ q = o) ∨ (p = o ∧ q = .int (b2 : Int)))) (fun N hN => ?_) ?_
      · walk_at "rd"
        refine ite2 (fun d => ?_) (fun d => ?_)
        · walk_at "rd"
          rw [eb2]
          exact hN _ _ ⟨_, _, rfl, rfl, .inr ⟨rfl, rfl⟩⟩
        · walk_at "rd"
          exact hN _ _ ⟨_, _, rfl, rfl, .inl ⟨rfl, rfl⟩⟩
      rintro σ6 H6 ⟨p, q, rfl, eH, hpq⟩
      subst eH
      have hp : ∀ H', Same H6 H' → Wh K H' p := by
        rcases hpq with ⟨rfl, rfl⟩ | ⟨rfl, rfl⟩
        · exact whi _
        · exact fun H' s => (ho H' s).1
      have hq : ∀ H', Same H6 H' → Wh K H' q := by
        rcases hpq with ⟨rfl, rfl⟩ | ⟨rfl, rfl⟩
        · exact fun H' s => (ho H' s).1
        · exact whi _
      have nok : ¬ Ok o zs.length := (ho _ (Same.refl _)).2
      have hno : ¬ Ok p zs.length ∨ ¬ Ok q zs.length := by
        rcases hpq with ⟨rfl, rfl⟩ | ⟨rfl, rfl⟩
        · exact .inr nok
        · exact .inl nok
      walk_at "rd"
      refine ⟨M, zs, p, q, _, rfl, .of hM5, by omega, hp, hq, .inl ⟨hno, rfl⟩, fun H7 s7 => ?_⟩
      have hM7 := s7 _ _ hM5
      have hL7 := s7 _ _ hL5
      have hSm : Same H7 H7 := Same.refl _
      walk_at "rd"
      refine rd_no (by simp) ?_
      walk_at "rq"
      with_reducible refine rd_cut (fun σ' H' => ∃ q' : V, σ' = [some (.ref s0), some (.ref L), some (.ref M), some o, some q', some (.ref S), some (.int turn), none, none, none] ∧ H' = H7) (fun N hN => ?_) ?_
      · walk_at "rd"
        rcases hpq with ⟨rfl, rfl⟩ | ⟨rfl, rfl⟩
        · refine ⟨_, true, rfl, whole_int, ?_⟩
          walk_at "rd"
          refine rd_yes (by simp) ?_
          walk_at "rd"
          refine rd_yes (by rw [hzl]; simp; omega) ?_
          walk_at "rd"
          exact hN _ _ ⟨_, rfl, rfl⟩
        · obtain ⟨r, w1, w2⟩ := hp _ s7
          refine ⟨_, r, rfl, w1, ?_⟩
          cases r with
          | false =>
            walk_at "rd"
            exact hN _ _ ⟨_, rfl, rfl⟩
          | true =>
            obtain ⟨z, rfl⟩ := w2.mp rfl
            walk_at "rd"
            refine ite2 (fun d => ?_) (fun d => ?_)
            · walk_at "rd"
              refine ite2 (fun e => ?_) (fun e => ?_)
              · exfalso
                refine nok (ok_int.mpr ⟨by simpa using d, ?_⟩)
                rw [hzl] at e
                simpa using e
              · walk_at "rd"
                exact hN _ _ ⟨_, rfl, rfl⟩
            · walk_at "rd"
              exact hN _ _ ⟨_, rfl, rfl⟩
      rintro σ8 H8 ⟨q', rfl, eH⟩
      subst eH
      walk_at "rd"
      refine ⟨M, zs, o, o, _, rfl, .of hM7, by omega, fun H' s => (ho H' (s7.trans s)).1, fun H' s => (ho H' (s7.trans s)).1, .inl ⟨.inl nok, rfl⟩, fun H9 s9 => ?_⟩
      walk_at "rd"
      refine rd_yes (by simp) ?_
      walk_at "rd"
      refine rd_eqI (.of (s9 _ _ hM7)) (.of (s9 _ _ hL7)) ?_
      rw [decide_eq_true rfl]
      exact k _
    · walk_at "rd"
      by_cases hab : a = b
      · refine rd_yes (by rw [hab]; simp) ?_
        walk_at "rd"
        refine ⟨M, zs, _, _, _, rfl, .of hM5, by omega, fun _ _ => wh_int, fun _ _ => wh_int, .inr ⟨⟨ok_int.mpr ⟨by omega, by omega⟩, by rw [hab]⟩, rfl⟩, fun H9 s9 => ?_⟩
        walk_at "rd"
        refine rd_yes (by simp) ?_
        walk_at "rd"
        refine rd_eqI (.of (s9 _ _ hM5)) (.of (s9 _ _ hL5)) ?_
        rw [decide_eq_true rfl]
        exact k _
      refine rd_no (by simp; omega) ?_
      walk_at "rd"
      refine ⟨L, zs, min a b, max a b, rfl, .of hL5, ⟨by omega, by omega, by omega⟩, ?_⟩
      walk_at "rd"
      refine rd_hid (.of hM5) (by omega) ha hb hab (fun H7 s7 => ?_)
      walk_at "rd"
      refine rd_hid (.of (s7 _ _ hM5)) (by omega) ha hb hab (fun H8 s8 => ?_)
      have s78 := s7.trans s8
      have hM8 := s78 _ _ hM5
      have hL8 := s78 _ _ hL5
      walk_at "rd"
      refine rd_isi (b := true) (.base (.bl _)) (by decide +kernel) ?_
      walk_at "rd"
      have hh := hidM_none (ns := zs) (a := min a b) (b := max a b) (by omega)
      cases e : hidM zs (min a b) (max a b) with
      | none =>
        rw [hh.mp e]
        refine rd_no (by simp [oV]) ?_
        walk_at "rd"
        refine rd_neI (.of hM8) (.of hL8) ?_
        walk_at "rd"
        refine rd_no (by simp) ?_
        walk_at "rd"
        refine rd_yes (by simp [oV]) ?_
        walk_at "rd"
        exact k _
      | some m =>
        have hs : seeB zs (min a b) (max a b) = false := by
          rw [← Bool.not_eq_true]
          intro z
          rw [hh.mpr z] at e
          cases e
        rw [hs]
        refine rd_no (by simp [oV]) ?_
        walk_at "rd"
        refine rd_neI (.of hM8) (.of hL8) ?_
        walk_at "rd"
        refine rd_no (by simp) ?_
        walk_at "rd"
        refine rd_no (by simp [oV]) ?_
        walk_at "rd"
        refine ⟨_, true, rfl, whole_int, ?_⟩
        walk_at "rd"
        have : decide (oV (some m) = oV (some m)) = true := decide_eq_true rfl
        rw [this]
        exact k _


end
theorem all_mk {l : PySem.W.OpenLaw} {w : World} {K : PySem.W.Frag} {h : Heap} {mg : Str → Option Value} {fa : Addr} (X : K.In h) (G : h.Ns mainGlobals mg) (hfa : mg "law" = some (.ref fa))
    {f_is_whole : Addr} {od_is_whole an_is_whole : Option Addr} {sl_is_whole : Array (Option Value)} {oc_is_whole kV_is_whole dc_is_whole pm_is_whole cd_is_whole ct_is_whole : Value} {f_need_hill : Addr} {od_need_hill an_need_hill : Option Addr} {sl_need_hill : Array (Option Value)} {oc_need_hill kV_need_hill dc_need_hill pm_need_hill cd_need_hill ct_need_hill : Value} {f_need_two : Addr} {od_need_two an_need_two : Option Addr} {sl_need_two : Array (Option Value)} {oc_need_two kV_need_two dc_need_two pm_need_two cd_need_two ct_need_two : Value} {f_slope : Addr} {od_slope an_slope : Option Addr} {sl_slope : Array (Option Value)} {oc_slope kV_slope dc_slope pm_slope cd_slope ct_slope : Value} {f_steeper : Addr} {od_steeper an_steeper : Option Addr} {sl_steeper : Array (Option Value)} {oc_steeper kV_steeper dc_steeper pm_steeper cd_steeper ct_steeper : Value} {f_steepest : Addr} {od_steepest an_steepest : Option Addr} {sl_steepest : Array (Option Value)} {oc_steepest kV_steepest dc_steepest pm_steepest cd_steepest ct_steepest : Value} {f_hider : Addr} {od_hider an_hider : Option Addr} {sl_hider : Array (Option Value)} {oc_hider kV_hider dc_hider pm_hider cd_hider ct_hider : Value} {f_sees : Addr} {od_sees an_sees : Option Addr} {sl_sees : Array (Option Value)} {oc_sees kV_sees dc_sees pm_sees cd_sees ct_sees : Value} {f_law_sole : Addr} {od_law_sole an_law_sole : Option Addr} {sl_law_sole : Array (Option Value)} {oc_law_sole kV_law_sole dc_law_sole pm_law_sole cd_law_sole ct_law_sole : Value} {f_law_whole : Addr} {od_law_whole an_law_whole : Option Addr} {sl_law_whole : Array (Option Value)} {oc_law_whole kV_law_whole dc_law_whole pm_law_whole cd_law_whole ct_law_whole : Value} {f_law_cell_at : Addr} {od_law_cell_at an_law_cell_at : Option Addr} {sl_law_cell_at : Array (Option Value)} {oc_law_cell_at kV_law_cell_at dc_law_cell_at pm_law_cell_at cd_law_cell_at ct_law_cell_at : Value} {f_law_height_by : Addr} {od_law_height_by an_law_height_by : Option Addr} {sl_law_height_by : Array (Option Value)} {oc_law_height_by kV_law_height_by dc_law_height_by pm_law_height_by cd_law_height_by ct_law_height_by : Value} {f_law_longer : Addr} {od_law_longer an_law_longer : Option Addr} {sl_law_longer : Array (Option Value)} {oc_law_longer kV_law_longer dc_law_longer pm_law_longer cd_law_longer ct_law_longer : Value} {f_law_land_by : Addr} {od_law_land_by an_law_land_by : Option Addr} {sl_law_land_by : Array (Option Value)} {oc_law_land_by kV_law_land_by dc_law_land_by pm_law_land_by cd_law_land_by ct_law_land_by : Value} {f_law_above : Addr} {od_law_above an_law_above : Option Addr} {sl_law_above : Array (Option Value)} {oc_law_above kV_law_above dc_law_above pm_law_above cd_law_above ct_law_above : Value} {f_law_hider_by : Addr} {od_law_hider_by an_law_hider_by : Option Addr} {sl_law_hider_by : Array (Option Value)} {oc_law_hider_by kV_law_hider_by dc_law_hider_by pm_law_hider_by cd_law_hider_by ct_law_hider_by : Value} {f_law_refused : Addr} {od_law_refused an_law_refused : Option Addr} {sl_law_refused : Array (Option Value)} {oc_law_refused kV_law_refused dc_law_refused pm_law_refused cd_law_refused ct_law_refused : Value} {f_law : Addr} {od_law an_law : Option Addr} {sl_law : Array (Option Value)} {oc_law kV_law dc_law pm_law cd_law ct_law : Value} {c_HillError : Addr} {c_NoLand : Addr} {c_NoHill : Addr} {c_SameHill : Addr} {c_TooHigh : Addr} {c_NothingDone : Addr}
    (a_is_whole : PySem.W.nsIn K mainGlobals "is_whole" = some (some (.ref f_is_whole)))
    (l_is_whole : K.lookup f_is_whole = some ⟨oc_is_whole, od_is_whole, .func (PySem.W.fnOf "is_whole" "is_whole" (defArgs s_is_whole) (defBody s_is_whole) (defScope s_is_whole) .none kV_is_whole dc_is_whole pm_is_whole an_is_whole cd_is_whole ct_is_whole), sl_is_whole⟩)
    (q_is_whole : PySem.W.codeIn K cd_is_whole "is_whole" = true)
    (k_is_whole : PySem.W.keepIn K (.ref f_is_whole) = true)
    (a_need_hill : PySem.W.nsIn K mainGlobals "need_hill" = some (some (.ref f_need_hill)))
    (l_need_hill : K.lookup f_need_hill = some ⟨oc_need_hill, od_need_hill, .func (PySem.W.fnOf "need_hill" "need_hill" (defArgs s_need_hill) (defBody s_need_hill) (defScope s_need_hill) .none kV_need_hill dc_need_hill pm_need_hill an_need_hill cd_need_hill ct_need_hill), sl_need_hill⟩)
    (q_need_hill : PySem.W.codeIn K cd_need_hill "need_hill" = true)
    (k_need_hill : PySem.W.keepIn K (.ref f_need_hill) = true)
    (a_need_two : PySem.W.nsIn K mainGlobals "need_two" = some (some (.ref f_need_two)))
    (l_need_two : K.lookup f_need_two = some ⟨oc_need_two, od_need_two, .func (PySem.W.fnOf "need_two" "need_two" (defArgs s_need_two) (defBody s_need_two) (defScope s_need_two) .none kV_need_two dc_need_two pm_need_two an_need_two cd_need_two ct_need_two), sl_need_two⟩)
    (q_need_two : PySem.W.codeIn K cd_need_two "need_two" = true)
    (k_need_two : PySem.W.keepIn K (.ref f_need_two) = true)
    (a_slope : PySem.W.nsIn K mainGlobals "slope" = some (some (.ref f_slope)))
    (l_slope : K.lookup f_slope = some ⟨oc_slope, od_slope, .func (PySem.W.fnOf "slope" "slope" (defArgs s_slope) (defBody s_slope) (defScope s_slope) .none kV_slope dc_slope pm_slope an_slope cd_slope ct_slope), sl_slope⟩)
    (q_slope : PySem.W.codeIn K cd_slope "slope" = true)
    (k_slope : PySem.W.keepIn K (.ref f_slope) = true)
    (a_steeper : PySem.W.nsIn K mainGlobals "steeper" = some (some (.ref f_steeper)))
    (l_steeper : K.lookup f_steeper = some ⟨oc_steeper, od_steeper, .func (PySem.W.fnOf "steeper" "steeper" (defArgs s_steeper) (defBody s_steeper) (defScope s_steeper) .none kV_steeper dc_steeper pm_steeper an_steeper cd_steeper ct_steeper), sl_steeper⟩)
    (q_steeper : PySem.W.codeIn K cd_steeper "steeper" = true)
    (k_steeper : PySem.W.keepIn K (.ref f_steeper) = true)
    (a_steepest : PySem.W.nsIn K mainGlobals "steepest" = some (some (.ref f_steepest)))
    (l_steepest : K.lookup f_steepest = some ⟨oc_steepest, od_steepest, .func (PySem.W.fnOf "steepest" "steepest" (defArgs s_steepest) (defBody s_steepest) (defScope s_steepest) .none kV_steepest dc_steepest pm_steepest an_steepest cd_steepest ct_steepest), sl_steepest⟩)
    (q_steepest : PySem.W.codeIn K cd_steepest "steepest" = true)
    (k_steepest : PySem.W.keepIn K (.ref f_steepest) = true)
    (a_hider : PySem.W.nsIn K mainGlobals "hider" = some (some (.ref f_hider)))
    (l_hider : K.lookup f_hider = some ⟨oc_hider, od_hider, .func (PySem.W.fnOf "hider" "hider" (defArgs s_hider) (defBody s_hider) (defScope s_hider) .none kV_hider dc_hider pm_hider an_hider cd_hider ct_hider), sl_hider⟩)
    (q_hider : PySem.W.codeIn K cd_hider "hider" = true)
    (k_hider : PySem.W.keepIn K (.ref f_hider) = true)
    (a_sees : PySem.W.nsIn K mainGlobals "sees" = some (some (.ref f_sees)))
    (l_sees : K.lookup f_sees = some ⟨oc_sees, od_sees, .func (PySem.W.fnOf "sees" "sees" (defArgs s_sees) (defBody s_sees) (defScope s_sees) .none kV_sees dc_sees pm_sees an_sees cd_sees ct_sees), sl_sees⟩)
    (q_sees : PySem.W.codeIn K cd_sees "sees" = true)
    (k_sees : PySem.W.keepIn K (.ref f_sees) = true)
    (a_law_sole : PySem.W.nsIn K mainGlobals "_law_sole" = some (some (.ref f_law_sole)))
    (l_law_sole : K.lookup f_law_sole = some ⟨oc_law_sole, od_law_sole, .func (PySem.W.fnOf "_law_sole" "_law_sole" (defArgs s_law_sole) (defBody s_law_sole) (defScope s_law_sole) .none kV_law_sole dc_law_sole pm_law_sole an_law_sole cd_law_sole ct_law_sole), sl_law_sole⟩)
    (q_law_sole : PySem.W.codeIn K cd_law_sole "_law_sole" = true)
    (k_law_sole : PySem.W.keepIn K (.ref f_law_sole) = true)
    (a_law_whole : PySem.W.nsIn K mainGlobals "_law_whole" = some (some (.ref f_law_whole)))
    (l_law_whole : K.lookup f_law_whole = some ⟨oc_law_whole, od_law_whole, .func (PySem.W.fnOf "_law_whole" "_law_whole" (defArgs s_law_whole) (defBody s_law_whole) (defScope s_law_whole) .none kV_law_whole dc_law_whole pm_law_whole an_law_whole cd_law_whole ct_law_whole), sl_law_whole⟩)
    (q_law_whole : PySem.W.codeIn K cd_law_whole "_law_whole" = true)
    (k_law_whole : PySem.W.keepIn K (.ref f_law_whole) = true)
    (a_law_cell_at : PySem.W.nsIn K mainGlobals "_law_cell_at" = some (some (.ref f_law_cell_at)))
    (l_law_cell_at : K.lookup f_law_cell_at = some ⟨oc_law_cell_at, od_law_cell_at, .func (PySem.W.fnOf "_law_cell_at" "_law_cell_at" (defArgs s_law_cell_at) (defBody s_law_cell_at) (defScope s_law_cell_at) .none kV_law_cell_at dc_law_cell_at pm_law_cell_at an_law_cell_at cd_law_cell_at ct_law_cell_at), sl_law_cell_at⟩)
    (q_law_cell_at : PySem.W.codeIn K cd_law_cell_at "_law_cell_at" = true)
    (k_law_cell_at : PySem.W.keepIn K (.ref f_law_cell_at) = true)
    (a_law_height_by : PySem.W.nsIn K mainGlobals "_law_height_by" = some (some (.ref f_law_height_by)))
    (l_law_height_by : K.lookup f_law_height_by = some ⟨oc_law_height_by, od_law_height_by, .func (PySem.W.fnOf "_law_height_by" "_law_height_by" (defArgs s_law_height_by) (defBody s_law_height_by) (defScope s_law_height_by) .none kV_law_height_by dc_law_height_by pm_law_height_by an_law_height_by cd_law_height_by ct_law_height_by), sl_law_height_by⟩)
    (q_law_height_by : PySem.W.codeIn K cd_law_height_by "_law_height_by" = true)
    (k_law_height_by : PySem.W.keepIn K (.ref f_law_height_by) = true)
    (a_law_longer : PySem.W.nsIn K mainGlobals "_law_longer" = some (some (.ref f_law_longer)))
    (l_law_longer : K.lookup f_law_longer = some ⟨oc_law_longer, od_law_longer, .func (PySem.W.fnOf "_law_longer" "_law_longer" (defArgs s_law_longer) (defBody s_law_longer) (defScope s_law_longer) .none kV_law_longer dc_law_longer pm_law_longer an_law_longer cd_law_longer ct_law_longer), sl_law_longer⟩)
    (q_law_longer : PySem.W.codeIn K cd_law_longer "_law_longer" = true)
    (k_law_longer : PySem.W.keepIn K (.ref f_law_longer) = true)
    (a_law_land_by : PySem.W.nsIn K mainGlobals "_law_land_by" = some (some (.ref f_law_land_by)))
    (l_law_land_by : K.lookup f_law_land_by = some ⟨oc_law_land_by, od_law_land_by, .func (PySem.W.fnOf "_law_land_by" "_law_land_by" (defArgs s_law_land_by) (defBody s_law_land_by) (defScope s_law_land_by) .none kV_law_land_by dc_law_land_by pm_law_land_by an_law_land_by cd_law_land_by ct_law_land_by), sl_law_land_by⟩)
    (q_law_land_by : PySem.W.codeIn K cd_law_land_by "_law_land_by" = true)
    (k_law_land_by : PySem.W.keepIn K (.ref f_law_land_by) = true)
    (a_law_above : PySem.W.nsIn K mainGlobals "_law_above" = some (some (.ref f_law_above)))
    (l_law_above : K.lookup f_law_above = some ⟨oc_law_above, od_law_above, .func (PySem.W.fnOf "_law_above" "_law_above" (defArgs s_law_above) (defBody s_law_above) (defScope s_law_above) .none kV_law_above dc_law_above pm_law_above an_law_above cd_law_above ct_law_above), sl_law_above⟩)
    (q_law_above : PySem.W.codeIn K cd_law_above "_law_above" = true)
    (k_law_above : PySem.W.keepIn K (.ref f_law_above) = true)
    (a_law_hider_by : PySem.W.nsIn K mainGlobals "_law_hider_by" = some (some (.ref f_law_hider_by)))
    (l_law_hider_by : K.lookup f_law_hider_by = some ⟨oc_law_hider_by, od_law_hider_by, .func (PySem.W.fnOf "_law_hider_by" "_law_hider_by" (defArgs s_law_hider_by) (defBody s_law_hider_by) (defScope s_law_hider_by) .none kV_law_hider_by dc_law_hider_by pm_law_hider_by an_law_hider_by cd_law_hider_by ct_law_hider_by), sl_law_hider_by⟩)
    (q_law_hider_by : PySem.W.codeIn K cd_law_hider_by "_law_hider_by" = true)
    (k_law_hider_by : PySem.W.keepIn K (.ref f_law_hider_by) = true)
    (a_law_refused : PySem.W.nsIn K mainGlobals "_law_refused" = some (some (.ref f_law_refused)))
    (l_law_refused : K.lookup f_law_refused = some ⟨oc_law_refused, od_law_refused, .func (PySem.W.fnOf "_law_refused" "_law_refused" (defArgs s_law_refused) (defBody s_law_refused) (defScope s_law_refused) .none kV_law_refused dc_law_refused pm_law_refused an_law_refused cd_law_refused ct_law_refused), sl_law_refused⟩)
    (q_law_refused : PySem.W.codeIn K cd_law_refused "_law_refused" = true)
    (k_law_refused : PySem.W.keepIn K (.ref f_law_refused) = true)
    (a_law : PySem.W.nsIn K mainGlobals "law" = some (some (.ref f_law)))
    (l_law : K.lookup f_law = some ⟨oc_law, od_law, .func (PySem.W.fnOf "law" "law" (defArgs s_law) (defBody s_law) (defScope s_law) .none kV_law dc_law pm_law an_law cd_law ct_law), sl_law⟩)
    (q_law : PySem.W.codeIn K cd_law "law" = true)
    (k_law : PySem.W.keepIn K (.ref f_law) = true)
    (a_HillError : PySem.W.nsIn K mainGlobals "HillError" = some (some (.ref c_HillError)))
    (x_HillError : PySem.W.excIn K c_HillError [.type "ValueError", .type "Exception", .type "BaseException", .type "object"] "ValueError.__new__" = true)
    (k_HillError : PySem.W.keepIn K (.ref c_HillError) = true)
    (e_HillError : PySem.W.subIn K (.ref c_HillError) (.type "BaseException") = some true)
    (t_HillError : PySem.W.typeIn K (.ref c_HillError) = some (.type "type"))
    (i_HillError : PySem.W.isClsIn K c_HillError = true)
    (a_NoLand : PySem.W.nsIn K mainGlobals "NoLand" = some (some (.ref c_NoLand)))
    (x_NoLand : PySem.W.excIn K c_NoLand [.type "ValueError", .type "Exception", .type "BaseException", .type "object"] "ValueError.__new__" = true)
    (k_NoLand : PySem.W.keepIn K (.ref c_NoLand) = true)
    (e_NoLand : PySem.W.subIn K (.ref c_NoLand) (.type "BaseException") = some true)
    (t_NoLand : PySem.W.typeIn K (.ref c_NoLand) = some (.type "type"))
    (i_NoLand : PySem.W.isClsIn K c_NoLand = true)
    (a_NoHill : PySem.W.nsIn K mainGlobals "NoHill" = some (some (.ref c_NoHill)))
    (x_NoHill : PySem.W.excIn K c_NoHill [.type "ValueError", .type "Exception", .type "BaseException", .type "object"] "ValueError.__new__" = true)
    (k_NoHill : PySem.W.keepIn K (.ref c_NoHill) = true)
    (e_NoHill : PySem.W.subIn K (.ref c_NoHill) (.type "BaseException") = some true)
    (t_NoHill : PySem.W.typeIn K (.ref c_NoHill) = some (.type "type"))
    (i_NoHill : PySem.W.isClsIn K c_NoHill = true)
    (a_SameHill : PySem.W.nsIn K mainGlobals "SameHill" = some (some (.ref c_SameHill)))
    (x_SameHill : PySem.W.excIn K c_SameHill [.type "ValueError", .type "Exception", .type "BaseException", .type "object"] "ValueError.__new__" = true)
    (k_SameHill : PySem.W.keepIn K (.ref c_SameHill) = true)
    (e_SameHill : PySem.W.subIn K (.ref c_SameHill) (.type "BaseException") = some true)
    (t_SameHill : PySem.W.typeIn K (.ref c_SameHill) = some (.type "type"))
    (i_SameHill : PySem.W.isClsIn K c_SameHill = true)
    (a_TooHigh : PySem.W.nsIn K mainGlobals "TooHigh" = some (some (.ref c_TooHigh)))
    (x_TooHigh : PySem.W.excIn K c_TooHigh [.type "ValueError", .type "Exception", .type "BaseException", .type "object"] "ValueError.__new__" = true)
    (k_TooHigh : PySem.W.keepIn K (.ref c_TooHigh) = true)
    (e_TooHigh : PySem.W.subIn K (.ref c_TooHigh) (.type "BaseException") = some true)
    (t_TooHigh : PySem.W.typeIn K (.ref c_TooHigh) = some (.type "type"))
    (i_TooHigh : PySem.W.isClsIn K c_TooHigh = true)
    (a_NothingDone : PySem.W.nsIn K mainGlobals "NothingDone" = some (some (.ref c_NothingDone)))
    (x_NothingDone : PySem.W.excIn K c_NothingDone [.type "ValueError", .type "Exception", .type "BaseException", .type "object"] "ValueError.__new__" = true)
    (k_NothingDone : PySem.W.keepIn K (.ref c_NothingDone) = true)
    (e_NothingDone : PySem.W.subIn K (.ref c_NothingDone) (.type "BaseException") = some true)
    (t_NothingDone : PySem.W.typeIn K (.ref c_NothingDone) = some (.type "type"))
    (i_NothingDone : PySem.W.isClsIn K c_NothingDone = true)
    (s_NoHill_NoHill : PySem.W.subIn K (.ref c_NoHill) (.ref c_NoHill) = some true)
    (s_NoHill_SameHill : PySem.W.subIn K (.ref c_NoHill) (.ref c_SameHill) = some false)
    (s_SameHill_SameHill : PySem.W.subIn K (.ref c_SameHill) (.ref c_SameHill) = some true)
    (s_SameHill_NoHill : PySem.W.subIn K (.ref c_SameHill) (.ref c_NoHill) = some false)
    (hn_obj : PySem.W.specialIn K (.builtin "object.__class__") "__get__" = some (some (.builtin "getset_descriptor.__get__")))
    (ht_obj : PySem.W.takesIn K (.builtin "object.__class__") = some true)
    (hg_NoHill : PySem.W.findIn K (.ref c_NoHill) "__getattribute__" = some (some (.builtin "BaseException.__getattribute__")))
    (hk_NoHill : PySem.W.findIn K (.ref c_NoHill) "__getattr__" = some none)
    (hd_NoHill : PySem.W.hasDictIn K c_NoHill = true)
    (ha_NoHill : PySem.W.findIn K (.ref c_NoHill) "__class__" = some (some (.builtin "object.__class__")))
    (hm_NoHill : PySem.W.mroIn K c_NoHill (.type "object") = some true)
    (kv_NoHill : PySem.W.kitOne K (.ref c_NoHill) (.type "ValueError") = some true)
    (kt_NoHill_NoLand : PySem.W.kitOne K (.ref c_NoHill) (.ref c_NoLand) = some false)
    (kt_NoHill_NoHill : PySem.W.kitOne K (.ref c_NoHill) (.ref c_NoHill) = some true)
    (kt_NoHill_SameHill : PySem.W.kitOne K (.ref c_NoHill) (.ref c_SameHill) = some false)
    (kt_NoHill_TooHigh : PySem.W.kitOne K (.ref c_NoHill) (.ref c_TooHigh) = some false)
    (kt_NoHill_NothingDone : PySem.W.kitOne K (.ref c_NoHill) (.ref c_NothingDone) = some false)
    (kt_NoHill_HillError : PySem.W.kitOne K (.ref c_NoHill) (.ref c_HillError) = some true)
    (hg_SameHill : PySem.W.findIn K (.ref c_SameHill) "__getattribute__" = some (some (.builtin "BaseException.__getattribute__")))
    (hk_SameHill : PySem.W.findIn K (.ref c_SameHill) "__getattr__" = some none)
    (hd_SameHill : PySem.W.hasDictIn K c_SameHill = true)
    (ha_SameHill : PySem.W.findIn K (.ref c_SameHill) "__class__" = some (some (.builtin "object.__class__")))
    (hm_SameHill : PySem.W.mroIn K c_SameHill (.type "object") = some true)
    (kv_SameHill : PySem.W.kitOne K (.ref c_SameHill) (.type "ValueError") = some true)
    (kt_SameHill_NoLand : PySem.W.kitOne K (.ref c_SameHill) (.ref c_NoLand) = some false)
    (kt_SameHill_NoHill : PySem.W.kitOne K (.ref c_SameHill) (.ref c_NoHill) = some false)
    (kt_SameHill_SameHill : PySem.W.kitOne K (.ref c_SameHill) (.ref c_SameHill) = some true)
    (kt_SameHill_TooHigh : PySem.W.kitOne K (.ref c_SameHill) (.ref c_TooHigh) = some false)
    (kt_SameHill_NothingDone : PySem.W.kitOne K (.ref c_SameHill) (.ref c_NothingDone) = some false)
    (kt_SameHill_HillError : PySem.W.kitOne K (.ref c_SameHill) (.ref c_HillError) = some true)
    (n_ValueError : PySem.W.nsIn K mainGlobals "ValueError" = some none)
    (n_bool : PySem.W.nsIn K mainGlobals "bool" = some none)
    (n_int : PySem.W.nsIn K mainGlobals "int" = some none)
    (n_isinstance : PySem.W.nsIn K mainGlobals "isinstance" = some none)
    (n_len : PySem.W.nsIn K mainGlobals "len" = some none)
    (n_list : PySem.W.nsIn K mainGlobals "list" = some none)
    (n_max : PySem.W.nsIn K mainGlobals "max" = some none)
    (n_min : PySem.W.nsIn K mainGlobals "min" = some none)
    (n_range : PySem.W.nsIn K mainGlobals "range" = some none)
    : ∃ fd : FuncData, (∀ (s : Shared) (v : Value), BindsTo s fd ⟨[v], []⟩ [("_law_script", v)]) ∧ ∀ base : Heap, K.In base → base.Ns mainGlobals mg → FnOk l.prog w K mg base CX0 7 fa fd ["_law_script"] (spLaw K) := by
  have e : fa = f_law := Value.ref.inj (Option.some.inj (hfa.symm.trans (PySem.W.mg_of X G a_law)))
  rw [e]
  have T : ∃ T : Txt K mg, T.a_law = f_law ∧ T.d_law = PySem.W.fnOf "law" "law" (defArgs s_law) (defBody s_law) (defScope s_law) .none kV_law dc_law pm_law an_law cd_law ct_law := ⟨{
    a_is_whole := f_is_whole, d_is_whole := PySem.W.fnOf "is_whole" "is_whole" (defArgs s_is_whole) (defBody s_is_whole) (defScope s_is_whole) .none kV_is_whole dc_is_whole pm_is_whole an_is_whole cd_is_whole ct_is_whole, F_is_whole := fun_mk (st := s_is_whole) l_is_whole q_is_whole k_is_whole,
    b_is_whole := (fun_mk (st := s_is_whole) l_is_whole q_is_whole k_is_whole).binds (ps := ["thing"]) fun _ _ _ _ _ _ us hl => match us, hl with | [_], _ => rfl,
    g_is_whole := PySem.W.mg_of X G a_is_whole,
    a_need_hill := f_need_hill, d_need_hill := PySem.W.fnOf "need_hill" "need_hill" (defArgs s_need_hill) (defBody s_need_hill) (defScope s_need_hill) .none kV_need_hill dc_need_hill pm_need_hill an_need_hill cd_need_hill ct_need_hill, F_need_hill := fun_mk (st := s_need_hill) l_need_hill q_need_hill k_need_hill,
    b_need_hill := (fun_mk (st := s_need_hill) l_need_hill q_need_hill k_need_hill).binds (ps := ["land", "place"]) fun _ _ _ _ _ _ us hl => match us, hl with | [_, _], _ => rfl,
    g_need_hill := PySem.W.mg_of X G a_need_hill,
    a_need_two := f_need_two, d_need_two := PySem.W.fnOf "need_two" "need_two" (defArgs s_need_two) (defBody s_need_two) (defScope s_need_two) .none kV_need_two dc_need_two pm_need_two an_need_two cd_need_two ct_need_two, F_need_two := fun_mk (st := s_need_two) l_need_two q_need_two k_need_two,
    b_need_two := (fun_mk (st := s_need_two) l_need_two q_need_two k_need_two).binds (ps := ["land", "a", "b"]) fun _ _ _ _ _ _ us hl => match us, hl with | [_, _, _], _ => rfl,
    g_need_two := PySem.W.mg_of X G a_need_two,
    a_slope := f_slope, d_slope := PySem.W.fnOf "slope" "slope" (defArgs s_slope) (defBody s_slope) (defScope s_slope) .none kV_slope dc_slope pm_slope an_slope cd_slope ct_slope, F_slope := fun_mk (st := s_slope) l_slope q_slope k_slope,
    b_slope := (fun_mk (st := s_slope) l_slope q_slope k_slope).binds (ps := ["land", "a", "b"]) fun _ _ _ _ _ _ us hl => match us, hl with | [_, _, _], _ => rfl,
    g_slope := PySem.W.mg_of X G a_slope,
    a_steeper := f_steeper, d_steeper := PySem.W.fnOf "steeper" "steeper" (defArgs s_steeper) (defBody s_steeper) (defScope s_steeper) .none kV_steeper dc_steeper pm_steeper an_steeper cd_steeper ct_steeper, F_steeper := fun_mk (st := s_steeper) l_steeper q_steeper k_steeper,
    b_steeper := (fun_mk (st := s_steeper) l_steeper q_steeper k_steeper).binds (ps := ["one", "other"]) fun _ _ _ _ _ _ us hl => match us, hl with | [_, _], _ => rfl,
    g_steeper := PySem.W.mg_of X G a_steeper,
    a_steepest := f_steepest, d_steepest := PySem.W.fnOf "steepest" "steepest" (defArgs s_steepest) (defBody s_steepest) (defScope s_steepest) .none kV_steepest dc_steepest pm_steepest an_steepest cd_steepest ct_steepest, F_steepest := fun_mk (st := s_steepest) l_steepest q_steepest k_steepest,
    b_steepest := (fun_mk (st := s_steepest) l_steepest q_steepest k_steepest).binds (ps := ["land", "low", "high"]) fun _ _ _ _ _ _ us hl => match us, hl with | [_, _, _], _ => rfl,
    g_steepest := PySem.W.mg_of X G a_steepest,
    a_hider := f_hider, d_hider := PySem.W.fnOf "hider" "hider" (defArgs s_hider) (defBody s_hider) (defScope s_hider) .none kV_hider dc_hider pm_hider an_hider cd_hider ct_hider, F_hider := fun_mk (st := s_hider) l_hider q_hider k_hider,
    b_hider := (fun_mk (st := s_hider) l_hider q_hider k_hider).binds (ps := ["land", "a", "b"]) fun _ _ _ _ _ _ us hl => match us, hl with | [_, _, _], _ => rfl,
    g_hider := PySem.W.mg_of X G a_hider,
    a_sees := f_sees, d_sees := PySem.W.fnOf "sees" "sees" (defArgs s_sees) (defBody s_sees) (defScope s_sees) .none kV_sees dc_sees pm_sees an_sees cd_sees ct_sees, F_sees := fun_mk (st := s_sees) l_sees q_sees k_sees,
    b_sees := (fun_mk (st := s_sees) l_sees q_sees k_sees).binds (ps := ["land", "a", "b"]) fun _ _ _ _ _ _ us hl => match us, hl with | [_, _, _], _ => rfl,
    g_sees := PySem.W.mg_of X G a_sees,
    a_law_sole := f_law_sole, d_law_sole := PySem.W.fnOf "_law_sole" "_law_sole" (defArgs s_law_sole) (defBody s_law_sole) (defScope s_law_sole) .none kV_law_sole dc_law_sole pm_law_sole an_law_sole cd_law_sole ct_law_sole, F_law_sole := fun_mk (st := s_law_sole) l_law_sole q_law_sole k_law_sole,
    b_law_sole := (fun_mk (st := s_law_sole) l_law_sole q_law_sole k_law_sole).binds (ps := ["_law_error"]) fun _ _ _ _ _ _ us hl => match us, hl with | [_], _ => rfl,
    g_law_sole := PySem.W.mg_of X G a_law_sole,
    a_law_whole := f_law_whole, d_law_whole := PySem.W.fnOf "_law_whole" "_law_whole" (defArgs s_law_whole) (defBody s_law_whole) (defScope s_law_whole) .none kV_law_whole dc_law_whole pm_law_whole an_law_whole cd_law_whole ct_law_whole, F_law_whole := fun_mk (st := s_law_whole) l_law_whole q_law_whole k_law_whole,
    b_law_whole := (fun_mk (st := s_law_whole) l_law_whole q_law_whole k_law_whole).binds (ps := ["_law_found"]) fun _ _ _ _ _ _ us hl => match us, hl with | [_], _ => rfl,
    g_law_whole := PySem.W.mg_of X G a_law_whole,
    a_law_cell_at := f_law_cell_at, d_law_cell_at := PySem.W.fnOf "_law_cell_at" "_law_cell_at" (defArgs s_law_cell_at) (defBody s_law_cell_at) (defScope s_law_cell_at) .none kV_law_cell_at dc_law_cell_at pm_law_cell_at an_law_cell_at cd_law_cell_at ct_law_cell_at, F_law_cell_at := fun_mk (st := s_law_cell_at) l_law_cell_at q_law_cell_at k_law_cell_at,
    b_law_cell_at := (fun_mk (st := s_law_cell_at) l_law_cell_at q_law_cell_at k_law_cell_at).binds (ps := ["_law_script", "_law_k"]) fun _ _ _ _ _ _ us hl => match us, hl with | [_, _], _ => rfl,
    g_law_cell_at := PySem.W.mg_of X G a_law_cell_at,
    a_law_height_by := f_law_height_by, d_law_height_by := PySem.W.fnOf "_law_height_by" "_law_height_by" (defArgs s_law_height_by) (defBody s_law_height_by) (defScope s_law_height_by) .none kV_law_height_by dc_law_height_by pm_law_height_by an_law_height_by cd_law_height_by ct_law_height_by, F_law_height_by := fun_mk (st := s_law_height_by) l_law_height_by q_law_height_by k_law_height_by,
    b_law_height_by := (fun_mk (st := s_law_height_by) l_law_height_by q_law_height_by k_law_height_by).binds (ps := ["_law_cell", "_law_k", "_law_kind", "_law_tilt"]) fun _ _ _ _ _ _ us hl => match us, hl with | [_, _, _, _], _ => rfl,
    g_law_height_by := PySem.W.mg_of X G a_law_height_by,
    a_law_longer := f_law_longer, d_law_longer := PySem.W.fnOf "_law_longer" "_law_longer" (defArgs s_law_longer) (defBody s_law_longer) (defScope s_law_longer) .none kV_law_longer dc_law_longer pm_law_longer an_law_longer cd_law_longer ct_law_longer, F_law_longer := fun_mk (st := s_law_longer) l_law_longer q_law_longer k_law_longer,
    b_law_longer := (fun_mk (st := s_law_longer) l_law_longer q_law_longer k_law_longer).binds (ps := ["_law_script", "_law_land", "_law_most", "_law_many"]) fun _ _ _ _ _ _ us hl => match us, hl with | [_, _, _, _], _ => rfl,
    g_law_longer := PySem.W.mg_of X G a_law_longer,
    a_law_land_by := f_law_land_by, d_law_land_by := PySem.W.fnOf "_law_land_by" "_law_land_by" (defArgs s_law_land_by) (defBody s_law_land_by) (defScope s_law_land_by) .none kV_law_land_by dc_law_land_by pm_law_land_by an_law_land_by cd_law_land_by ct_law_land_by, F_law_land_by := fun_mk (st := s_law_land_by) l_law_land_by q_law_land_by k_law_land_by,
    b_law_land_by := (fun_mk (st := s_law_land_by) l_law_land_by q_law_land_by k_law_land_by).binds (ps := ["_law_script", "_law_most"]) fun _ _ _ _ _ _ us hl => match us, hl with | [_, _], _ => rfl,
    g_law_land_by := PySem.W.mg_of X G a_law_land_by,
    a_law_above := f_law_above, d_law_above := PySem.W.fnOf "_law_above" "_law_above" (defArgs s_law_above) (defBody s_law_above) (defScope s_law_above) .none kV_law_above dc_law_above pm_law_above an_law_above cd_law_above ct_law_above, F_law_above := fun_mk (st := s_law_above) l_law_above q_law_above k_law_above,
    b_law_above := (fun_mk (st := s_law_above) l_law_above q_law_above k_law_above).binds (ps := ["_law_land", "_law_low", "_law_one", "_law_other"]) fun _ _ _ _ _ _ us hl => match us, hl with | [_, _, _, _], _ => rfl,
    g_law_above := PySem.W.mg_of X G a_law_above,
    a_law_hider_by := f_law_hider_by, d_law_hider_by := PySem.W.fnOf "_law_hider_by" "_law_hider_by" (defArgs s_law_hider_by) (defBody s_law_hider_by) (defScope s_law_hider_by) .none kV_law_hider_by dc_law_hider_by pm_law_hider_by an_law_hider_by cd_law_hider_by ct_law_hider_by, F_law_hider_by := fun_mk (st := s_law_hider_by) l_law_hider_by q_law_hider_by k_law_hider_by,
    b_law_hider_by := (fun_mk (st := s_law_hider_by) l_law_hider_by q_law_hider_by k_law_hider_by).binds (ps := ["_law_land", "_law_low", "_law_high"]) fun _ _ _ _ _ _ us hl => match us, hl with | [_, _, _], _ => rfl,
    g_law_hider_by := PySem.W.mg_of X G a_law_hider_by,
    a_law_refused := f_law_refused, d_law_refused := PySem.W.fnOf "_law_refused" "_law_refused" (defArgs s_law_refused) (defBody s_law_refused) (defScope s_law_refused) .none kV_law_refused dc_law_refused pm_law_refused an_law_refused cd_law_refused ct_law_refused, F_law_refused := fun_mk (st := s_law_refused) l_law_refused q_law_refused k_law_refused,
    b_law_refused := (fun_mk (st := s_law_refused) l_law_refused q_law_refused k_law_refused).binds (ps := ["_law_land", "_law_a", "_law_b"]) fun _ _ _ _ _ _ us hl => match us, hl with | [_, _, _], _ => rfl,
    g_law_refused := PySem.W.mg_of X G a_law_refused,
    a_law := f_law, d_law := PySem.W.fnOf "law" "law" (defArgs s_law) (defBody s_law) (defScope s_law) .none kV_law dc_law pm_law an_law cd_law ct_law, F_law := fun_mk (st := s_law) l_law q_law k_law,
    b_law := (fun_mk (st := s_law) l_law q_law k_law).binds (ps := ["_law_script"]) fun _ _ _ _ _ _ us hl => match us, hl with | [_], _ => rfl,
    g_law := PySem.W.mg_of X G a_law,
    c_HillError := c_HillError, g_HillError := PySem.W.mg_of X G a_HillError, x_HillError := x_HillError, k_HillError := k_HillError, e_HillError := e_HillError, t_HillError := t_HillError, i_HillError := i_HillError,
    c_NoLand := c_NoLand, g_NoLand := PySem.W.mg_of X G a_NoLand, x_NoLand := x_NoLand, k_NoLand := k_NoLand, e_NoLand := e_NoLand, t_NoLand := t_NoLand, i_NoLand := i_NoLand,
    c_NoHill := c_NoHill, g_NoHill := PySem.W.mg_of X G a_NoHill, x_NoHill := x_NoHill, k_NoHill := k_NoHill, e_NoHill := e_NoHill, t_NoHill := t_NoHill, i_NoHill := i_NoHill,
    c_SameHill := c_SameHill, g_SameHill := PySem.W.mg_of X G a_SameHill, x_SameHill := x_SameHill, k_SameHill := k_SameHill, e_SameHill := e_SameHill, t_SameHill := t_SameHill, i_SameHill := i_SameHill,
    c_TooHigh := c_TooHigh, g_TooHigh := PySem.W.mg_of X G a_TooHigh, x_TooHigh := x_TooHigh, k_TooHigh := k_TooHigh, e_TooHigh := e_TooHigh, t_TooHigh := t_TooHigh, i_TooHigh := i_TooHigh,
    c_NothingDone := c_NothingDone, g_NothingDone := PySem.W.mg_of X G a_NothingDone, x_NothingDone := x_NothingDone, k_NothingDone := k_NothingDone, e_NothingDone := e_NothingDone, t_NothingDone := t_NothingDone, i_NothingDone := i_NothingDone,
    s_NoHill_NoHill := s_NoHill_NoHill,
    s_NoHill_SameHill := s_NoHill_SameHill,
    s_SameHill_SameHill := s_SameHill_SameHill,
    s_SameHill_NoHill := s_SameHill_NoHill,
    hn_obj := hn_obj,
    ht_obj := ht_obj,
    hg_NoHill := hg_NoHill,
    hk_NoHill := hk_NoHill,
    hd_NoHill := hd_NoHill,
    ha_NoHill := ha_NoHill,
    hm_NoHill := hm_NoHill,
    kv_NoHill := kv_NoHill,
    kt_NoHill_NoLand := kt_NoHill_NoLand,
    kt_NoHill_NoHill := kt_NoHill_NoHill,
    kt_NoHill_SameHill := kt_NoHill_SameHill,
    kt_NoHill_TooHigh := kt_NoHill_TooHigh,
    kt_NoHill_NothingDone := kt_NoHill_NothingDone,
    kt_NoHill_HillError := kt_NoHill_HillError,
    hg_SameHill := hg_SameHill,
    hk_SameHill := hk_SameHill,
    hd_SameHill := hd_SameHill,
    ha_SameHill := ha_SameHill,
    hm_SameHill := hm_SameHill,
    kv_SameHill := kv_SameHill,
    kt_SameHill_NoLand := kt_SameHill_NoLand,
    kt_SameHill_NoHill := kt_SameHill_NoHill,
    kt_SameHill_SameHill := kt_SameHill_SameHill,
    kt_SameHill_TooHigh := kt_SameHill_TooHigh,
    kt_SameHill_NothingDone := kt_SameHill_NothingDone,
    kt_SameHill_HillError := kt_SameHill_HillError,
    n_ValueError := PySem.W.mg_none_of X G n_ValueError,
    n_bool := PySem.W.mg_none_of X G n_bool,
    n_int := PySem.W.mg_none_of X G n_int,
    n_isinstance := PySem.W.mg_none_of X G n_isinstance,
    n_len := PySem.W.mg_none_of X G n_len,
    n_list := PySem.W.mg_none_of X G n_list,
    n_max := PySem.W.mg_none_of X G n_max,
    n_min := PySem.W.mg_none_of X G n_min,
    n_range := PySem.W.mg_none_of X G n_range }, rfl, rfl⟩
  obtain ⟨T, e1, e2⟩ := T
  refine ⟨PySem.W.fnOf "law" "law" (defArgs s_law) (defBody s_law) (defScope s_law) .none kV_law dc_law pm_law an_law cd_law ct_law, fun s v => .of_eq rfl, fun base _ _ => ?_⟩
  rw [← e1, ← e2]
  exact ok_law T
end Hs
open PySem PySem.W PyProof.Rows
set_option maxRecDepth 100000 in
set_option maxHeartbeats 0 in
theorem PySem.Challenge.cw_hillsight_k02_what_hides_holds : PySem.Challenge.rw_hillsight_k02_what_hides.Holds := by
  w_on; o_law; k_head; (case hw => w_witness2)
  k_fill
  refine L2.walk_ofK (l := PySem.Challenge.rw_hillsight_k02_what_hides) (n := 63) (k := 7) (x := "_law_script") (CX := L2.CX0) (sp := Hs.spLaw) rfl (by decide) rfl ⟨rfl, by decide, by decide⟩ (fun w h Y => PySem.W.kIn_of Y) ?F (fun _ _ a ns hl _ hS => ⟨a, ns, rfl, hS, hl, fun _ => rfl⟩) (fun _ _ _ _ h => h)
  case F =>
    intro w mg fa h KX G hmg
    refine' Hs.all_mk KX G hmg ?a_is_whole ?l_is_whole ?q_is_whole ?k_is_whole ?a_need_hill ?l_need_hill ?q_need_hill ?k_need_hill ?a_need_two ?l_need_two ?q_need_two ?k_need_two ?a_slope ?l_slope ?q_slope ?k_slope ?a_steeper ?l_steeper ?q_steeper ?k_steeper ?a_steepest ?l_steepest ?q_steepest ?k_steepest ?a_hider ?l_hider ?q_hider ?k_hider ?a_sees ?l_sees ?q_sees ?k_sees ?a_law_sole ?l_law_sole ?q_law_sole ?k_law_sole ?a_law_whole ?l_law_whole ?q_law_whole ?k_law_whole ?a_law_cell_at ?l_law_cell_at ?q_law_cell_at ?k_law_cell_at ?a_law_height_by ?l_law_height_by ?q_law_height_by ?k_law_height_by ?a_law_longer ?l_law_longer ?q_law_longer ?k_law_longer ?a_law_land_by ?l_law_land_by ?q_law_land_by ?k_law_land_by ?a_law_above ?l_law_above ?q_law_above ?k_law_above ?a_law_hider_by ?l_law_hider_by ?q_law_hider_by ?k_law_hider_by ?a_law_refused ?l_law_refused ?q_law_refused ?k_law_refused ?a_law ?l_law ?q_law ?k_law ?a_HillError ?x_HillError ?k_HillError ?e_HillError ?t_HillError ?i_HillError ?a_NoLand ?x_NoLand ?k_NoLand ?e_NoLand ?t_NoLand ?i_NoLand ?a_NoHill ?x_NoHill ?k_NoHill ?e_NoHill ?t_NoHill ?i_NoHill ?a_SameHill ?x_SameHill ?k_SameHill ?e_SameHill ?t_SameHill ?i_SameHill ?a_TooHigh ?x_TooHigh ?k_TooHigh ?e_TooHigh ?t_TooHigh ?i_TooHigh ?a_NothingDone ?x_NothingDone ?k_NothingDone ?e_NothingDone ?t_NothingDone ?i_NothingDone ?s_NoHill_NoHill ?s_NoHill_SameHill ?s_SameHill_SameHill ?s_SameHill_NoHill ?hn_obj ?ht_obj ?hg_NoHill ?hk_NoHill ?hd_NoHill ?ha_NoHill ?hm_NoHill ?kv_NoHill ?kt_NoHill_NoLand ?kt_NoHill_NoHill ?kt_NoHill_SameHill ?kt_NoHill_TooHigh ?kt_NoHill_NothingDone ?kt_NoHill_HillError ?hg_SameHill ?hk_SameHill ?hd_SameHill ?ha_SameHill ?hm_SameHill ?kv_SameHill ?kt_SameHill_NoLand ?kt_SameHill_NoHill ?kt_SameHill_SameHill ?kt_SameHill_TooHigh ?kt_SameHill_NothingDone ?kt_SameHill_HillError ?n_ValueError ?n_bool ?n_int ?n_isinstance ?n_len ?n_list ?n_max ?n_min ?n_range
    (case a_is_whole => first | k_is | rfl)
    (case l_is_whole => first | k_is | rfl)
    (case q_is_whole => first | k_is | rfl)
    (case k_is_whole => first | k_is | rfl)
    (case a_need_hill => first | k_is | rfl)
    (case l_need_hill => first | k_is | rfl)
    (case q_need_hill => first | k_is | rfl)
    (case k_need_hill => first | k_is | rfl)
    (case a_need_two => first | k_is | rfl)
    (case l_need_two => first | k_is | rfl)
    (case q_need_two => first | k_is | rfl)
    (case k_need_two => first | k_is | rfl)
    (case a_slope => first | k_is | rfl)
    (case l_slope => first | k_is | rfl)
    (case q_slope => first | k_is | rfl)
    (case k_slope => first | k_is | rfl)
    (case a_steeper => first | k_is | rfl)
    (case l_steeper => first | k_is | rfl)
    (case q_steeper => first | k_is | rfl)
    (case k_steeper => first | k_is | rfl)
    (case a_steepest => first | k_is | rfl)
    (case l_steepest => first | k_is | rfl)
    (case q_steepest => first | k_is | rfl)
    (case k_steepest => first | k_is | rfl)
    (case a_hider => first | k_is | rfl)
    (case l_hider => first | k_is | rfl)
    (case q_hider => first | k_is | rfl)
    (case k_hider => first | k_is | rfl)
    (case a_sees => first | k_is | rfl)
    (case l_sees => first | k_is | rfl)
    (case q_sees => first | k_is | rfl)
    (case k_sees => first | k_is | rfl)
    (case a_law_sole => first | k_is | rfl)
    (case l_law_sole => first | k_is | rfl)
    (case q_law_sole => first | k_is | rfl)
    (case k_law_sole => first | k_is | rfl)
    (case a_law_whole => first | k_is | rfl)
    (case l_law_whole => first | k_is | rfl)
    (case q_law_whole => first | k_is | rfl)
    (case k_law_whole => first | k_is | rfl)
    (case a_law_cell_at => first | k_is | rfl)
    (case l_law_cell_at => first | k_is | rfl)
    (case q_law_cell_at => first | k_is | rfl)
    (case k_law_cell_at => first | k_is | rfl)
    (case a_law_height_by => first | k_is | rfl)
    (case l_law_height_by => first | k_is | rfl)
    (case q_law_height_by => first | k_is | rfl)
    (case k_law_height_by => first | k_is | rfl)
    (case a_law_longer => first | k_is | rfl)
    (case l_law_longer => first | k_is | rfl)
    (case q_law_longer => first | k_is | rfl)
    (case k_law_longer => first | k_is | rfl)
    (case a_law_land_by => first | k_is | rfl)
    (case l_law_land_by => first | k_is | rfl)
    (case q_law_land_by => first | k_is | rfl)
    (case k_law_land_by => first | k_is | rfl)
    (case a_law_above => first | k_is | rfl)
    (case l_law_above => first | k_is | rfl)
    (case q_law_above => first | k_is | rfl)
    (case k_law_above => first | k_is | rfl)
    (case a_law_hider_by => first | k_is | rfl)
    (case l_law_hider_by => first | k_is | rfl)
    (case q_law_hider_by => first | k_is | rfl)
    (case k_law_hider_by => first | k_is | rfl)
    (case a_law_refused => first | k_is | rfl)
    (case l_law_refused => first | k_is | rfl)
    (case q_law_refused => first | k_is | rfl)
    (case k_law_refused => first | k_is | rfl)
    (case a_law => first | k_is | rfl)
    (case l_law => first | k_is | rfl)
    (case q_law => first | k_is | rfl)
    (case k_law => first | k_is | rfl)
    (case a_HillError => first | k_is | rfl)
    (case x_HillError => k_exc)
    (case k_HillError => first | k_is | rfl)
    (case e_HillError => first | k_is | rfl)
    (case t_HillError => first | k_is | rfl)
    (case i_HillError => first | k_is | rfl)
    (case a_NoLand => first | k_is | rfl)
    (case x_NoLand => k_exc)
    (case k_NoLand => first | k_is | rfl)
    (case e_NoLand => first | k_is | rfl)
    (case t_NoLand => first | k_is | rfl)
    (case i_NoLand => first | k_is | rfl)
    (case a_NoHill => first | k_is | rfl)
    (case x_NoHill => k_exc)
    (case k_NoHill => first | k_is | rfl)
    (case e_NoHill => first | k_is | rfl)
    (case t_NoHill => first | k_is | rfl)
    (case i_NoHill => first | k_is | rfl)
    (case a_SameHill => first | k_is | rfl)
    (case x_SameHill => k_exc)
    (case k_SameHill => first | k_is | rfl)
    (case e_SameHill => first | k_is | rfl)
    (case t_SameHill => first | k_is | rfl)
    (case i_SameHill => first | k_is | rfl)
    (case a_TooHigh => first | k_is | rfl)
    (case x_TooHigh => k_exc)
    (case k_TooHigh => first | k_is | rfl)
    (case e_TooHigh => first | k_is | rfl)
    (case t_TooHigh => first | k_is | rfl)
    (case i_TooHigh => first | k_is | rfl)
    (case a_NothingDone => first | k_is | rfl)
    (case x_NothingDone => k_exc)
    (case k_NothingDone => first | k_is | rfl)
    (case e_NothingDone => first | k_is | rfl)
    (case t_NothingDone => first | k_is | rfl)
    (case i_NothingDone => first | k_is | rfl)
    (case s_NoHill_NoHill => first | k_is | rfl)
    (case s_NoHill_SameHill => first | k_is | rfl)
    (case s_SameHill_SameHill => first | k_is | rfl)
    (case s_SameHill_NoHill => first | k_is | rfl)
    (case hn_obj => first | k_is | rfl)
    (case ht_obj => first | k_is | rfl)
    (case hg_NoHill => first | k_is | rfl)
    (case hk_NoHill => first | k_is | rfl)
    (case hd_NoHill => first | k_is | rfl)
    (case ha_NoHill => first | k_is | rfl)
    (case hm_NoHill => first | k_is | rfl)
    (case kv_NoHill => first | k_is | rfl)
    (case kt_NoHill_NoLand => first | k_is | rfl)
    (case kt_NoHill_NoHill => first | k_is | rfl)
    (case kt_NoHill_SameHill => first | k_is | rfl)
    (case kt_NoHill_TooHigh => first | k_is | rfl)
    (case kt_NoHill_NothingDone => first | k_is | rfl)
    (case kt_NoHill_HillError => first | k_is | rfl)
    (case hg_SameHill => first | k_is | rfl)
    (case hk_SameHill => first | k_is | rfl)
    (case hd_SameHill => first | k_is | rfl)
    (case ha_SameHill => first | k_is | rfl)
    (case hm_SameHill => first | k_is | rfl)
    (case kv_SameHill => first | k_is | rfl)
    (case kt_SameHill_NoLand => first | k_is | rfl)
    (case kt_SameHill_NoHill => first | k_is | rfl)
    (case kt_SameHill_SameHill => first | k_is | rfl)
    (case kt_SameHill_TooHigh => first | k_is | rfl)
    (case kt_SameHill_NothingDone => first | k_is | rfl)
    (case kt_SameHill_HillError => first | k_is | rfl)
    (case n_ValueError => first | k_is | rfl)
    (case n_bool => first | k_is | rfl)
    (case n_int => first | k_is | rfl)
    (case n_isinstance => first | k_is | rfl)
    (case n_len => first | k_is | rfl)
    (case n_list => first | k_is | rfl)
    (case n_max => first | k_is | rfl)
    (case n_min => first | k_is | rfl)
    (case n_range => first | k_is | rfl)
