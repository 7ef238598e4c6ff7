import PyProof.Rows.All
import Wide.All
import OpenK.AllK
import Wide.FinOn
import HandS.ForMost
import HandS.Exc
import HandS.ExcOwn
import HandS.TryOnly
import HandS.WordsExc
import HandS.IsInst
import HandS.Steps
import HandS.SortRule
import PySem.Challenge.RW_hillsight_k05_whole_tilted
set_option Elab.async false
set_option linter.all false
set_option maxRecDepth 100000
set_option maxHeartbeats 4000000
namespace Hs
open PySem PySem.Spec PyProof.Rows L2
/-! ## readings, step by step -/
theorem rd_var {i : Nat} {σ : L2.St} {H : Hp} {Q : VK} {v : V} (h : σ[i]? = some (some v)) (q : Q v H) : tVar i σ H Q := ⟨v, h, q⟩
theorem rd_c {v : V} {σ : L2.St} {H : Hp} {Q : VK} (q : Q v H) : tC v σ H Q := q
theorem rd_op {r : R2} {ta tb : TE} {σ : L2.St} {H : Hp} {Q : VK} (q : ta σ H fun x H1 => tb σ H1 fun y H2 => r x y H2 Q) : tOp r ta tb σ H Q := q
theorem rd_un {r : V → Hp → VK → Prop} {ta : TE} {σ : L2.St} {H : Hp} {Q : VK} (q : ta σ H fun x H1 => r x H1 Q) : tUn r ta σ H Q := q
theorem rd_U {g : Int → V} {i : Int} {H : Hp} {Q : VK} (q : Q (g i) H) : rU g (.int i) H Q := ⟨i, rfl, q⟩
theorem rd_I0 {g : Int → Int → V} {i j : Int} {H : Hp} {Q : VK} (q : Q (g i j) H) : rI0 g (.int i) (.int j) H Q := ⟨i, j, rfl, rfl, q⟩
theorem rd_I {C : Int → Int → Prop} {g : Int → Int → V} {i j : Int} {H : Hp} {Q : VK} (c : C i j) (q : Q (g i j) H) : rI C g (.int i) (.int j) H Q := ⟨i, j, rfl, rfl, c, q⟩
theorem rd_eq {x y : V} {H : Hp} {Q : VK} (c : scal x y = true) (q : Q (.bl (decide (x = y))) H) : rEq x y H Q := ⟨c, q⟩
theorem rd_ne {x y : V} {H : Hp} {Q : VK} (c : scal x y = true) (q : Q (.bl (!decide (x = y))) H) : rNe x y H Q := ⟨c, q⟩
theorem rd_nil {σ : L2.St} {H : Hp} {Q : List V → Hp → Prop} (q : Q [] H) : tNil σ H Q := q
theorem rd_cons {ta : TE} {tr : TA} {σ : L2.St} {H : Hp} {Q : List V → Hp → Prop} (q : ta σ H fun x H1 => tr σ H1 fun xs H2 => Q (x :: xs) H2) : tCons ta tr σ H Q := q
theorem rd_cb {r : List V → Hp → VK → Prop} {ta : TA} {σ : L2.St} {H : Hp} {Q : VK} (q : ta σ H fun xs H1 => r xs H1 Q) : tCB r ta σ H Q := q
theorem rd_call {sp : Sp} {E : XK} {ta : TA} {σ : L2.St} {H : Hp} {Q : VK} (q : ta σ H fun xs H1 => sp (xs ++ []) H1 Q E) : tCall sp [] E ta σ H Q := q
theorem rd_callS {sp : Sp} {E : L2.St → XK} {ta : TA} {σ : L2.St} {H : Hp} {Q : VK} (q : ta σ H fun xs H1 => sp xs H1 Q (E σ)) : tCallS sp E ta σ H Q := q
theorem rd_test {t : TE} {σ : L2.St} {H : Hp} {Q : Bool → Hp → Prop} (q : t σ H fun x H' => ∃ k, x = .bl k ∧ Q k H') : tTest t σ H Q := q
theorem rd_tB {t : TE} {σ : L2.St} {H : Hp} {Q : Bool → Hp → Prop} (q : t σ H fun x H' => ∃ k, x = .bl k ∧ Q k H') : tB t σ H Q := q
theorem rd_bl {k : Bool} {R : Bool → Prop} (q : R k) : ∃ k', V.bl k = .bl k' ∧ R k' := ⟨k, rfl, q⟩
theorem rd_not {t : TT} {σ : L2.St} {H : Hp} {Q : Bool → Hp → Prop} (q : t σ H fun c H1 => Q (!c) H1) : tNot t σ H Q := q
theorem rd_and {t u : TT} {σ : L2.St} {H : Hp} {Q : Bool → Hp → Prop} (q : t σ H fun c H1 => if c = true then u σ H1 Q else Q false H1) : tAnd t u σ H Q := q
theorem rd_or {t u : TT} {σ : L2.St} {H : Hp} {Q : Bool → Hp → Prop} (q : t σ H fun c H1 => if c = true then Q true H1 else u σ H1 Q) : tOr t u σ H Q := q
theorem rd_andV {t u : TE} {σ : L2.St} {H : Hp} {Q : VK} (q : t σ H fun x H1 => ∃ c, x = .bl c ∧ if c = true then u σ H1 Q else Q (.bl false) H1) : tAndV t u σ H Q := q
theorem rd_orV {t u : TE} {σ : L2.St} {H : Hp} {Q : VK} (q : t σ H fun x H1 => ∃ c, x = .bl c ∧ if c = true then Q (.bl true) H1 else u σ H1 Q) : tOrV t u σ H Q := q
theorem rd_notV {t : TE} {σ : L2.St} {H : Hp} {Q : VK} (q : t σ H fun x H1 => ∃ c, x = .bl c ∧ Q (.bl (!c)) H1) : tNotV t σ H Q := q
theorem rd_if {c : TT} {ta tb : TE} {σ : L2.St} {H : Hp} {Q : VK} (q : c σ H fun b H1 => if b = true then ta σ H1 Q else tb σ H1 Q) : tIf c ta tb σ H Q := q
theorem rd_seq {t u : TS} {D : Ends} {σ : L2.St} {H : Hp} (q : t { D with nx := u D } σ H) : tSeq t u D σ H := q
theorem rd_asg {te : TE} {g : TG} {D : Ends} {σ : L2.St} {H : Hp} (q : te σ H fun x H1 => g x σ H1 D.nx) : tAsg te g D σ H := q
theorem rd_name {i : Nat} {v : V} {σ : L2.St} {H : Hp} {Q : L2.St → Hp → Prop} (q : Q (σ.set i (some v)) H) : gName i v σ H Q := q
theorem rd_ret {te : TE} {D : Ends} {σ : L2.St} {H : Hp} (q : te σ H D.rt) : tRet te D σ H := q
theorem rd_drop {te : TE} {D : Ends} {σ : L2.St} {H : Hp} (q : te σ H fun _ H1 => D.nx σ H1) : tDrop te D σ H := q
theorem rd_ifS {c : TT} {t u : TS} {D : Ends} {σ : L2.St} {H : Hp} (q : c σ H fun b H1 => if b = true then t D σ H1 else u D σ H1) : tIfS c t u D σ H := q
theorem rd_next {D : Ends} {σ : L2.St} {H : Hp} (q : D.nx σ H) : tNext D σ H := q
theorem rd_cont {D : Ends} {σ : L2.St} {H : Hp} (q : D.ct σ H) : tCont D σ H := q
theorem rd_tup {ta : TA} {σ : L2.St} {H : Hp} {Q : VK} (q : ta σ H fun xs H1 => xs.length ≤ sizeLine ∧ ∀ p, H1 p = none → Q (.ref p) (upd H1 p (.tup xs))) : tTup ta σ H Q := q
theorem rd_lst {ta : TA} {σ : L2.St} {H : Hp} {Q : VK} (q : ta σ H fun xs H1 => xs.length ≤ sizeLine ∧ ∀ p, H1 p = none → Q (.ref p) (upd H1 p (.lst xs))) : tLst ta σ H Q := q
theorem rd_ixL {K : PySem.W.Frag} {p : Addr} {xs : List V} {i : Int} {v : V} {H : Hp} {Q : VK} (h : SqL K H p xs) (a : atI xs i = some v) (q : Q v H) : rIxL K (.ref p) (.int i) H Q := ⟨p, xs, i, v, rfl, rfl, h, a, q⟩
theorem rd_ixT {K : PySem.W.Frag} {p : Addr} {xs : List V} {i : Int} {v : V} {H : Hp} {Q : VK} (h : SqT K H p xs) (a : atI xs i = some v) (q : Q v H) : rIxT K (.ref p) (.int i) H Q := ⟨p, xs, i, v, rfl, rfl, h, a, q⟩
theorem rd_yes {c A B : Prop} [Decidable c] (hc : c) (q : A) : if c then A else B := by rw [if_pos hc]; exact q
theorem rd_no {c A B : Prop} [Decidable c] (hc : ¬ c) (q : B) : if c then A else B := by rw [if_neg hc]; exact q
/-! ## heaps -/
theorem same_upd {H : Hp} {p : Addr} {o : HO} (h : H p = none) : Same H (upd H p o) := fun b x e => by
  rw [upd_ne (ne_of_none e h)]
  exact e
theorem Same.seqT {K : PySem.W.Frag} {H H' : Hp} {a : Addr} {xs : List V} (e : Same H H') (h : SqT K H a xs) : SqT K H' a xs := by
  rcases h with (h | ⟨o, h⟩) | h
  · exact .inl (.inl (e _ _ h))
  · exact .inl (.inr ⟨o, e _ _ h⟩)
  · exact .inr h
theorem sz (n : Nat) (h : n ≤ 100000 := by decide) : n ≤ sizeLine := Nat.le_trans h (by decide)
theorem szlt {n : Nat} (h : n < 100000) : n < sizeLine := Nat.lt_of_lt_of_le h (by decide)
abbrev IL (ns : List Int) : List V := ns.map V.int
theorem IL_get {ns : List Int} {k : Nat} (h : k < ns.length) : (IL ns)[k]? = some (V.int (ns.getD k 0)) := by
  rw [List.getElem?_map, List.getElem?_eq_getElem h, List.getD_eq_getElem?_getD, List.getElem?_eq_getElem h]
  rfl
theorem IL_at {ns : List Int} {i : Int} (h0 : 0 ≤ i) (h : i < ns.length) : atI (IL ns) i = some (V.int (ns.getD i.toNat 0)) := by
  obtain ⟨k, rfl⟩ : ∃ k : Nat, i = (k : Int) := ⟨i.toNat, by omega⟩
  have hk : k < ns.length := by omega
  exact atI_nat (IL_get hk)
/-! ## the law's cells -/
def cell (ns : List Int) (k : Nat) : Int := ns.getD k 0
/-! ## loops, cuts, methods -/
theorem rd_cut {t u : TS} {D : Ends} {σ : L2.St} {H : Hp} (J : L2.St → Hp → Prop) (h : ∀ N : L2.St → Hp → Prop, (∀ σ' H', J σ' H' → N σ' H') → t { D with nx := N } σ H) (k : ∀ σ' H', J σ' H' → u D σ' H') : tSeq t u D σ H := h (u D) k
theorem rd_for {wi : TI} {g : TG} {tb : TS} {D : Ends} {σ : L2.St} {H : Hp} (q : wi σ H fun J H1 => ∃ W : Nat → Nat → L2.St → Hp → Prop, (∃ m, W 0 m σ H1) ∧ ∀ i m σ H, W i m σ H →
    (J.stop i H ∧ D.nx σ H) ∨ (J.go i H ∧ ∃ N : L2.St → Hp → Prop, (∀ σ' H', N σ' H' → ∃ m', m' < m ∧ W (i + 1) m' σ' H') ∧ ∀ x H', J.yld i H x H' → g x σ H' fun σ2 H2 => tb { D with nx := N, ct := N, bk := D.nx } σ2 H2)) : tFor wi g tb D σ H := q
/-- what a for over a range asks, its bound known -/
abbrev LoopR (lo : Int) (n : Nat) (g : TG) (tb : TS) (D : Ends) (σ : L2.St) (H : Hp) : Prop := ∃ W : Nat → Nat → L2.St → Hp → Prop, (∃ m, W 0 m σ H) ∧ ∀ i m σ H, W i m σ H →
    ((Itr lo n).stop i H ∧ D.nx σ H) ∨ ((Itr lo n).go i H ∧ ∃ N : L2.St → Hp → Prop, (∀ σ' H', N σ' H' → ∃ m', m' < m ∧ W (i + 1) m' σ' H') ∧ ∀ x H', (Itr lo n).yld i H x H' → g x σ H' fun σ2 H2 => tb { D with nx := N, ct := N, bk := D.nx } σ2 H2)
theorem rd_rng1 {ta : TA} {σ : L2.St} {H : Hp} {R : It → Hp → Prop} (q : ta σ H fun vs H1 => ∃ j : Int, vs = [.int j] ∧ -(2 ^ 62) ≤ j ∧ j < 2 ^ 62 ∧ R (Itr 0 j.toNat) H1) : iRng1 ta σ H R := q
theorem rd_rng2 {ta : TA} {σ : L2.St} {H : Hp} {R : It → Hp → Prop} (q : ta σ H fun vs H1 => ∃ i j : Int, vs = [.int i, .int j] ∧ (-(2 ^ 62) ≤ i ∧ i < 2 ^ 62 ∧ -(2 ^ 62) ≤ j ∧ j < 2 ^ 62) ∧ R (Itr i (j - i).toNat) H1) : iRng2 ta σ H R := q
theorem rd_iList {K : PySem.W.Frag} {tl : TE} {σ : L2.St} {H : Hp} {R : It → Hp → Prop} (q : tl σ H fun x H1 => ∃ a, x = .ref a ∧ (∃ xs, SqL K H1 a xs) ∧ R (Itl K a) H1) : iList K tl σ H R := q
theorem rd_iTup {K : PySem.W.Frag} {tl : TE} {σ : L2.St} {H : Hp} {R : It → Hp → Prop} (q : tl σ H fun x H1 => ∃ a, x = .ref a ∧ (∃ xs, SqT K H1 a xs) ∧ R (Itt K a) H1) : iTup K tl σ H R := q
/-- behind the argument of range: the bound, an invariant by the turn -/
theorem rng1 {n : Int} {g : TG} {tb : TS} {D : Ends} {σ : L2.St} {H : Hp} (b : -1000000 ≤ n ∧ n ≤ 1000000) (Pv : Nat → L2.St → Hp → Prop) (h0 : Pv 0 σ H)
    (hs : ∀ (k : Nat) σ' H', (k : Int) < n → Pv k σ' H' → g (.int (k : Int)) σ' H' fun σ2 H2 => tb { D with nx := Pv (k + 1), ct := Pv (k + 1), bk := D.nx } σ2 H2) (hd : ∀ σ' H', Pv n.toNat σ' H' → D.nx σ' H') :
    ∃ j : Int, [V.int n] = [.int j] ∧ -(2 ^ 62) ≤ j ∧ j < 2 ^ 62 ∧ LoopR 0 j.toNat g tb D σ H := by
  refine ⟨n, rfl, by omega, by omega, for_range (lo := 0) (n := n.toNat) Pv h0 (fun i σ' H' hi p => ?_) hd⟩
  have e0 : (0 : Int) + (i : Int) = (i : Int) := Int.zero_add _
  rw [e0]
  exact hs i σ' H' (by omega) p
theorem rng2 {lo n : Int} {g : TG} {tb : TS} {D : Ends} {σ : L2.St} {H : Hp} (b : (-1000000 ≤ lo ∧ lo ≤ 1000000) ∧ -1000000 ≤ n ∧ n ≤ 1000000) (Pv : Nat → L2.St → Hp → Prop) (h0 : Pv 0 σ H)
    (hs : ∀ (k : Nat) σ' H', lo + (k : Int) < n → Pv k σ' H' → g (.int (lo + (k : Int))) σ' H' fun σ2 H2 => tb { D with nx := Pv (k + 1), ct := Pv (k + 1), bk := D.nx } σ2 H2) (hd : ∀ σ' H', Pv (n - lo).toNat σ' H' → D.nx σ' H') :
    ∃ i j : Int, [V.int lo, V.int n] = [.int i, .int j] ∧ (-(2 ^ 62) ≤ i ∧ i < 2 ^ 62 ∧ -(2 ^ 62) ≤ j ∧ j < 2 ^ 62) ∧ LoopR i (j - i).toNat g tb D σ H := by
  refine ⟨lo, n, rfl, ⟨by omega, by omega, by omega, by omega⟩, for_range (lo := lo) (n := (n - lo).toNat) Pv h0 (fun i σ' H' hi p => hs i σ' H' (by omega) p) hd⟩
theorem rd_bm {K : PySem.W.Frag} {T : String} {r : V → List V → Hp → VK → Prop} {to : TE} {t : TA} {σ : L2.St} {H : Hp} {Q : VK} (q : to σ H fun x H1 => tyV K T x H1 ∧ t σ H1 fun xs H2 => r x xs H2 Q) : tBM K T r to t σ H Q := q
theorem rd_bm0 {K : PySem.W.Frag} {T : String} {r : V → List V → Hp → VK → Prop} {to : TE} {σ : L2.St} {H : Hp} {Q : VK} (q : to σ H fun x H1 => tyV K T x H1 ∧ r x [] H1 Q) : tBM0 K T r to σ H Q := q
theorem ty_list {K : PySem.W.Frag} {H : Hp} {l : Addr} {xs : List V} (h : SqL K H l xs) : tyV K "list" (.ref l) H := .inl ⟨rfl, _, h⟩
theorem rd_append {H : Hp} {l : Addr} {xs : List V} {y : V} {Q : VK} (h : H l = some (.lst xs)) (hz : xs.length < 100000) (q : Q .non (upd H l (.lst (xs ++ [y])))) : rAppend (.ref l) [y] H Q := ⟨l, xs, y, rfl, rfl, h, szlt hz, q⟩
theorem rd_gTup2 {K : PySem.W.Frag} {i j : Nat} {a : Addr} {x y : V} {σ : L2.St} {H : Hp} {Q : L2.St → Hp → Prop} (h : SqT K H a [x, y]) (q : Q ((σ.set i (some x)).set j (some y)) H) : gTup K 2 (gCons (gName i) (gCons (gName j) gNil)) (.ref a) σ H Q :=
  ⟨a, [x, y], rfl, h, rfl, x, [y], rfl, y, [], rfl, rfl, q⟩
theorem same_sq {K : PySem.W.Frag} {H H' : Hp} {a : Addr} {xs : List V} (e : Same H H') (h : SqL K H a xs) : SqL K H' a xs := e.seq h
theorem upd_keep {H : Hp} {a b : Addr} {o u : HO} (h : H a = some o) (n : H b = none) : upd H b u a = some o := by rw [upd_ne (ne_of_none h n)]; exact h
/-! ## the law's cells -/
def spCell (K : PySem.W.Frag) : Sp := fun vs H Q _ => ∃ (l : Addr) (ns : List Int) (k : Int), vs = [.ref l, .int k] ∧ 0 ≤ k ∧ SqL K H l (IL ns) ∧ Q (.int (cell ns k.toNat)) H
theorem rd_cell {K : PySem.W.Frag} {l : Addr} {ns : List Int} {k : Int} {H : Hp} {Q : VK} {E : XK} (h0 : 0 ≤ k) (h : SqL K H l (IL ns)) (q : Q (.int (cell ns k.toNat)) H) : spCell K ([V.ref l, V.int k] ++ []) H Q E := ⟨l, ns, k, rfl, h0, h, q⟩
theorem rd_isi {K : PySem.W.Frag} {H : Hp} {x : V} {t n : String} {b : Bool} {Q : VK} (ty : TyX K H x (.type t)) (e : kitB t n = some b) (q : Q (.bl b) H) : rIsi K [x, .ty n] H Q := ⟨x, .ty n, _, _, b, rfl, .ty _, ty, kit_ty e, q⟩
theorem ty_lst {K : PySem.W.Frag} {H : Hp} {a : Addr} {xs : List V} (h : H a = some (.lst xs)) : TyX K H (.ref a) (.type "list") := .base (.lst h)
theorem ty_tup {K : PySem.W.Frag} {H : Hp} {a : Addr} {xs : List V} (h : H a = some (.tup xs)) : TyX K H (.ref a) (.type "tuple") := .base (.tup h)
theorem emod_b {x n : Int} (h : 0 < n) : 0 ≤ x % n ∧ x % n < n := ⟨Int.emod_nonneg _ (by omega), Int.emod_lt_of_pos _ h⟩
theorem IL_snoc (zs : List Int) (z : Int) : IL zs ++ [V.int z] = IL (zs ++ [z]) := by simp [IL]
theorem upd_snoc {H : Hp} {L : Addr} {o : HO} {zs : List Int} {z : Int} : upd (upd H L o) L (.lst (IL zs ++ [V.int z])) = upd H L (.lst (IL (zs ++ [z]))) := by rw [upd_upd, IL_snoc]
theorem len_snoc {α : Type} {zs : List α} {z : α} {i : Nat} (h : zs.length = i) : (zs ++ [z]).length = i + 1 := by rw [List.length_append, h]; rfl
/-! ## what stands over a change -/
theorem Same.mut {H H' : Hp} {p : Addr} {o : HO} (e : Same H H') (h : H p = none) : Same H (upd H' p o) := fun a u ha => by
  rw [upd_ne (ne_of_none ha h)]
  exact e a u ha
theorem SqT.upd {K : PySem.W.Frag} {H : Hp} {D t : Addr} {ys xs : List V} {o : HO} (hD : H D = some (.lst ys)) (h : SqT K H t xs) : SqT K (upd H D o) t xs := by
  rcases h with (h | ⟨u, h⟩) | h
  · exact .inl (.inl (by rw [upd_ne (ne_of h hD (by intro z; cases z))]; exact h))
  · exact .inl (.inr ⟨u, by rw [upd_ne (ne_of h hD (by intro z; cases z))]; exact h⟩)
  · exact .inr h
theorem SqL.upd {K : PySem.W.Frag} {H : Hp} {D t : Addr} {xs : List V} {o : HO} (hD : t ≠ D) (h : SqL K H t xs) : SqL K (upd H D o) t xs := by
  rcases h with (h | ⟨u, h⟩) | h
  · exact .inl (.inl (by rw [upd_ne hD]; exact h))
  · exact .inl (.inr ⟨u, by rw [upd_ne hD]; exact h⟩)
  · exact .inr h
theorem rd_lc {wi : TI} {g : TG} {tt : TT} {te : TE} {vs : List Nat} {σ : L2.St} {H : Hp} {Q : VK} (q : wi σ H fun J H1 => ∀ D, H1 D = none → ∃ W : Nat → Nat → Hp → Prop, (∃ m, W 0 m (upd H1 D (.lst []))) ∧ ∀ i m H, W i m H →
  (J.stop i H ∧ Q (.ref D) H) ∨ (J.go i H ∧ ∃ Nx : Hp → Prop, (∀ H', Nx H' → ∃ m', m' < m ∧ W (i + 1) m' H') ∧ ∀ x H', J.yld i H x H' → g x (wipe σ vs) H' fun σ2 H2 => wipe σ2 vs = wipe σ vs ∧ tt σ2 H2 fun b H3 =>
    if b = true then te σ2 H3 fun y H4 => ∃ acc, H4 D = some (.lst acc) ∧ acc.length < sizeLine ∧ Nx (upd H4 D (.lst (acc ++ [y]))) else Nx H3)) : tLc wi g tt te vs σ H Q := q
theorem rd_tYes {σ : L2.St} {H : Hp} {Q : Bool → Hp → Prop} (q : Q true H) : tYes σ H Q := q
theorem rd_isN {x : V} {H : Hp} {Q : VK} (q : Q (.bl (decide (x = .non))) H) : rIsN x .non H Q := ⟨rfl, q⟩
theorem rd_notN {x : V} {H : Hp} {Q : VK} (q : Q (.bl (!decide (x = .non))) H) : rNotN x .non H Q := ⟨rfl, q⟩

/-! ## the rules with K said -/
section
variable {X : Cx} {K : PySem.W.Frag}
theorem ix_listK (h : X.K = K) : IxR X (rIxL K) := by subst h; exact ix_list
theorem ix_tupK (h : X.K = K) : IxR X (rIxT K) := by subst h; exact ix_tup
theorem call_isiK0 (h : X.K = K) : CallR X (.builtin "isinstance") (rIsi K) := by subst h; exact call_isi
def rLenK (K : PySem.W.Frag) : List V → Hp → VK → Prop := fun xs H Q => ∃ p ys, xs = [.ref p] ∧ (SqL K H p ys ∨ SqT K H p ys) ∧ Q (.int ys.length) H
theorem call_lenK (h : X.K = K) : CallR X (.builtin "len") (rLenK K) := by subst h; exact call_len_seq
def rListK (K : PySem.W.Frag) : List V → Hp → VK → Prop := fun xs H Q => ∃ p ys, xs = [.ref p] ∧ (SqL K H p ys ∨ SqT K H p ys) ∧ ∀ l, H l = none → Q (.ref l) (upd H l (.lst ys))
theorem call_listK (h : X.K = K) : CallR X (.type "list") (rListK K) := by subst h; exact call_list_of
theorem op_eqDK (h : X.K = K) (hu : X.A.units + 64 < cLine) : OpR X (compareOp .Eq) (rEqD K) := by subst h; exact op_eqD hu
theorem op_neDK (h : X.K = K) (hu : X.A.units + 64 < cLine) : OpR X (compareOp .NotEq) (rNeD K) := by subst h; exact op_neD hu
theorem sl_listK (h : X.K = K) : SlR X (rSlL K) := by subst h; exact sl_list
theorem cr_allK (h : X.K = K) (hc : X.calm = true) : CallR X (.builtin "all") (rAll K) := by subst h; exact cr_all hc
theorem cr_anyK (h : X.K = K) (hc : X.calm = true) : CallR X (.builtin "any") (rAny K) := by subst h; exact cr_any hc
theorem cr_minK (h : X.K = K) (hc : X.calm = true) : CallR X (.builtin "min") (rMin K) := by subst h; exact cr_min hc
theorem op_ltTK (h : X.K = K) (hu : X.A.units < cLine) : OpR X (compareOp .Lt) (rLtT K) := by subst h; exact op_ltT hu
theorem op_inK (h : X.K = K) : OpR X (compareOp .In) (rIn K false) := by subst h; exact op_in_seq
theorem pi_listK {tg l : Expr} {tl : TE} (h : X.K = K) (hl : PE X l tl) : PI X tg l (iList K tl) := by subst h; exact pi_list hl
theorem pi_tupK {tg l : Expr} {tl : TE} (h : X.K = K) (hl : PE X l tl) : PI X tg l (iTup K tl) := by subst h; exact pi_tup hl
theorem pg_tupK {es : List Expr} {k : Nat} {t : TGs} {n : Nat} {pos : Pos} (h : X.K = K) (hc : X.calm = true) (hg : PGs X es t)
    (hn : (assignEach es X.env).length = n := by rfl) (hst : (assignEach es X.env).findIdx? (·.1) = none := by rfl) : PG X (.Tuple es k pos) (gTup K n t) := by subst h; exact pg_tup hc hg hn hst
section
variable {o e : Expr} {es : List Expr} {to : TE} {t : TA} {name : Str} {apos cpos : Pos} {T id : String} {r : V → List V → Hp → VK → Prop}
theorem pe_bm0K (h : X.K = K) (pa : PlainAttrs T) (slot : Slot T name id) (hty : typeOf (.builtin id) = pure (.type "method_descriptor")) (hm : MtR X id r) (ho : PE X o to)
    (hbase : attributeBase o name X.env (eval o X.env) = eval o X.env := by rfl) (hline : (apos.endLine == cpos.line) = true := by rfl) : PE X (.Call (.Attribute o name apos) [] [] cpos) (tBM0 K T r to) := by
  subst h; exact pe_bm0 pa slot hty hm ho hbase hline
theorem pe_bmK (h : X.K = K) (pa : PlainAttrs T) (slot : Slot T name id) (hty : typeOf (.builtin id) = pure (.type "method_descriptor")) (hm : MtR X id r) (ho : PE X o to) (ha : PA X (e :: es) t)
    (hbase : attributeBase o name X.env (eval o X.env) = eval o X.env := by rfl)
    (hfew : ((backTo cpos (starEach (e :: es) X.env)).all (fun x => !x.1) && (backToKw cpos (keywordEach [] X.env)).all (fun x => x.1.isSome)
      && decide ((e :: es).length + ([] : List Keyword).length + (if ([] : List Keyword).isEmpty then 0 else 1) < 30)) = true := by rfl)
    (hline : (apos.endLine == cpos.line) = true := by rfl) (hs : starEach (e :: es) X.env = (false, eval e X.env) :: starEach es X.env := by rfl) (hplain : (backTo cpos (starEach es X.env)).any (·.1) = false := by rfl) :
    PE X (.Call (.Attribute o name apos) (e :: es) [] cpos) (tBM K T r to t) := by
  subst h; exact pe_bm pa slot hty hm ho ha hbase hfew hline hs hplain
end
end

/-! ## comprehensions -/
theorem rd_len {K : PySem.W.Frag} {H : Hp} {a : Addr} {xs : List V} {Q : VK} (h : SqL K H a xs) (q : Q (.int xs.length) H) : rLenK K [.ref a] H Q := ⟨a, xs, rfl, .inl h, q⟩
theorem rd_lenT {K : PySem.W.Frag} {H : Hp} {a : Addr} {xs : List V} {Q : VK} (h : SqT K H a xs) (q : Q (.int xs.length) H) : rLenK K [.ref a] H Q := ⟨a, xs, rfl, .inr h, q⟩
theorem rd_list {K : PySem.W.Frag} {H : Hp} {a : Addr} {xs : List V} {Q : VK} (h : SqL K H a xs) (q : ∀ l, H l = none → Q (.ref l) (upd H l (.lst xs))) : rListK K [.ref a] H Q := ⟨a, xs, rfl, .inl h, q⟩
/-- what a comprehension over a list, over a range asks of its block -/
abbrev CompO (J : It) (g : TG) (tt : TT) (te : TE) (vs : List Nat) (σ : L2.St) (H1 : Hp) (D : Addr) (Qd : Hp → Prop) : Prop :=
  ∃ W : Nat → Nat → Hp → Prop, (∃ m, W 0 m (upd H1 D (.lst []))) ∧ ∀ i m H, W i m H →
    (J.stop i H ∧ Qd H) ∨ (J.go i H ∧ ∃ Nx : Hp → Prop, (∀ H', Nx H' → ∃ m', m' < m ∧ W (i + 1) m' H') ∧ ∀ x H', J.yld i H x H' → g x (wipe σ vs) H' fun σ2 H2 => wipe σ2 vs = wipe σ vs ∧ tt σ2 H2 fun b H3 =>
      if b = true then te σ2 H3 fun y H4 => ∃ acc, H4 D = some (.lst acc) ∧ acc.length < sizeLine ∧ Nx (upd H4 D (.lst (acc ++ [y]))) else Nx H3)
theorem filter_range_succ {p : Nat → Bool} {i : Nat} : (List.range (i + 1)).filter p = (List.range i).filter p ++ (if p i = true then [i] else []) := by
  rw [List.range_succ, List.filter_append]
  congr 1
  by_cases h : p i = true <;> simp [h]
theorem filter_len {α : Type} (p : α → Bool) (l : List α) : (l.filter p).length ≤ l.length := List.length_filter_le p l
theorem lc_rangeF {n : Nat} {D : Addr} {σ : L2.St} {vs : List Nat} {s : Nat} {tt : TT} {te : TE} {H1 : Hp} {Qd : Hp → Prop} (p : Nat → Bool) (f : Nat → V) (nD : H1 D = none) (hlen : n < 100000) (hw : ∀ v, wipe ((wipe σ vs).set s (some v)) vs = wipe σ vs)
    (ht : ∀ (i : Nat) H' (R : Bool → Hp → Prop), i < n → Same H1 H' → (∀ H'', Same H' H'' → R (p i) H'') → tt ((wipe σ vs).set s (some (.int (i : Int)))) H' R)
    (he : ∀ (i : Nat) H' (R : VK), i < n → p i = true → Same H1 H' → (∀ H'', Same H' H'' → R (f i) H'') → te ((wipe σ vs).set s (some (.int (i : Int)))) H' R)
    (hd : ∀ H', Same H1 H' → H' D = some (.lst (((List.range n).filter p).map f)) → Qd H') : CompO (Itr 0 n) (gName s) tt te vs σ H1 D Qd := by
  refine lc_range (lo := 0) (n := n) (fun i H' => Same H1 H' ∧ H' D = some (.lst (((List.range i).filter p).map f))) ⟨same_upd nD, upd_same⟩ (fun i H' hi ⟨s1, hD⟩ => ?_) (fun H' ⟨s1, hD⟩ => hd H' s1 hD)
  show wipe ((wipe σ vs).set s (some (.int (0 + (i : Int))))) vs = wipe σ vs ∧ _
  rw [show (0 : Int) + (i : Int) = (i : Int) by omega]
  refine ⟨hw _, ht i H' _ hi s1 fun H2 s2 => ?_⟩
  cases hp : p i with
  | true =>
    refine iteT ?_
    refine he i H2 _ hi hp (s1.trans s2) fun H3 s3 => ?_
    refine ⟨_, s3 _ _ (s2 _ _ hD), ?_, Same.mut ((s1.trans s2).trans s3) nD, ?_⟩
    · have := filter_len p (List.range i)
      rw [List.length_map]
      rw [List.length_range] at this
      exact szlt (by omega)
    · rw [upd_same, filter_range_succ, hp, if_pos rfl, List.map_append]
      rfl
  | false =>
    refine iteF ?_
    refine ⟨s1.trans s2, ?_⟩
    rw [s2 _ _ hD, filter_range_succ, hp, if_neg (by decide), List.append_nil]
theorem lc_rangeM {n : Nat} {D : Addr} {σ : L2.St} {vs : List Nat} {s : Nat} {te : TE} {H1 : Hp} {Qd : Hp → Prop} (f : Nat → V) (nD : H1 D = none) (hlen : n < 100000) (hw : ∀ v, wipe ((wipe σ vs).set s (some v)) vs = wipe σ vs)
    (he : ∀ (i : Nat) H' (R : VK), i < n → Same H1 H' → (∀ H'', Same H' H'' → R (f i) H'') → te ((wipe σ vs).set s (some (.int (i : Int)))) H' R)
    (hd : ∀ H', Same H1 H' → H' D = some (.lst ((List.range n).map f)) → Qd H') : CompO (Itr 0 n) (gName s) tYes te vs σ H1 D Qd :=
  lc_rangeF (fun _ => true) f nD hlen hw (fun i H' R _ _ q => q H' (Same.refl _)) (fun i H' R hi _ s1 q => he i H' R hi s1 q) (fun H' s1 h => hd H' s1 (by rw [h, List.filter_eq_self.mpr (fun _ _ => rfl)]))
theorem take_filter_succ {α : Type} {p : α → Bool} {xs : List α} {i : Nat} {x : α} (h : xs[i]? = some x) : (xs.take (i + 1)).filter p = (xs.take i).filter p ++ (if p x = true then [x] else []) := by
  rw [List.take_add_one, h, List.filter_append]
  congr 1
  by_cases hp : p x = true <;> simp [hp]
/-- over a list: the target of any form stores at some slots; T: what it leaves -/
theorem lc_listG {K : PySem.W.Frag} {a D : Addr} {xs : List V} {g : TG} {σ : L2.St} {vs : List Nat} {tt : TT} {te : TE} {H1 : Hp} {Qd : Hp → Prop} (T : V → L2.St) (p : V → Bool) (f : V → V) (hL : SqL K H1 a xs) (nD : H1 D = none) (hlen : xs.length < 100000)
    (hg : ∀ x H' (R : L2.St → Hp → Prop), x ∈ xs → Same H1 H' → R (T x) H' → g x (wipe σ vs) H' R) (hw : ∀ x ∈ xs, wipe (T x) vs = wipe σ vs)
    (ht : ∀ x H' (R : Bool → Hp → Prop), x ∈ xs → Same H1 H' → (∀ H'', Same H' H'' → R (p x) H'') → tt (T x) H' R)
    (he : ∀ x H' (R : VK), x ∈ xs → p x = true → Same H1 H' → (∀ H'', Same H' H'' → R (f x) H'') → te (T x) H' R)
    (hd : ∀ H', Same H1 H' → H' D = some (.lst ((xs.filter p).map f)) → Qd H') : CompO (Itl K a) g tt te vs σ H1 D Qd := by
  refine lc_list (K := K) (a := a) (xs := xs) (fun i H' => Same H1 H' ∧ H' D = some (.lst (((xs.take i).filter p).map f))) ⟨same_upd nD, upd_same⟩ (fun i H' _ ⟨s1, _⟩ => s1.seq hL) (fun i x H' hx ⟨s1, hD⟩ => ?_) (fun H' ⟨s1, hD⟩ => hd H' s1 (by rw [hD, List.take_length]))
  have hm := List.mem_of_getElem? hx
  refine hg x H' _ hm s1 ⟨hw x hm, ht x H' _ hm s1 fun H2 s2 => ?_⟩
  have hi : i < xs.length := (List.getElem?_eq_some_iff.mp hx).1
  cases hp : p x with
  | true =>
    refine iteT ?_
    refine he x H2 _ hm hp (s1.trans s2) fun H3 s3 => ?_
    refine ⟨_, s3 _ _ (s2 _ _ hD), ?_, Same.mut ((s1.trans s2).trans s3) nD, ?_⟩
    · have := filter_len p (xs.take i)
      rw [List.length_map]
      rw [List.length_take] at this
      exact szlt (by omega)
    · rw [upd_same, take_filter_succ hx, hp, if_pos rfl, List.map_append]
      rfl
  | false =>
    refine iteF ?_
    refine ⟨s1.trans s2, ?_⟩
    rw [s2 _ _ hD, take_filter_succ hx, hp, if_neg (by decide), List.append_nil]
theorem lc_listM {K : PySem.W.Frag} {a D : Addr} {xs : List V} {s : Nat} {σ : L2.St} {vs : List Nat} {te : TE} {H1 : Hp} {Qd : Hp → Prop} (f : V → V) (hL : SqL K H1 a xs) (nD : H1 D = none) (hlen : xs.length < 100000)
    (hw : ∀ v, wipe ((wipe σ vs).set s (some v)) vs = wipe σ vs)
    (he : ∀ x H' (R : VK), x ∈ xs → Same H1 H' → (∀ H'', Same H' H'' → R (f x) H'') → te ((wipe σ vs).set s (some x)) H' R)
    (hd : ∀ H', Same H1 H' → H' D = some (.lst (xs.map f)) → Qd H') : CompO (Itl K a) (gName s) tYes te vs σ H1 D Qd :=
  lc_listG (fun x => (wipe σ vs).set s (some x)) (fun _ => true) f hL nD hlen (fun x H' R _ _ q => q) (fun x _ => hw x) (fun x H' R _ _ q => q H' (Same.refl _)) (fun x H' R hx _ s1 q => he x H' R hx s1 q)
    (fun H' s1 h => hd H' s1 (by rw [h, List.filter_eq_self.mpr (fun _ _ => rfl)]))
theorem IL_mapR (n : Nat) (f : Nat → Int) : (List.range n).map (fun i => V.int (f i)) = IL ((List.range n).map f) := by rw [IL, List.map_map]; rfl
theorem IL_mapL (xs : List Int) (f : V → V) (h : Int → Int) (e : ∀ x, f (.int x) = .int (h x)) : (IL xs).map f = IL (xs.map h) := by
  rw [IL, IL, List.map_map, List.map_map]
  exact List.map_congr_left fun x _ => e x

/-! ## the steps -/
local macro_rules | `(tactic| walk_at "rd1") => `(tactic| first
  | ((with_reducible refine rd_var (v := ?v) ?h ?_); (case h => rfl))
  | with_reducible refine rd_c ?_
  | with_reducible refine rd_op ?_
  | with_reducible refine rd_I0 ?_
  | with_reducible refine rd_cons ?_
  | with_reducible refine rd_nil ?_
  | with_reducible refine rd_un ?_
  | with_reducible refine rd_U ?_
  | ((with_reducible refine rd_eq ?h ?_); (case h => rfl))
  | ((with_reducible refine rd_ne ?h ?_); (case h => rfl))
  | with_reducible refine rd_cb ?_
  | with_reducible refine rd_call ?_
  | with_reducible refine rd_callS ?_
  | with_reducible refine rd_test ?_
  | with_reducible refine rd_tB ?_
  | with_reducible refine rd_bl ?_
  | with_reducible refine rd_not ?_
  | with_reducible refine rd_and ?_
  | with_reducible refine rd_or ?_
  | with_reducible refine rd_andV ?_
  | with_reducible refine rd_orV ?_
  | with_reducible refine rd_notV ?_
  | with_reducible refine rd_if ?_
  | with_reducible refine rd_seq ?_
  | with_reducible refine rd_asg ?_
  | with_reducible refine rd_name ?_
  | with_reducible refine rd_ret ?_
  | with_reducible refine rd_drop ?_
  | with_reducible refine rd_ifS ?_
  | with_reducible refine rd_next ?_
  | with_reducible refine rd_cont ?_
  | with_reducible refine rd_tup ?_
  | with_reducible refine rd_lst ?_
  | with_reducible refine rd_for ?_
  | with_reducible refine rd_lc ?_
  | ((with_reducible refine rd_len (xs := ?xs) ?h ?_); (case h => first | assumption | exact SqL.of (by assumption) | exact SqL.of upd_same))
  | ((with_reducible refine rd_list (xs := ?xs) ?h ?_); (case h => first | assumption | exact SqL.of (by assumption) | exact SqL.of upd_same))
  | with_reducible refine rd_isN ?_
  | with_reducible refine rd_notN ?_
  | with_reducible refine rd_tYes ?_
  | with_reducible refine iteT ?_
  | with_reducible refine iteF ?_
  | with_reducible refine rd_rng1 ?_
  | with_reducible refine rd_rng2 ?_
  | with_reducible refine rd_iList ?_
  | with_reducible refine rd_iTup ?_
  | with_reducible refine rd_bm ?_
  | with_reducible refine rd_bm0 ?_
  | ((with_reducible refine rd_I (C := CPow) ?c ?_); (case c => exact ⟨by decide, by decide, by decide⟩))
  | ((with_reducible refine rd_I (C := fun _ j => 0 < j) ?c ?_); (case c => (show (0 : Int) < _); first | omega | decide +kernel))
  | ((with_reducible refine rd_I (C := CDiv) ?c ?_); (case c => first | exact ⟨by decide, by decide⟩ | exact ⟨by omega, by omega⟩))
  | ((with_reducible refine rd_I (C := CMul) ?c ?_); (case c => first | exact .inr ⟨by omega, by omega⟩ | exact .inl ⟨by omega, by omega⟩))
  | ((with_reducible refine rd_cell (ns := ?ns) ?h0 ?h ?_); (case h => assumption); (case h0 => first | decide | omega)))
local macro_rules | `(tactic| walk_at "rd") => `(tactic| repeat walk_at "rd1")
local macro_rules | `(tactic| walk_at "rq1") => `(tactic| first
  | ((with_reducible refine rd_var (v := ?v) ?h ?_); (case h => rfl))
  | with_reducible refine rd_c ?_
  | with_reducible refine rd_op ?_
  | with_reducible refine rd_I0 ?_
  | with_reducible refine rd_cons ?_
  | with_reducible refine rd_nil ?_
  | with_reducible refine rd_un ?_
  | with_reducible refine rd_U ?_
  | ((with_reducible refine rd_eq ?h ?_); (case h => rfl))
  | ((with_reducible refine rd_ne ?h ?_); (case h => rfl))
  | with_reducible refine rd_cb ?_
  | with_reducible refine rd_call ?_
  | with_reducible refine rd_callS ?_
  | with_reducible refine rd_test ?_
  | with_reducible refine rd_tB ?_
  | with_reducible refine rd_bl ?_
  | with_reducible refine rd_not ?_
  | with_reducible refine rd_and ?_
  | with_reducible refine rd_or ?_
  | with_reducible refine rd_andV ?_
  | with_reducible refine rd_orV ?_
  | with_reducible refine rd_notV ?_
  | with_reducible refine rd_if ?_
  | with_reducible refine rd_asg ?_
  | with_reducible refine rd_name ?_
  | with_reducible refine rd_ret ?_
  | with_reducible refine rd_drop ?_
  | with_reducible refine rd_ifS ?_
  | with_reducible refine rd_next ?_
  | with_reducible refine rd_cont ?_
  | with_reducible refine rd_tup ?_
  | with_reducible refine rd_lst ?_
  | with_reducible refine rd_for ?_
  | with_reducible refine rd_lc ?_
  | ((with_reducible refine rd_len (xs := ?xs) ?h ?_); (case h => first | assumption | exact SqL.of (by assumption) | exact SqL.of upd_same))
  | ((with_reducible refine rd_list (xs := ?xs) ?h ?_); (case h => first | assumption | exact SqL.of (by assumption) | exact SqL.of upd_same))
  | with_reducible refine rd_isN ?_
  | with_reducible refine rd_notN ?_
  | with_reducible refine rd_tYes ?_
  | with_reducible refine iteT ?_
  | with_reducible refine iteF ?_
  | with_reducible refine rd_rng1 ?_
  | with_reducible refine rd_rng2 ?_
  | with_reducible refine rd_iList ?_
  | with_reducible refine rd_iTup ?_
  | with_reducible refine rd_bm ?_
  | with_reducible refine rd_bm0 ?_
  | ((with_reducible refine rd_I (C := CPow) ?c ?_); (case c => exact ⟨by decide, by decide, by decide⟩))
  | ((with_reducible refine rd_I (C := fun _ j => 0 < j) ?c ?_); (case c => (show (0 : Int) < _); first | omega | decide +kernel))
  | ((with_reducible refine rd_I (C := CDiv) ?c ?_); (case c => first | exact ⟨by decide, by decide⟩ | exact ⟨by omega, by omega⟩))
  | ((with_reducible refine rd_I (C := CMul) ?c ?_); (case c => first | exact .inr ⟨by omega, by omega⟩ | exact .inl ⟨by omega, by omega⟩))
  | ((with_reducible refine rd_cell (ns := ?ns) ?h0 ?h ?_); (case h => assumption); (case h0 => first | decide | omega)))
local macro_rules | `(tactic| walk_at "rq") => `(tactic| repeat walk_at "rq1")

/-! ## lists of ints, lists of pairs, compared -/
def dI (ns : List Int) : PyData := .list (ns.map PyData.int)
theorem depthAll_ints : ∀ ns : List Int, PyData.depthAll (ns.map PyData.int) ≤ 1
  | [] => by simp [PyData.depthAll]
  | n :: ns => by
    have ih := depthAll_ints ns
    simp only [List.map_cons, PyData.depthAll, PyData.depth]
    omega
theorem layAll_ints : ∀ ns : List Int, PyData.canLayAll0 (ns.map PyData.int) = true
  | [] => by simp [PyData.canLayAll0]
  | n :: ns => by
    have ih := layAll_ints ns
    simp [PyData.canLayAll0, PyData.canLay0, ih]
theorem shaped_dI (ns : List Int) : SeqAt.shaped (dI ns) = true := by
  have h := depthAll_ints ns
  have h2 := layAll_ints ns
  unfold SeqAt.shaped dI
  rw [Bool.and_eq_true]
  refine ⟨by simpa only [PyData.canLay0] using h2, decide_eq_true ?_⟩
  show PyData.depthAll (ns.map PyData.int) + 1 ≤ 64
  omega
theorem eqvAll_ints : ∀ xs ys : List Int, PyData.eqvAll (xs.map PyData.int) (ys.map PyData.int) = decide (xs = ys)
  | [], [] => by simp [PyData.eqvAll]
  | [], y :: ys => by simp [PyData.eqvAll]
  | x :: xs, [] => by simp [PyData.eqvAll]
  | x :: xs, y :: ys => by
    have ih := eqvAll_ints xs ys
    simp only [List.map_cons, PyData.eqvAll, PyData.eqv, ih]
    by_cases h : x = y <;> by_cases h2 : xs = ys <;> simp [h, h2]
theorem eqv_dI (xs ys : List Int) : PyData.eqv (dI xs) (dI ys) = decide (xs = ys) := by
  unfold dI
  rw [PyData.eqv]
  exact eqvAll_ints xs ys
theorem dpAll_ints {K : PySem.W.Frag} {H : Hp} : ∀ ns : List Int, DpAll K H (IL ns) (ns.map PyData.int)
  | [] => .nil
  | n :: ns => .cons (.int n) (dpAll_ints ns)
theorem dp_ints {K : PySem.W.Frag} {H : Hp} {a : Addr} {ns : List Int} (h : SqL K H a (IL ns)) : Dp K H (.ref a) (dI ns) := .lst h (dpAll_ints ns)
theorem rd_neI {K : PySem.W.Frag} {H : Hp} {a b : Addr} {xs ys : List Int} {Q : VK} (ha : SqL K H a (IL xs)) (hb : SqL K H b (IL ys)) (q : Q (.bl (!decide (xs = ys))) H) : rNeD K (.ref a) (.ref b) H Q :=
  ⟨_, _, dp_ints ha, dp_ints hb, shaped_dI _, shaped_dI _, by rw [eqv_dI]; exact q⟩
theorem rd_eqI {K : PySem.W.Frag} {H : Hp} {a b : Addr} {xs ys : List Int} {Q : VK} (ha : SqL K H a (IL xs)) (hb : SqL K H b (IL ys)) (q : Q (.bl (decide (xs = ys))) H) : rEqD K (.ref a) (.ref b) H Q :=
  ⟨_, _, dp_ints ha, dp_ints hb, shaped_dI _, shaped_dI _, by rw [eqv_dI]; exact q⟩
/-- a list of pairs of ints -/
def Prs (K : PySem.W.Frag) (H : Hp) (vs : List V) (ps : List (Int × Int)) : Prop := Paired (fun v p => ∃ t, v = V.ref t ∧ SqT K H t [.int p.1, .int p.2]) vs ps
def dpr (p : Int × Int) : PyData := .tuple [.int p.1, .int p.2]
def dP (ps : List (Int × Int)) : PyData := .list (ps.map dpr)
theorem Prs.mono {K : PySem.W.Frag} {H H' : Hp} {vs : List V} {ps : List (Int × Int)} (s : Same H H') (h : Prs K H vs ps) : Prs K H' vs ps := by
  unfold Prs at h ⊢
  exact Paired.mapP h fun v p ⟨t, e, q⟩ => ⟨t, e, Same.seqT s q⟩
theorem depthAll_prs : ∀ ps : List (Int × Int), PyData.depthAll (ps.map dpr) ≤ 3
  | [] => by simp [PyData.depthAll]
  | p :: ps => by
    have ih := depthAll_prs ps
    simp only [List.map_cons, PyData.depthAll, PyData.depth, dpr]
    omega
theorem layAll_prs : ∀ ps : List (Int × Int), PyData.canLayAll0 (ps.map dpr) = true
  | [] => by simp [PyData.canLayAll0]
  | p :: ps => by
    have ih := layAll_prs ps
    simp [PyData.canLayAll0, PyData.canLay0, dpr, ih]
theorem shaped_dP (ps : List (Int × Int)) : SeqAt.shaped (dP ps) = true := by
  have h := depthAll_prs ps
  have h2 := layAll_prs ps
  unfold SeqAt.shaped dP
  rw [Bool.and_eq_true]
  refine ⟨by simpa only [PyData.canLay0] using h2, decide_eq_true ?_⟩
  show PyData.depthAll (ps.map dpr) + 1 ≤ 64
  omega
theorem eqv_dpr (p q : Int × Int) : PyData.eqv (dpr p) (dpr q) = decide (p = q) := by
  obtain ⟨a, b⟩ := p
  obtain ⟨c, d⟩ := q
  unfold dpr
  simp only [PyData.eqv, PyData.eqvAll, Bool.and_true]
  by_cases h : a = c <;> by_cases h2 : b = d <;> simp [h, h2]
theorem eqvAll_prs : ∀ xs ys : List (Int × Int), PyData.eqvAll (xs.map dpr) (ys.map dpr) = decide (xs = ys)
  | [], [] => by simp [PyData.eqvAll]
  | [], y :: ys => by simp [PyData.eqvAll]
  | x :: xs, [] => by simp [PyData.eqvAll]
  | x :: xs, y :: ys => by
    have ih := eqvAll_prs xs ys
    simp only [List.map_cons, PyData.eqvAll, eqv_dpr, ih]
    by_cases h : x = y <;> by_cases h2 : xs = ys <;> simp [h, h2]
theorem eqv_dP (xs ys : List (Int × Int)) : PyData.eqv (dP xs) (dP ys) = decide (xs = ys) := by
  unfold dP
  rw [PyData.eqv]
  exact eqvAll_prs xs ys
theorem dp_pr {K : PySem.W.Frag} {H : Hp} {t : Addr} {p : Int × Int} (h : SqT K H t [.int p.1, .int p.2]) : Dp K H (.ref t) (dpr p) := .tup h (.cons (.int _) (.cons (.int _) .nil))
theorem dpAll_prs {K : PySem.W.Frag} {H : Hp} {vs : List V} {ps : List (Int × Int)} (h : Prs K H vs ps) : DpAll K H vs (ps.map dpr) := by
  unfold Prs at h
  induction h with
  | nil => exact .nil
  | cons r t ih =>
    obtain ⟨a, rfl, q⟩ := r
    exact .cons (dp_pr q) ih
theorem dp_prs {K : PySem.W.Frag} {H : Hp} {a : Addr} {vs : List V} {ps : List (Int × Int)} (h : SqL K H a vs) (hp : Prs K H vs ps) : Dp K H (.ref a) (dP ps) := .lst h (dpAll_prs hp)
theorem rd_neP {K : PySem.W.Frag} {H : Hp} {a b : Addr} {vs us : List V} {xs ys : List (Int × Int)} {Q : VK} (ha : SqL K H a vs) (pa : Prs K H vs xs) (hb : SqL K H b us) (pb : Prs K H us ys) (q : Q (.bl (!decide (xs = ys))) H) : rNeD K (.ref a) (.ref b) H Q :=
  ⟨_, _, dp_prs ha pa, dp_prs hb pb, shaped_dP _, shaped_dP _, by rw [eqv_dP]; exact q⟩
theorem rd_eqP {K : PySem.W.Frag} {H : Hp} {a b : Addr} {vs us : List V} {xs ys : List (Int × Int)} {Q : VK} (ha : SqL K H a vs) (pa : Prs K H vs xs) (hb : SqL K H b us) (pb : Prs K H us ys) (q : Q (.bl (decide (xs = ys))) H) : rEqD K (.ref a) (.ref b) H Q :=
  ⟨_, _, dp_prs ha pa, dp_prs hb pb, shaped_dP _, shaped_dP _, by rw [eqv_dP]; exact q⟩
theorem Prs.upd {K : PySem.W.Frag} {H : Hp} {D : Addr} {ys vs : List V} {o : HO} {ps : List (Int × Int)} (hD : H D = some (.lst ys)) (h : Prs K H vs ps) : Prs K (upd H D o) vs ps := by
  unfold Prs at h ⊢
  exact Paired.mapP h fun v p ⟨t, e, q⟩ => ⟨t, e, SqT.upd hD q⟩
theorem Prs.snoc {K : PySem.W.Frag} {H : Hp} {vs : List V} {ps : List (Int × Int)} {t : Addr} {p : Int × Int} (h : Prs K H vs ps) (ht : SqT K H t [.int p.1, .int p.2]) : Prs K H (vs ++ [.ref t]) (ps ++ [p]) :=
  Paired.snoc h ⟨t, rfl, ht⟩
theorem Prs.length {K : PySem.W.Frag} {H : Hp} {vs : List V} {ps : List (Int × Int)} (h : Prs K H vs ps) : vs.length = ps.length := Paired.length h

/-! ## isinstance(x, int) and not isinstance(x, bool) -/
/-- what the two questions answer of a value of the type t -/
def wholeT (K : PySem.W.Frag) (t : Value) (r : Bool) : Prop := ∃ b1 b2, PySem.W.kitOne K t (.type "int") = some b1 ∧ PySem.W.kitOne K t (.type "bool") = some b2 ∧ r = (b1 && !b2)
def Whole (K : PySem.W.Frag) (H : Hp) (x : V) (r : Bool) : Prop := ∃ t, TyX K H x t ∧ wholeT K t r
theorem whole_int {K : PySem.W.Frag} {H : Hp} {i : Int} : Whole K H (.int i) true := ⟨_, .base (.int i), true, false, kit_ty (by decide +kernel), kit_ty (by decide +kernel), rfl⟩
theorem whole_bl {K : PySem.W.Frag} {H : Hp} {b : Bool} : Whole K H (.bl b) false := ⟨_, .base (.bl b), true, true, kit_ty (by decide +kernel), kit_ty (by decide +kernel), rfl⟩
theorem whole_non {K : PySem.W.Frag} {H : Hp} : Whole K H .non false := ⟨_, .base .non, false, false, kit_ty (by decide +kernel), kit_ty (by decide +kernel), rfl⟩
theorem whole_str {K : PySem.W.Frag} {H : Hp} {z : Str} : Whole K H (.str z) false := ⟨_, .base (.str z), false, false, kit_ty (by decide +kernel), kit_ty (by decide +kernel), rfl⟩
theorem whole_lst {K : PySem.W.Frag} {H : Hp} {a : Addr} {xs : List V} (h : H a = some (.lst xs)) : Whole K H (.ref a) false := ⟨_, .base (.lst h), false, false, kit_ty (by decide +kernel), kit_ty (by decide +kernel), rfl⟩
theorem whole_tup {K : PySem.W.Frag} {H : Hp} {a : Addr} {xs : List V} (h : H a = some (.tup xs)) : Whole K H (.ref a) false := ⟨_, .base (.tup h), false, false, kit_ty (by decide +kernel), kit_ty (by decide +kernel), rfl⟩
def spWhole (K : PySem.W.Frag) : Sp := fun vs H Q _ => ∃ (x : V) (r : Bool), vs = [x] ∧ Whole K H x r ∧ Q (.bl r) H
theorem whole_run {K : PySem.W.Frag} {D : Ends} {H : Hp} {vs : List V} {E : XK} {N : List Str} (h : spWhole K vs H D.rt E) :
    tRet (tAndV (tCB (rIsi K) (tCons (tVar 0) (tCons (tC (.ty "int")) tNil))) (tNotV (tCB (rIsi K) (tCons (tVar 0) (tCons (tC (.ty "bool")) tNil))))) D (start N vs) H := by
  obtain ⟨x, r, rfl, ⟨t, ty, b1, b2, h1, h2, rfl⟩, q⟩ := h
  walk_at "rd"
  refine ⟨x, .ty "int", t, _, b1, rfl, .ty _, ty, h1, b1, rfl, ?_⟩
  cases b1 with
  | false => exact iteF q
  | true =>
    refine iteT ?_
    walk_at "rd"
    refine ⟨x, .ty "bool", t, _, b2, rfl, .ty _, ty, h2, b2, rfl, ?_⟩
    exact q

/-! ## slopes, by places -/
def g (ns : List Int) (i : Nat) : Int := ns.getD i 0
/-- from a, x is steeper than y -/
abbrev Stp (ns : List Int) (a x y : Nat) : Prop := (g ns y - g ns a) * ((x : Int) - (a : Int)) < (g ns x - g ns a) * ((y : Int) - (a : Int))
theorem cross {x y z p q r : Int} (hp : 0 < p) (hq : 0 < q) (hr : 0 < r) (h1 : y * p < x * q) (h2 : z * q ≤ y * r) : z * p < x * r := by
  have e1 : z * q * p ≤ y * r * p := Int.mul_le_mul_of_nonneg_right h2 (by omega)
  have e2 : y * p * r < x * q * r := Int.mul_lt_mul_of_pos_right h1 hr
  have e3 : z * p * q < x * r * q := by
    have a1 : z * p * q = z * q * p := by rw [Int.mul_assoc, Int.mul_comm p q, ← Int.mul_assoc]
    have a2 : x * r * q = x * q * r := by rw [Int.mul_assoc, Int.mul_comm r q, ← Int.mul_assoc]
    have a3 : y * p * r = y * r * p := by rw [Int.mul_assoc, Int.mul_comm p r, ← Int.mul_assoc]
    omega
  exact Int.lt_of_mul_lt_mul_right e3 (by omega)
theorem stp_trans {ns : List Int} {a x y z : Nat} (hx : a < x) (hy : a < y) (hz : a < z) (h1 : Stp ns a x y) (h2 : ¬ Stp ns a z y) : Stp ns a x z := by
  unfold Stp at *
  exact cross (p := (x : Int) - a) (q := (y : Int) - a) (r := (z : Int) - a) (by omega) (by omega) (by omega) h1 (by omega)
theorem stp_asymm {ns : List Int} {a x y : Nat} (h : Stp ns a x y) : ¬ Stp ns a y x := by
  unfold Stp at *
  omega
theorem stp_irrefl {ns : List Int} {a x : Nat} : ¬ Stp ns a x x := by
  unfold Stp
  omega
/-- every top between lies below the line from a to b -/
def seeB (ns : List Int) (a b : Nat) : Bool := decide (∀ k, k < b → a < k → Stp ns a b k)
theorem seeB_iff {ns : List Int} {a b : Nat} : seeB ns a b = true ↔ ∀ k, k < b → a < k → Stp ns a b k := by
  unfold seeB
  exact decide_eq_true_iff
theorem seeB_next {ns : List Int} {a : Nat} : seeB ns a (a + 1) = true := seeB_iff.mpr fun k h1 h2 => by omega
/-- m is the steepest of those between a and n -/
structure Steep (ns : List Int) (a n m : Nat) : Prop where
  lo : a < m
  hi : m < n
  top : ∀ k, k < n → a < k → ¬ Stp ns a k m
theorem Steep.see {ns : List Int} {a n m : Nat} (s : Steep ns a n m) : seeB ns a n = true ↔ Stp ns a n m := by
  rw [seeB_iff]
  constructor
  · intro h
    exact h m s.hi s.lo
  · intro h k hk ha
    exact stp_trans (Nat.lt_trans s.lo s.hi) s.lo ha h (s.top k hk ha)
theorem Steep.up {ns : List Int} {a n m : Nat} (s : Steep ns a n m) (h : Stp ns a n m) : Steep ns a (n + 1) n := by
  refine ⟨Nat.lt_trans s.lo s.hi, Nat.lt_succ_self n, fun k hk ha => ?_⟩
  by_cases e : k = n
  · subst e
    exact stp_irrefl
  · exact stp_asymm (stp_trans (Nat.lt_trans s.lo s.hi) s.lo ha h (s.top k (by omega) ha))
theorem Steep.stay {ns : List Int} {a n m : Nat} (s : Steep ns a n m) (h : ¬ Stp ns a n m) : Steep ns a (n + 1) m := by
  refine ⟨s.lo, Nat.lt_succ_of_lt s.hi, fun k hk ha => ?_⟩
  by_cases e : k = n
  · subst e
    exact h
  · exact s.top k (by omega) ha
theorem Steep.first {ns : List Int} {a : Nat} : Steep ns a (a + 1 + 1) (a + 1) := by
  refine ⟨Nat.lt_succ_self _, Nat.lt_succ_self _, fun k hk ha => ?_⟩
  have e : k = a + 1 := by omega
  subst e
  exact stp_irrefl
/-- the later places that a sees, below n -/
def behN (ns : List Int) (a n : Nat) : List Nat := (List.range n).filter fun b => decide (a < b) && seeB ns a b
theorem behN_low {ns : List Int} {a n : Nat} (h : n ≤ a + 1) : behN ns a n = [] := by
  unfold behN
  rw [List.filter_eq_nil_iff]
  intro b hb
  have := List.mem_range.mp hb
  simp
  omega
theorem behN_succ {ns : List Int} {a n : Nat} : behN ns a (n + 1) = behN ns a n ++ (if a < n ∧ seeB ns a n = true then [n] else []) := by
  unfold behN
  rw [List.range_succ, List.filter_append]
  congr 1
  by_cases h1 : a < n <;> by_cases h2 : seeB ns a n = true <;> simp [h1, h2]
theorem behN_yes {ns : List Int} {a n : Nat} (h1 : a < n) (h2 : seeB ns a n = true) : behN ns a (n + 1) = behN ns a n ++ [n] := by rw [behN_succ, if_pos ⟨h1, h2⟩]
theorem behN_no {ns : List Int} {a n : Nat} (h2 : ¬ seeB ns a n = true) : behN ns a (n + 1) = behN ns a n := by rw [behN_succ, if_neg (fun z => h2 z.2), List.append_nil]
theorem mem_behN {ns : List Int} {a n b : Nat} : b ∈ behN ns a n ↔ a < b ∧ b < n ∧ seeB ns a b = true := by
  unfold behN
  rw [List.mem_filter, List.mem_range]
  simp
  exact ⟨fun ⟨h, h1, h2⟩ => ⟨h1, h, h2⟩, fun ⟨h1, h, h2⟩ => ⟨h, h1, h2⟩⟩
abbrev NI (l : List Nat) : List Int := l.map fun (n : Nat) => ((n : Nat) : Int)
abbrev NP (l : List (Nat × Nat)) : List (Int × Int) := l.map fun (p : Nat × Nat) => (((p.1 : Nat) : Int), ((p.2 : Nat) : Int))
/-- the pairs of the first n places -/
def sigN (ns : List Int) (n : Nat) : List (Nat × Nat) := (List.range n).flatMap fun a => (behN ns a ns.length).map fun b => (a, b)
theorem sigN_succ {ns : List Int} {n : Nat} : sigN ns (n + 1) = sigN ns n ++ (behN ns n ns.length).map fun b => (n, b) := by
  unfold sigN
  rw [List.range_succ, List.flatMap_append]
  simp
abbrev sights (ns : List Int) : List (Nat × Nat) := sigN ns ns.length
theorem mem_sights {ns : List Int} {a b : Nat} : (a, b) ∈ sights ns ↔ a < b ∧ b < ns.length ∧ seeB ns a b = true := by
  unfold sights sigN
  rw [List.mem_flatMap]
  constructor
  · rintro ⟨a', _, h⟩
    obtain ⟨b', hb, e⟩ := List.mem_map.mp h
    cases e
    exact mem_behN.mp hb
  · rintro ⟨h1, h2, h3⟩
    exact ⟨a, List.mem_range.mpr (Nat.lt_trans h1 h2), List.mem_map.mpr ⟨b, mem_behN.mpr ⟨h1, h2, h3⟩, rfl⟩⟩
/-- the steepest of the first i places behind a, the earliest of equals -/
def stM (ns : List Int) (a : Nat) : Nat → Option Nat
  | 0 => none
  | i + 1 => match stM ns a i with
    | none => some (a + 1 + i)
    | some m => if Stp ns a (a + 1 + i) m then some (a + 1 + i) else some m
theorem stM_none {ns : List Int} {a i : Nat} (h : stM ns a i = none) : i = 0 := by
  cases i with
  | zero => rfl
  | succ i =>
    unfold stM at h
    split at h
    · cases h
    · split at h <;> cases h
theorem stM_some {ns : List Int} {a : Nat} : ∀ {i m : Nat}, stM ns a i = some m → Steep ns a (a + 1 + i) m
  | 0, m, h => by cases h
  | i + 1, m, h => by
    unfold stM at h
    split at h
    · rename_i h0
      have e := stM_none h0
      subst e
      cases h
      exact Steep.first
    · rename_i m' h0
      have s := stM_some h0
      split at h
      · rename_i h1
        cases h
        exact s.up h1
      · rename_i h1
        cases h
        exact s.stay h1
/-- the hider -/
def hidM (ns : List Int) (a b : Nat) : Option Nat := match stM ns a (b - a - 1) with
  | none => none
  | some m => if Stp ns a b m then none else some m
theorem hidM_none {ns : List Int} {a b : Nat} (h : a < b) : hidM ns a b = none ↔ seeB ns a b = true := by
  unfold hidM
  split
  · rename_i h0
    have e := stM_none h0
    have e2 : b = a + 1 := by omega
    subst e2
    exact ⟨fun _ => seeB_next, fun _ => rfl⟩
  · rename_i m h0
    have s := stM_some h0
    rw [show a + 1 + (b - a - 1) = b by omega] at s
    rw [s.see]
    split
    · rename_i h1
      exact ⟨fun _ => h1, fun _ => rfl⟩
    · rename_i h1
      exact ⟨fun q => (by cases q), fun q => absurd q h1⟩
theorem hidM_some {ns : List Int} {a b m : Nat} (h : a < b) (e : hidM ns a b = some m) : a < m ∧ m < b ∧ ¬ Stp ns a b m := by
  unfold hidM at e
  split at e
  · cases e
  · rename_i m' h0
    have s := stM_some h0
    rw [show a + 1 + (b - a - 1) = b by omega] at s
    split at e
    · cases e
    · rename_i h1
      cases e
      exact ⟨s.lo, s.hi, h1⟩

/-! ## tilting, turning, stretching -/
theorem seeB_congr {ns ms : List Int} {a b c d : Nat} (h : (∀ k, k < b → a < k → Stp ns a b k) ↔ ∀ k, k < d → c < k → Stp ms c d k) : seeB ns a b = seeB ms c d := by
  cases h1 : seeB ns a b <;> cases h2 : seeB ms c d
  · rfl
  · rw [← Bool.not_eq_true] at h1
    exact absurd (seeB_iff.mpr (h.mpr (seeB_iff.mp h2))) h1
  · rw [← Bool.not_eq_true] at h2
    exact absurd (seeB_iff.mpr (h.mp (seeB_iff.mp h1))) h2
  · rfl
theorem g_map {n : Nat} {f : Nat → Int} {k : Nat} (h : k < n) : g ((List.range n).map f) k = f k := by
  unfold g
  rw [List.getD_eq_getElem?_getD, List.getElem?_map, List.getElem?_range h]
  rfl
theorem sights_congr {ns ms : List Int} (hl : ns.length = ms.length) (h : ∀ a b, a < b → b < ns.length → seeB ns a b = seeB ms a b) : sights ns = sights ms := by
  have hb : ∀ a, behN ns a ns.length = behN ms a ns.length := fun a => by
    unfold behN
    refine List.filter_congr fun b hb => ?_
    have hbn := List.mem_range.mp hb
    by_cases hab : a < b
    · rw [h a b hab hbn]
    · simp [hab]
  unfold sights sigN
  rw [← hl]
  simp only [hb]
def tiltL (hs : List Int) (t m : Int) : List Int := (List.range hs.length).map fun k => g hs k + t * (k : Int) + m
def turnL (hs : List Int) : List Int := (List.range hs.length).map fun k => g hs (hs.length - 1 - k)
theorem tilt_len (hs : List Int) (t m : Int) : (tiltL hs t m).length = hs.length := by unfold tiltL; rw [List.length_map, List.length_range]
theorem turn_len (hs : List Int) : (turnL hs).length = hs.length := by unfold turnL; rw [List.length_map, List.length_range]
theorem stp_tilt {hs : List Int} {t m : Int} {a x y : Nat} (ha : a < hs.length) (hx : x < hs.length) (hy : y < hs.length) : Stp (tiltL hs t m) a x y ↔ Stp hs a x y := by
  unfold Stp tiltL
  rw [g_map ha, g_map hx, g_map hy]
  generalize g hs a = A
  generalize g hs x = X
  generalize g hs y = Y
  have e1 : (Y + t * (y : Int) + m - (A + t * (a : Int) + m)) * ((x : Int) - a) = (Y - A) * ((x : Int) - a) + t * (((y : Int) - a) * ((x : Int) - a)) := by
    have : Y + t * (y : Int) + m - (A + t * (a : Int) + m) = (Y - A) + t * ((y : Int) - a) := by rw [Int.mul_sub]; omega
    rw [this, Int.add_mul, Int.mul_assoc]
  have e2 : (X + t * (x : Int) + m - (A + t * (a : Int) + m)) * ((y : Int) - a) = (X - A) * ((y : Int) - a) + t * (((y : Int) - a) * ((x : Int) - a)) := by
    have : X + t * (x : Int) + m - (A + t * (a : Int) + m) = (X - A) + t * ((x : Int) - a) := by rw [Int.mul_sub]; omega
    rw [this, Int.add_mul, Int.mul_assoc, Int.mul_comm ((x : Int) - a) ((y : Int) - a)]
  rw [e1, e2]
  omega
theorem sights_tilt (hs : List Int) (t m : Int) : sights (tiltL hs t m) = sights hs := by
  refine sights_congr (tilt_len hs t m) fun a b hab hb => ?_
  rw [tilt_len] at hb
  exact seeB_congr ⟨fun h k hk ha => (stp_tilt (by omega) (by omega) (by omega)).mp (h k hk ha), fun h k hk ha => (stp_tilt (by omega) (by omega) (by omega)).mpr (h k hk ha)⟩
theorem g_mulmap (hs : List Int) (t : Int) (k : Nat) : g (hs.map (· * t)) k = g hs k * t := by
  unfold g
  rw [List.getD_eq_getElem?_getD, List.getD_eq_getElem?_getD, List.getElem?_map]
  cases hs[k]? with
  | none => simp
  | some z => rfl
theorem stp_stretch {hs : List Int} {t : Int} (ht : 0 < t) {a x y : Nat} : Stp (hs.map (· * t)) a x y ↔ Stp hs a x y := by
  unfold Stp
  rw [g_mulmap, g_mulmap, g_mulmap]
  generalize g hs a = A
  generalize g hs x = X
  generalize g hs y = Y
  have e1 : (Y * t - A * t) * ((x : Int) - a) = (Y - A) * ((x : Int) - a) * t := by rw [← Int.sub_mul, Int.mul_assoc, Int.mul_comm t, ← Int.mul_assoc]
  have e2 : (X * t - A * t) * ((y : Int) - a) = (X - A) * ((y : Int) - a) * t := by rw [← Int.sub_mul, Int.mul_assoc, Int.mul_comm t, ← Int.mul_assoc]
  rw [e1, e2]
  exact ⟨fun h => Int.lt_of_mul_lt_mul_right h (by omega), fun h => Int.mul_lt_mul_of_pos_right h ht⟩
theorem sights_stretch (hs : List Int) {t : Int} (ht : 0 < t) : sights (hs.map (· * t)) = sights hs := by
  refine sights_congr (List.length_map _) fun a b hab hb => ?_
  exact seeB_congr ⟨fun h k hk ha => (stp_stretch ht).mp (h k hk ha), fun h k hk ha => (stp_stretch ht).mpr (h k hk ha)⟩
theorem line_turn {A B K a b k : Int} : (K - A) * (b - a) < (B - A) * (k - a) ↔ (K - B) * (b - a) < (A - B) * (b - k) := by
  have e1 : (K - A) * (b - a) = (K - B) * (b - a) + (B - A) * (b - a) := by rw [← Int.add_mul]; congr 1; omega
  have e2 : (B - A) * (k - a) = (A - B) * (b - k) + (B - A) * (b - a) := by
    have : (A - B) * (b - k) = (B - A) * (k - b) := by
      rw [show A - B = -(B - A) by omega, show b - k = -(k - b) by omega, Int.neg_mul_neg]
    rw [this, ← Int.mul_add]
    congr 1
    omega
  rw [e1, e2]
  omega
theorem see_turn {hs : List Int} {a b : Nat} (hab : a < b) (hb : b < hs.length) : seeB (turnL hs) a b = seeB hs (hs.length - 1 - b) (hs.length - 1 - a) := by
  have key : ∀ k, a < k → k < b → (Stp (turnL hs) a b k ↔ Stp hs (hs.length - 1 - b) (hs.length - 1 - a) (hs.length - 1 - k)) := fun k h1 h2 => by
    unfold Stp turnL
    rw [g_map (by omega), g_map (by omega), g_map (by omega)]
    rw [line_turn]
    have c1 : ((hs.length - 1 - a : Nat) : Int) - ((hs.length - 1 - b : Nat) : Int) = (b : Int) - a := by omega
    have c2 : ((hs.length - 1 - k : Nat) : Int) - ((hs.length - 1 - b : Nat) : Int) = (b : Int) - k := by omega
    rw [c1, c2]
  refine seeB_congr ⟨fun h k hk ha => ?_, fun h k hk ha => ?_⟩
  · have := (key (hs.length - 1 - k) (by omega) (by omega)).mp (h _ (by omega) (by omega))
    rwa [show hs.length - 1 - (hs.length - 1 - k) = k by omega] at this
  · exact (key k ha hk).mpr (h _ (by omega) (by omega))
/-! ## the sights in order -/
abbrev ltN (p q : Nat × Nat) : Prop := p.1 < q.1 ∨ (p.1 = q.1 ∧ p.2 < q.2)
theorem behN_sorted (ns : List Int) (a n : Nat) : (behN ns a n).Pairwise (· < ·) := List.Pairwise.sublist List.filter_sublist List.pairwise_lt_range
theorem sigN_sorted (ns : List Int) : ∀ n, (sigN ns n).Pairwise ltN
  | 0 => by simp [sigN]
  | n + 1 => by
    rw [sigN_succ, List.pairwise_append]
    refine ⟨sigN_sorted ns n, List.pairwise_map.mpr ((behN_sorted ns n ns.length).imp fun h => .inr ⟨rfl, h⟩), fun p hp q hq => ?_⟩
    obtain ⟨b, _, rfl⟩ := List.mem_map.mp hq
    left
    unfold sigN at hp
    obtain ⟨a, ha, h⟩ := List.mem_flatMap.mp hp
    obtain ⟨c, _, rfl⟩ := List.mem_map.mp h
    exact List.mem_range.mp ha
theorem ltN_ne {p q : Nat × Nat} (h : ltN p q) : p ≠ q := by
  rintro rfl
  rcases h with h | ⟨_, h⟩ <;> exact absurd h (Nat.lt_irrefl _)
theorem sights_nodup (ns : List Int) : (sights ns).Nodup := (sigN_sorted ns ns.length).imp ltN_ne
/-- the pairs told from the other end -/
def revP (n : Nat) (l : List (Nat × Nat)) : List (Int × Int) := l.map fun p => (((n : Int) - 1 - (p.2 : Int)), ((n : Int) - 1 - (p.1 : Int)))
theorem rev_perm (hs : List Int) : (revP hs.length (sights hs)).Perm (NP (sights (turnL hs))) := by
  have n1 : (revP hs.length (sights hs)).Nodup := by
    unfold revP
    refine List.pairwise_map.mpr ((sights_nodup hs).imp fun {p q} h e => h ?_)
    have e1 := congrArg Prod.fst e
    have e2 := congrArg Prod.snd e
    simp only at e1 e2
    exact Prod.ext (by omega) (by omega)
  have n2 : (NP (sights (turnL hs))).Nodup := by
    refine List.pairwise_map.mpr ((sights_nodup (turnL hs)).imp fun {p q} h e => h ?_)
    have e1 := congrArg Prod.fst e
    have e2 := congrArg Prod.snd e
    simp only at e1 e2
    exact Prod.ext (by omega) (by omega)
  refine (List.perm_ext_iff_of_nodup n1 n2).mpr fun p => ?_
  constructor
  · intro h
    obtain ⟨⟨a, b⟩, hm, rfl⟩ := List.mem_map.mp h
    obtain ⟨h1, h2, h3⟩ := mem_sights.mp hm
    refine List.mem_map.mpr ⟨(hs.length - 1 - b, hs.length - 1 - a), mem_sights.mpr ⟨by omega, by rw [turn_len]; omega, ?_⟩, ?_⟩
    · rw [see_turn (by omega) (by omega), show hs.length - 1 - (hs.length - 1 - a) = a by omega, show hs.length - 1 - (hs.length - 1 - b) = b by omega]
      exact h3
    · refine Prod.ext ?_ ?_ <;> simp only <;> omega
  · intro h
    obtain ⟨⟨a, b⟩, hm, rfl⟩ := List.mem_map.mp h
    obtain ⟨h1, h2, h3⟩ := mem_sights.mp hm
    rw [turn_len] at h2
    rw [see_turn h1 h2] at h3
    refine List.mem_map.mpr ⟨(hs.length - 1 - b, hs.length - 1 - a), mem_sights.mpr ⟨by omega, by omega, h3⟩, ?_⟩
    refine Prod.ext ?_ ?_ <;> simp only <;> omega
theorem sorted_uniq {l m : List (Int × Int)} (h : l.Perm m) (hl : l.Pairwise fun x y => SrtO.lexB y x = false) (hm : m.Pairwise fun x y => SrtO.lexB y x = false) : l = m := by
  refine List.Perm.eq_of_pairwise (le := fun x y => SrtO.lexB y x = false) (fun a b _ _ h1 h2 => ?_) hl hm h
  have a1 := SrtO.lexB_no.mp h1
  have a2 := SrtO.lexB_no.mp h2
  exact Prod.ext (by omega) (by omega)
theorem NP_sorted (ns : List Int) : (NP (sights ns)).Pairwise fun x y => SrtO.lexB y x = false :=
  List.pairwise_map.mpr ((sigN_sorted ns ns.length).imp fun {p q} h => SrtO.lexB_no.mpr (by
    simp only
    rcases h with h | ⟨h1, h2⟩ <;> omega))

/-! ## pairs that are tracked, sorted -/
def PrsH (H : Hp) (vs : List V) (ps : List (Int × Int)) : Prop := Paired (fun v p => ∃ t, v = V.ref t ∧ H t = some (.tup [.int p.1, .int p.2])) vs ps
theorem PrsH.prs {K : PySem.W.Frag} {H : Hp} {vs : List V} {ps : List (Int × Int)} (h : PrsH H vs ps) : Prs K H vs ps := by
  unfold PrsH at h
  unfold Prs
  exact Paired.mapP h fun v p ⟨t, e, q⟩ => ⟨t, e, .of q⟩
theorem PrsH.mono {H H' : Hp} {vs : List V} {ps : List (Int × Int)} (s : Same H H') (h : PrsH H vs ps) : PrsH H' vs ps := by
  unfold PrsH at h ⊢
  exact Paired.mapP h fun v p ⟨t, e, q⟩ => ⟨t, e, s _ _ q⟩
theorem PrsH.upd {H : Hp} {D : Addr} {ys vs : List V} {o : HO} {ps : List (Int × Int)} (hD : H D = some (.lst ys)) (h : PrsH H vs ps) : PrsH (upd H D o) vs ps := by
  unfold PrsH at h ⊢
  exact Paired.mapP h fun v p ⟨t, e, q⟩ => ⟨t, e, by rw [upd_ne (ne_of q hD (by intro z; cases z))]; exact q⟩
theorem PrsH.snoc {H : Hp} {vs : List V} {ps : List (Int × Int)} {t : Addr} {p : Int × Int} (h : PrsH H vs ps) (ht : H t = some (.tup [.int p.1, .int p.2])) : PrsH H (vs ++ [.ref t]) (ps ++ [p]) := Paired.snoc h ⟨t, rfl, ht⟩
def pk (H : Hp) : V → Int × Int
  | .ref t => match H t with
    | some (.tup [.int a, .int b]) => (a, b)
    | _ => (0, 0)
  | _ => (0, 0)
theorem pk_of {H : Hp} {t : Addr} {p : Int × Int} (h : H t = some (.tup [.int p.1, .int p.2])) : pk H (.ref t) = p := by
  unfold pk
  simp only [h]
theorem PrsH.map {H : Hp} {vs : List V} {ps : List (Int × Int)} (h : PrsH H vs ps) : vs.map (pk H) = ps := by
  unfold PrsH at h
  induction h with
  | nil => rfl
  | cons r t ih =>
    obtain ⟨a, rfl, q⟩ := r
    rw [List.map_cons, pk_of q, ih]
theorem PrsH.mem {H : Hp} {vs : List V} {ps : List (Int × Int)} (h : PrsH H vs ps) : ∀ x ∈ vs, ∃ t, x = V.ref t ∧ H t = some (.tup [.int (pk H x).1, .int (pk H x).2]) := by
  unfold PrsH at h
  induction h with
  | nil => intro x hx; cases hx
  | cons r t ih =>
    intro x hx
    rcases List.mem_cons.mp hx with rfl | hx
    · obtain ⟨a, rfl, q⟩ := r
      exact ⟨a, rfl, by rw [pk_of q]; exact q⟩
    · exact ih x hx
theorem PrsH.of_mem {H : Hp} : ∀ {vs : List V}, (∀ x ∈ vs, ∃ t, x = V.ref t ∧ H t = some (.tup [.int (pk H x).1, .int (pk H x).2])) → PrsH H vs (vs.map (pk H))
  | [], _ => .nil
  | v :: vs, h => .cons (h v List.mem_cons_self) (PrsH.of_mem fun x hx => h x (List.mem_cons_of_mem _ hx))
theorem rd_sortP {K : PySem.W.Frag} {H : Hp} {a : Addr} {xs : List V} {ps : List (Int × Int)} {Q : VK} (h : SqL K H a xs) (hp : PrsH H xs ps)
    (q : ∀ ys qs p, H p = none → PrsH H ys qs → qs.Perm ps → (qs.Pairwise fun x y => SrtO.lexB y x = false) → Q (.ref p) (upd H p (.lst ys))) : rSortedPO K [.ref a] H Q := by
  refine ⟨a, xs, pk H, rfl, h, hp.mem, fun ys p hs hst np => ?_⟩
  have hm : ∀ x ∈ ys, ∃ t, x = V.ref t ∧ H t = some (.tup [.int (pk H x).1, .int (pk H x).2]) := fun x hx => hp.mem x (hst.perm.mem_iff.mp hx)
  refine q ys (ys.map (pk H)) p np (PrsH.of_mem hm) ?_ (List.pairwise_map.mpr hs)
  rw [← hp.map]
  exact hst.perm.map _
theorem Prs.get {K : PySem.W.Frag} {H : Hp} {vs : List V} {ps : List (Int × Int)} (h : Prs K H vs ps) : ∀ {i : Nat} {v : V}, vs[i]? = some v → ∃ t p, ps[i]? = some p ∧ v = .ref t ∧ SqT K H t [.int p.1, .int p.2] := by
  unfold Prs at h
  induction h with
  | nil => intro i v h; simp at h
  | cons r t ih =>
    intro i v hv
    cases i with
    | zero =>
      obtain ⟨a, rfl, q⟩ := r
      exact ⟨a, _, rfl, (Option.some.inj hv).symm, q⟩
    | succ i => exact ih hv


def top (i : Nat) : Stmt := PySem.Challenge.pw_hillsight_k05_whole_tilted.main.body.getD i (.Pass ⟨0, 0, 0, 0⟩)
abbrev s_slope : Stmt := top 1
abbrev s_steeper : Stmt := top 2
abbrev s_behind : Stmt := top 4
abbrev s_sights : Stmt := top 5
abbrev s_law_whole : Stmt := top 7
abbrev s_law_cell_at : Stmt := top 8
abbrev s_law_height_by : Stmt := top 9
abbrev s_law_land_by : Stmt := top 10
abbrev s_law : Stmt := top 11
theorem sc_slope : FnScope ["land", "a", "b"] ["land", "a", "b"] (defScope s_slope) := ⟨rfl, rfl, rfl, by decide +kernel, rfl, by decide +kernel, by decide +kernel⟩
theorem sc_steeper : FnScope ["one", "other"] ["one", "other"] (defScope s_steeper) := ⟨rfl, rfl, rfl, by decide +kernel, rfl, by decide +kernel, by decide +kernel⟩
theorem sc_behind : FnScope ["land", "a", "found", "best", "b", "now"] ["land", "a"] (defScope s_behind) := ⟨rfl, rfl, rfl, by decide +kernel, rfl, by decide +kernel, by decide +kernel⟩
theorem sc_sights : FnScope ["land", "found", "a", "b"] ["land"] (defScope s_sights) := ⟨rfl, rfl, rfl, by decide +kernel, rfl, by decide +kernel, by decide +kernel⟩
theorem sc_law_whole : FnScope ["_law_found"] ["_law_found"] (defScope s_law_whole) := ⟨rfl, rfl, rfl, by decide +kernel, rfl, by decide +kernel, by decide +kernel⟩
theorem sc_law_cell_at : FnScope ["_law_script", "_law_k"] ["_law_script", "_law_k"] (defScope s_law_cell_at) := ⟨rfl, rfl, rfl, by decide +kernel, rfl, by decide +kernel, by decide +kernel⟩
theorem sc_law_height_by : FnScope ["_law_cell", "_law_k", "_law_kind", "_law_tilt", "_law_far"] ["_law_cell", "_law_k", "_law_kind", "_law_tilt"] (defScope s_law_height_by) := ⟨rfl, rfl, rfl, by decide +kernel, rfl, by decide +kernel, by decide +kernel⟩
theorem sc_law_land_by : FnScope ["_law_script", "_law_most", "_law_head", "_law_size", "_law_kind", "_law_tilt", "_law_k"] ["_law_script", "_law_most"] (defScope s_law_land_by) := ⟨rfl, rfl, rfl, by decide +kernel, rfl, by decide +kernel, by decide +kernel⟩
theorem sc_law : FnScope ["_law_script", "_law_land", "_law_height", "_law_by", "_law_more", "_law_times", "_law_last", "_law_due", "_law_tilted", "_law_k", "_law_turned", "_law_stretched", "_law_kept", "_law_found", "_law_a", "_law_b"] ["_law_script"] (defScope s_law) := ⟨rfl, rfl, rfl, by decide +kernel, rfl, by decide +kernel, by decide +kernel⟩
structure Txt (K : PySem.W.Frag) (mg : Str → Option Value) where
  a_slope : Addr
  d_slope : FuncData
  F_slope : Fun K "slope" "slope" s_slope a_slope d_slope
  b_slope : Binds K d_slope ["land", "a", "b"] []
  g_slope : mg "slope" = some (.ref a_slope)
  a_steeper : Addr
  d_steeper : FuncData
  F_steeper : Fun K "steeper" "steeper" s_steeper a_steeper d_steeper
  b_steeper : Binds K d_steeper ["one", "other"] []
  g_steeper : mg "steeper" = some (.ref a_steeper)
  a_behind : Addr
  d_behind : FuncData
  F_behind : Fun K "behind" "behind" s_behind a_behind d_behind
  b_behind : Binds K d_behind ["land", "a"] []
  g_behind : mg "behind" = some (.ref a_behind)
  a_sights : Addr
  d_sights : FuncData
  F_sights : Fun K "sights" "sights" s_sights a_sights d_sights
  b_sights : Binds K d_sights ["land"] []
  g_sights : mg "sights" = some (.ref a_sights)
  a_law_whole : Addr
  d_law_whole : FuncData
  F_law_whole : Fun K "_law_whole" "_law_whole" s_law_whole a_law_whole d_law_whole
  b_law_whole : Binds K d_law_whole ["_law_found"] []
  g_law_whole : mg "_law_whole" = some (.ref a_law_whole)
  a_law_cell_at : Addr
  d_law_cell_at : FuncData
  F_law_cell_at : Fun K "_law_cell_at" "_law_cell_at" s_law_cell_at a_law_cell_at d_law_cell_at
  b_law_cell_at : Binds K d_law_cell_at ["_law_script", "_law_k"] []
  g_law_cell_at : mg "_law_cell_at" = some (.ref a_law_cell_at)
  a_law_height_by : Addr
  d_law_height_by : FuncData
  F_law_height_by : Fun K "_law_height_by" "_law_height_by" s_law_height_by a_law_height_by d_law_height_by
  b_law_height_by : Binds K d_law_height_by ["_law_cell", "_law_k", "_law_kind", "_law_tilt"] []
  g_law_height_by : mg "_law_height_by" = some (.ref a_law_height_by)
  a_law_land_by : Addr
  d_law_land_by : FuncData
  F_law_land_by : Fun K "_law_land_by" "_law_land_by" s_law_land_by a_law_land_by d_law_land_by
  b_law_land_by : Binds K d_law_land_by ["_law_script", "_law_most"] []
  g_law_land_by : mg "_law_land_by" = some (.ref a_law_land_by)
  a_law : Addr
  d_law : FuncData
  F_law : Fun K "law" "law" s_law a_law d_law
  b_law : Binds K d_law ["_law_script"] []
  g_law : mg "law" = some (.ref a_law)
  n_bool : mg "bool" = none
  n_int : mg "int" = none
  n_isinstance : mg "isinstance" = none
  n_len : mg "len" = none
  n_list : mg "list" = none
  n_range : mg "range" = none
  n_sorted : mg "sorted" = none
section
variable {P : Program} {w : World} {K : PySem.W.Frag} {mg : Str → Option Value} {base : Heap}
theorem ok_law_cell_at (T : Txt K mg) : FnOk P w K mg base CX0 1 T.a_law_cell_at T.d_law_cell_at ["_law_script", "_law_k"] (spCell K) := by
  refine T.F_law_cell_at.ok sc_law_cell_at (fun vs H Q E h => ?_) (fun cdv A outer s H vs Q E hr h => ⟨_, (pss_cons (ps_if (pt_cmpR op_lt (pv 1) (pe_callB (call_lenK (K := K) rfl) rfl T.n_len (by decide +kernel) (pa_cons (pv 0) pa_nil)) (nomark _)) (pss_one (ps_ret (pe_ix (ix_listK (K := K) rfl) (pv 0) (pv 1) (fun _ _ => rfl)))) pss_nil)
      (pss_one (ps_ret pe_int))), ?_⟩)
  · obtain ⟨l, ns, k, rfl, _⟩ := h
    rfl
  · obtain ⟨l, ns, k, rfl, h0, hS, q⟩ := h
    walk_at "rd"
    refine ite2 (fun c => ?_) (fun c => ?_)
    · have c' : k < (ns.length : Int) := by simpa using c
      walk_at "rd"
      exact rd_ixL hS (IL_at h0 c') q
    · have c' : ¬ k < (ns.length : Int) := by simpa using c
      walk_at "rd"
      have e : cell ns k.toNat = 0 := by
        unfold cell
        rw [List.getD_eq_getElem?_getD, List.getElem?_eq_none (by omega)]
        rfl
      rw [e] at q
      exact q

theorem ok_law_whole (T : Txt K mg) : FnOk P w K mg base CX0 1 T.a_law_whole T.d_law_whole ["_law_found"] (spWhole K) := by
  refine T.F_law_whole.ok sc_law_whole (fun vs H Q E h => ?_) (fun cdv A outer s H vs Q E hr h => ⟨_, (pss_one (ps_ret (pe_and (pe_callB (call_isiK0 (K := K) rfl) rfl T.n_isinstance (by decide +kernel) (pa_cons (pv 0) (pa_cons (pe_bltn (v := .ty "int") (by rfl) T.n_int (by decide +kernel) rfl) pa_nil))) (pe_one (pe_not (pe_callB (call_isiK0 (K := K) rfl) rfl T.n_isinstance (by decide +kernel) (pa_cons (pv 0) (pa_cons (pe_bltn (v := .ty "bool") (by rfl) T.n_bool (by decide +kernel) rfl) pa_nil)))))))), ?_⟩)
  · obtain ⟨x, r, rfl, _⟩ := h
    rfl
  · exact whole_run h

/-! ## heights and lands of the script -/
def Bd (z : Int) : Prop := -1000000000000000000 ≤ z ∧ z ≤ 1000000000000000000
theorem FAR_eq : (10 : Int) ^ (18 : Int).toNat = 1000000000000000000 := by decide +kernel
theorem tilt_b {t k : Int} (ht : -3 ≤ t ∧ t ≤ 3) (hk : 0 ≤ k ∧ k ≤ 1000) : -3000 ≤ t * k ∧ t * k ≤ 3000 := by
  have : t = -3 ∨ t = -2 ∨ t = -1 ∨ t = 0 ∨ t = 1 ∨ t = 2 ∨ t = 3 := by omega
  rcases this with h | h | h | h | h | h | h <;> subst h <;> omega
theorem sq_b {k u : Int} (hk : 0 ≤ k ∧ k ≤ 1000) (hu : -1 ≤ u ∧ u ≤ 1) : -1000000 ≤ k * k * u ∧ k * k * u ≤ 1000000 := by
  have h1 : 0 ≤ k * k := Int.mul_nonneg hk.1 hk.1
  have h2 : k * k ≤ 1000 * 1000 := Int.mul_le_mul hk.2 hk.2 hk.1 (by decide)
  have : u = -1 ∨ u = 0 ∨ u = 1 := by omega
  rcases this with h | h | h <;> subst h <;> omega
def spHeight : Sp := fun vs H Q _ => ∃ (c k kind tilt : Int), vs = [.int c, .int k, .int kind, .int tilt] ∧ (0 ≤ k ∧ k ≤ 1000) ∧ (-3 ≤ tilt ∧ tilt ≤ 3) ∧ ∀ z, Bd z → Q (.int z) H
theorem ok_law_height_by (T : Txt K mg) : FnOk P w K mg base CX0 1 T.a_law_height_by T.d_law_height_by ["_law_cell", "_law_k", "_law_kind", "_law_tilt"] spHeight := by
  refine T.F_law_height_by.ok sc_law_height_by (fun vs H Q E h => ?_) (fun cdv A outer s H vs Q E hr h => ⟨_, (pss_cons (ps_set (i := 4) sc_law_height_by.nd rfl (Or.inl rfl) (pe_op op_pow pe_int pe_int))
      (pss_cons (ps_if (pt_cmpR op_eq (pv 2) pe_int (nomark _)) (pss_one (ps_ret (pe_op op_sub (pe_op op_mod (pv 0) pe_int) pe_int))) pss_nil)
      (pss_cons (ps_if (pt_cmpR op_eq (pv 2) pe_int (nomark _)) (pss_one (ps_ret (pe_op op_add (pe_op op_mul (pv 3) (pv 1)) (pe_op op_mod (pv 0) pe_int)))) pss_nil)
      (pss_cons (ps_if (pt_cmpR op_eq (pv 2) pe_int (nomark _)) (pss_one (ps_ret (pe_op op_sub (pe_op op_mod (pe_op op_mul (pv 0) pe_int) (pe_op op_add (pe_op op_mul pe_int (pv 4)) pe_int)) (pv 4)))) pss_nil)
      (pss_cons (ps_if (pt_cmpR op_eq (pv 2) pe_int (nomark _)) (pss_one (ps_ret (pe_op op_add (pe_op op_mul (pe_op op_mul (pv 1) (pv 1)) (pe_op op_sub (pe_op op_mod (pv 3) pe_int) pe_int)) (pe_op op_mod (pv 0) pe_int)))) pss_nil)
      (pss_one (ps_ret (pe_op op_sub (pv 4) (pe_op op_mod (pv 0) pe_int))))))))), ?_⟩)
  · obtain ⟨c, k, kind, tilt, rfl, _⟩ := h
    rfl
  · obtain ⟨c, k, kind, tilt, rfl, hk, ht, q⟩ := h
    have hF := FAR_eq
    walk_at "rd"
    generalize (10 : Int) ^ (18 : Int).toNat = F at *
    refine ite2 (fun _ => ?_) (fun _ => ?_)
    · walk_at "rd"
      exact q _ ⟨by omega, by omega⟩
    walk_at "rd"
    refine ite2 (fun _ => ?_) (fun _ => ?_)
    · walk_at "rd"
      have := tilt_b ht hk
      exact q _ ⟨by omega, by omega⟩
    walk_at "rd"
    refine ite2 (fun _ => ?_) (fun _ => ?_)
    · walk_at "rd"
      have := emod_b (x := c * 48271) (n := 2 * F + 1) (by omega)
      exact q _ ⟨by omega, by omega⟩
    walk_at "rd"
    refine ite2 (fun _ => ?_) (fun _ => ?_)
    · walk_at "rd"
      have := sq_b (u := tilt % 3 - 1) hk (by omega)
      exact q _ ⟨by omega, by omega⟩
    walk_at "rd"
    exact q _ ⟨by omega, by omega⟩
def spLandBy (K : PySem.W.Frag) : Sp := fun vs H Q _ => ∃ (l : Addr) (ns : List Int) (most : Int), vs = [.ref l, .int most] ∧ SqL K H l (IL ns) ∧ (0 < most ∧ most ≤ 900) ∧
  ∀ D hs, H D = none → (0 < hs.length ∧ (hs.length : Int) ≤ most) → (∀ z ∈ hs, Bd z) → Q (.ref D) (upd H D (.lst (IL hs)))
theorem ok_law_land_by (T : Txt K mg) : FnOk P w K mg base CX0 2 T.a_law_land_by T.d_law_land_by ["_law_script", "_law_most"] (spLandBy K) := by
  refine T.F_law_land_by.ok sc_law_land_by (fun vs H Q E h => ?_) (fun cdv A outer s H vs Q E hr h => ⟨_, (pss_cons (ps_set (i := 2) sc_law_land_by.nd rfl (Or.inl rfl) (pe_call (ok_law_cell_at T) (hr.mono (by decide)) rfl T.g_law_cell_at T.F_law_cell_at.kp T.b_law_cell_at .nil pass0 (pa_cons (pv 0) (pa_cons pe_int pa_nil))))
      (pss_cons (ps_set (i := 3) sc_law_land_by.nd rfl (Or.inl rfl) (pe_op op_add pe_int (pe_op op_mod (pv 2) (pv 1))))
      (pss_cons (ps_set (i := 4) sc_law_land_by.nd rfl (Or.inr rfl) (pe_op op_mod (pe_op op_fdiv (pv 2) (pv 1)) pe_int))
      (pss_cons (ps_set (i := 5) sc_law_land_by.nd rfl (Or.inr rfl) (pe_op op_sub (pe_op op_mod (pe_op op_fdiv (pe_op op_fdiv (pv 2) (pv 1)) pe_int) pe_int) pe_int))
      (pss_one (ps_ret (pe_lc (own := [("_law_k", 6)]) (g := gName 6) rfl sc_law_land_by.nd (pi_range1 rfl T.n_range (pa_cons (pv 3) pa_nil)) (blkOk_by (own := [("_law_k", 6)]) (N := ["_law_script", "_law_most", "_law_head", "_law_size", "_law_kind", "_law_tilt", "_law_k"]) (sc := defScope s_law_land_by) (by decide +kernel)) (fun _ _ _ _ _ => (pg_name (i := 6) sc_law_land_by.nd rfl (Or.inl rfl))) (fun _ _ _ _ _ => pts_nil) (fun _ _ _ _ _ => (pe_call (ok_law_height_by T) (hr.mono (by decide)) rfl T.g_law_height_by T.F_law_height_by.kp T.b_law_height_by .nil pass0 (pa_cons (pe_call (ok_law_cell_at T) (hr.mono (by decide)) rfl T.g_law_cell_at T.F_law_cell_at.kp T.b_law_cell_at .nil pass0 (pa_cons (pv 0) (pa_cons (pe_op op_add pe_int (pv 6)) pa_nil))) (pa_cons (pv 6) (pa_cons (pv 4) (pa_cons (pv 5) pa_nil))))))))))))), ?_⟩)
  · obtain ⟨l, ns, most, rfl, _⟩ := h
    rfl
  · obtain ⟨l, ns, most, rfl, hS, hm, q⟩ := h
    walk_at "rd"
    generalize cell ns (Int.toNat 0) = hd
    have m1 := emod_b (x := hd) hm.1
    obtain ⟨n, hn⟩ : ∃ n, n = 1 + hd % most := ⟨_, rfl⟩
    rw [← hn]
    refine ⟨n, rfl, by omega, by omega, fun D nD => lc_range (lo := 0) (n := n.toNat) (fun i H' => ∃ zs : List Int, H' = upd H D (.lst (IL zs)) ∧ zs.length = i ∧ ∀ z ∈ zs, Bd z) ⟨[], rfl, rfl, fun _ h => by cases h⟩ ?_ ?_⟩
    · rintro i _ hi ⟨zs, rfl, hl, hb⟩
      have hS1 := (same_upd (o := .lst (IL zs)) nD).seq hS
      walk_at "rd"
      refine ⟨by rw [hn]; rfl, ?_⟩
      walk_at "rd"
      refine ⟨_, _, _, _, rfl, ⟨by omega, by omega⟩, ⟨by omega, by omega⟩, fun z bz => ?_⟩
      refine ⟨_, upd_same, by rw [List.length_map]; exact szlt (by omega), ?_⟩
      refine ⟨zs ++ [z], upd_snoc, len_snoc hl, fun y hy => ?_⟩
      rcases List.mem_append.mp hy with h | h
      · exact hb y h
      · rw [List.mem_singleton.mp h]
        exact bz
    · rintro _ ⟨zs, rfl, hl, hb⟩
      exact q D zs nD ⟨by omega, by omega⟩ hb

/-! ## slopes -/
def hv (ns : List Int) (i : Int) : Int := ns.getD i.toNat 0
def slO (ns : List Int) (a b : Int) : HO := .tup [.int (hv ns b - hv ns a), .int (b - a)]
def spSlope (K : PySem.W.Frag) : Sp := fun vs H Q _ => ∃ (l : Addr) (ns : List Int) (a b : Int), vs = [.ref l, .int a, .int b] ∧ SqL K H l (IL ns) ∧ (0 ≤ a ∧ a < ns.length ∧ 0 ≤ b ∧ b < ns.length) ∧
  ∀ p, H p = none → Q (.ref p) (upd H p (slO ns a b))
theorem ok_slope (T : Txt K mg) : FnOk P w K mg base CX0 1 T.a_slope T.d_slope ["land", "a", "b"] (spSlope K) := by
  refine T.F_slope.ok sc_slope (fun vs H Q E h => ?_) (fun cdv A outer s H vs Q E hr h => ⟨_, (pss_one (ps_ret (pe_tup (pa_cons (pe_op op_sub (pe_ix (ix_listK (K := K) rfl) (pv 0) (pv 2) (fun _ _ => rfl)) (pe_ix (ix_listK (K := K) rfl) (pv 0) (pv 1) (fun _ _ => rfl))) (pa_cons (pe_op op_sub (pv 2) (pv 1)) pa_nil))))), ?_⟩)
  · obtain ⟨l, ns, a, b, rfl, _⟩ := h
    rfl
  · obtain ⟨l, ns, a, b, rfl, hS, ⟨h1, h2, h3, h4⟩, q⟩ := h
    walk_at "rd"
    refine rd_ixL hS (IL_at h3 h4) ?_
    walk_at "rd"
    refine rd_ixL hS (IL_at h1 h2) ?_
    walk_at "rd"
    exact ⟨sz 2, q⟩
def spSteeper (K : PySem.W.Frag) : Sp := fun vs H Q _ => ∃ (p q : Addr) (r1 l1 r2 l2 : Int), vs = [.ref p, .ref q] ∧ SqT K H p [.int r1, .int l1] ∧ SqT K H q [.int r2, .int l2] ∧ CMul r1 l2 ∧ CMul r2 l1 ∧
  Q (.bl (decide (r2 * l1 < r1 * l2))) H
theorem ok_steeper (T : Txt K mg) : FnOk P w K mg base CX0 1 T.a_steeper T.d_steeper ["one", "other"] (spSteeper K) := by
  refine T.F_steeper.ok sc_steeper (fun vs H Q E h => ?_) (fun cdv A outer s H vs Q E hr h => ⟨_, (pss_one (ps_ret (pe_cmpR op_gt (pe_op op_mul (pe_ix (ix_tupK (K := K) rfl) (pv 0) pe_int (fun _ _ => rfl)) (pe_ix (ix_tupK (K := K) rfl) (pv 1) pe_int (fun _ _ => rfl))) (pe_op op_mul (pe_ix (ix_tupK (K := K) rfl) (pv 1) pe_int (fun _ _ => rfl)) (pe_ix (ix_tupK (K := K) rfl) (pv 0) pe_int (fun _ _ => rfl))) (nomark _)))), ?_⟩)
  · obtain ⟨p, q, r1, l1, r2, l2, rfl, _⟩ := h
    rfl
  · obtain ⟨p, q, r1, l1, r2, l2, rfl, h1, h2, c1, c2, k⟩ := h
    walk_at "rd"
    refine rd_ixT h1 (atI_nat (j := 0) rfl) ?_
    walk_at "rd"
    refine rd_ixT h2 (atI_nat (j := 1) rfl) ?_
    walk_at "rd"
    refine rd_I c1 ?_
    walk_at "rd"
    refine rd_ixT h2 (atI_nat (j := 0) rfl) ?_
    walk_at "rd"
    refine rd_ixT h1 (atI_nat (j := 1) rfl) ?_
    walk_at "rd"
    refine rd_I c2 ?_
    walk_at "rd"
    exact k

/-! ## behind -/
theorem sl_g (ns : List Int) (a b : Nat) : slO ns (a : Int) (b : Int) = .tup [.int (g ns b - g ns a), .int ((b : Int) - (a : Int))] := rfl
def spBehind (K : PySem.W.Frag) : Sp := fun vs H Q _ => ∃ (l : Addr) (ns : List Int) (a : Nat), vs = [.ref l, .int (a : Int)] ∧ SqL K H l (IL ns) ∧ a < ns.length ∧ ns.length ≤ 1000 ∧
  ∀ D H', Same H H' → H D = none → H' D = some (.lst (IL (NI (behN ns a ns.length)))) → Q (.ref D) H'
theorem ok_behind (T : Txt K mg) : FnOk P w K mg base CX0 2 T.a_behind T.d_behind ["land", "a"] (spBehind K) := by
  refine T.F_behind.ok sc_behind (fun vs H Q E h => ?_) (fun cdv A outer s H vs Q E hr h => ⟨_, (pss_cons (ps_set (i := 2) sc_behind.nd rfl (Or.inl rfl) (pe_lst pa_nil))
      (pss_cons (ps_set (i := 3) sc_behind.nd rfl (Or.inl rfl) pe_non)
      (pss_cons (ps_for PassesOwn.never rfl (pi_range2 rfl T.n_range (pa_cons (pe_op op_add (pv 1) pe_int) (pa_cons (pe_callB (call_lenK (K := K) rfl) rfl T.n_len (by decide +kernel) (pa_cons (pv 0) pa_nil)) pa_nil))) (pg_name (i := 4) sc_behind.nd rfl (Or.inl rfl)) (pss_cons (ps_set (i := 5) sc_behind.nd rfl (Or.inl rfl) (pe_call (ok_slope T) (hr.mono (by decide)) rfl T.g_slope T.F_slope.kp T.b_slope .nil pass0 (pa_cons (pv 0) (pa_cons (pv 1) (pa_cons (pv 4) pa_nil)))))
        (pss_one (ps_if (PW.pt (pw_or (pt_cmpR op_isN1 (pv 3) pe_non (nomark _)) (pw_or1 (pt_val (pe_call (ok_steeper T) (hr.mono (by decide)) rfl T.g_steeper T.F_steeper.kp T.b_steeper .nil pass0 (pa_cons (pv 5) (pa_cons (pv 3) pa_nil))))))) (pss_cons (ps_expr (pe_bmK (K := K) rfl PySem.F.plainAttrs_list PySem.F.slot_list_append PySem.F.type_list_append mt_append (pv 2) (pa_cons (pv 4) pa_nil)))
          (pss_one (ps_set (i := 3) sc_behind.nd rfl (Or.inl rfl) (pv 5)))) pss_nil))))
      (pss_one (ps_ret (pv 2)))))), ?_⟩)
  · obtain ⟨l, ns, a, rfl, _⟩ := h
    rfl
  · obtain ⟨l, ns, a, rfl, hS, ha, hn, q⟩ := h
    walk_at "rd"
    refine ⟨sz 0, fun D nD => ?_⟩
    have hS1 := (same_upd (o := .lst []) nD).seq hS
    walk_at "rd"
    rw [List.length_map]
    refine rng2 ⟨⟨by omega, by omega⟩, by omega, by omega⟩ (fun i σ H' => ∃ (vb vk vn : Option V), σ = [some (.ref l), some (.int a), some (.ref D), vb, vk, vn] ∧ Same H H' ∧ H' D = some (.lst (IL (NI (behN ns a (a + 1 + i))))) ∧
        ((i = 0 ∧ vb = some .non) ∨ ∃ (p : Addr) (m : Nat), vb = some (.ref p) ∧ H' p = some (slO ns a m) ∧ Steep ns a (a + 1 + i) m))
      ⟨some .non, none, none, rfl, (same_upd (o := .lst []) nD), by rw [behN_low (by omega)]; exact upd_same, .inl ⟨rfl, rfl⟩⟩ ?_ ?_
    · rintro i σ H' hi ⟨vb, vk, vn, rfl, s1, hD, hb⟩
      have hS2 := s1.seq hS
      have eb : ((a : Int) + 1 + (i : Int)) = ((a + 1 + i : Nat) : Int) := by omega
      rw [eb]
      generalize hbb : a + 1 + i = b at *
      have hbl : b < ns.length := by omega
      have hab : a < b := by omega
      walk_at "rd"
      refine ⟨l, ns, a, b, rfl, hS2, ⟨by omega, by omega, by omega, by omega⟩, fun p np => ?_⟩
      have s2 := s1.trans (same_upd (o := slO ns a b) np)
      have hD2 := upd_keep (u := slO ns a b) hD np
      have hp : (upd H' p (slO ns a b)) p = some (slO ns a b) := upd_same
      have hm : ∀ q x, H' q = some x → (upd H' p (slO ns a b)) q = some x := fun q x e => upd_keep e np
      generalize upd H' p (slO ns a b) = H2 at *
      have fin : ∀ (tst : Bool) (N : L2.St → Hp → Prop), True := fun _ _ => trivial
      rcases hb with ⟨rfl, rfl⟩ | ⟨pm, m, rfl, hpm, hst⟩
      · have e1 : b = a + 1 := by omega
        walk_at "rd"
        refine rd_yes (by simp) ?_
        walk_at "rd"
        refine ⟨ty_list (.of hD2), ?_⟩
        walk_at "rd"
        refine rd_append hD2 (by rw [List.length_map, behN_low (by omega)]; decide) ?_
        walk_at "rd"
        have hpD : p ≠ D := ne_of hp hD2 (by intro z; cases z)
        refine ⟨_, _, _, rfl, Same.mut s2 nD, ?_, .inr ⟨p, b, rfl, ?_, ?_⟩⟩
        · rw [upd_same, show a + 1 + (0 + 1) = b + 1 by omega, behN_yes hab (by rw [e1]; exact seeB_next)]
          simp [IL, NI]
        · rw [upd_ne hpD]
          exact hp
        · rw [e1]
          exact Steep.first
      · have hpm2 := hm _ _ hpm
        have hlo := hst.lo
        have hhi := hst.hi
        walk_at "rd"
        refine rd_no (by simp) ?_
        walk_at "rd"
        refine ⟨p, pm, _, _, _, _, rfl, .of hp, .of hpm2, .inr ⟨by omega, by omega⟩, .inr ⟨by omega, by omega⟩, ?_⟩
        walk_at "rd"
        refine ite2 (fun c => ?_) (fun c => ?_)
        · have c' : Stp ns a b m := of_decide_eq_true c
          walk_at "rd"
          refine ⟨ty_list (.of hD2), ?_⟩
          walk_at "rd"
          refine rd_append hD2 (by
            rw [List.length_map, List.length_map]
            have : (behN ns a b).length ≤ b := by
              have h := List.length_filter_le (fun b => decide (a < b) && seeB ns a b) (List.range b)
              rw [List.length_range] at h
              exact h
            omega) ?_
          walk_at "rd"
          have hpD : p ≠ D := ne_of hp hD2 (by intro z; cases z)
          refine ⟨_, _, _, rfl, Same.mut s2 nD, ?_, .inr ⟨p, b, rfl, ?_, ?_⟩⟩
          · rw [upd_same, show a + 1 + (i + 1) = b + 1 by omega, behN_yes hab (hst.see.mpr c')]
            simp [IL, NI]
          · rw [upd_ne hpD]
            exact hp
          · rw [show a + 1 + (i + 1) = b + 1 by omega]
            exact hst.up c'
        · have c' : ¬ Stp ns a b m := fun z => c (decide_eq_true z)
          walk_at "rd"
          refine ⟨_, _, _, rfl, s2, ?_, .inr ⟨pm, m, rfl, hpm2, ?_⟩⟩
          · rw [hD2, show a + 1 + (i + 1) = b + 1 by omega, behN_no (fun z => c' (hst.see.mp z))]
          · rw [show a + 1 + (i + 1) = b + 1 by omega]
            exact hst.stay c'
    · rintro σ H' ⟨vb, vk, vn, rfl, s1, hD, hb⟩
      walk_at "rd"
      refine q D H' s1 nD ?_
      rw [hD]
      by_cases h : a + 1 + (((ns.length : Nat) : Int) - ((a : Int) + 1)).toNat = ns.length
      · rw [h]
      · exfalso
        omega

/-! ## sights -/
def spSights (K : PySem.W.Frag) : Sp := fun vs H Q _ => ∃ (l : Addr) (ns : List Int), vs = [.ref l] ∧ SqL K H l (IL ns) ∧ ns.length ≤ 300 ∧
  ∀ D vs' H', Same H H' → H D = none → H' D = some (.lst vs') → Prs K H' vs' (NP (sights ns)) → Q (.ref D) H'
theorem behN_len (ns : List Int) (a n : Nat) : (behN ns a n).length ≤ n := by
  have h := List.length_filter_le (fun b => decide (a < b) && seeB ns a b) (List.range n)
  rw [List.length_range] at h
  exact h
theorem sigN_len (ns : List Int) (n : Nat) : (sigN ns n).length ≤ n * ns.length := by
  induction n with
  | zero => simp [sigN]
  | succ n ih =>
    rw [sigN_succ, List.length_append, List.length_map, Nat.succ_mul]
    have := behN_len ns n ns.length
    omega
theorem ok_sights (T : Txt K mg) : FnOk P w K mg base CX0 3 T.a_sights T.d_sights ["land"] (spSights K) := by
  refine T.F_sights.ok sc_sights (fun vs H Q E h => ?_) (fun cdv A outer s H vs Q E hr h => ⟨_, (pss_cons (ps_set (i := 1) sc_sights.nd rfl (Or.inl rfl) (pe_lst pa_nil))
      (pss_cons (ps_for PassesOwn.never rfl (pi_range1 rfl T.n_range (pa_cons (pe_callB (call_lenK (K := K) rfl) rfl T.n_len (by decide +kernel) (pa_cons (pv 0) pa_nil)) pa_nil)) (pg_name (i := 2) sc_sights.nd rfl (Or.inl rfl)) (pss_one (ps_for PassesOwn.never rfl (pi_listK (K := K) rfl (pe_call (ok_behind T) (hr.mono (by decide)) rfl T.g_behind T.F_behind.kp T.b_behind .nil pass0 (pa_cons (pv 0) (pa_cons (pv 2) pa_nil)))) (pg_name (i := 3) sc_sights.nd rfl (Or.inl rfl)) (pss_one (ps_expr (pe_bmK (K := K) rfl PySem.F.plainAttrs_list PySem.F.slot_list_append PySem.F.type_list_append mt_append (pv 1) (pa_cons (pe_tup (pa_cons (pv 2) (pa_cons (pv 3) pa_nil))) pa_nil)))))))
      (pss_one (ps_ret (pv 1))))), ?_⟩)
  · obtain ⟨l, ns, rfl, _⟩ := h
    rfl
  · obtain ⟨l, ns, rfl, hS, hn, q⟩ := h
    walk_at "rd"
    refine ⟨sz 0, fun D nD => ?_⟩
    have hS1 := (same_upd (o := .lst []) nD).seq hS
    walk_at "rd"
    rw [List.length_map]
    refine rng1 ⟨by omega, by omega⟩ (fun i σ H' => ∃ (va vb : Option V) (ys : List V), σ = [some (.ref l), some (.ref D), va, vb] ∧ Same H H' ∧ H' D = some (.lst ys) ∧ Prs K H' ys (NP (sigN ns i)))
      ⟨none, none, [], rfl, same_upd nD, upd_same, .nil⟩ ?_ ?_
    · rintro i σ H' hi ⟨va, vb, ys, rfl, s1, hD, hp⟩
      have hS2 := s1.seq hS
      walk_at "rd"
      refine ⟨l, ns, i, rfl, hS2, by omega, by omega, fun B H2 s2 nB hB => ?_⟩
      walk_at "rd"
      have nBD : B ≠ D := fun z => by
        rw [z, hD] at nB
        cases nB
      have hD2 := s2 _ _ hD
      refine ⟨B, rfl, ⟨_, .of hB⟩, for_list (K := K) (a := B) (xs := IL (NI (behN ns i ns.length))) (fun j σ H' => ∃ (vb : Option V) (ys : List V), σ = [some (.ref l), some (.ref D), some (.int i), vb] ∧ Same H H' ∧ H' B = some (.lst (IL (NI (behN ns i ns.length)))) ∧ H' D = some (.lst ys) ∧ Prs K H' ys (NP (sigN ns i ++ ((behN ns i ns.length).take j).map fun b => (i, b))))
        ⟨vb, ys, rfl, s1.trans s2, hB, hD2, by simpa using hp.mono s2⟩ (fun j σ H' _ ⟨_, _, _, _, hB, _⟩ => .of hB) ?_ ?_⟩
      · rintro j x σ H3 hx ⟨vb, zs, rfl, s3, hB3, hD3, hp3⟩
        obtain ⟨b, hbj, rfl⟩ : ∃ b, (behN ns i ns.length)[j]? = some b ∧ x = V.int (b : Int) := by
          rw [List.getElem?_map, List.getElem?_map] at hx
          cases e : (behN ns i ns.length)[j]? with
          | none => rw [e] at hx; cases hx
          | some b => rw [e] at hx; exact ⟨b, rfl, (Option.some.inj hx).symm⟩
        have hj : j < (behN ns i ns.length).length := (List.getElem?_eq_some_iff.mp hbj).1
        have l1 := behN_len ns i ns.length
        have l2 := sigN_len ns i
        walk_at "rd"
        refine ⟨ty_list (.of hD3), ?_⟩
        walk_at "rd"
        refine ⟨sz 2, fun t nt => ?_⟩
        have s4 := same_upd (o := .tup [.int (i : Int), .int (b : Int)]) nt
        have ht : (upd H3 t (.tup [.int (i : Int), .int (b : Int)])) t = some (.tup [.int (i : Int), .int (b : Int)]) := upd_same
        have hD4 := s4 _ _ hD3
        have hB4 := s4 _ _ hB3
        have hp4 := hp3.mono s4
        have s5 := s3.trans s4
        generalize upd H3 t (.tup [.int (i : Int), .int (b : Int)]) = H4 at *
        walk_at "rd"
        refine rd_append hD4 (by
          rw [hp4.length, List.length_map, List.length_append, List.length_map, List.length_take]
          have h1 : i * ns.length ≤ 300 * 300 := Nat.mul_le_mul (by omega) hn
          omega) ?_
        have htk : (behN ns i ns.length).take (j + 1) = (behN ns i ns.length).take j ++ [b] := by rw [List.take_add_one, hbj]; rfl
        refine ⟨_, _, rfl, Same.mut s5 nD, ?_, upd_same, ?_⟩
        · rw [upd_ne nBD]
          exact hB4
        · have h1 := (hp4.upd (o := .lst (zs ++ [.ref t])) hD4).snoc (p := ((i : Int), (b : Int))) (SqT.upd hD4 (.of ht))
          rw [htk]
          simpa [NP, List.append_assoc] using h1
      · rintro σ H3 ⟨vb, zs, rfl, s3, hB3, hD3, hp3⟩
        refine ⟨_, _, _, rfl, s3, hD3, ?_⟩
        rw [sigN_succ]
        rw [List.length_map, List.length_map, List.take_length] at hp3
        exact hp3
    · rintro σ H' ⟨va, vb, ys, rfl, s1, hD, hp⟩
      walk_at "rd"
      exact q D ys H' s1 nD hD (by simpa using hp)

def spLaw (K : PySem.W.Frag) : Sp := fun vs H Q _ => ∃ (a : Addr) (ns : List Int), vs = [.ref a] ∧ SqL K H a (IL ns) ∧ ns.length ≤ 63 ∧ ∀ H', Q (.bl true) H'
def vI : V → Int
  | .int i => i
  | _ => 0
theorem ok_law (T : Txt K mg) : FnOk P w K mg base CX0 4 T.a_law T.d_law ["_law_script"] (spLaw K) := by
  refine T.F_law.ok sc_law (fun vs H Q E h => ?_) (fun cdv A outer s H vs Q E hr h => ⟨_, (pss_cons (ps_set (i := 1) sc_law.nd rfl (Or.inr rfl) (pe_lc (own := [("_law_height", 2)]) (g := gName 2) rfl sc_law.nd (pi_listK (K := K) rfl (pe_call (ok_law_land_by T) (hr.mono (by decide)) rfl T.g_law_land_by T.F_law_land_by.kp T.b_law_land_by .nil pass0 (pa_cons (pv 0) (pa_cons pe_int pa_nil)))) (blkOk_by (own := [("_law_height", 2)]) (N := ["_law_script", "_law_land", "_law_height", "_law_by", "_law_more", "_law_times", "_law_last", "_law_due", "_law_tilted", "_law_k", "_law_turned", "_law_stretched", "_law_kept", "_law_found", "_law_a", "_law_b"]) (sc := defScope s_law) (by decide +kernel)) (fun _ _ _ _ _ => (pg_name (i := 2) sc_law.nd rfl (Or.inl rfl))) (fun _ _ _ _ _ => pts_nil) (fun _ _ _ _ _ => (pe_op op_fdiv (pv 2) pe_int))))
      (pss_cons (ps_if (pt_cmpR op_lt (pe_op op_mod (pe_op op_fdiv (pe_call (ok_law_cell_at T) (hr.mono (by decide)) rfl T.g_law_cell_at T.F_law_cell_at.kp T.b_law_cell_at .nil pass0 (pa_cons (pv 0) (pa_cons pe_int pa_nil))) pe_int) pe_int) pe_int (nomark _)) (pss_one (ps_set (i := 1) sc_law.nd rfl (Or.inr rfl) (pe_call (ok_law_land_by T) (hr.mono (by decide)) rfl T.g_law_land_by T.F_law_land_by.kp T.b_law_land_by .nil pass0 (pa_cons (pv 0) (pa_cons pe_int pa_nil))))) pss_nil)
      (pss_cons (ps_set (i := 3) sc_law.nd rfl (Or.inr rfl) (pe_op op_sub (pe_op op_mod (pe_op op_mul (pe_call (ok_law_cell_at T) (hr.mono (by decide)) rfl T.g_law_cell_at T.F_law_cell_at.kp T.b_law_cell_at .nil pass0 (pa_cons (pv 0) (pa_cons pe_int pa_nil))) pe_int) (pe_op op_add (pe_op op_mul pe_int (pe_op op_pow pe_int pe_int)) pe_int)) (pe_op op_pow pe_int pe_int)))
      (pss_cons (ps_set (i := 4) sc_law.nd rfl (Or.inr rfl) (pe_op op_sub (pe_op op_mod (pe_call (ok_law_cell_at T) (hr.mono (by decide)) rfl T.g_law_cell_at T.F_law_cell_at.kp T.b_law_cell_at .nil pass0 (pa_cons (pv 0) (pa_cons pe_int pa_nil))) pe_int) pe_int))
      (pss_cons (ps_set (i := 5) sc_law.nd rfl (Or.inr rfl) (pe_op op_add pe_int (pe_op op_mod (pe_op op_fdiv (pe_call (ok_law_cell_at T) (hr.mono (by decide)) rfl T.g_law_cell_at T.F_law_cell_at.kp T.b_law_cell_at .nil pass0 (pa_cons (pv 0) (pa_cons pe_int pa_nil))) pe_int) pe_int)))
      (pss_cons (ps_set (i := 6) sc_law.nd rfl (Or.inr rfl) (pe_op op_sub (pe_callB (call_lenK (K := K) rfl) rfl T.n_len (by decide +kernel) (pa_cons (pv 1) pa_nil)) pe_int))
      (pss_cons (ps_set (i := 7) sc_law.nd rfl (Or.inl rfl) (pe_call (ok_sights T) (hr.mono (by decide)) rfl T.g_sights T.F_sights.kp T.b_sights .nil pass0 (pa_cons (pe_callTy (call_listK (K := K) rfl) rfl T.n_list (by decide +kernel) (pa_cons (pv 1) pa_nil)) pa_nil)))
      (pss_cons (ps_setLc (i := 8) (own := [("_law_k", 9)]) (g := gName 9) rfl sc_law.nd rfl rfl (sw_true rfl rfl rfl (by decide +kernel)) (pi_range1 rfl T.n_range (pa_cons (pe_callB (call_lenK (K := K) rfl) rfl T.n_len (by decide +kernel) (pa_cons (pv 1) pa_nil)) pa_nil)) (blkOk_by (own := [("_law_k", 9)]) (N := ["_law_script", "_law_land", "_law_height", "_law_by", "_law_more", "_law_times", "_law_last", "_law_due", "_law_tilted", "_law_k", "_law_turned", "_law_stretched", "_law_kept", "_law_found", "_law_a", "_law_b"]) (sc := defScope s_law) (by decide +kernel)) (fun _ _ _ _ _ => (pg_name (i := 9) sc_law.nd rfl (Or.inl rfl))) (fun _ _ _ _ _ => pts_nil) (fun _ _ _ _ _ => (pe_op op_add (pe_op op_add (pe_ix (ix_listK (K := K) rfl) (pv 1) (pv 9) (fun _ _ => rfl)) (pe_op op_mul (pv 3) (pv 9))) (pv 4))))
      (pss_cons (ps_setLc (i := 10) (own := [("_law_k", 9)]) (g := gName 9) rfl sc_law.nd rfl rfl (sw_true rfl rfl rfl (by decide +kernel)) (pi_range1 rfl T.n_range (pa_cons (pe_callB (call_lenK (K := K) rfl) rfl T.n_len (by decide +kernel) (pa_cons (pv 1) pa_nil)) pa_nil)) (blkOk_by (own := [("_law_k", 9)]) (N := ["_law_script", "_law_land", "_law_height", "_law_by", "_law_more", "_law_times", "_law_last", "_law_due", "_law_tilted", "_law_k", "_law_turned", "_law_stretched", "_law_kept", "_law_found", "_law_a", "_law_b"]) (sc := defScope s_law) (by decide +kernel)) (fun _ _ _ _ _ => (pg_name (i := 9) sc_law.nd rfl (Or.inl rfl))) (fun _ _ _ _ _ => pts_nil) (fun _ _ _ _ _ => (pe_ix (ix_listK (K := K) rfl) (pv 1) (pe_op op_sub (pv 6) (pv 9)) (fun _ _ => rfl))))
      (pss_cons (ps_setLc (i := 11) (own := [("_law_height", 2)]) (g := gName 2) rfl sc_law.nd rfl rfl (sw_true rfl rfl rfl (by decide +kernel)) (pi_listK (K := K) rfl (pv 1)) (blkOk_by (own := [("_law_height", 2)]) (N := ["_law_script", "_law_land", "_law_height", "_law_by", "_law_more", "_law_times", "_law_last", "_law_due", "_law_tilted", "_law_k", "_law_turned", "_law_stretched", "_law_kept", "_law_found", "_law_a", "_law_b"]) (sc := defScope s_law) (by decide +kernel)) (fun _ _ _ _ _ => (pg_name (i := 2) sc_law.nd rfl (Or.inl rfl))) (fun _ _ _ _ _ => pts_nil) (fun _ _ _ _ _ => (pe_op op_mul (pv 2) (pv 5))))
      (pss_cons (ps_set (i := 12) sc_law.nd rfl (Or.inl rfl) (pe_callTy (call_listK (K := K) rfl) rfl T.n_list (by decide +kernel) (pa_cons (pv 8) pa_nil)))
      (pss_cons (ps_if (PW.pt (pw_or (pt_cmpR (op_neDK (K := K) rfl hr.units) (pe_call (ok_sights T) (hr.mono (by decide)) rfl T.g_sights T.F_sights.kp T.b_sights .nil pass0 (pa_cons (pv 8) pa_nil)) (pv 7) (nomark _)) (pw_or (pt_cmpR (op_neDK (K := K) rfl hr.units) (pv 8) (pv 12) (nomark _)) (pw_or1 (pt_cmpR (op_neDK (K := K) rfl hr.units) (pe_call (ok_sights T) (hr.mono (by decide)) rfl T.g_sights T.F_sights.kp T.b_sights .nil pass0 (pa_cons (pv 11) pa_nil)) (pv 7) (nomark _)))))) (pss_one (ps_ret pe_bl)) pss_nil)
      (pss_cons (ps_set (i := 13) sc_law.nd rfl (Or.inl rfl) (pe_call (ok_sights T) (hr.mono (by decide)) rfl T.g_sights T.F_sights.kp T.b_sights .nil pass0 (pa_cons (pv 10) pa_nil)))
      (pss_one (ps_ret (pe_and (pe_callB (call_isiK0 (K := K) rfl) rfl T.n_isinstance (by decide +kernel) (pa_cons (pv 13) (pa_cons (pe_bltn (v := .ty "list") (by rfl) T.n_list (by decide +kernel) rfl) pa_nil))) (pe_one (pe_cmpR (op_eqDK (K := K) rfl hr.units) (pv 13) (pe_callB cr_sortedPO rfl T.n_sorted (by decide +kernel) (pa_cons (pe_lc (own := [("_law_a", 14), ("_law_b", 15)]) (g := gTup K 2 (gCons (gName 14) (gCons (gName 15) gNil))) rfl sc_law.nd (pi_listK (K := K) rfl (pv 7)) (blkOk_by (own := [("_law_a", 14), ("_law_b", 15)]) (N := ["_law_script", "_law_land", "_law_height", "_law_by", "_law_more", "_law_times", "_law_last", "_law_due", "_law_tilted", "_law_k", "_law_turned", "_law_stretched", "_law_kept", "_law_found", "_law_a", "_law_b"]) (sc := defScope s_law) (by decide +kernel)) (fun _ _ _ _ _ => (pg_tupK (K := K) rfl rfl (pgs_cons (pg_name (i := 14) sc_law.nd rfl (Or.inl rfl)) (pgs_cons (pg_name (i := 15) sc_law.nd rfl (Or.inl rfl)) pgs_nil)))) (fun _ _ _ _ _ => pts_nil) (fun _ _ _ _ _ => (pe_tup (pa_cons (pe_op op_sub (pv 6) (pv 15)) (pa_cons (pe_op op_sub (pv 6) (pv 14)) pa_nil))))) pa_nil)) (nomark _))))))))))))))))))), ?_⟩)
  · obtain ⟨a, ns, rfl, _⟩ := h
    rfl
  · obtain ⟨a, ns, rfl, hS, hlen, k⟩ := h
    walk_at "rd"
    refine ⟨a, ns, 14, rfl, hS, by omega, fun D1 hs n1 b1 b2 => ?_⟩
    have s1 := same_upd (o := .lst (IL hs)) n1
    have hD1 : (upd H D1 (.lst (IL hs))) D1 = some (.lst (IL hs)) := upd_same
    generalize upd H D1 (.lst (IL hs)) = H1 at *
    refine ⟨D1, rfl, ⟨_, .of hD1⟩, fun D2 n2 => lc_listM (fun v => .int (vI v / 1000)) (.of hD1) n2 (by rw [List.length_map]; omega) (fun _ => rfl) (fun x H' R hx s2 q => ?_) (fun H2 s2 hD2 => ?_)⟩
    · obtain ⟨z, _, rfl⟩ := List.mem_map.mp hx
      walk_at "rd"
      exact q _ (Same.refl _)
    · have sA := s1.trans s2
      have hS2 := sA.seq hS
      rw [IL_mapL hs (fun v => .int (vI v / 1000)) (fun z => z / 1000) (fun _ => rfl)] at hD2
      walk_at "rq"
      with_reducible refine rd_cut (fun σ' H' => ∃ (L : Addr) (zs : List Int), σ' = [some (.ref a), some (.ref L), none, none, none, none, none, none, none, none, none, none, none, none, none, none] ∧ Same H H' ∧ H' L = some (.lst (IL zs)) ∧ 0 < zs.length ∧ zs.length ≤ 14) (fun N hN => ?_) ?_
      · walk_at "rd"
        refine ite2 (fun c => ?_) (fun c => ?_)
        · walk_at "rd"
          refine ⟨a, ns, 14, rfl, hS2, by omega, fun D3 zs n3 c1 c2 => ?_⟩
          walk_at "rd"
          exact hN _ _ ⟨D3, zs, rfl, sA.trans (same_upd n3), upd_same, by omega, by omega⟩
        · walk_at "rd"
          exact hN _ _ ⟨D2, _, rfl, sA, hD2, by rw [List.length_map]; omega, by rw [List.length_map]; omega⟩
      clear hS2 sA hD2 s2 n2 hD1 s1 n1 b1 b2
      rintro σ1 H3 ⟨L, zs, rfl, s3, hL, hz0, hz⟩
      have hS3 := s3.seq hS
      walk_at "rd"
      rw [List.length_map]
      generalize cell ns (Int.toNat 1) * 48271 % (2 * 10 ^ Int.toNat 14 + 1) - 10 ^ Int.toNat 14 = by'
      generalize cell ns (Int.toNat 2) % 2001 - 1000 = more
      have ht : 0 < 1 + cell ns (Int.toNat 2) / 2001 % 900 ∧ 1 + cell ns (Int.toNat 2) / 2001 % 900 ≤ 900 := by omega
      generalize 1 + cell ns (Int.toNat 2) / 2001 % 900 = times at *
      -- due = sights(list(land))
      intro M nM
      have s4 := same_upd (o := .lst (IL zs)) nM
      have hM : (upd H3 M (.lst (IL zs))) M = some (.lst (IL zs)) := upd_same
      have hL4 := s4 _ _ hL
      have sB := s3.trans s4
      generalize upd H3 M (.lst (IL zs)) = H4 at *
      walk_at "rd"
      refine ⟨M, zs, rfl, .of hM, by omega, fun D vd H5 s5 nD5 hD5 hp5 => ?_⟩
      have hL5 := s5 _ _ hL4
      have sC := sB.trans s5
      walk_at "rd"
      rw [List.length_map]
      refine ⟨zs.length, rfl, by omega, by omega, fun Dt nt => lc_rangeM (n := zs.length) (fun i => .int (g zs i + by' * (i : Int) + more)) nt (by omega) (fun _ => rfl) (fun i H' R hi s6 q => ?_) (fun H6 s6 hDt => ?_)⟩
      · have hL6 := s6 _ _ hL5
        walk_at "rd"
        refine rd_ixL (.of hL6) (IL_at (by omega) (by omega)) ?_
        walk_at "rd"
        exact q _ (Same.refl _)
      rw [IL_mapR] at hDt
      have hDt' : H6 Dt = some (.lst (IL (tiltL zs by' more))) := hDt
      have hL6 := s6 _ _ hL5
      walk_at "rd"
      rw [List.length_map]
      refine ⟨zs.length, rfl, by omega, by omega, fun Du nu => lc_rangeM (n := zs.length) (fun i => .int (g zs (zs.length - 1 - i))) nu (by omega) (fun _ => rfl) (fun i H' R hi s7 q => ?_) (fun H7 s7 hDu => ?_)⟩
      · have hL7 := s7 _ _ hL6
        walk_at "rd"
        have ei : (zs.length : Int) - 1 - (i : Int) = ((zs.length - 1 - i : Nat) : Int) := by omega
        rw [ei]
        refine rd_ixL (.of hL7) (IL_at (by omega) (by omega)) ?_
        exact q _ (Same.refl _)
      rw [IL_mapR] at hDu
      have hDu' : H7 Du = some (.lst (IL (turnL zs))) := hDu
      have hL7 := s7 _ _ hL6
      have hDt7 := s7 _ _ hDt'
      walk_at "rd"
      refine ⟨L, rfl, ⟨_, .of hL7⟩, fun Ds nds => lc_listM (fun v => .int (vI v * times)) (.of hL7) nds (by rw [List.length_map]; omega) (fun _ => rfl) (fun x H' R hx s8 q => ?_) (fun H8 s8 hDs => ?_)⟩
      · obtain ⟨z, _, rfl⟩ := List.mem_map.mp hx
        walk_at "rd"
        exact q _ (Same.refl _)
      rw [IL_mapL zs (fun v => .int (vI v * times)) (fun z => z * times) (fun _ => rfl)] at hDs
      have hL8 := s8 _ _ hL7
      have hDt8 := s8 _ _ hDt7
      have hDu8 := s8 _ _ hDu'
      have s58 : Same H5 H8 := (s6.trans s7).trans s8
      have hD8 := s58 _ _ hD5
      have hp8 := hp5.mono s58
      walk_at "rd"
      intro Dk nk
      have s9 := same_upd (o := .lst (IL (tiltL zs by' more))) nk
      have hk9 : (upd H8 Dk (.lst (IL (tiltL zs by' more)))) Dk = some (.lst (IL (tiltL zs by' more))) := upd_same
      have hDt9 := s9 _ _ hDt8
      have hDu9 := s9 _ _ hDu8
      have hDs9 := s9 _ _ hDs
      have hD9 := s9 _ _ hD8
      have hp9 := hp8.mono s9
      generalize upd H8 Dk (.lst (IL (tiltL zs by' more))) = H9 at *
      walk_at "rd"
      refine ⟨Dt, _, rfl, .of hDt9, by rw [tilt_len]; omega, fun E1 ve1 H10 s10 ne1 hE1 pe1 => ?_⟩
      rw [sights_tilt] at pe1
      walk_at "rd"
      refine rd_neP (.of hE1) pe1 (.of (s10 _ _ hD9)) (hp9.mono s10) ?_
      walk_at "rd"
      refine rd_no (by simp) ?_
      walk_at "rd"
      refine rd_neI (.of (s10 _ _ hDt9)) (.of (s10 _ _ hk9)) ?_
      walk_at "rd"
      refine rd_no (by simp) ?_
      walk_at "rd"
      refine ⟨Ds, _, rfl, .of (s10 _ _ hDs9), by rw [List.length_map]; omega, fun E2 ve2 H11 s11 ne2 hE2 pe2 => ?_⟩
      rw [sights_stretch zs ht.1] at pe2
      have sx := s10.trans s11
      walk_at "rd"
      refine rd_neP (.of hE2) pe2 (.of (sx _ _ hD9)) (hp9.mono sx) ?_
      walk_at "rd"
      refine rd_no (by simp) ?_
      walk_at "rd"
      refine ⟨Du, _, rfl, .of (sx _ _ hDu9), by rw [turn_len]; omega, fun E3 ve3 H12 s12 ne3 hE3 pe3 => ?_⟩
      have sy := sx.trans s12
      have hD12 := sy _ _ hD9
      have hp12 := hp9.mono sy
      walk_at "rd"
      refine rd_isi (b := true) (ty_lst hE3) (by decide +kernel) ?_
      walk_at "rd"
      refine ⟨D, rfl, ⟨_, .of hD12⟩, fun Dr nr => lc_list (K := K) (a := D) (xs := vd) (fun i H' => Same H12 H' ∧ ∃ ys, H' Dr = some (.lst ys) ∧ PrsH H' ys ((revP zs.length (sights zs)).take i)) ⟨same_upd nr, [], upd_same, .nil⟩ (fun i H' _ ⟨s, _⟩ => .of (s _ _ hD12)) (fun i x H' hx ⟨s13, ys, hDr, hpr⟩ => ?_) (fun H13 ⟨s13, ys, hDr, hpr⟩ => ?_)⟩
      · obtain ⟨t, p, hpi, rfl, ht⟩ := hp12.get hx
        refine rd_gTup2 (Same.seqT s13 ht) ⟨rfl, ?_⟩
        walk_at "rd"
        refine ⟨sz 2, fun u nu => ?_⟩
        have hri : (revP zs.length (sights zs))[i]? = some ((zs.length : Int) - 1 - p.2, (zs.length : Int) - 1 - p.1) := by
          unfold revP
          unfold NP at hpi
          rw [List.getElem?_map] at hpi ⊢
          cases e : (sights zs)[i]? with
          | none => rw [e] at hpi; cases hpi
          | some r =>
            rw [e] at hpi
            rw [← Option.some.inj hpi]
            rfl
        have hl : ys.length ≤ 1000 := by
          have h1 := Paired.length hpr
          have h2 := sigN_len zs zs.length
          rw [h1, List.length_take]
          unfold revP
          rw [List.length_map]
          have h3 : zs.length * zs.length ≤ 14 * 14 := Nat.mul_le_mul hz hz
          have h4 : (sights zs).length ≤ zs.length * zs.length := h2
          omega
        have s14 := same_upd (o := .tup [.int ((zs.length : Int) - 1 - p.2), .int ((zs.length : Int) - 1 - p.1)]) nu
        refine ⟨ys, s14 _ _ hDr, szlt (by omega), Same.mut (s13.trans s14) nr, ys ++ [.ref u], upd_same, ?_⟩
        rw [List.take_add_one, hri]
        exact ((hpr.mono s14).upd (s14 _ _ hDr)).snoc (by
          rw [upd_ne (ne_of upd_same (s14 _ _ hDr) (by intro z; cases z))]
          exact upd_same)
      walk_at "rd"
      have hl12 : vd.length = (sights zs).length := by rw [hp12.length, List.length_map]
      rw [List.take_of_length_le (by
        unfold revP
        rw [List.length_map, hl12]
        exact Nat.le_refl _)] at hpr
      refine rd_sortP (.of hDr) hpr fun qs qq p np hq hperm hsort => ?_
      have hE3 := upd_keep (u := .lst qs) (s13 _ _ hE3) np
      have s15 := same_upd (o := .lst qs) np
      refine rd_eqP (.of hE3) ((pe3.mono s13).mono s15) (.of upd_same) (hq.mono s15).prs ?_
      have e : NP (sights (turnL zs)) = qq := sorted_uniq ((hperm.trans (rev_perm zs)).symm) (NP_sorted _) hsort
      rw [decide_eq_true e]
      exact k _


end
theorem all_mk {l : PySem.W.OpenLaw} {w : World} {K : PySem.W.Frag} {h : Heap} {mg : Str → Option Value} {fa : Addr} (X : K.In h) (G : h.Ns mainGlobals mg) (hfa : mg "law" = some (.ref fa))
    {f_slope : Addr} {od_slope an_slope : Option Addr} {sl_slope : Array (Option Value)} {oc_slope kV_slope dc_slope pm_slope cd_slope ct_slope : Value} {f_steeper : Addr} {od_steeper an_steeper : Option Addr} {sl_steeper : Array (Option Value)} {oc_steeper kV_steeper dc_steeper pm_steeper cd_steeper ct_steeper : Value} {f_behind : Addr} {od_behind an_behind : Option Addr} {sl_behind : Array (Option Value)} {oc_behind kV_behind dc_behind pm_behind cd_behind ct_behind : Value} {f_sights : Addr} {od_sights an_sights : Option Addr} {sl_sights : Array (Option Value)} {oc_sights kV_sights dc_sights pm_sights cd_sights ct_sights : Value} {f_law_whole : Addr} {od_law_whole an_law_whole : Option Addr} {sl_law_whole : Array (Option Value)} {oc_law_whole kV_law_whole dc_law_whole pm_law_whole cd_law_whole ct_law_whole : Value} {f_law_cell_at : Addr} {od_law_cell_at an_law_cell_at : Option Addr} {sl_law_cell_at : Array (Option Value)} {oc_law_cell_at kV_law_cell_at dc_law_cell_at pm_law_cell_at cd_law_cell_at ct_law_cell_at : Value} {f_law_height_by : Addr} {od_law_height_by an_law_height_by : Option Addr} {sl_law_height_by : Array (Option Value)} {oc_law_height_by kV_law_height_by dc_law_height_by pm_law_height_by cd_law_height_by ct_law_height_by : Value} {f_law_land_by : Addr} {od_law_land_by an_law_land_by : Option Addr} {sl_law_land_by : Array (Option Value)} {oc_law_land_by kV_law_land_by dc_law_land_by pm_law_land_by cd_law_land_by ct_law_land_by : Value} {f_law : Addr} {od_law an_law : Option Addr} {sl_law : Array (Option Value)} {oc_law kV_law dc_law pm_law cd_law ct_law : Value}
    (a_slope : PySem.W.nsIn K mainGlobals "slope" = some (some (.ref f_slope)))
    (l_slope : K.lookup f_slope = some ⟨oc_slope, od_slope, .func (PySem.W.fnOf "slope" "slope" (defArgs s_slope) (defBody s_slope) (defScope s_slope) .none kV_slope dc_slope pm_slope an_slope cd_slope ct_slope), sl_slope⟩)
    (q_slope : PySem.W.codeIn K cd_slope "slope" = true)
    (k_slope : PySem.W.keepIn K (.ref f_slope) = true)
    (a_steeper : PySem.W.nsIn K mainGlobals "steeper" = some (some (.ref f_steeper)))
    (l_steeper : K.lookup f_steeper = some ⟨oc_steeper, od_steeper, .func (PySem.W.fnOf "steeper" "steeper" (defArgs s_steeper) (defBody s_steeper) (defScope s_steeper) .none kV_steeper dc_steeper pm_steeper an_steeper cd_steeper ct_steeper), sl_steeper⟩)
    (q_steeper : PySem.W.codeIn K cd_steeper "steeper" = true)
    (k_steeper : PySem.W.keepIn K (.ref f_steeper) = true)
    (a_behind : PySem.W.nsIn K mainGlobals "behind" = some (some (.ref f_behind)))
    (l_behind : K.lookup f_behind = some ⟨oc_behind, od_behind, .func (PySem.W.fnOf "behind" "behind" (defArgs s_behind) (defBody s_behind) (defScope s_behind) .none kV_behind dc_behind pm_behind an_behind cd_behind ct_behind), sl_behind⟩)
    (q_behind : PySem.W.codeIn K cd_behind "behind" = true)
    (k_behind : PySem.W.keepIn K (.ref f_behind) = true)
    (a_sights : PySem.W.nsIn K mainGlobals "sights" = some (some (.ref f_sights)))
    (l_sights : K.lookup f_sights = some ⟨oc_sights, od_sights, .func (PySem.W.fnOf "sights" "sights" (defArgs s_sights) (defBody s_sights) (defScope s_sights) .none kV_sights dc_sights pm_sights an_sights cd_sights ct_sights), sl_sights⟩)
    (q_sights : PySem.W.codeIn K cd_sights "sights" = true)
    (k_sights : PySem.W.keepIn K (.ref f_sights) = true)
    (a_law_whole : PySem.W.nsIn K mainGlobals "_law_whole" = some (some (.ref f_law_whole)))
    (l_law_whole : K.lookup f_law_whole = some ⟨oc_law_whole, od_law_whole, .func (PySem.W.fnOf "_law_whole" "_law_whole" (defArgs s_law_whole) (defBody s_law_whole) (defScope s_law_whole) .none kV_law_whole dc_law_whole pm_law_whole an_law_whole cd_law_whole ct_law_whole), sl_law_whole⟩)
    (q_law_whole : PySem.W.codeIn K cd_law_whole "_law_whole" = true)
    (k_law_whole : PySem.W.keepIn K (.ref f_law_whole) = true)
    (a_law_cell_at : PySem.W.nsIn K mainGlobals "_law_cell_at" = some (some (.ref f_law_cell_at)))
    (l_law_cell_at : K.lookup f_law_cell_at = some ⟨oc_law_cell_at, od_law_cell_at, .func (PySem.W.fnOf "_law_cell_at" "_law_cell_at" (defArgs s_law_cell_at) (defBody s_law_cell_at) (defScope s_law_cell_at) .none kV_law_cell_at dc_law_cell_at pm_law_cell_at an_law_cell_at cd_law_cell_at ct_law_cell_at), sl_law_cell_at⟩)
    (q_law_cell_at : PySem.W.codeIn K cd_law_cell_at "_law_cell_at" = true)
    (k_law_cell_at : PySem.W.keepIn K (.ref f_law_cell_at) = true)
    (a_law_height_by : PySem.W.nsIn K mainGlobals "_law_height_by" = some (some (.ref f_law_height_by)))
    (l_law_height_by : K.lookup f_law_height_by = some ⟨oc_law_height_by, od_law_height_by, .func (PySem.W.fnOf "_law_height_by" "_law_height_by" (defArgs s_law_height_by) (defBody s_law_height_by) (defScope s_law_height_by) .none kV_law_height_by dc_law_height_by pm_law_height_by an_law_height_by cd_law_height_by ct_law_height_by), sl_law_height_by⟩)
    (q_law_height_by : PySem.W.codeIn K cd_law_height_by "_law_height_by" = true)
    (k_law_height_by : PySem.W.keepIn K (.ref f_law_height_by) = true)
    (a_law_land_by : PySem.W.nsIn K mainGlobals "_law_land_by" = some (some (.ref f_law_land_by)))
    (l_law_land_by : K.lookup f_law_land_by = some ⟨oc_law_land_by, od_law_land_by, .func (PySem.W.fnOf "_law_land_by" "_law_land_by" (defArgs s_law_land_by) (defBody s_law_land_by) (defScope s_law_land_by) .none kV_law_land_by dc_law_land_by pm_law_land_by an_law_land_by cd_law_land_by ct_law_land_by), sl_law_land_by⟩)
    (q_law_land_by : PySem.W.codeIn K cd_law_land_by "_law_land_by" = true)
    (k_law_land_by : PySem.W.keepIn K (.ref f_law_land_by) = true)
    (a_law : PySem.W.nsIn K mainGlobals "law" = some (some (.ref f_law)))
    (l_law : K.lookup f_law = some ⟨oc_law, od_law, .func (PySem.W.fnOf "law" "law" (defArgs s_law) (defBody s_law) (defScope s_law) .none kV_law dc_law pm_law an_law cd_law ct_law), sl_law⟩)
    (q_law : PySem.W.codeIn K cd_law "law" = true)
    (k_law : PySem.W.keepIn K (.ref f_law) = true)
    (n_bool : PySem.W.nsIn K mainGlobals "bool" = some none)
    (n_int : PySem.W.nsIn K mainGlobals "int" = some none)
    (n_isinstance : PySem.W.nsIn K mainGlobals "isinstance" = some none)
    (n_len : PySem.W.nsIn K mainGlobals "len" = some none)
    (n_list : PySem.W.nsIn K mainGlobals "list" = some none)
    (n_range : PySem.W.nsIn K mainGlobals "range" = some none)
    (n_sorted : PySem.W.nsIn K mainGlobals "sorted" = some none)
    : ∃ fd : FuncData, (∀ (s : Shared) (v : Value), BindsTo s fd ⟨[v], []⟩ [("_law_script", v)]) ∧ ∀ base : Heap, K.In base → base.Ns mainGlobals mg → FnOk l.prog w K mg base CX0 4 fa fd ["_law_script"] (spLaw K) := by
  have e : fa = f_law := Value.ref.inj (Option.some.inj (hfa.symm.trans (PySem.W.mg_of X G a_law)))
  rw [e]
  have T : ∃ T : Txt K mg, T.a_law = f_law ∧ T.d_law = PySem.W.fnOf "law" "law" (defArgs s_law) (defBody s_law) (defScope s_law) .none kV_law dc_law pm_law an_law cd_law ct_law := ⟨{
    a_slope := f_slope, d_slope := PySem.W.fnOf "slope" "slope" (defArgs s_slope) (defBody s_slope) (defScope s_slope) .none kV_slope dc_slope pm_slope an_slope cd_slope ct_slope, F_slope := fun_mk (st := s_slope) l_slope q_slope k_slope,
    b_slope := (fun_mk (st := s_slope) l_slope q_slope k_slope).binds (ps := ["land", "a", "b"]) fun _ _ _ _ _ _ us hl => match us, hl with | [_, _, _], _ => rfl,
    g_slope := PySem.W.mg_of X G a_slope,
    a_steeper := f_steeper, d_steeper := PySem.W.fnOf "steeper" "steeper" (defArgs s_steeper) (defBody s_steeper) (defScope s_steeper) .none kV_steeper dc_steeper pm_steeper an_steeper cd_steeper ct_steeper, F_steeper := fun_mk (st := s_steeper) l_steeper q_steeper k_steeper,
    b_steeper := (fun_mk (st := s_steeper) l_steeper q_steeper k_steeper).binds (ps := ["one", "other"]) fun _ _ _ _ _ _ us hl => match us, hl with | [_, _], _ => rfl,
    g_steeper := PySem.W.mg_of X G a_steeper,
    a_behind := f_behind, d_behind := PySem.W.fnOf "behind" "behind" (defArgs s_behind) (defBody s_behind) (defScope s_behind) .none kV_behind dc_behind pm_behind an_behind cd_behind ct_behind, F_behind := fun_mk (st := s_behind) l_behind q_behind k_behind,
    b_behind := (fun_mk (st := s_behind) l_behind q_behind k_behind).binds (ps := ["land", "a"]) fun _ _ _ _ _ _ us hl => match us, hl with | [_, _], _ => rfl,
    g_behind := PySem.W.mg_of X G a_behind,
    a_sights := f_sights, d_sights := PySem.W.fnOf "sights" "sights" (defArgs s_sights) (defBody s_sights) (defScope s_sights) .none kV_sights dc_sights pm_sights an_sights cd_sights ct_sights, F_sights := fun_mk (st := s_sights) l_sights q_sights k_sights,
    b_sights := (fun_mk (st := s_sights) l_sights q_sights k_sights).binds (ps := ["land"]) fun _ _ _ _ _ _ us hl => match us, hl with | [_], _ => rfl,
    g_sights := PySem.W.mg_of X G a_sights,
    a_law_whole := f_law_whole, d_law_whole := PySem.W.fnOf "_law_whole" "_law_whole" (defArgs s_law_whole) (defBody s_law_whole) (defScope s_law_whole) .none kV_law_whole dc_law_whole pm_law_whole an_law_whole cd_law_whole ct_law_whole, F_law_whole := fun_mk (st := s_law_whole) l_law_whole q_law_whole k_law_whole,
    b_law_whole := (fun_mk (st := s_law_whole) l_law_whole q_law_whole k_law_whole).binds (ps := ["_law_found"]) fun _ _ _ _ _ _ us hl => match us, hl with | [_], _ => rfl,
    g_law_whole := PySem.W.mg_of X G a_law_whole,
    a_law_cell_at := f_law_cell_at, d_law_cell_at := PySem.W.fnOf "_law_cell_at" "_law_cell_at" (defArgs s_law_cell_at) (defBody s_law_cell_at) (defScope s_law_cell_at) .none kV_law_cell_at dc_law_cell_at pm_law_cell_at an_law_cell_at cd_law_cell_at ct_law_cell_at, F_law_cell_at := fun_mk (st := s_law_cell_at) l_law_cell_at q_law_cell_at k_law_cell_at,
    b_law_cell_at := (fun_mk (st := s_law_cell_at) l_law_cell_at q_law_cell_at k_law_cell_at).binds (ps := ["_law_script", "_law_k"]) fun _ _ _ _ _ _ us hl => match us, hl with | [_, _], _ => rfl,
    g_law_cell_at := PySem.W.mg_of X G a_law_cell_at,
    a_law_height_by := f_law_height_by, d_law_height_by := PySem.W.fnOf "_law_height_by" "_law_height_by" (defArgs s_law_height_by) (defBody s_law_height_by) (defScope s_law_height_by) .none kV_law_height_by dc_law_height_by pm_law_height_by an_law_height_by cd_law_height_by ct_law_height_by, F_law_height_by := fun_mk (st := s_law_height_by) l_law_height_by q_law_height_by k_law_height_by,
    b_law_height_by := (fun_mk (st := s_law_height_by) l_law_height_by q_law_height_by k_law_height_by).binds (ps := ["_law_cell", "_law_k", "_law_kind", "_law_tilt"]) fun _ _ _ _ _ _ us hl => match us, hl with | [_, _, _, _], _ => rfl,
    g_law_height_by := PySem.W.mg_of X G a_law_height_by,
    a_law_land_by := f_law_land_by, d_law_land_by := PySem.W.fnOf "_law_land_by" "_law_land_by" (defArgs s_law_land_by) (defBody s_law_land_by) (defScope s_law_land_by) .none kV_law_land_by dc_law_land_by pm_law_land_by an_law_land_by cd_law_land_by ct_law_land_by, F_law_land_by := fun_mk (st := s_law_land_by) l_law_land_by q_law_land_by k_law_land_by,
    b_law_land_by := (fun_mk (st := s_law_land_by) l_law_land_by q_law_land_by k_law_land_by).binds (ps := ["_law_script", "_law_most"]) fun _ _ _ _ _ _ us hl => match us, hl with | [_, _], _ => rfl,
    g_law_land_by := PySem.W.mg_of X G a_law_land_by,
    a_law := f_law, d_law := PySem.W.fnOf "law" "law" (defArgs s_law) (defBody s_law) (defScope s_law) .none kV_law dc_law pm_law an_law cd_law ct_law, F_law := fun_mk (st := s_law) l_law q_law k_law,
    b_law := (fun_mk (st := s_law) l_law q_law k_law).binds (ps := ["_law_script"]) fun _ _ _ _ _ _ us hl => match us, hl with | [_], _ => rfl,
    g_law := PySem.W.mg_of X G a_law,
    n_bool := PySem.W.mg_none_of X G n_bool,
    n_int := PySem.W.mg_none_of X G n_int,
    n_isinstance := PySem.W.mg_none_of X G n_isinstance,
    n_len := PySem.W.mg_none_of X G n_len,
    n_list := PySem.W.mg_none_of X G n_list,
    n_range := PySem.W.mg_none_of X G n_range,
    n_sorted := PySem.W.mg_none_of X G n_sorted }, rfl, rfl⟩
  obtain ⟨T, e1, e2⟩ := T
  refine ⟨PySem.W.fnOf "law" "law" (defArgs s_law) (defBody s_law) (defScope s_law) .none kV_law dc_law pm_law an_law cd_law ct_law, fun s v => .of_eq rfl, fun base _ _ => ?_⟩
  rw [← e1, ← e2]
  exact ok_law T
end Hs
open PySem PySem.W PyProof.Rows
set_option maxRecDepth 100000 in
set_option maxHeartbeats 0 in
theorem PySem.Challenge.cw_hillsight_k05_whole_tilted_holds : PySem.Challenge.rw_hillsight_k05_whole_tilted.Holds := by
  w_on; o_law; k_head; (case hw => w_witness2)
  k_fill
  refine L2.walk_ofK (l := PySem.Challenge.rw_hillsight_k05_whole_tilted) (n := 63) (k := 4) (x := "_law_script") (CX := L2.CX0) (sp := Hs.spLaw) rfl (by decide) rfl ⟨rfl, by decide, by decide⟩ (fun w h Y => PySem.W.kIn_of Y) ?F (fun _ _ a ns hl _ hS => ⟨a, ns, rfl, hS, hl, fun _ => rfl⟩) (fun _ _ _ _ h => h)
  case F =>
    intro w mg fa h KX G hmg
    refine' Hs.all_mk KX G hmg ?a_slope ?l_slope ?q_slope ?k_slope ?a_steeper ?l_steeper ?q_steeper ?k_steeper ?a_behind ?l_behind ?q_behind ?k_behind ?a_sights ?l_sights ?q_sights ?k_sights ?a_law_whole ?l_law_whole ?q_law_whole ?k_law_whole ?a_law_cell_at ?l_law_cell_at ?q_law_cell_at ?k_law_cell_at ?a_law_height_by ?l_law_height_by ?q_law_height_by ?k_law_height_by ?a_law_land_by ?l_law_land_by ?q_law_land_by ?k_law_land_by ?a_law ?l_law ?q_law ?k_law ?n_bool ?n_int ?n_isinstance ?n_len ?n_list ?n_range ?n_sorted
    (case a_slope => first | k_is | rfl)
    (case l_slope => first | k_is | rfl)
    (case q_slope => first | k_is | rfl)
    (case k_slope => first | k_is | rfl)
    (case a_steeper => first | k_is | rfl)
    (case l_steeper => first | k_is | rfl)
    (case q_steeper => first | k_is | rfl)
    (case k_steeper => first | k_is | rfl)
    (case a_behind => first | k_is | rfl)
    (case l_behind => first | k_is | rfl)
    (case q_behind => first | k_is | rfl)
    (case k_behind => first | k_is | rfl)
    (case a_sights => first | k_is | rfl)
    (case l_sights => first | k_is | rfl)
    (case q_sights => first | k_is | rfl)
    (case k_sights => first | k_is | rfl)
    (case a_law_whole => first | k_is | rfl)
    (case l_law_whole => first | k_is | rfl)
    (case q_law_whole => first | k_is | rfl)
    (case k_law_whole => first | k_is | rfl)
    (case a_law_cell_at => first | k_is | rfl)
    (case l_law_cell_at => first | k_is | rfl)
    (case q_law_cell_at => first | k_is | rfl)
    (case k_law_cell_at => first | k_is | rfl)
    (case a_law_height_by => first | k_is | rfl)
    (case l_law_height_by => first | k_is | rfl)
    (case q_law_height_by => first | k_is | rfl)
    (case k_law_height_by => first | k_is | rfl)
    (case a_law_land_by => first | k_is | rfl)
    (case l_law_land_by => first | k_is | rfl)
    (case q_law_land_by => first | k_is | rfl)
    (case k_law_land_by => first | k_is | rfl)
    (case a_law => first | k_is | rfl)
    (case l_law => first | k_is | rfl)
    (case q_law => first | k_is | rfl)
    (case k_law => first | k_is | rfl)
    (case n_bool => first | k_is | rfl)
    (case n_int => first | k_is | rfl)
    (case n_isinstance => first | k_is | rfl)
    (case n_len => first | k_is | rfl)
    (case n_list => first | k_is | rfl)
    (case n_range => first | k_is | rfl)
    (case n_sorted => first | k_is | rfl)
