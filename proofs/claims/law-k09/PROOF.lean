import PyProof.Rows.All
import Wide.All
import OpenK.AllK
import Wide.FinOn
import HandS.ForMost
import HandS.Exc
import HandS.ExcOwn
import HandS.TryOnly
import HandS.TryMany
import HandS.WordsExc
import HandS.IsInst
import HandS.Steps
import HandS.Style
import HandS.SortInts
import PySem.Challenge.RW_hillsight_k09_whole_ways
set_option Elab.async false
set_option linter.all false
set_option maxRecDepth 100000
set_option maxHeartbeats 4000000
namespace Hs
open PySem PySem.Spec PyProof.Rows L2
/-! ## readings, step by step -/
theorem rd_var {i : Nat} {σ : L2.St} {H : Hp} {Q : VK} {v : V} (h : σ[i]? = some (some v)) (q : Q v H) : tVar i σ H Q := ⟨v, h, q⟩
theorem rd_c {v : V} {σ : L2.St} {H : Hp} {Q : VK} (q : Q v H) : tC v σ H Q := q
theorem rd_op {r : R2} {ta tb : TE} {σ : L2.St} {H : Hp} {Q : VK} (q : ta σ H fun x H1 => tb σ H1 fun y H2 => r x y H2 Q) : tOp r ta tb σ H Q := q
theorem rd_un {r : V → Hp → VK → Prop} {ta : TE} {σ : L2.St} {H : Hp} {Q : VK} (q : ta σ H fun x H1 => r x H1 Q) : tUn r ta σ H Q := q
theorem rd_U {g : Int → V} {i : Int} {H : Hp} {Q : VK} (q : Q (g i) H) : rU g (.int i) H Q := ⟨i, rfl, q⟩
theorem rd_I0 {g : Int → Int → V} {i j : Int} {H : Hp} {Q : VK} (q : Q (g i j) H) : rI0 g (.int i) (.int j) H Q := ⟨i, j, rfl, rfl, q⟩
theorem rd_I {C : Int → Int → Prop} {g : Int → Int → V} {i j : Int} {H : Hp} {Q : VK} (c : C i j) (q : Q (g i j) H) : rI C g (.int i) (.int j) H Q := ⟨i, j, rfl, rfl, c, q⟩
theorem rd_eq {x y : V} {H : Hp} {Q : VK} (c : scal x y = true) (q : Q (.bl (decide (x = y))) H) : rEq x y H Q := ⟨c, q⟩
theorem rd_ne {x y : V} {H : Hp} {Q : VK} (c : scal x y = true) (q : Q (.bl (!decide (x = y))) H) : rNe x y H Q := ⟨c, q⟩
theorem rd_nil {σ : L2.St} {H : Hp} {Q : List V → Hp → Prop} (q : Q [] H) : tNil σ H Q := q
theorem rd_cons {ta : TE} {tr : TA} {σ : L2.St} {H : Hp} {Q : List V → Hp → Prop} (q : ta σ H fun x H1 => tr σ H1 fun xs H2 => Q (x :: xs) H2) : tCons ta tr σ H Q := q
theorem rd_cb {r : List V → Hp → VK → Prop} {ta : TA} {σ : L2.St} {H : Hp} {Q : VK} (q : ta σ H fun xs H1 => r xs H1 Q) : tCB r ta σ H Q := q
theorem rd_call {sp : Sp} {E : XK} {ta : TA} {σ : L2.St} {H : Hp} {Q : VK} (q : ta σ H fun xs H1 => sp (xs ++ []) H1 Q E) : tCall sp [] E ta σ H Q := q
theorem rd_callS {sp : Sp} {E : L2.St → XK} {ta : TA} {σ : L2.St} {H : Hp} {Q : VK} (q : ta σ H fun xs H1 => sp xs H1 Q (E σ)) : tCallS sp E ta σ H Q := q
theorem rd_test {t : TE} {σ : L2.St} {H : Hp} {Q : Bool → Hp → Prop} (q : t σ H fun x H' => ∃ k, x = .bl k ∧ Q k H') : tTest t σ H Q := q
theorem rd_tB {t : TE} {σ : L2.St} {H : Hp} {Q : Bool → Hp → Prop} (q : t σ H fun x H' => ∃ k, x = .bl k ∧ Q k H') : tB t σ H Q := q
theorem rd_bl {k : Bool} {R : Bool → Prop} (q : R k) : ∃ k', V.bl k = .bl k' ∧ R k' := ⟨k, rfl, q⟩
theorem rd_not {t : TT} {σ : L2.St} {H : Hp} {Q : Bool → Hp → Prop} (q : t σ H fun c H1 => Q (!c) H1) : tNot t σ H Q := q
theorem rd_and {t u : TT} {σ : L2.St} {H : Hp} {Q : Bool → Hp → Prop} (q : t σ H fun c H1 => if c = true then u σ H1 Q else Q false H1) : tAnd t u σ H Q := q
theorem rd_or {t u : TT} {σ : L2.St} {H : Hp} {Q : Bool → Hp → Prop} (q : t σ H fun c H1 => if c = true then Q true H1 else u σ H1 Q) : tOr t u σ H Q := q
theorem rd_andV {t u : TE} {σ : L2.St} {H : Hp} {Q : VK} (q : t σ H fun x H1 => ∃ c, x = .bl c ∧ if c = true then u σ H1 Q else Q (.bl false) H1) : tAndV t u σ H Q := q
theorem rd_orV {t u : TE} {σ : L2.St} {H : Hp} {Q : VK} (q : t σ H fun x H1 => ∃ c, x = .bl c ∧ if c = true then Q (.bl true) H1 else u σ H1 Q) : tOrV t u σ H Q := q
theorem rd_notV {t : TE} {σ : L2.St} {H : Hp} {Q : VK} (q : t σ H fun x H1 => ∃ c, x = .bl c ∧ Q (.bl (!c)) H1) : tNotV t σ H Q := q
theorem rd_if {c : TT} {ta tb : TE} {σ : L2.St} {H : Hp} {Q : VK} (q : c σ H fun b H1 => if b = true then ta σ H1 Q else tb σ H1 Q) : tIf c ta tb σ H Q := q
theorem rd_seq {t u : TS} {D : Ends} {σ : L2.St} {H : Hp} (q : t { D with nx := u D } σ H) : tSeq t u D σ H := q
theorem rd_asg {te : TE} {g : TG} {D : Ends} {σ : L2.St} {H : Hp} (q : te σ H fun x H1 => g x σ H1 D.nx) : tAsg te g D σ H := q
theorem rd_name {i : Nat} {v : V} {σ : L2.St} {H : Hp} {Q : L2.St → Hp → Prop} (q : Q (σ.set i (some v)) H) : gName i v σ H Q := q
theorem rd_ret {te : TE} {D : Ends} {σ : L2.St} {H : Hp} (q : te σ H D.rt) : tRet te D σ H := q
theorem rd_drop {te : TE} {D : Ends} {σ : L2.St} {H : Hp} (q : te σ H fun _ H1 => D.nx σ H1) : tDrop te D σ H := q
theorem rd_ifS {c : TT} {t u : TS} {D : Ends} {σ : L2.St} {H : Hp} (q : c σ H fun b H1 => if b = true then t D σ H1 else u D σ H1) : tIfS c t u D σ H := q
theorem rd_next {D : Ends} {σ : L2.St} {H : Hp} (q : D.nx σ H) : tNext D σ H := q
theorem rd_cont {D : Ends} {σ : L2.St} {H : Hp} (q : D.ct σ H) : tCont D σ H := q
theorem rd_tup {ta : TA} {σ : L2.St} {H : Hp} {Q : VK} (q : ta σ H fun xs H1 => xs.length ≤ sizeLine ∧ ∀ p, H1 p = none → Q (.ref p) (upd H1 p (.tup xs))) : tTup ta σ H Q := q
theorem rd_lst {ta : TA} {σ : L2.St} {H : Hp} {Q : VK} (q : ta σ H fun xs H1 => xs.length ≤ sizeLine ∧ ∀ p, H1 p = none → Q (.ref p) (upd H1 p (.lst xs))) : tLst ta σ H Q := q
theorem rd_ixL {K : PySem.W.Frag} {p : Addr} {xs : List V} {i : Int} {v : V} {H : Hp} {Q : VK} (h : SqL K H p xs) (a : atI xs i = some v) (q : Q v H) : rIxL K (.ref p) (.int i) H Q := ⟨p, xs, i, v, rfl, rfl, h, a, q⟩
theorem rd_ixT {K : PySem.W.Frag} {p : Addr} {xs : List V} {i : Int} {v : V} {H : Hp} {Q : VK} (h : SqT K H p xs) (a : atI xs i = some v) (q : Q v H) : rIxT K (.ref p) (.int i) H Q := ⟨p, xs, i, v, rfl, rfl, h, a, q⟩
theorem rd_yes {c A B : Prop} [Decidable c] (hc : c) (q : A) : if c then A else B := by rw [if_pos hc]; exact q
theorem rd_no {c A B : Prop} [Decidable c] (hc : ¬ c) (q : B) : if c then A else B := by rw [if_neg hc]; exact q
/-! ## heaps -/
theorem same_upd {H : Hp} {p : Addr} {o : HO} (h : H p = none) : Same H (upd H p o) := fun b x e => by
  rw [upd_ne (ne_of_none e h)]
  exact e
theorem Same.seqT {K : PySem.W.Frag} {H H' : Hp} {a : Addr} {xs : List V} (e : Same H H') (h : SqT K H a xs) : SqT K H' a xs := by
  rcases h with (h | ⟨o, h⟩) | h
  · exact .inl (.inl (e _ _ h))
  · exact .inl (.inr ⟨o, e _ _ h⟩)
  · exact .inr h
theorem sz (n : Nat) (h : n ≤ 100000 := by decide) : n ≤ sizeLine := Nat.le_trans h (by decide)
theorem szlt {n : Nat} (h : n < 100000) : n < sizeLine := Nat.lt_of_lt_of_le h (by decide)
abbrev IL (ns : List Int) : List V := ns.map V.int
theorem IL_get {ns : List Int} {k : Nat} (h : k < ns.length) : (IL ns)[k]? = some (V.int (ns.getD k 0)) := by
  rw [List.getElem?_map, List.getElem?_eq_getElem h, List.getD_eq_getElem?_getD, List.getElem?_eq_getElem h]
  rfl
theorem IL_at {ns : List Int} {i : Int} (h0 : 0 ≤ i) (h : i < ns.length) : atI (IL ns) i = some (V.int (ns.getD i.toNat 0)) := by
  obtain ⟨k, rfl⟩ : ∃ k : Nat, i = (k : Int) := ⟨i.toNat, by omega⟩
  have hk : k < ns.length := by omega
  exact atI_nat (IL_get hk)
/-! ## the law's cells -/
def cell (ns : List Int) (k : Nat) : Int := ns.getD k 0
/-! ## loops, cuts, methods -/
theorem rd_cut {t u : TS} {D : Ends} {σ : L2.St} {H : Hp} (J : L2.St → Hp → Prop) (h : ∀ N : L2.St → Hp → Prop, (∀ σ' H', J σ' H' → N σ' H') → t { D with nx := N } σ H) (k : ∀ σ' H', J σ' H' → u D σ' H') : tSeq t u D σ H := h (u D) k
theorem rd_for {wi : TI} {g : TG} {tb : TS} {D : Ends} {σ : L2.St} {H : Hp} (q : wi σ H fun J H1 => ∃ W : Nat → Nat → L2.St → Hp → Prop, (∃ m, W 0 m σ H1) ∧ ∀ i m σ H, W i m σ H →
    (J.stop i H ∧ D.nx σ H) ∨ (J.go i H ∧ ∃ N : L2.St → Hp → Prop, (∀ σ' H', N σ' H' → ∃ m', m' < m ∧ W (i + 1) m' σ' H') ∧ ∀ x H', J.yld i H x H' → g x σ H' fun σ2 H2 => tb { D with nx := N, ct := N, bk := D.nx } σ2 H2)) : tFor wi g tb D σ H := q
/-- what a for over a range asks, its bound known -/
abbrev LoopR (lo : Int) (n : Nat) (g : TG) (tb : TS) (D : Ends) (σ : L2.St) (H : Hp) : Prop := ∃ W : Nat → Nat → L2.St → Hp → Prop, (∃ m, W 0 m σ H) ∧ ∀ i m σ H, W i m σ H →
    ((Itr lo n).stop i H ∧ D.nx σ H) ∨ ((Itr lo n).go i H ∧ ∃ N : L2.St → Hp → Prop, (∀ σ' H', N σ' H' → ∃ m', m' < m ∧ W (i + 1) m' σ' H') ∧ ∀ x H', (Itr lo n).yld i H x H' → g x σ H' fun σ2 H2 => tb { D with nx := N, ct := N, bk := D.nx } σ2 H2)
theorem rd_rng1 {ta : TA} {σ : L2.St} {H : Hp} {R : It → Hp → Prop} (q : ta σ H fun vs H1 => ∃ j : Int, vs = [.int j] ∧ -(2 ^ 62) ≤ j ∧ j < 2 ^ 62 ∧ R (Itr 0 j.toNat) H1) : iRng1 ta σ H R := q
theorem rd_rng2 {ta : TA} {σ : L2.St} {H : Hp} {R : It → Hp → Prop} (q : ta σ H fun vs H1 => ∃ i j : Int, vs = [.int i, .int j] ∧ (-(2 ^ 62) ≤ i ∧ i < 2 ^ 62 ∧ -(2 ^ 62) ≤ j ∧ j < 2 ^ 62) ∧ R (Itr i (j - i).toNat) H1) : iRng2 ta σ H R := q
theorem rd_iList {K : PySem.W.Frag} {tl : TE} {σ : L2.St} {H : Hp} {R : It → Hp → Prop} (q : tl σ H fun x H1 => ∃ a, x = .ref a ∧ (∃ xs, SqL K H1 a xs) ∧ R (Itl K a) H1) : iList K tl σ H R := q
theorem rd_iTup {K : PySem.W.Frag} {tl : TE} {σ : L2.St} {H : Hp} {R : It → Hp → Prop} (q : tl σ H fun x H1 => ∃ a, x = .ref a ∧ (∃ xs, SqT K H1 a xs) ∧ R (Itt K a) H1) : iTup K tl σ H R := q
/-- behind the argument of range: the bound, an invariant by the turn -/
theorem rng1 {n : Int} {g : TG} {tb : TS} {D : Ends} {σ : L2.St} {H : Hp} (b : -1000000 ≤ n ∧ n ≤ 1000000) (Pv : Nat → L2.St → Hp → Prop) (h0 : Pv 0 σ H)
    (hs : ∀ (k : Nat) σ' H', (k : Int) < n → Pv k σ' H' → g (.int (k : Int)) σ' H' fun σ2 H2 => tb { D with nx := Pv (k + 1), ct := Pv (k + 1), bk := D.nx } σ2 H2) (hd : ∀ σ' H', Pv n.toNat σ' H' → D.nx σ' H') :
    ∃ j : Int, [V.int n] = [.int j] ∧ -(2 ^ 62) ≤ j ∧ j < 2 ^ 62 ∧ LoopR 0 j.toNat g tb D σ H := by
  refine ⟨n, rfl, by omega, by omega, for_range (lo := 0) (n := n.toNat) Pv h0 (fun i σ' H' hi p => ?_) hd⟩
  have e0 : (0 : Int) + (i : Int) = (i : Int) := Int.zero_add _
  rw [e0]
  exact hs i σ' H' (by omega) p
theorem rng2 {lo n : Int} {g : TG} {tb : TS} {D : Ends} {σ : L2.St} {H : Hp} (b : (-1000000 ≤ lo ∧ lo ≤ 1000000) ∧ -1000000 ≤ n ∧ n ≤ 1000000) (Pv : Nat → L2.St → Hp → Prop) (h0 : Pv 0 σ H)
    (hs : ∀ (k : Nat) σ' H', lo + (k : Int) < n → Pv k σ' H' → g (.int (lo + (k : Int))) σ' H' fun σ2 H2 => tb { D with nx := Pv (k + 1), ct := Pv (k + 1), bk := D.nx } σ2 H2) (hd : ∀ σ' H', Pv (n - lo).toNat σ' H' → D.nx σ' H') :
    ∃ i j : Int, [V.int lo, V.int n] = [.int i, .int j] ∧ (-(2 ^ 62) ≤ i ∧ i < 2 ^ 62 ∧ -(2 ^ 62) ≤ j ∧ j < 2 ^ 62) ∧ LoopR i (j - i).toNat g tb D σ H := by
  refine ⟨lo, n, rfl, ⟨by omega, by omega, by omega, by omega⟩, for_range (lo := lo) (n := (n - lo).toNat) Pv h0 (fun i σ' H' hi p => hs i σ' H' (by omega) p) hd⟩
theorem rd_bm {K : PySem.W.Frag} {T : String} {r : V → List V → Hp → VK → Prop} {to : TE} {t : TA} {σ : L2.St} {H : Hp} {Q : VK} (q : to σ H fun x H1 => tyV K T x H1 ∧ t σ H1 fun xs H2 => r x xs H2 Q) : tBM K T r to t σ H Q := q
theorem rd_bm0 {K : PySem.W.Frag} {T : String} {r : V → List V → Hp → VK → Prop} {to : TE} {σ : L2.St} {H : Hp} {Q : VK} (q : to σ H fun x H1 => tyV K T x H1 ∧ r x [] H1 Q) : tBM0 K T r to σ H Q := q
theorem ty_list {K : PySem.W.Frag} {H : Hp} {l : Addr} {xs : List V} (h : SqL K H l xs) : tyV K "list" (.ref l) H := .inl ⟨rfl, _, h⟩
theorem rd_append {H : Hp} {l : Addr} {xs : List V} {y : V} {Q : VK} (h : H l = some (.lst xs)) (hz : xs.length < 100000) (q : Q .non (upd H l (.lst (xs ++ [y])))) : rAppend (.ref l) [y] H Q := ⟨l, xs, y, rfl, rfl, h, szlt hz, q⟩
theorem rd_gTup2 {K : PySem.W.Frag} {i j : Nat} {a : Addr} {x y : V} {σ : L2.St} {H : Hp} {Q : L2.St → Hp → Prop} (h : SqT K H a [x, y]) (q : Q ((σ.set i (some x)).set j (some y)) H) : gTup K 2 (gCons (gName i) (gCons (gName j) gNil)) (.ref a) σ H Q :=
  ⟨a, [x, y], rfl, h, rfl, x, [y], rfl, y, [], rfl, rfl, q⟩
theorem same_sq {K : PySem.W.Frag} {H H' : Hp} {a : Addr} {xs : List V} (e : Same H H') (h : SqL K H a xs) : SqL K H' a xs := e.seq h
theorem upd_keep {H : Hp} {a b : Addr} {o u : HO} (h : H a = some o) (n : H b = none) : upd H b u a = some o := by rw [upd_ne (ne_of_none h n)]; exact h
/-! ## the law's cells -/
def spCell (K : PySem.W.Frag) : Sp := fun vs H Q _ => ∃ (l : Addr) (ns : List Int) (k : Int), vs = [.ref l, .int k] ∧ 0 ≤ k ∧ SqL K H l (IL ns) ∧ Q (.int (cell ns k.toNat)) H
theorem rd_cell {K : PySem.W.Frag} {l : Addr} {ns : List Int} {k : Int} {H : Hp} {Q : VK} {E : XK} (h0 : 0 ≤ k) (h : SqL K H l (IL ns)) (q : Q (.int (cell ns k.toNat)) H) : spCell K ([V.ref l, V.int k] ++ []) H Q E := ⟨l, ns, k, rfl, h0, h, q⟩
theorem rd_isi {K : PySem.W.Frag} {H : Hp} {x : V} {t n : String} {b : Bool} {Q : VK} (ty : TyX K H x (.type t)) (e : kitB t n = some b) (q : Q (.bl b) H) : rIsi K [x, .ty n] H Q := ⟨x, .ty n, _, _, b, rfl, .ty _, ty, kit_ty e, q⟩
theorem ty_lst {K : PySem.W.Frag} {H : Hp} {a : Addr} {xs : List V} (h : H a = some (.lst xs)) : TyX K H (.ref a) (.type "list") := .base (.lst h)
theorem ty_tup {K : PySem.W.Frag} {H : Hp} {a : Addr} {xs : List V} (h : H a = some (.tup xs)) : TyX K H (.ref a) (.type "tuple") := .base (.tup h)
theorem emod_b {x n : Int} (h : 0 < n) : 0 ≤ x % n ∧ x % n < n := ⟨Int.emod_nonneg _ (by omega), Int.emod_lt_of_pos _ h⟩
theorem IL_snoc (zs : List Int) (z : Int) : IL zs ++ [V.int z] = IL (zs ++ [z]) := by simp [IL]
theorem upd_snoc {H : Hp} {L : Addr} {o : HO} {zs : List Int} {z : Int} : upd (upd H L o) L (.lst (IL zs ++ [V.int z])) = upd H L (.lst (IL (zs ++ [z]))) := by rw [upd_upd, IL_snoc]
theorem len_snoc {α : Type} {zs : List α} {z : α} {i : Nat} (h : zs.length = i) : (zs ++ [z]).length = i + 1 := by rw [List.length_append, h]; rfl
/-! ## what stands over a change -/
theorem Same.mut {H H' : Hp} {p : Addr} {o : HO} (e : Same H H') (h : H p = none) : Same H (upd H' p o) := fun a u ha => by
  rw [upd_ne (ne_of_none ha h)]
  exact e a u ha
theorem SqT.upd {K : PySem.W.Frag} {H : Hp} {D t : Addr} {ys xs : List V} {o : HO} (hD : H D = some (.lst ys)) (h : SqT K H t xs) : SqT K (upd H D o) t xs := by
  rcases h with (h | ⟨u, h⟩) | h
  · exact .inl (.inl (by rw [upd_ne (ne_of h hD (by intro z; cases z))]; exact h))
  · exact .inl (.inr ⟨u, by rw [upd_ne (ne_of h hD (by intro z; cases z))]; exact h⟩)
  · exact .inr h
theorem SqL.upd {K : PySem.W.Frag} {H : Hp} {D t : Addr} {xs : List V} {o : HO} (hD : t ≠ D) (h : SqL K H t xs) : SqL K (upd H D o) t xs := by
  rcases h with (h | ⟨u, h⟩) | h
  · exact .inl (.inl (by rw [upd_ne hD]; exact h))
  · exact .inl (.inr ⟨u, by rw [upd_ne hD]; exact h⟩)
  · exact .inr h
theorem rd_lc {wi : TI} {g : TG} {tt : TT} {te : TE} {vs : List Nat} {σ : L2.St} {H : Hp} {Q : VK} (q : wi σ H fun J H1 => ∀ D, H1 D = none → ∃ W : Nat → Nat → Hp → Prop, (∃ m, W 0 m (upd H1 D (.lst []))) ∧ ∀ i m H, W i m H →
  (J.stop i H ∧ Q (.ref D) H) ∨ (J.go i H ∧ ∃ Nx : Hp → Prop, (∀ H', Nx H' → ∃ m', m' < m ∧ W (i + 1) m' H') ∧ ∀ x H', J.yld i H x H' → g x (wipe σ vs) H' fun σ2 H2 => wipe σ2 vs = wipe σ vs ∧ tt σ2 H2 fun b H3 =>
    if b = true then te σ2 H3 fun y H4 => ∃ acc, H4 D = some (.lst acc) ∧ acc.length < sizeLine ∧ Nx (upd H4 D (.lst (acc ++ [y]))) else Nx H3)) : tLc wi g tt te vs σ H Q := q
theorem rd_tYes {σ : L2.St} {H : Hp} {Q : Bool → Hp → Prop} (q : Q true H) : tYes σ H Q := q
theorem rd_isN {x : V} {H : Hp} {Q : VK} (q : Q (.bl (decide (x = .non))) H) : rIsN x .non H Q := ⟨rfl, q⟩
theorem rd_notN {x : V} {H : Hp} {Q : VK} (q : Q (.bl (!decide (x = .non))) H) : rNotN x .non H Q := ⟨rfl, q⟩
theorem rd_chain {r r' : R2} {ta tb tc : TE} {σ : L2.St} {H : Hp} {Q : VK} (q : ta σ H fun x H1 => tb σ H1 fun y H2 => r x y H2 fun z H3 => ∃ k, z = .bl k ∧ (if k = true then tc σ H3 fun w' H4 => r' y w' H4 Q else Q (.bl false) H3)) : tChain r r' ta tb tc σ H Q := q
theorem iteNT {A B : Prop} (h : B) : if (!true) = true then A else B := iteF h
theorem iteNF {A B : Prop} (h : A) : if (!false) = true then A else B := iteT h
/-- what a while asks: a word with its measure -/
theorem rd_while {c : TT} {tb : TS} {D : Ends} {σ : L2.St} {H : Hp} (W : Nat → L2.St → Hp → Prop) (m : Nat) (h0 : W m σ H)
    (hs : ∀ m σ H, W m σ H → ∀ N : L2.St → Hp → Prop, (∀ m' σ' H', m' < m → W m' σ' H' → N σ' H') → c σ H fun b H1 => if b = true then tb { D with nx := N, ct := N, bk := D.nx } σ H1 else D.nx σ H1)
    (mono : ∀ σ H Q Q', (∀ b H1, Q b H1 → Q' b H1) → c σ H Q → c σ H Q') : tWhile c tb D σ H := by
  refine ⟨W, ⟨m, h0⟩, fun m σ H w => ?_⟩
  refine mono σ H _ _ (fun b H1 q => ?_) (hs m σ H w (fun σ' H' => ∃ m', m' < m ∧ W m' σ' H') (fun m' σ' H' h w' => ⟨m', h, w'⟩))
  cases b with
  | true => exact iteT ⟨_, fun σ' H' n => n, q⟩
  | false => exact q
/-! ## storing at an index -/
theorem rd_gSub {to ti : TE} {t : TSet} {v : V} {σ : L2.St} {H : Hp} {Q : L2.St → Hp → Prop} (q : to σ H fun o H1 => ti σ H1 fun i H2 => t o i v H2 fun H3 => Q σ H3) : gSub to ti t v σ H Q := q
theorem rd_setL {H : Hp} {p : Addr} {xs : List V} {i : Nat} {v : V} {Q : Hp → Prop} (h : H p = some (.lst xs)) (hi : i < xs.length) (q : Q (upd H p (.lst (xs.set i v)))) : rSetL (.ref p) (.int (i : Int)) v H Q :=
  ⟨p, xs, (i : Int), i, rfl, rfl, h, by unfold ixN; rw [if_pos (by omega), if_pos (by omega)]; rfl, q⟩
theorem rd_aug {i : Nat} {te : TE} {ti : TIp} {D : Ends} {σ : L2.St} {H : Hp} {x : V} (h : σ[i]? = some (some x)) (q : te σ H fun y H1 => ti x y H1 fun z H2 => D.nx (σ.set i (some z)) H2) : tAug i te ti D σ H := ⟨x, h, q⟩
theorem rd_ipI {f : Int → Int → Int} {i j : Int} {H : Hp} {Q : VK} (q : Q (.int (f i j)) H) : ipI f (.int i) (.int j) H Q := ⟨i, j, rfl, rfl, q⟩

/-! ## the rules with K said -/
section
variable {X : Cx} {K : PySem.W.Frag}
theorem ix_listK (h : X.K = K) : IxR X (rIxL K) := by subst h; exact ix_list
theorem ix_tupK (h : X.K = K) : IxR X (rIxT K) := by subst h; exact ix_tup
theorem call_isiK0 (h : X.K = K) : CallR X (.builtin "isinstance") (rIsi K) := by subst h; exact call_isi
def rLenK (K : PySem.W.Frag) : List V → Hp → VK → Prop := fun xs H Q => ∃ p ys, xs = [.ref p] ∧ (SqL K H p ys ∨ SqT K H p ys) ∧ Q (.int ys.length) H
theorem call_lenK (h : X.K = K) : CallR X (.builtin "len") (rLenK K) := by subst h; exact call_len_seq
def rListK (K : PySem.W.Frag) : List V → Hp → VK → Prop := fun xs H Q => ∃ p ys, xs = [.ref p] ∧ (SqL K H p ys ∨ SqT K H p ys) ∧ ∀ l, H l = none → Q (.ref l) (upd H l (.lst ys))
theorem call_listK (h : X.K = K) : CallR X (.type "list") (rListK K) := by subst h; exact call_list_of
theorem op_eqDK (h : X.K = K) (hu : X.A.units + 64 < cLine) : OpR X (compareOp .Eq) (rEqD K) := by subst h; exact op_eqD hu
theorem op_neDK (h : X.K = K) (hu : X.A.units + 64 < cLine) : OpR X (compareOp .NotEq) (rNeD K) := by subst h; exact op_neD hu
theorem sl_listK (h : X.K = K) : SlR X (rSlL K) := by subst h; exact sl_list
theorem cr_allK (h : X.K = K) (hc : X.calm = true) : CallR X (.builtin "all") (rAll K) := by subst h; exact cr_all hc
theorem cr_anyK (h : X.K = K) (hc : X.calm = true) : CallR X (.builtin "any") (rAny K) := by subst h; exact cr_any hc
theorem cr_minK (h : X.K = K) (hc : X.calm = true) : CallR X (.builtin "min") (rMin K) := by subst h; exact cr_min hc
theorem op_ltTK (h : X.K = K) (hu : X.A.units < cLine) : OpR X (compareOp .Lt) (rLtT K) := by subst h; exact op_ltT hu
theorem op_inK (h : X.K = K) : OpR X (compareOp .In) (rIn K false) := by subst h; exact op_in_seq
theorem pi_listK {tg l : Expr} {tl : TE} (h : X.K = K) (hl : PE X l tl) : PI X tg l (iList K tl) := by subst h; exact pi_list hl
theorem pi_tupK {tg l : Expr} {tl : TE} (h : X.K = K) (hl : PE X l tl) : PI X tg l (iTup K tl) := by subst h; exact pi_tup hl
theorem pg_tupK {es : List Expr} {k : Nat} {t : TGs} {n : Nat} {pos : Pos} (h : X.K = K) (hc : X.calm = true) (hg : PGs X es t)
    (hn : (assignEach es X.env).length = n := by rfl) (hst : (assignEach es X.env).findIdx? (·.1) = none := by rfl) : PG X (.Tuple es k pos) (gTup K n t) := by subst h; exact pg_tup hc hg hn hst
section
variable {o e : Expr} {es : List Expr} {to : TE} {t : TA} {name : Str} {apos cpos : Pos} {T id : String} {r : V → List V → Hp → VK → Prop}
theorem pe_bm0K (h : X.K = K) (pa : PlainAttrs T) (slot : Slot T name id) (hty : typeOf (.builtin id) = pure (.type "method_descriptor")) (hm : MtR X id r) (ho : PE X o to)
    (hbase : attributeBase o name X.env (eval o X.env) = eval o X.env := by rfl) (hline : (apos.endLine == cpos.line) = true := by rfl) : PE X (.Call (.Attribute o name apos) [] [] cpos) (tBM0 K T r to) := by
  subst h; exact pe_bm0 pa slot hty hm ho hbase hline
theorem pe_bmK (h : X.K = K) (pa : PlainAttrs T) (slot : Slot T name id) (hty : typeOf (.builtin id) = pure (.type "method_descriptor")) (hm : MtR X id r) (ho : PE X o to) (ha : PA X (e :: es) t)
    (hbase : attributeBase o name X.env (eval o X.env) = eval o X.env := by rfl)
    (hfew : ((backTo cpos (starEach (e :: es) X.env)).all (fun x => !x.1) && (backToKw cpos (keywordEach [] X.env)).all (fun x => x.1.isSome)
      && decide ((e :: es).length + ([] : List Keyword).length + (if ([] : List Keyword).isEmpty then 0 else 1) < 30)) = true := by rfl)
    (hline : (apos.endLine == cpos.line) = true := by rfl) (hs : starEach (e :: es) X.env = (false, eval e X.env) :: starEach es X.env := by rfl) (hplain : (backTo cpos (starEach es X.env)).any (·.1) = false := by rfl) :
    PE X (.Call (.Attribute o name apos) (e :: es) [] cpos) (tBM K T r to t) := by
  subst h; exact pe_bm pa slot hty hm ho ha hbase hfew hline hs hplain
end
end
def rMin2 : List V → Hp → VK → Prop := fun xs H Q => ∃ i j, xs = [.int i, .int j] ∧ Q (.int (if j < i then j else i)) H
def rMax2 : List V → Hp → VK → Prop := fun xs H Q => ∃ i j, xs = [.int i, .int j] ∧ Q (.int (if j > i then j else i)) H
theorem call_min2K {X : Cx} (hc : X.calm = true) : CallR X (.builtin "min") rMin2 := call_min2 hc
theorem call_max2K {X : Cx} (hc : X.calm = true) : CallR X (.builtin "max") rMax2 := call_max2 hc
theorem rd_min2 {a b : Nat} {H : Hp} {Q : VK} (q : Q (.int ((min a b : Nat) : Int)) H) : rMin2 [.int (a : Int), .int (b : Int)] H Q := by
  refine ⟨_, _, rfl, ?_⟩
  have m1 : ((min a b : Nat) : Int) = if (b : Int) < (a : Int) then (b : Int) else (a : Int) := by split <;> omega
  rw [m1] at q
  exact q
theorem rd_max2 {a b : Nat} {H : Hp} {Q : VK} (q : Q (.int ((max a b : Nat) : Int)) H) : rMax2 [.int (a : Int), .int (b : Int)] H Q := by
  refine ⟨_, _, rfl, ?_⟩
  have m2 : ((max a b : Nat) : Int) = if (b : Int) > (a : Int) then (b : Int) else (a : Int) := by split <;> omega
  rw [m2] at q
  exact q
def rAbs : List V → Hp → VK → Prop := fun xs H Q => ∃ i, xs = [.int i] ∧ Q (.int (if i < 0 then -i else i)) H
theorem call_absK {X : Cx} : CallR X (.builtin "abs") rAbs := call_abs
theorem rd_abs {i : Int} {H : Hp} {Q : VK} (q : Q (.int (i.natAbs : Int)) H) : rAbs [.int i] H Q := by
  refine ⟨i, rfl, ?_⟩
  have : ((i.natAbs : Nat) : Int) = if i < 0 then -i else i := by split <;> omega
  rw [this] at q
  exact q

/-! ## comprehensions -/
theorem rd_len {K : PySem.W.Frag} {H : Hp} {a : Addr} {xs : List V} {Q : VK} (h : SqL K H a xs) (q : Q (.int xs.length) H) : rLenK K [.ref a] H Q := ⟨a, xs, rfl, .inl h, q⟩
theorem rd_lenT {K : PySem.W.Frag} {H : Hp} {a : Addr} {xs : List V} {Q : VK} (h : SqT K H a xs) (q : Q (.int xs.length) H) : rLenK K [.ref a] H Q := ⟨a, xs, rfl, .inr h, q⟩
theorem rd_list {K : PySem.W.Frag} {H : Hp} {a : Addr} {xs : List V} {Q : VK} (h : SqL K H a xs) (q : ∀ l, H l = none → Q (.ref l) (upd H l (.lst xs))) : rListK K [.ref a] H Q := ⟨a, xs, rfl, .inl h, q⟩
/-- what a comprehension over a list, over a range asks of its block -/
abbrev CompO (J : It) (g : TG) (tt : TT) (te : TE) (vs : List Nat) (σ : L2.St) (H1 : Hp) (D : Addr) (Qd : Hp → Prop) : Prop :=
  ∃ W : Nat → Nat → Hp → Prop, (∃ m, W 0 m (upd H1 D (.lst []))) ∧ ∀ i m H, W i m H →
    (J.stop i H ∧ Qd H) ∨ (J.go i H ∧ ∃ Nx : Hp → Prop, (∀ H', Nx H' → ∃ m', m' < m ∧ W (i + 1) m' H') ∧ ∀ x H', J.yld i H x H' → g x (wipe σ vs) H' fun σ2 H2 => wipe σ2 vs = wipe σ vs ∧ tt σ2 H2 fun b H3 =>
      if b = true then te σ2 H3 fun y H4 => ∃ acc, H4 D = some (.lst acc) ∧ acc.length < sizeLine ∧ Nx (upd H4 D (.lst (acc ++ [y]))) else Nx H3)
theorem filter_range_succ {p : Nat → Bool} {i : Nat} : (List.range (i + 1)).filter p = (List.range i).filter p ++ (if p i = true then [i] else []) := by
  rw [List.range_succ, List.filter_append]
  congr 1
  by_cases h : p i = true <;> simp [h]
theorem filter_len {α : Type} (p : α → Bool) (l : List α) : (l.filter p).length ≤ l.length := List.length_filter_le p l
theorem lc_rangeF {n : Nat} {D : Addr} {σ : L2.St} {vs : List Nat} {s : Nat} {tt : TT} {te : TE} {H1 : Hp} {Qd : Hp → Prop} (p : Nat → Bool) (f : Nat → V) (nD : H1 D = none) (hlen : n < 100000) (hw : ∀ v, wipe ((wipe σ vs).set s (some v)) vs = wipe σ vs)
    (ht : ∀ (i : Nat) H' (R : Bool → Hp → Prop), i < n → Same H1 H' → (∀ H'', Same H' H'' → R (p i) H'') → tt ((wipe σ vs).set s (some (.int (i : Int)))) H' R)
    (he : ∀ (i : Nat) H' (R : VK), i < n → p i = true → Same H1 H' → (∀ H'', Same H' H'' → R (f i) H'') → te ((wipe σ vs).set s (some (.int (i : Int)))) H' R)
    (hd : ∀ H', Same H1 H' → H' D = some (.lst (((List.range n).filter p).map f)) → Qd H') : CompO (Itr 0 n) (gName s) tt te vs σ H1 D Qd := by
  refine lc_range (lo := 0) (n := n) (fun i H' => Same H1 H' ∧ H' D = some (.lst (((List.range i).filter p).map f))) ⟨same_upd nD, upd_same⟩ (fun i H' hi ⟨s1, hD⟩ => ?_) (fun H' ⟨s1, hD⟩ => hd H' s1 hD)
  show wipe ((wipe σ vs).set s (some (.int (0 + (i : Int))))) vs = wipe σ vs ∧ _
  rw [show (0 : Int) + (i : Int) = (i : Int) by omega]
  refine ⟨hw _, ht i H' _ hi s1 fun H2 s2 => ?_⟩
  cases hp : p i with
  | true =>
    refine iteT ?_
    refine he i H2 _ hi hp (s1.trans s2) fun H3 s3 => ?_
    refine ⟨_, s3 _ _ (s2 _ _ hD), ?_, Same.mut ((s1.trans s2).trans s3) nD, ?_⟩
    · have := filter_len p (List.range i)
      rw [List.length_map]
      rw [List.length_range] at this
      exact szlt (by omega)
    · rw [upd_same, filter_range_succ, hp, if_pos rfl, List.map_append]
      rfl
  | false =>
    refine iteF ?_
    refine ⟨s1.trans s2, ?_⟩
    rw [s2 _ _ hD, filter_range_succ, hp, if_neg (by decide), List.append_nil]
theorem lc_rangeM {n : Nat} {D : Addr} {σ : L2.St} {vs : List Nat} {s : Nat} {te : TE} {H1 : Hp} {Qd : Hp → Prop} (f : Nat → V) (nD : H1 D = none) (hlen : n < 100000) (hw : ∀ v, wipe ((wipe σ vs).set s (some v)) vs = wipe σ vs)
    (he : ∀ (i : Nat) H' (R : VK), i < n → Same H1 H' → (∀ H'', Same H' H'' → R (f i) H'') → te ((wipe σ vs).set s (some (.int (i : Int)))) H' R)
    (hd : ∀ H', Same H1 H' → H' D = some (.lst ((List.range n).map f)) → Qd H') : CompO (Itr 0 n) (gName s) tYes te vs σ H1 D Qd :=
  lc_rangeF (fun _ => true) f nD hlen hw (fun i H' R _ _ q => q H' (Same.refl _)) (fun i H' R hi _ s1 q => he i H' R hi s1 q) (fun H' s1 h => hd H' s1 (by rw [h, List.filter_eq_self.mpr (fun _ _ => rfl)]))
theorem take_filter_succ {α : Type} {p : α → Bool} {xs : List α} {i : Nat} {x : α} (h : xs[i]? = some x) : (xs.take (i + 1)).filter p = (xs.take i).filter p ++ (if p x = true then [x] else []) := by
  rw [List.take_add_one, h, List.filter_append]
  congr 1
  by_cases hp : p x = true <;> simp [hp]
/-- over a list: the target of any form stores at some slots; T: what it leaves -/
theorem lc_listG {K : PySem.W.Frag} {a D : Addr} {xs : List V} {g : TG} {σ : L2.St} {vs : List Nat} {tt : TT} {te : TE} {H1 : Hp} {Qd : Hp → Prop} (T : V → L2.St) (p : V → Bool) (f : V → V) (hL : SqL K H1 a xs) (nD : H1 D = none) (hlen : xs.length < 100000)
    (hg : ∀ x H' (R : L2.St → Hp → Prop), x ∈ xs → Same H1 H' → R (T x) H' → g x (wipe σ vs) H' R) (hw : ∀ x ∈ xs, wipe (T x) vs = wipe σ vs)
    (ht : ∀ x H' (R : Bool → Hp → Prop), x ∈ xs → Same H1 H' → (∀ H'', Same H' H'' → R (p x) H'') → tt (T x) H' R)
    (he : ∀ x H' (R : VK), x ∈ xs → p x = true → Same H1 H' → (∀ H'', Same H' H'' → R (f x) H'') → te (T x) H' R)
    (hd : ∀ H', Same H1 H' → H' D = some (.lst ((xs.filter p).map f)) → Qd H') : CompO (Itl K a) g tt te vs σ H1 D Qd := by
  refine lc_list (K := K) (a := a) (xs := xs) (fun i H' => Same H1 H' ∧ H' D = some (.lst (((xs.take i).filter p).map f))) ⟨same_upd nD, upd_same⟩ (fun i H' _ ⟨s1, _⟩ => s1.seq hL) (fun i x H' hx ⟨s1, hD⟩ => ?_) (fun H' ⟨s1, hD⟩ => hd H' s1 (by rw [hD, List.take_length]))
  have hm := List.mem_of_getElem? hx
  refine hg x H' _ hm s1 ⟨hw x hm, ht x H' _ hm s1 fun H2 s2 => ?_⟩
  have hi : i < xs.length := (List.getElem?_eq_some_iff.mp hx).1
  cases hp : p x with
  | true =>
    refine iteT ?_
    refine he x H2 _ hm hp (s1.trans s2) fun H3 s3 => ?_
    refine ⟨_, s3 _ _ (s2 _ _ hD), ?_, Same.mut ((s1.trans s2).trans s3) nD, ?_⟩
    · have := filter_len p (xs.take i)
      rw [List.length_map]
      rw [List.length_take] at this
      exact szlt (by omega)
    · rw [upd_same, take_filter_succ hx, hp, if_pos rfl, List.map_append]
      rfl
  | false =>
    refine iteF ?_
    refine ⟨s1.trans s2, ?_⟩
    rw [s2 _ _ hD, take_filter_succ hx, hp, if_neg (by decide), List.append_nil]
theorem lc_listM {K : PySem.W.Frag} {a D : Addr} {xs : List V} {s : Nat} {σ : L2.St} {vs : List Nat} {te : TE} {H1 : Hp} {Qd : Hp → Prop} (f : V → V) (hL : SqL K H1 a xs) (nD : H1 D = none) (hlen : xs.length < 100000)
    (hw : ∀ v, wipe ((wipe σ vs).set s (some v)) vs = wipe σ vs)
    (he : ∀ x H' (R : VK), x ∈ xs → Same H1 H' → (∀ H'', Same H' H'' → R (f x) H'') → te ((wipe σ vs).set s (some x)) H' R)
    (hd : ∀ H', Same H1 H' → H' D = some (.lst (xs.map f)) → Qd H') : CompO (Itl K a) (gName s) tYes te vs σ H1 D Qd :=
  lc_listG (fun x => (wipe σ vs).set s (some x)) (fun _ => true) f hL nD hlen (fun x H' R _ _ q => q) (fun x _ => hw x) (fun x H' R _ _ q => q H' (Same.refl _)) (fun x H' R hx _ s1 q => he x H' R hx s1 q)
    (fun H' s1 h => hd H' s1 (by rw [h, List.filter_eq_self.mpr (fun _ _ => rfl)]))
theorem IL_mapR (n : Nat) (f : Nat → Int) : (List.range n).map (fun i => V.int (f i)) = IL ((List.range n).map f) := by rw [IL, List.map_map]; rfl
theorem IL_mapL (xs : List Int) (f : V → V) (h : Int → Int) (e : ∀ x, f (.int x) = .int (h x)) : (IL xs).map f = IL (xs.map h) := by
  rw [IL, IL, List.map_map, List.map_map]
  exact List.map_congr_left fun x _ => e x
theorem lc_range2M {lo : Int} {n : Nat} {D : Addr} {σ : L2.St} {vs : List Nat} {s : Nat} {te : TE} {H1 : Hp} {Qd : Hp → Prop} (f : Nat → V) (nD : H1 D = none) (hlen : n < 100000) (hw : ∀ v, wipe ((wipe σ vs).set s (some v)) vs = wipe σ vs)
    (he : ∀ (i : Nat) H' (R : VK), i < n → Same H1 H' → (∀ H'', Same H' H'' → R (f i) H'') → te ((wipe σ vs).set s (some (.int (lo + (i : Int))))) H' R)
    (hd : ∀ H', Same H1 H' → H' D = some (.lst ((List.range n).map f)) → Qd H') : CompO (Itr lo n) (gName s) tYes te vs σ H1 D Qd := by
  refine lc_range (lo := lo) (n := n) (fun i H' => Same H1 H' ∧ H' D = some (.lst ((List.range i).map f))) ⟨same_upd nD, upd_same⟩ (fun i H' hi ⟨s1, hD⟩ => ?_) (fun H' ⟨s1, hD⟩ => hd H' s1 hD)
  refine ⟨hw _, ?_⟩
  refine rd_tYes ?_
  refine iteT ?_
  refine he i H' _ hi s1 fun H3 s3 => ?_
  refine ⟨_, s3 _ _ hD, ?_, Same.mut (s1.trans s3) nD, ?_⟩
  · rw [List.length_map, List.length_range]
    exact szlt (by omega)
  · rw [upd_same, List.range_succ, List.map_append]
    rfl

/-! ## zip, slices, all -/
theorem for_zipS {K : PySem.W.Frag} {a b : Addr} {xs ys : List V} {g : TG} {tb : TS} {D : Ends} {σ : L2.St} {H : Hp} (hl : ys.length ≤ xs.length) (Pv : Nat → L2.St → Hp → Prop) (h0 : Pv 0 σ H) (hq : ∀ i σ H, Pv i σ H → SqL K H a xs ∧ SqL K H b ys)
    (hs : ∀ (i : Nat) (x y : V) (T : Addr) (σ : L2.St) (H : Hp), xs[i]? = some x → ys[i]? = some y → Pv i σ H → H T = none → g (.ref T) σ (upd H T (.tup [x, y])) fun σ2 H2 => tb { D with nx := Pv (i + 1), ct := Pv (i + 1), bk := D.nx } σ2 H2) (hd : ∀ σ H, Pv ys.length σ H → D.nx σ H) :
    ∃ W : Nat → Nat → L2.St → Hp → Prop, (∃ m, W 0 m σ H) ∧ ∀ i m σ H, W i m σ H →
      ((Itz K a b).stop i H ∧ D.nx σ H) ∨ ((Itz K a b).go i H ∧ ∃ N : L2.St → Hp → Prop, (∀ σ' H', N σ' H' → ∃ m', m' < m ∧ W (i + 1) m' σ' H') ∧ ∀ v H', (Itz K a b).yld i H v H' → g v σ H' fun σ2 H2 => tb { D with nx := N, ct := N, bk := D.nx } σ2 H2) := by
  refine ⟨fun i m σ H => m = ys.length - i ∧ i ≤ ys.length ∧ Pv i σ H, ⟨ys.length, rfl, Nat.zero_le _, h0⟩, ?_⟩
  rintro i m σ H ⟨rfl, hi, p⟩
  obtain ⟨qx, qy⟩ := hq i σ H p
  by_cases hlt : i < ys.length
  · have hlt2 : i < xs.length := by omega
    have hx : xs[i]? = some xs[i] := List.getElem?_eq_getElem hlt2
    have hy : ys[i]? = some ys[i] := List.getElem?_eq_getElem hlt
    refine .inr ⟨⟨xs, ys, _, _, qx, qy, hx, hy⟩, Pv (i + 1), fun σ' H' p' => ⟨ys.length - (i + 1), by omega, rfl, hlt, p'⟩, fun v H' y => ?_⟩
    obtain ⟨T, x', y', rfl, hT, rfl, f1, f2⟩ := y
    exact hs i x' y' T σ H (f1 xs qx) (f2 ys qy) p hT
  · have e : i = ys.length := by omega
    subst e
    exact .inl ⟨⟨xs, ys, qx, qy, Or.inr (Nat.le_refl _)⟩, hd σ H p⟩
theorem cut1 (xs : List V) : cutV xs (some 1) none = xs.drop 1 := by
  unfold cutV
  rw [show HT.sIx xs.length 0 (some 1) = min 1 xs.length from HT.sIx_nat xs.length 0 1, HT.sIx_none]
  cases xs with
  | nil => rfl
  | cons x r =>
    rw [show min 1 (x :: r).length = 1 by
      rw [List.length_cons]
      omega]
    show (List.take ((x :: r).length - 1) r) = r
    rw [List.length_cons, Nat.add_sub_cancel]
    exact List.take_length
theorem cutL (xs : List V) (h : xs ≠ []) : cutV xs none (some (-1)) = xs.dropLast := by
  unfold cutV
  rw [HT.sIx_none]
  have : 0 < xs.length := List.length_pos_iff.mpr h
  have e : HT.sIx xs.length xs.length (some (-1)) = xs.length - 1 := by
    unfold HT.sIx
    simp only
    rw [if_pos (by decide)]
    omega
  rw [e, List.drop_zero, Nat.sub_zero, List.dropLast_eq_take]
theorem rd_sl {K : PySem.W.Frag} {te : TE} {tl th : TO} {σ : L2.St} {H : Hp} {Q : VK} (q : te σ H fun x H1 => tl σ H1 fun l H2 => th σ H2 fun u H3 => rSlL K x l u H3 Q) : tSl (rSlL K) te tl th σ H Q := q
theorem rd_noPart {σ : L2.St} {H : Hp} {Q : Option Int → Hp → Prop} (q : Q none H) : tNoPart σ H Q := q
theorem rd_part {t : TE} {σ : L2.St} {H : Hp} {Q : Option Int → Hp → Prop} (q : t σ H fun x H1 => ∃ i, x = .int i ∧ Q (some i) H1) : tPart t σ H Q := q
theorem rd_cut0 {K : PySem.W.Frag} {a : Addr} {xs : List V} {lo hi : Option Int} {H : Hp} {Q : VK} (h : SqL K H a xs) (q : ∀ p, H p = none → Q (.ref p) (upd H p (.lst (cutV xs lo hi)))) : rSlL K (.ref a) lo hi H Q := ⟨a, xs, rfl, h, q⟩
theorem rd_allP {α : Type} {K : PySem.W.Frag} {H : Hp} {a : Addr} {Q : VK} {l : List α} {f : α → V} (p : α → Bool) (hf : ∀ x ∈ l, f x = .bl (p x)) (h : H a = some (.lst (l.map f))) (q : Q (.bl (l.all p)) H) : rAll K [.ref a] H Q := by
  refine ⟨a, l.map p, rfl, .of ?_, ?_⟩
  · rw [h, List.map_map]
    exact congrArg (fun z => some (HO.lst z)) (List.map_congr_left hf)
  · rw [List.all_map]
    exact q
theorem rd_anyP {α : Type} {K : PySem.W.Frag} {H : Hp} {a : Addr} {Q : VK} {l : List α} {f : α → V} (p : α → Bool) (hf : ∀ x ∈ l, f x = .bl (p x)) (h : H a = some (.lst (l.map f))) (q : Q (.bl (l.any p)) H) : rAny K [.ref a] H Q := by
  refine ⟨a, l.map p, rfl, .of ?_, ?_⟩
  · rw [h, List.map_map]
    exact congrArg (fun z => some (HO.lst z)) (List.map_congr_left hf)
  · rw [List.any_map]
    exact q
theorem pi_zipK {X : Cx} {K : PySem.W.Frag} {e e2 : Expr} {ta : TA} {p pos tpos : Pos} {elts : List Expr} {kk : Nat} (h : X.K = K) (hg : Gl X "zip") (hm : X.mg "zip" = none) (ha : PA X [e, e2] ta)
    (hs : starEach [e, e2] X.env = (false, eval e X.env) :: starEach [e2] X.env := by rfl) (hpl : (backTo pos (starEach [e2] X.env)).any (·.1) = false := by rfl) :
    PI X (.Tuple elts kk tpos) (.Call (.Name "zip" p) [e, e2] [] pos) (iZip K ta) := by subst h; exact pi_zip hg hm ha hs hpl
theorem rd_zip {K : PySem.W.Frag} {ta : TA} {σ : L2.St} {H : Hp} {R : It → Hp → Prop} (q : ta σ H fun vs H1 => ∃ a b xs ys, vs = [.ref a, .ref b] ∧ SqL K H1 a xs ∧ SqL K H1 b ys ∧ R (Itz K a b) H1) : iZip K ta σ H R := q
theorem rd_in1 {i : Int} {R : Int → Prop} (q : R i) : ∃ j, V.int i = .int j ∧ R j := ⟨i, rfl, q⟩

/-! ## a <= b < c < d as a test -/
def tChain3 (r r' r'' : R2) (ta tb tc td : TE) : TE := fun σ H Q => ta σ H fun x H1 => tb σ H1 fun y H2 => r x y H2 fun z H3 => ∃ k, z = .bl k ∧
  (if k = true then tc σ H3 fun u H4 => r' y u H4 fun z2 H5 => ∃ k2, z2 = .bl k2 ∧ (if k2 = true then td σ H5 fun u2 H6 => r'' u u2 H6 Q else Q (.bl false) H5) else Q (.bl false) H3)
theorem pt_chain3 {X : Cx} {a b c d : Expr} {ta tb tc td : TE} {pos : Pos} {op op' op'' : CmpOp} {r r' r'' : R2} (ho : OpR X (compareOp op) r) (ho' : OpR X (compareOp op') r') (ho'' : OpR X (compareOp op'') r'') (ha : PE X a ta) (hb : PE X b tb) (hc : PE X c tc) (hd : PE X d td)
    (hm : lastMarks [op, op', op''] [b, c, d] = false := by with_unfolding_all rfl) : PT X (.Compare a [op, op', op''] [b, c, d] pos) (tTest (tChain3 r r' r'' ta tb tc td)) := by
  refine ⟨fun pins s σ H Q I h => ?_⟩
  refine isTrue_chain (thn (ha.run pins s σ H _ I h) fun v s1 ⟨x, H1, I1, r1, q1⟩ => test_link (thn (hb.run pins s1 σ H1 _ I1 q1) fun u s2 ⟨y, H2, I2, r2, q2⟩ =>
    thn (ho pins s2 σ H2 x y v u _ I2 r1 r2 q2) fun d s3 ⟨z, H3, I3, r3, k, e, q3⟩ => ?_)) hm
  subst e
  cases r3
  refine wpAny_truthy_bool ?_
  cases k with
  | false =>
    obtain ⟨k', e', q'⟩ := q3
    cases e'
    exact ite_ff ⟨H3, I3, q'⟩
  | true =>
    refine ite_tt (test_link (thn (hc.run pins s3 σ H3 _ I3 q3) fun w' s4 ⟨z', H4, I4, r4, q4⟩ => thn (ho' pins s4 σ H4 y z' u w' _ I4 r2 r4 q4) fun d' s5 ⟨z2, H5, I5, r5, k2, e2, q5⟩ => ?_))
    subst e2
    cases r5
    refine wpAny_truthy_bool ?_
    cases k2 with
    | false =>
      obtain ⟨k', e', q'⟩ := q5
      cases e'
      exact ite_ff ⟨H5, I5, q'⟩
    | true =>
      refine ite_tt (test_last (thn (hd.run pins s5 σ H5 _ I5 q5) fun w2 s6 ⟨z6, H6, I6, r6, q6⟩ => thn (ho'' pins s6 σ H6 z' z6 w' w2 _ I6 r4 r6 q6) fun d3 s7 ⟨z7, H7, I7, r7, k7, e7, q7⟩ => ?_))
      subst e7
      cases r7
      exact wpAny_truthy_bool ⟨H7, I7, q7⟩
theorem rd_chain3 {r r' r'' : R2} {ta tb tc td : TE} {σ : L2.St} {H : Hp} {Q : VK} (q : ta σ H fun x H1 => tb σ H1 fun y H2 => r x y H2 fun z H3 => ∃ k, z = .bl k ∧
  (if k = true then tc σ H3 fun u H4 => r' y u H4 fun z2 H5 => ∃ k2, z2 = .bl k2 ∧ (if k2 = true then td σ H5 fun u2 H6 => r'' u u2 H6 Q else Q (.bl false) H5) else Q (.bl false) H3)) : tChain3 r r' r'' ta tb tc td σ H Q := q

/-! ## lists of ints, lists of pairs, compared -/
def dI (ns : List Int) : PyData := .list (ns.map PyData.int)
theorem depthAll_ints : ∀ ns : List Int, PyData.depthAll (ns.map PyData.int) ≤ 1
  | [] => by simp [PyData.depthAll]
  | n :: ns => by
    have ih := depthAll_ints ns
    simp only [List.map_cons, PyData.depthAll, PyData.depth]
    omega
theorem layAll_ints : ∀ ns : List Int, PyData.canLayAll0 (ns.map PyData.int) = true
  | [] => by simp [PyData.canLayAll0]
  | n :: ns => by
    have ih := layAll_ints ns
    simp [PyData.canLayAll0, PyData.canLay0, ih]
theorem shaped_dI (ns : List Int) : SeqAt.shaped (dI ns) = true := by
  have h := depthAll_ints ns
  have h2 := layAll_ints ns
  unfold SeqAt.shaped dI
  rw [Bool.and_eq_true]
  refine ⟨by simpa only [PyData.canLay0] using h2, decide_eq_true ?_⟩
  show PyData.depthAll (ns.map PyData.int) + 1 ≤ 64
  omega
theorem eqvAll_ints : ∀ xs ys : List Int, PyData.eqvAll (xs.map PyData.int) (ys.map PyData.int) = decide (xs = ys)
  | [], [] => by simp [PyData.eqvAll]
  | [], y :: ys => by simp [PyData.eqvAll]
  | x :: xs, [] => by simp [PyData.eqvAll]
  | x :: xs, y :: ys => by
    have ih := eqvAll_ints xs ys
    simp only [List.map_cons, PyData.eqvAll, PyData.eqv, ih]
    by_cases h : x = y <;> by_cases h2 : xs = ys <;> simp [h, h2]
theorem eqv_dI (xs ys : List Int) : PyData.eqv (dI xs) (dI ys) = decide (xs = ys) := by
  unfold dI
  rw [PyData.eqv]
  exact eqvAll_ints xs ys
theorem dpAll_ints {K : PySem.W.Frag} {H : Hp} : ∀ ns : List Int, DpAll K H (IL ns) (ns.map PyData.int)
  | [] => .nil
  | n :: ns => .cons (.int n) (dpAll_ints ns)
theorem dp_ints {K : PySem.W.Frag} {H : Hp} {a : Addr} {ns : List Int} (h : SqL K H a (IL ns)) : Dp K H (.ref a) (dI ns) := .lst h (dpAll_ints ns)
theorem rd_neI {K : PySem.W.Frag} {H : Hp} {a b : Addr} {xs ys : List Int} {Q : VK} (ha : SqL K H a (IL xs)) (hb : SqL K H b (IL ys)) (q : Q (.bl (!decide (xs = ys))) H) : rNeD K (.ref a) (.ref b) H Q :=
  ⟨_, _, dp_ints ha, dp_ints hb, shaped_dI _, shaped_dI _, by rw [eqv_dI]; exact q⟩
theorem rd_eqI {K : PySem.W.Frag} {H : Hp} {a b : Addr} {xs ys : List Int} {Q : VK} (ha : SqL K H a (IL xs)) (hb : SqL K H b (IL ys)) (q : Q (.bl (decide (xs = ys))) H) : rEqD K (.ref a) (.ref b) H Q :=
  ⟨_, _, dp_ints ha, dp_ints hb, shaped_dI _, shaped_dI _, by rw [eqv_dI]; exact q⟩
/-- a list of pairs of ints -/
def Prs (K : PySem.W.Frag) (H : Hp) (vs : List V) (ps : List (Int × Int)) : Prop := Paired (fun v p => ∃ t, v = V.ref t ∧ SqT K H t [.int p.1, .int p.2]) vs ps
def dpr (p : Int × Int) : PyData := .tuple [.int p.1, .int p.2]
def dP (ps : List (Int × Int)) : PyData := .list (ps.map dpr)
theorem Prs.mono {K : PySem.W.Frag} {H H' : Hp} {vs : List V} {ps : List (Int × Int)} (s : Same H H') (h : Prs K H vs ps) : Prs K H' vs ps := by
  unfold Prs at h ⊢
  exact Paired.mapP h fun v p ⟨t, e, q⟩ => ⟨t, e, Same.seqT s q⟩
theorem depthAll_prs : ∀ ps : List (Int × Int), PyData.depthAll (ps.map dpr) ≤ 3
  | [] => by simp [PyData.depthAll]
  | p :: ps => by
    have ih := depthAll_prs ps
    simp only [List.map_cons, PyData.depthAll, PyData.depth, dpr]
    omega
theorem layAll_prs : ∀ ps : List (Int × Int), PyData.canLayAll0 (ps.map dpr) = true
  | [] => by simp [PyData.canLayAll0]
  | p :: ps => by
    have ih := layAll_prs ps
    simp [PyData.canLayAll0, PyData.canLay0, dpr, ih]
theorem shaped_dP (ps : List (Int × Int)) : SeqAt.shaped (dP ps) = true := by
  have h := depthAll_prs ps
  have h2 := layAll_prs ps
  unfold SeqAt.shaped dP
  rw [Bool.and_eq_true]
  refine ⟨by simpa only [PyData.canLay0] using h2, decide_eq_true ?_⟩
  show PyData.depthAll (ps.map dpr) + 1 ≤ 64
  omega
theorem eqv_dpr (p q : Int × Int) : PyData.eqv (dpr p) (dpr q) = decide (p = q) := by
  obtain ⟨a, b⟩ := p
  obtain ⟨c, d⟩ := q
  unfold dpr
  simp only [PyData.eqv, PyData.eqvAll, Bool.and_true]
  by_cases h : a = c <;> by_cases h2 : b = d <;> simp [h, h2]
theorem eqvAll_prs : ∀ xs ys : List (Int × Int), PyData.eqvAll (xs.map dpr) (ys.map dpr) = decide (xs = ys)
  | [], [] => by simp [PyData.eqvAll]
  | [], y :: ys => by simp [PyData.eqvAll]
  | x :: xs, [] => by simp [PyData.eqvAll]
  | x :: xs, y :: ys => by
    have ih := eqvAll_prs xs ys
    simp only [List.map_cons, PyData.eqvAll, eqv_dpr, ih]
    by_cases h : x = y <;> by_cases h2 : xs = ys <;> simp [h, h2]
theorem eqv_dP (xs ys : List (Int × Int)) : PyData.eqv (dP xs) (dP ys) = decide (xs = ys) := by
  unfold dP
  rw [PyData.eqv]
  exact eqvAll_prs xs ys
theorem dp_pr {K : PySem.W.Frag} {H : Hp} {t : Addr} {p : Int × Int} (h : SqT K H t [.int p.1, .int p.2]) : Dp K H (.ref t) (dpr p) := .tup h (.cons (.int _) (.cons (.int _) .nil))
theorem dpAll_prs {K : PySem.W.Frag} {H : Hp} {vs : List V} {ps : List (Int × Int)} (h : Prs K H vs ps) : DpAll K H vs (ps.map dpr) := by
  unfold Prs at h
  induction h with
  | nil => exact .nil
  | cons r t ih =>
    obtain ⟨a, rfl, q⟩ := r
    exact .cons (dp_pr q) ih
theorem dp_prs {K : PySem.W.Frag} {H : Hp} {a : Addr} {vs : List V} {ps : List (Int × Int)} (h : SqL K H a vs) (hp : Prs K H vs ps) : Dp K H (.ref a) (dP ps) := .lst h (dpAll_prs hp)
theorem rd_neP {K : PySem.W.Frag} {H : Hp} {a b : Addr} {vs us : List V} {xs ys : List (Int × Int)} {Q : VK} (ha : SqL K H a vs) (pa : Prs K H vs xs) (hb : SqL K H b us) (pb : Prs K H us ys) (q : Q (.bl (!decide (xs = ys))) H) : rNeD K (.ref a) (.ref b) H Q :=
  ⟨_, _, dp_prs ha pa, dp_prs hb pb, shaped_dP _, shaped_dP _, by rw [eqv_dP]; exact q⟩
theorem rd_eqP {K : PySem.W.Frag} {H : Hp} {a b : Addr} {vs us : List V} {xs ys : List (Int × Int)} {Q : VK} (ha : SqL K H a vs) (pa : Prs K H vs xs) (hb : SqL K H b us) (pb : Prs K H us ys) (q : Q (.bl (decide (xs = ys))) H) : rEqD K (.ref a) (.ref b) H Q :=
  ⟨_, _, dp_prs ha pa, dp_prs hb pb, shaped_dP _, shaped_dP _, by rw [eqv_dP]; exact q⟩
theorem Prs.upd {K : PySem.W.Frag} {H : Hp} {D : Addr} {ys vs : List V} {o : HO} {ps : List (Int × Int)} (hD : H D = some (.lst ys)) (h : Prs K H vs ps) : Prs K (upd H D o) vs ps := by
  unfold Prs at h ⊢
  exact Paired.mapP h fun v p ⟨t, e, q⟩ => ⟨t, e, SqT.upd hD q⟩
theorem Prs.snoc {K : PySem.W.Frag} {H : Hp} {vs : List V} {ps : List (Int × Int)} {t : Addr} {p : Int × Int} (h : Prs K H vs ps) (ht : SqT K H t [.int p.1, .int p.2]) : Prs K H (vs ++ [.ref t]) (ps ++ [p]) :=
  Paired.snoc h ⟨t, rfl, ht⟩
theorem Prs.length {K : PySem.W.Frag} {H : Hp} {vs : List V} {ps : List (Int × Int)} (h : Prs K H vs ps) : vs.length = ps.length := Paired.length h

/-! ## pairs that are tracked -/
def PrsH (H : Hp) (vs : List V) (ps : List (Int × Int)) : Prop := Paired (fun v p => ∃ t, v = V.ref t ∧ H t = some (.tup [.int p.1, .int p.2])) vs ps
theorem PrsH.prs {K : PySem.W.Frag} {H : Hp} {vs : List V} {ps : List (Int × Int)} (h : PrsH H vs ps) : Prs K H vs ps := by
  unfold PrsH at h
  unfold Prs
  exact Paired.mapP h fun v p ⟨t, e, q⟩ => ⟨t, e, .of q⟩
theorem PrsH.mono {H H' : Hp} {vs : List V} {ps : List (Int × Int)} (s : Same H H') (h : PrsH H vs ps) : PrsH H' vs ps := by
  unfold PrsH at h ⊢
  exact Paired.mapP h fun v p ⟨t, e, q⟩ => ⟨t, e, s _ _ q⟩
theorem PrsH.upd {H : Hp} {D : Addr} {ys vs : List V} {o : HO} {ps : List (Int × Int)} (hD : H D = some (.lst ys)) (h : PrsH H vs ps) : PrsH (upd H D o) vs ps := by
  unfold PrsH at h ⊢
  exact Paired.mapP h fun v p ⟨t, e, q⟩ => ⟨t, e, by rw [upd_ne (ne_of q hD (by intro z; cases z))]; exact q⟩
theorem PrsH.snoc {H : Hp} {vs : List V} {ps : List (Int × Int)} {t : Addr} {p : Int × Int} (h : PrsH H vs ps) (ht : H t = some (.tup [.int p.1, .int p.2])) : PrsH H (vs ++ [.ref t]) (ps ++ [p]) := Paired.snoc h ⟨t, rfl, ht⟩
theorem Prs.get {K : PySem.W.Frag} {H : Hp} {vs : List V} {ps : List (Int × Int)} (h : Prs K H vs ps) : ∀ {i : Nat} {v : V}, vs[i]? = some v → ∃ t p, ps[i]? = some p ∧ v = .ref t ∧ SqT K H t [.int p.1, .int p.2] := by
  unfold Prs at h
  induction h with
  | nil => intro i v h; simp at h
  | cons r t ih =>
    intro i v hv
    cases i with
    | zero =>
      obtain ⟨a, rfl, q⟩ := r
      exact ⟨a, _, rfl, (Option.some.inj hv).symm, q⟩
    | succ i => exact ih hv
theorem PrsH.get {H : Hp} {vs : List V} {ps : List (Int × Int)} (h : PrsH H vs ps) : ∀ {i : Nat} {v : V}, vs[i]? = some v → ∃ t p, ps[i]? = some p ∧ v = .ref t ∧ H t = some (.tup [.int p.1, .int p.2]) := by
  unfold PrsH at h
  induction h with
  | nil => intro i v h; simp at h
  | cons r t ih =>
    intro i v hv
    cases i with
    | zero =>
      obtain ⟨a, rfl, q⟩ := r
      exact ⟨a, _, rfl, (Option.some.inj hv).symm, q⟩
    | succ i => exact ih hv
theorem PrsH.length {H : Hp} {vs : List V} {ps : List (Int × Int)} (h : PrsH H vs ps) : vs.length = ps.length := Paired.length h
theorem lc_rangeP {n : Nat} {D : Addr} {σ : L2.St} {vs : List Nat} {s : Nat} {te : TE} {H1 : Hp} {Qd : Hp → Prop} (f : Nat → Int × Int) (nD : H1 D = none) (hlen : n < 100000) (hw : ∀ v, wipe ((wipe σ vs).set s (some v)) vs = wipe σ vs)
    (he : ∀ (i : Nat) H' (R : VK), i < n → Same H1 H' → (∀ t, H' t = none → R (.ref t) (L2.upd H' t (.tup [.int (f i).1, .int (f i).2]))) → te ((wipe σ vs).set s (some (.int (i : Int)))) H' R)
    (hd : ∀ H' ys, Same H1 H' → H' D = some (.lst ys) → PrsH H' ys ((List.range n).map f) → Qd H') : CompO (Itr 0 n) (gName s) tYes te vs σ H1 D Qd := by
  refine lc_range (lo := 0) (n := n) (fun i H' => Same H1 H' ∧ ∃ ys, H' D = some (.lst ys) ∧ PrsH H' ys ((List.range i).map f)) ⟨same_upd nD, [], upd_same, .nil⟩ (fun i H' hi ⟨s1, ys, hD, hp⟩ => ?_) (fun H' ⟨s1, ys, hD, hp⟩ => hd H' ys s1 hD hp)
  show wipe ((wipe σ vs).set s (some (.int (0 + (i : Int))))) vs = wipe σ vs ∧ _
  rw [show (0 : Int) + (i : Int) = (i : Int) by omega]
  refine ⟨hw _, ?_⟩
  refine rd_tYes ?_
  refine iteT ?_
  refine he i H' _ hi s1 fun t nt => ?_
  have s2 := same_upd (o := .tup [.int (f i).1, .int (f i).2]) nt
  have ht : (L2.upd H' t (.tup [.int (f i).1, .int (f i).2])) t = some (.tup [.int (f i).1, .int (f i).2]) := upd_same
  refine ⟨_, s2 _ _ hD, ?_, Same.mut (s1.trans s2) nD, ys ++ [.ref t], upd_same, ?_⟩
  · rw [hp.length, List.length_map, List.length_range]
    exact szlt (by omega)
  · rw [List.range_succ, List.map_append]
    refine ((hp.mono s2).upd (s2 _ _ hD)).snoc ?_
    rw [upd_ne (ne_of ht (s2 _ _ hD) (by intro z; cases z))]
    exact ht
/-! ## dicts of pairs -/
theorem rd_dIn {ty td : TE} {σ : L2.St} {H : Hp} {Q : VK} (q : ty σ H fun y H1 => td σ H1 fun x H2 => ∃ a o, x = .ref a ∧ DGet H2 a y o ∧ Q (.bl o.isSome) H2) : tDIn ty td σ H Q := q
theorem rd_dNotIn {ty td : TE} {σ : L2.St} {H : Hp} {Q : VK} (q : ty σ H fun y H1 => td σ H1 fun x H2 => ∃ a o, x = .ref a ∧ DGet H2 a y o ∧ Q (.bl (!o.isSome)) H2) : tDNotIn ty td σ H Q := q
theorem rd_dput {td ty tv : TE} {D : Ends} {σ : L2.St} {H : Hp} (q : tv σ H fun v H1 => td σ H1 fun x H2 => ty σ H2 fun y H3 => ∃ a H4, x = .ref a ∧ DPut H3 a y v H4 ∧ D.nx σ H4) : sDPut td ty tv D σ H := q
theorem rd_dnewT {σ : L2.St} {H : Hp} {Q : VK} (q : ∀ p, H p = none → Q (.ref p) (L2.upd H p (.dT []))) : tDNewT σ H Q := q
/-- the keys of a dict are just these pairs -/
def Keys (kvs : List (List L2.Key × V)) (ps : List (Int × Int)) : Prop := kvs.length ≤ ps.length ∧ ∀ p : Int × Int, (valV kvs [.inl p.1, .inl p.2]).isSome = decide (p ∈ ps)
theorem Keys.nil : Keys [] [] := ⟨Nat.le_refl _, fun p => by simp [valV]⟩
theorem len_put {kvs : List (List L2.Key × V)} {k : List L2.Key} {v : V} : (putK kvs k v).length ≤ kvs.length + 1 := by
  unfold putK
  split
  · rw [List.length_map]
    omega
  · rw [List.length_append]
    exact Nat.le_refl _
theorem Keys.put {kvs : List (List L2.Key × V)} {ps : List (Int × Int)} {v : V} (h : Keys kvs ps) (p : Int × Int) : Keys (putK kvs [.inl p.1, .inl p.2] v) (ps ++ [p]) := by
  refine ⟨?_, fun q => ?_⟩
  · have := len_put (kvs := kvs) (k := [.inl p.1, .inl p.2]) (v := v)
    have := h.1
    rw [List.length_append]
    simp
    omega
  · rw [valV_put]
    by_cases e : q = p
    · subst e
      rw [if_pos rfl]
      simp
    · have : ¬ ([Sum.inl q.1, Sum.inl q.2] : List L2.Key) = [.inl p.1, .inl p.2] := fun z => e (by
        have h1 := List.cons.inj z
        have h2 := List.cons.inj h1.2
        exact Prod.ext (Sum.inl.inj h1.1) (Sum.inl.inj h2.1))
      rw [if_neg this, h.2 q]
      simp [e]
theorem keys_get {H : Hp} {a t : Addr} {kvs : List (List L2.Key × V)} {p : Int × Int} (hd : H a = some (.dT kvs)) (ht : H t = some (.tup [.int p.1, .int p.2])) : DGet H a (.ref t) (valV kvs [.inl p.1, .inl p.2]) := .t hd ht
theorem keys_put {H : Hp} {a t : Addr} {kvs : List (List L2.Key × V)} {p : Int × Int} {v : V} (hd : H a = some (.dT kvs)) (ht : H t = some (.tup [.int p.1, .int p.2])) (hl : kvs.length < 100000) :
    DPut H a (.ref t) v (L2.upd H a (.dT (putK kvs [.inl p.1, .inl p.2] v))) := .t hd ht (szlt hl)
theorem PrsH.updD {H : Hp} {D : Addr} {ks : List (List L2.Key × V)} {vs : List V} {o : HO} {ps : List (Int × Int)} (hD : H D = some (.dT ks)) (h : PrsH H vs ps) : PrsH (L2.upd H D o) vs ps := by
  unfold PrsH at h ⊢
  exact Paired.mapP h fun v p ⟨t, e, q⟩ => ⟨t, e, by rw [upd_ne (ne_of q hD (by intro z; cases z))]; exact q⟩

/-! ## the steps -/
local macro_rules | `(tactic| walk_at "rd1") => `(tactic| first
  | ((with_reducible refine' rd_var ?h ?_); (case h => rfl))
  | with_reducible refine rd_c ?_
  | with_reducible refine rd_op ?_
  | with_reducible refine rd_I0 ?_
  | with_reducible refine rd_cons ?_
  | with_reducible refine rd_nil ?_
  | with_reducible refine rd_un ?_
  | with_reducible refine rd_U ?_
  | ((with_reducible refine rd_eq ?h ?_); (case h => rfl))
  | ((with_reducible refine rd_ne ?h ?_); (case h => rfl))
  | with_reducible refine rd_cb ?_
  | with_reducible refine rd_call ?_
  | with_reducible refine rd_callS ?_
  | with_reducible refine rd_test ?_
  | with_reducible refine rd_tB ?_
  | with_reducible refine rd_bl ?_
  | with_reducible refine rd_not ?_
  | with_reducible refine rd_and ?_
  | with_reducible refine rd_or ?_
  | with_reducible refine rd_andV ?_
  | with_reducible refine rd_orV ?_
  | with_reducible refine rd_notV ?_
  | with_reducible refine rd_if ?_
  | with_reducible refine rd_seq ?_
  | with_reducible refine rd_asg ?_
  | with_reducible refine rd_name ?_
  | ((with_reducible refine' rd_aug ?h ?_); (case h => rfl))
  | with_reducible refine rd_ipI ?_
  | with_reducible refine rd_gSub ?_
  | with_reducible refine rd_ret ?_
  | with_reducible refine rd_drop ?_
  | with_reducible refine rd_ifS ?_
  | with_reducible refine rd_next ?_
  | with_reducible refine rd_cont ?_
  | with_reducible refine rd_tup ?_
  | with_reducible refine rd_lst ?_
  | with_reducible refine rd_for ?_
  | with_reducible refine rd_lc ?_
  | with_reducible refine rd_min2 ?_
  | with_reducible refine rd_max2 ?_
  | with_reducible refine rd_abs ?_
  | with_reducible refine rd_dIn ?_
  | with_reducible refine rd_dNotIn ?_
  | with_reducible refine rd_dput ?_
  | with_reducible refine rd_dnewT ?_
  | with_reducible refine rd_chain3 ?_
  | with_reducible refine rd_sl ?_
  | with_reducible refine rd_noPart ?_
  | with_reducible refine rd_part ?_
  | with_reducible refine rd_zip ?_
  | with_reducible refine rd_in1 ?_
  | ((with_reducible refine' rd_cut0 ?h ?_); (case h => first | assumption | exact SqL.of (by assumption) | exact SqL.of upd_same))
  | with_reducible refine rd_chain ?_
  | ((with_reducible refine' rd_len ?h ?_); (case h => first | assumption | exact SqL.of (by assumption) | exact SqL.of upd_same))
  | ((with_reducible refine' rd_list ?h ?_); (case h => first | assumption | exact SqL.of (by assumption) | exact SqL.of upd_same))
  | with_reducible refine rd_isN ?_
  | with_reducible refine rd_notN ?_
  | with_reducible refine rd_tYes ?_
  | with_reducible refine iteT ?_
  | with_reducible refine iteF ?_
  | with_reducible refine iteNT ?_
  | with_reducible refine iteNF ?_
  | with_reducible refine rd_rng1 ?_
  | with_reducible refine rd_rng2 ?_
  | with_reducible refine rd_iList ?_
  | with_reducible refine rd_iTup ?_
  | with_reducible refine rd_bm ?_
  | with_reducible refine rd_bm0 ?_
  | ((with_reducible refine rd_I (C := CPow) ?c ?_); (case c => exact ⟨by decide, by decide, by decide⟩))
  | ((with_reducible refine rd_I (C := fun _ j => 0 < j) ?c ?_); (case c => (show (0 : Int) < _); first | omega | decide +kernel))
  | ((with_reducible refine rd_I (C := CDiv) ?c ?_); (case c => first | exact ⟨by decide, by decide⟩ | exact ⟨by omega, by omega⟩))
  | ((with_reducible refine rd_I (C := CMul) ?c ?_); (case c => first | exact .inr ⟨by omega, by omega⟩ | exact .inl ⟨by omega, by omega⟩))
  | ((with_reducible refine' rd_cell ?h0 ?h ?_); (case h => assumption); (case h0 => first | decide | omega)))
local macro_rules | `(tactic| walk_at "rd") => `(tactic| repeat walk_at "rd1")
local macro_rules | `(tactic| walk_at "rq1") => `(tactic| first
  | ((with_reducible refine' rd_var ?h ?_); (case h => rfl))
  | with_reducible refine rd_c ?_
  | with_reducible refine rd_op ?_
  | with_reducible refine rd_I0 ?_
  | with_reducible refine rd_cons ?_
  | with_reducible refine rd_nil ?_
  | with_reducible refine rd_un ?_
  | with_reducible refine rd_U ?_
  | ((with_reducible refine rd_eq ?h ?_); (case h => rfl))
  | ((with_reducible refine rd_ne ?h ?_); (case h => rfl))
  | with_reducible refine rd_cb ?_
  | with_reducible refine rd_call ?_
  | with_reducible refine rd_callS ?_
  | with_reducible refine rd_test ?_
  | with_reducible refine rd_tB ?_
  | with_reducible refine rd_bl ?_
  | with_reducible refine rd_not ?_
  | with_reducible refine rd_and ?_
  | with_reducible refine rd_or ?_
  | with_reducible refine rd_andV ?_
  | with_reducible refine rd_orV ?_
  | with_reducible refine rd_notV ?_
  | with_reducible refine rd_if ?_
  | with_reducible refine rd_asg ?_
  | with_reducible refine rd_name ?_
  | ((with_reducible refine' rd_aug ?h ?_); (case h => rfl))
  | with_reducible refine rd_ipI ?_
  | with_reducible refine rd_gSub ?_
  | with_reducible refine rd_ret ?_
  | with_reducible refine rd_drop ?_
  | with_reducible refine rd_ifS ?_
  | with_reducible refine rd_next ?_
  | with_reducible refine rd_cont ?_
  | with_reducible refine rd_tup ?_
  | with_reducible refine rd_lst ?_
  | with_reducible refine rd_for ?_
  | with_reducible refine rd_lc ?_
  | with_reducible refine rd_min2 ?_
  | with_reducible refine rd_max2 ?_
  | with_reducible refine rd_abs ?_
  | with_reducible refine rd_dIn ?_
  | with_reducible refine rd_dNotIn ?_
  | with_reducible refine rd_dput ?_
  | with_reducible refine rd_dnewT ?_
  | with_reducible refine rd_chain3 ?_
  | with_reducible refine rd_sl ?_
  | with_reducible refine rd_noPart ?_
  | with_reducible refine rd_part ?_
  | with_reducible refine rd_zip ?_
  | with_reducible refine rd_in1 ?_
  | ((with_reducible refine' rd_cut0 ?h ?_); (case h => first | assumption | exact SqL.of (by assumption) | exact SqL.of upd_same))
  | with_reducible refine rd_chain ?_
  | ((with_reducible refine' rd_len ?h ?_); (case h => first | assumption | exact SqL.of (by assumption) | exact SqL.of upd_same))
  | ((with_reducible refine' rd_list ?h ?_); (case h => first | assumption | exact SqL.of (by assumption) | exact SqL.of upd_same))
  | with_reducible refine rd_isN ?_
  | with_reducible refine rd_notN ?_
  | with_reducible refine rd_tYes ?_
  | with_reducible refine iteT ?_
  | with_reducible refine iteF ?_
  | with_reducible refine iteNT ?_
  | with_reducible refine iteNF ?_
  | with_reducible refine rd_rng1 ?_
  | with_reducible refine rd_rng2 ?_
  | with_reducible refine rd_iList ?_
  | with_reducible refine rd_iTup ?_
  | with_reducible refine rd_bm ?_
  | with_reducible refine rd_bm0 ?_
  | ((with_reducible refine rd_I (C := CPow) ?c ?_); (case c => exact ⟨by decide, by decide, by decide⟩))
  | ((with_reducible refine rd_I (C := fun _ j => 0 < j) ?c ?_); (case c => (show (0 : Int) < _); first | omega | decide +kernel))
  | ((with_reducible refine rd_I (C := CDiv) ?c ?_); (case c => first | exact ⟨by decide, by decide⟩ | exact ⟨by omega, by omega⟩))
  | ((with_reducible refine rd_I (C := CMul) ?c ?_); (case c => first | exact .inr ⟨by omega, by omega⟩ | exact .inl ⟨by omega, by omega⟩))
  | ((with_reducible refine' rd_cell ?h0 ?h ?_); (case h => assumption); (case h0 => first | decide | omega)))
local macro_rules | `(tactic| walk_at "rq") => `(tactic| repeat walk_at "rq1")

/-! ## isinstance(x, int) and not isinstance(x, bool) -/
/-- what the two questions answer of a value of the type t -/
def wholeT (K : PySem.W.Frag) (t : Value) (r : Bool) : Prop := ∃ b1 b2, PySem.W.kitOne K t (.type "int") = some b1 ∧ PySem.W.kitOne K t (.type "bool") = some b2 ∧ r = (b1 && !b2)
def Whole (K : PySem.W.Frag) (H : Hp) (x : V) (r : Bool) : Prop := ∃ t, TyX K H x t ∧ wholeT K t r
theorem whole_int {K : PySem.W.Frag} {H : Hp} {i : Int} : Whole K H (.int i) true := ⟨_, .base (.int i), true, false, kit_ty (by decide +kernel), kit_ty (by decide +kernel), rfl⟩
theorem whole_bl {K : PySem.W.Frag} {H : Hp} {b : Bool} : Whole K H (.bl b) false := ⟨_, .base (.bl b), true, true, kit_ty (by decide +kernel), kit_ty (by decide +kernel), rfl⟩
theorem whole_non {K : PySem.W.Frag} {H : Hp} : Whole K H .non false := ⟨_, .base .non, false, false, kit_ty (by decide +kernel), kit_ty (by decide +kernel), rfl⟩
theorem whole_str {K : PySem.W.Frag} {H : Hp} {z : Str} : Whole K H (.str z) false := ⟨_, .base (.str z), false, false, kit_ty (by decide +kernel), kit_ty (by decide +kernel), rfl⟩
theorem whole_lst {K : PySem.W.Frag} {H : Hp} {a : Addr} {xs : List V} (h : H a = some (.lst xs)) : Whole K H (.ref a) false := ⟨_, .base (.lst h), false, false, kit_ty (by decide +kernel), kit_ty (by decide +kernel), rfl⟩
theorem whole_tup {K : PySem.W.Frag} {H : Hp} {a : Addr} {xs : List V} (h : H a = some (.tup xs)) : Whole K H (.ref a) false := ⟨_, .base (.tup h), false, false, kit_ty (by decide +kernel), kit_ty (by decide +kernel), rfl⟩
def spWhole (K : PySem.W.Frag) : Sp := fun vs H Q _ => ∃ (x : V) (r : Bool), vs = [x] ∧ Whole K H x r ∧ Q (.bl r) H
theorem whole_run {K : PySem.W.Frag} {D : Ends} {H : Hp} {vs : List V} {E : XK} {N : List Str} (h : spWhole K vs H D.rt E) :
    tRet (tAndV (tCB (rIsi K) (tCons (tVar 0) (tCons (tC (.ty "int")) tNil))) (tNotV (tCB (rIsi K) (tCons (tVar 0) (tCons (tC (.ty "bool")) tNil))))) D (start N vs) H := by
  obtain ⟨x, r, rfl, ⟨t, ty, b1, b2, h1, h2, rfl⟩, q⟩ := h
  walk_at "rd"
  refine ⟨x, .ty "int", t, _, b1, rfl, .ty _, ty, h1, b1, rfl, ?_⟩
  cases b1 with
  | false => exact iteF q
  | true =>
    refine iteT ?_
    walk_at "rd"
    refine ⟨x, .ty "bool", t, _, b2, rfl, .ty _, ty, h2, b2, rfl, ?_⟩
    exact q

/-! ## slopes, by places -/
def g (ns : List Int) (i : Nat) : Int := ns.getD i 0
/-- from a, x is steeper than y -/
abbrev Stp (ns : List Int) (a x y : Nat) : Prop := (g ns y - g ns a) * ((x : Int) - (a : Int)) < (g ns x - g ns a) * ((y : Int) - (a : Int))
theorem cross {x y z p q r : Int} (hp : 0 < p) (hq : 0 < q) (hr : 0 < r) (h1 : y * p < x * q) (h2 : z * q ≤ y * r) : z * p < x * r := by
  have e1 : z * q * p ≤ y * r * p := Int.mul_le_mul_of_nonneg_right h2 (by omega)
  have e2 : y * p * r < x * q * r := Int.mul_lt_mul_of_pos_right h1 hr
  have e3 : z * p * q < x * r * q := by
    have a1 : z * p * q = z * q * p := by rw [Int.mul_assoc, Int.mul_comm p q, ← Int.mul_assoc]
    have a2 : x * r * q = x * q * r := by rw [Int.mul_assoc, Int.mul_comm r q, ← Int.mul_assoc]
    have a3 : y * p * r = y * r * p := by rw [Int.mul_assoc, Int.mul_comm p r, ← Int.mul_assoc]
    omega
  exact Int.lt_of_mul_lt_mul_right e3 (by omega)
theorem stp_trans {ns : List Int} {a x y z : Nat} (hx : a < x) (hy : a < y) (hz : a < z) (h1 : Stp ns a x y) (h2 : ¬ Stp ns a z y) : Stp ns a x z := by
  unfold Stp at *
  exact cross (p := (x : Int) - a) (q := (y : Int) - a) (r := (z : Int) - a) (by omega) (by omega) (by omega) h1 (by omega)
theorem stp_asymm {ns : List Int} {a x y : Nat} (h : Stp ns a x y) : ¬ Stp ns a y x := by
  unfold Stp at *
  omega
theorem stp_irrefl {ns : List Int} {a x : Nat} : ¬ Stp ns a x x := by
  unfold Stp
  omega
/-- every top between lies below the line from a to b -/
def seeB (ns : List Int) (a b : Nat) : Bool := decide (∀ k, k < b → a < k → Stp ns a b k)
theorem seeB_iff {ns : List Int} {a b : Nat} : seeB ns a b = true ↔ ∀ k, k < b → a < k → Stp ns a b k := by
  unfold seeB
  exact decide_eq_true_iff
theorem seeB_next {ns : List Int} {a : Nat} : seeB ns a (a + 1) = true := seeB_iff.mpr fun k h1 h2 => by omega
/-- m is the steepest of those between a and n -/
structure Steep (ns : List Int) (a n m : Nat) : Prop where
  lo : a < m
  hi : m < n
  top : ∀ k, k < n → a < k → ¬ Stp ns a k m
theorem Steep.see {ns : List Int} {a n m : Nat} (s : Steep ns a n m) : seeB ns a n = true ↔ Stp ns a n m := by
  rw [seeB_iff]
  constructor
  · intro h
    exact h m s.hi s.lo
  · intro h k hk ha
    exact stp_trans (Nat.lt_trans s.lo s.hi) s.lo ha h (s.top k hk ha)
theorem Steep.up {ns : List Int} {a n m : Nat} (s : Steep ns a n m) (h : Stp ns a n m) : Steep ns a (n + 1) n := by
  refine ⟨Nat.lt_trans s.lo s.hi, Nat.lt_succ_self n, fun k hk ha => ?_⟩
  by_cases e : k = n
  · subst e
    exact stp_irrefl
  · exact stp_asymm (stp_trans (Nat.lt_trans s.lo s.hi) s.lo ha h (s.top k (by omega) ha))
theorem Steep.stay {ns : List Int} {a n m : Nat} (s : Steep ns a n m) (h : ¬ Stp ns a n m) : Steep ns a (n + 1) m := by
  refine ⟨s.lo, Nat.lt_succ_of_lt s.hi, fun k hk ha => ?_⟩
  by_cases e : k = n
  · subst e
    exact h
  · exact s.top k (by omega) ha
theorem Steep.first {ns : List Int} {a : Nat} : Steep ns a (a + 1 + 1) (a + 1) := by
  refine ⟨Nat.lt_succ_self _, Nat.lt_succ_self _, fun k hk ha => ?_⟩
  have e : k = a + 1 := by omega
  subst e
  exact stp_irrefl
/-- the later places that a sees, below n -/
def behN (ns : List Int) (a n : Nat) : List Nat := (List.range n).filter fun b => decide (a < b) && seeB ns a b
theorem behN_low {ns : List Int} {a n : Nat} (h : n ≤ a + 1) : behN ns a n = [] := by
  unfold behN
  rw [List.filter_eq_nil_iff]
  intro b hb
  have := List.mem_range.mp hb
  simp
  omega
theorem behN_succ {ns : List Int} {a n : Nat} : behN ns a (n + 1) = behN ns a n ++ (if a < n ∧ seeB ns a n = true then [n] else []) := by
  unfold behN
  rw [List.range_succ, List.filter_append]
  congr 1
  by_cases h1 : a < n <;> by_cases h2 : seeB ns a n = true <;> simp [h1, h2]
theorem behN_yes {ns : List Int} {a n : Nat} (h1 : a < n) (h2 : seeB ns a n = true) : behN ns a (n + 1) = behN ns a n ++ [n] := by rw [behN_succ, if_pos ⟨h1, h2⟩]
theorem behN_no {ns : List Int} {a n : Nat} (h2 : ¬ seeB ns a n = true) : behN ns a (n + 1) = behN ns a n := by rw [behN_succ, if_neg (fun z => h2 z.2), List.append_nil]
theorem mem_behN {ns : List Int} {a n b : Nat} : b ∈ behN ns a n ↔ a < b ∧ b < n ∧ seeB ns a b = true := by
  unfold behN
  rw [List.mem_filter, List.mem_range]
  simp
  exact ⟨fun ⟨h, h1, h2⟩ => ⟨h1, h, h2⟩, fun ⟨h1, h, h2⟩ => ⟨h, h1, h2⟩⟩
abbrev NI (l : List Nat) : List Int := l.map fun (n : Nat) => ((n : Nat) : Int)
abbrev NP (l : List (Nat × Nat)) : List (Int × Int) := l.map fun (p : Nat × Nat) => (((p.1 : Nat) : Int), ((p.2 : Nat) : Int))
/-- the pairs of the first n places -/
def sigN (ns : List Int) (n : Nat) : List (Nat × Nat) := (List.range n).flatMap fun a => (behN ns a ns.length).map fun b => (a, b)
theorem sigN_succ {ns : List Int} {n : Nat} : sigN ns (n + 1) = sigN ns n ++ (behN ns n ns.length).map fun b => (n, b) := by
  unfold sigN
  rw [List.range_succ, List.flatMap_append]
  simp
abbrev sights (ns : List Int) : List (Nat × Nat) := sigN ns ns.length
theorem mem_sights {ns : List Int} {a b : Nat} : (a, b) ∈ sights ns ↔ a < b ∧ b < ns.length ∧ seeB ns a b = true := by
  unfold sights sigN
  rw [List.mem_flatMap]
  constructor
  · rintro ⟨a', _, h⟩
    obtain ⟨b', hb, e⟩ := List.mem_map.mp h
    cases e
    exact mem_behN.mp hb
  · rintro ⟨h1, h2, h3⟩
    exact ⟨a, List.mem_range.mpr (Nat.lt_trans h1 h2), List.mem_map.mpr ⟨b, mem_behN.mpr ⟨h1, h2, h3⟩, rfl⟩⟩
/-- the steepest of the first i places behind a, the earliest of equals -/
def stM (ns : List Int) (a : Nat) : Nat → Option Nat
  | 0 => none
  | i + 1 => match stM ns a i with
    | none => some (a + 1 + i)
    | some m => if Stp ns a (a + 1 + i) m then some (a + 1 + i) else some m
theorem stM_none {ns : List Int} {a i : Nat} (h : stM ns a i = none) : i = 0 := by
  cases i with
  | zero => rfl
  | succ i =>
    unfold stM at h
    split at h
    · cases h
    · split at h <;> cases h
theorem stM_some {ns : List Int} {a : Nat} : ∀ {i m : Nat}, stM ns a i = some m → Steep ns a (a + 1 + i) m
  | 0, m, h => by cases h
  | i + 1, m, h => by
    unfold stM at h
    split at h
    · rename_i h0
      have e := stM_none h0
      subst e
      cases h
      exact Steep.first
    · rename_i m' h0
      have s := stM_some h0
      split at h
      · rename_i h1
        cases h
        exact s.up h1
      · rename_i h1
        cases h
        exact s.stay h1
/-- the hider -/
def hidM (ns : List Int) (a b : Nat) : Option Nat := match stM ns a (b - a - 1) with
  | none => none
  | some m => if Stp ns a b m then none else some m
theorem hidM_none {ns : List Int} {a b : Nat} (h : a < b) : hidM ns a b = none ↔ seeB ns a b = true := by
  unfold hidM
  split
  · rename_i h0
    have e := stM_none h0
    have e2 : b = a + 1 := by omega
    subst e2
    exact ⟨fun _ => seeB_next, fun _ => rfl⟩
  · rename_i m h0
    have s := stM_some h0
    rw [show a + 1 + (b - a - 1) = b by omega] at s
    rw [s.see]
    split
    · rename_i h1
      exact ⟨fun _ => h1, fun _ => rfl⟩
    · rename_i h1
      exact ⟨fun q => (by cases q), fun q => absurd q h1⟩
theorem hidM_some {ns : List Int} {a b m : Nat} (h : a < b) (e : hidM ns a b = some m) : a < m ∧ m < b ∧ ¬ Stp ns a b m := by
  unfold hidM at e
  split at e
  · cases e
  · rename_i m' h0
    have s := stM_some h0
    rw [show a + 1 + (b - a - 1) = b by omega] at s
    split at e
    · cases e
    · rename_i h1
      cases e
      exact ⟨s.lo, s.hi, h1⟩

/-! ## the sights in order -/
abbrev ltN (p q : Nat × Nat) : Prop := p.1 < q.1 ∨ (p.1 = q.1 ∧ p.2 < q.2)
theorem behN_sorted (ns : List Int) (a n : Nat) : (behN ns a n).Pairwise (· < ·) := List.Pairwise.sublist List.filter_sublist List.pairwise_lt_range
theorem sigN_sorted (ns : List Int) : ∀ n, (sigN ns n).Pairwise ltN
  | 0 => by simp [sigN]
  | n + 1 => by
    rw [sigN_succ, List.pairwise_append]
    refine ⟨sigN_sorted ns n, List.pairwise_map.mpr ((behN_sorted ns n ns.length).imp fun h => .inr ⟨rfl, h⟩), fun p hp q hq => ?_⟩
    obtain ⟨b, _, rfl⟩ := List.mem_map.mp hq
    left
    unfold sigN at hp
    obtain ⟨a, ha, h⟩ := List.mem_flatMap.mp hp
    obtain ⟨c, _, rfl⟩ := List.mem_map.mp h
    exact List.mem_range.mp ha
theorem ltN_ne {p q : Nat × Nat} (h : ltN p q) : p ≠ q := by
  rintro rfl
  rcases h with h | ⟨_, h⟩ <;> exact absurd h (Nat.lt_irrefl _)
theorem sights_nodup (ns : List Int) : (sights ns).Nodup := (sigN_sorted ns ns.length).imp ltN_ne

/-! ## views -/
def viewM (ns : List Int) (a : Nat) : List Nat := ((List.range a).filter fun b => seeB ns b a) ++ behN ns a ns.length
/-- hill by hill -/
def nearP (ns : List Int) (a b : Nat) : Bool := decide (b ≠ a) && seeB ns (min a b) (max a b)
theorem near_upto (ns : List Int) (a : Nat) : ∀ m, (List.range m).filter (nearP ns a) = ((List.range (min m a)).filter fun b => seeB ns b a) ++ behN ns a m := by
  intro m
  induction m with
  | zero => simp [behN]
  | succ m ih =>
    rw [filter_range_succ, ih, behN_succ]
    by_cases h1 : m < a
    · have e1 : min (m + 1) a = m + 1 := by omega
      have e2 : min m a = m := by omega
      have e3 : nearP ns a m = seeB ns m a := by
        unfold nearP
        rw [Nat.min_eq_right (by omega), Nat.max_eq_left (by omega), decide_eq_true (by omega), Bool.true_and]
      have b1 : behN ns a m = [] := behN_low (by omega)
      have hno : ¬ (a < m ∧ seeB ns a m = true) := fun z => by omega
      rw [e1, e2, e3, b1, filter_range_succ (p := fun b => seeB ns b a), if_neg hno]
      simp
    · have e1 : min (m + 1) a = a := by omega
      have e2 : min m a = a := by omega
      rw [e1, e2, List.append_assoc]
      congr 1
      congr 1
      by_cases h2 : m = a
      · subst h2
        have : nearP ns m m = false := by unfold nearP; simp
        rw [this, if_neg (by decide), if_neg (show ¬ (m < m ∧ seeB ns m m = true) from fun z => by omega)]
      · have e3 : nearP ns a m = seeB ns a m := by
          unfold nearP
          rw [Nat.min_eq_left (by omega), Nat.max_eq_right (by omega), decide_eq_true (by omega), Bool.true_and]
        rw [e3]
        by_cases h3 : seeB ns a m = true
        · rw [if_pos h3, if_pos ⟨by omega, h3⟩]
        · rw [if_neg h3, if_neg (fun z => h3 z.2)]
theorem near_view {ns : List Int} {a : Nat} (h : a < ns.length) : (List.range ns.length).filter (nearP ns a) = viewM ns a := by
  rw [near_upto, Nat.min_eq_right (by omega)]
  rfl
theorem view_len (ns : List Int) (a : Nat) : (viewM ns a).length ≤ a + ns.length := by
  unfold viewM
  rw [List.length_append]
  have h1 := filter_len (fun b => seeB ns b a) (List.range a)
  rw [List.length_range] at h1
  have h2 := filter_len (fun b => decide (a < b) && seeB ns a b) (List.range ns.length)
  rw [List.length_range] at h2
  unfold behN
  omega

/-! ## a list of lists -/
theorem same_fresh {H H' : Hp} {t : Addr} (s : Same H H') (h : H' t = none) : H t = none := by
  cases e : H t with
  | none => rfl
  | some u => exact absurd (s _ _ e) (by rw [h]; intro z; cases z)
structure RowsH (H : Hp) (R : Addr) (n : Nat) (adr : Nat → Addr) (rs : Nat → List V) : Prop where
  lst : H R = some (.lst ((List.range n).map fun i => V.ref (adr i)))
  row : ∀ i, i < n → H (adr i) = some (.lst (rs i))
  inj : ∀ i j, i < n → j < n → adr i = adr j → i = j
  ne : ∀ i, i < n → adr i ≠ R
theorem RowsH.mono {H H' : Hp} {R : Addr} {n : Nat} {adr : Nat → Addr} {rs : Nat → List V} (s : Same H H') (h : RowsH H R n adr rs) : RowsH H' R n adr rs :=
  ⟨s _ _ h.lst, fun i hi => s _ _ (h.row i hi), h.inj, h.ne⟩
theorem RowsH.at {H : Hp} {R : Addr} {n : Nat} {adr : Nat → Addr} {rs : Nat → List V} (_h : RowsH H R n adr rs) {i : Nat} (hi : i < n) : ((List.range n).map fun i => V.ref (adr i))[i]? = some (.ref (adr i)) := by
  rw [List.getElem?_map, List.getElem?_range hi]
  rfl
theorem RowsH.upd {H : Hp} {R : Addr} {n : Nat} {adr : Nat → Addr} {rs : Nat → List V} (h : RowsH H R n adr rs) {i : Nat} (hi : i < n) (ys : List V) : RowsH (upd H (adr i) (.lst ys)) R n adr (fun k => if k = i then ys else rs k) := by
  refine ⟨?_, fun k hk => ?_, h.inj, h.ne⟩
  · rw [upd_ne (fun z => h.ne i hi z.symm)]
    exact h.lst
  · show _ = some (HO.lst (if k = i then ys else rs k))
    by_cases c : k = i
    · subst c
      rw [if_pos rfl, upd_same]
    · rw [if_neg c, upd_ne (fun z => c (h.inj k i hk hi z))]
      exact h.row k hk
theorem RowsH.other {H : Hp} {R p : Addr} {n : Nat} {adr : Nat → Addr} {rs : Nat → List V} {o : HO} (h : RowsH H R n adr rs) (hR : p ≠ R) (ha : ∀ i, i < n → adr i ≠ p) : RowsH (L2.upd H p o) R n adr rs := by
  refine ⟨?_, fun k hk => ?_, h.inj, h.ne⟩
  · rw [upd_ne (fun z => hR z.symm)]
    exact h.lst
  · rw [upd_ne (ha k hk)]
    exact h.row k hk
theorem RowsH.snoc {H H2 : Hp} {R t : Addr} {n : Nat} {adr : Nat → Addr} {rs : Nat → List V} {xs : List V} (h : RowsH H R n adr rs) (s : Same H H2) (nt : H t = none) (ht : H2 t = some (.lst xs)) :
    RowsH (L2.upd H2 R (.lst (((List.range n).map fun i => V.ref (adr i)) ++ [.ref t]))) R (n + 1) (fun k => if k = n then t else adr k) (fun k => if k = n then xs else rs k) := by
  have tR : t ≠ R := fun z => by
    rw [z, h.lst] at nt
    cases nt
  have ta : ∀ i, i < n → adr i ≠ t := fun i hi z => by
    rw [← z, h.row i hi] at nt
    cases nt
  refine ⟨?_, fun k hk => ?_, fun i j hi hj => ?_, fun i hi => ?_⟩
  · rw [upd_same, List.range_succ, List.map_append]
    congr 2
    congr 1
    · exact List.map_congr_left fun i hi => by
        have := List.mem_range.mp hi
        rw [if_neg (by omega)]
    · show _ = [V.ref (if n = n then t else adr n)]
      rw [if_pos rfl]
  · show L2.upd H2 R _ (if k = n then t else adr k) = some (HO.lst (if k = n then xs else rs k))
    by_cases c : k = n
    · rw [if_pos c, if_pos c, upd_ne tR]
      exact ht
    · rw [if_neg c, if_neg c, upd_ne (h.ne k (by omega))]
      exact s _ _ (h.row k (by omega))
  · show (if i = n then t else adr i) = (if j = n then t else adr j) → i = j
    by_cases c : i = n
    · by_cases d : j = n
      · intro _; omega
      · rw [if_pos c, if_neg d]
        intro z
        exact absurd z.symm (ta j (by omega))
    · by_cases d : j = n
      · rw [if_neg c, if_pos d]
        intro z
        exact absurd z (ta i (by omega))
      · rw [if_neg c, if_neg d]
        exact h.inj i j (by omega) (by omega)
  · show (if i = n then t else adr i) ≠ R
    by_cases c : i = n
    · rw [if_pos c]
      exact tR
    · rw [if_neg c]
      exact h.ne i (by omega)
theorem lc_freshR {n : Nat} {D : Addr} {σ : L2.St} {vs : List Nat} {s : Nat} {te : TE} {H1 : Hp} {Qd : Hp → Prop} (P : Nat → List V → Prop) (nD : H1 D = none) (hlen : n < 100000) (hw : ∀ v, wipe ((wipe σ vs).set s (some v)) vs = wipe σ vs)
    (he : ∀ (i : Nat) H' (R : VK), i < n → Same H1 H' → (∀ t xs H2, P i xs → Same H' H2 → H' t = none → H2 t = some (.lst xs) → R (.ref t) H2) → te ((wipe σ vs).set s (some (.int (i : Int)))) H' R)
    (hd : ∀ H' adr rs, Same H1 H' → RowsH H' D n adr rs → (∀ i, i < n → P i (rs i)) → (∀ i, i < n → H1 (adr i) = none) → Qd H') : CompO (Itr 0 n) (gName s) tYes te vs σ H1 D Qd := by
  refine lc_range (lo := 0) (n := n) (fun i H' => Same H1 H' ∧ ∃ adr rs, RowsH H' D i adr rs ∧ (∀ k, k < i → P k (rs k)) ∧ ∀ k, k < i → H1 (adr k) = none)
    ⟨same_upd nD, fun _ => D, fun _ => [], ⟨upd_same, fun i hi => absurd hi (Nat.not_lt_zero _), fun i _ hi => absurd hi (Nat.not_lt_zero _), fun i hi => absurd hi (Nat.not_lt_zero _)⟩, fun i hi => absurd hi (Nat.not_lt_zero _), fun i hi => absurd hi (Nat.not_lt_zero _)⟩
    (fun i H' hi ⟨s1, adr, rs, hR, hP, hN⟩ => ?_) (fun H' ⟨s1, adr, rs, hR, hP, hN⟩ => hd H' adr rs s1 hR hP hN)
  show wipe ((wipe σ vs).set s (some (.int (0 + (i : Int))))) vs = wipe σ vs ∧ _
  rw [show (0 : Int) + (i : Int) = (i : Int) by omega]
  refine ⟨hw _, ?_⟩
  refine rd_tYes ?_
  refine iteT ?_
  refine he i H' _ hi s1 fun t xs H2 hp s2 nt ht => ?_
  refine ⟨_, s2 _ _ hR.lst, ?_, Same.mut (s1.trans s2) nD, _, _, hR.snoc s2 nt ht, fun k hk => ?_, fun k hk => ?_⟩
  · rw [List.length_map, List.length_range]
    exact szlt (by omega)
  · show P k (if k = i then xs else rs k)
    by_cases c : k = i
    · rw [if_pos c, c]
      exact hp
    · rw [if_neg c]
      exact hP k (by omega)
  · show H1 (if k = i then t else adr k) = none
    by_cases c : k = i
    · rw [if_pos c]
      exact same_fresh s1 nt
    · rw [if_neg c]
      exact hN k (by omega)
theorem lc_freshL {K : PySem.W.Frag} {a D : Addr} {ys : List V} {σ : L2.St} {vs : List Nat} {s : Nat} {te : TE} {H1 : Hp} {Qd : Hp → Prop} (P : Nat → List V → Prop) (hL : SqL K H1 a ys) (nD : H1 D = none) (hlen : ys.length < 100000) (hw : ∀ v, wipe ((wipe σ vs).set s (some v)) vs = wipe σ vs)
    (he : ∀ (i : Nat) x H' (R : VK), ys[i]? = some x → Same H1 H' → (∀ t xs H2, P i xs → Same H' H2 → H' t = none → H2 t = some (.lst xs) → R (.ref t) H2) → te ((wipe σ vs).set s (some x)) H' R)
    (hd : ∀ H' adr rs, Same H1 H' → RowsH H' D ys.length adr rs → (∀ i, i < ys.length → P i (rs i)) → (∀ i, i < ys.length → H1 (adr i) = none) → Qd H') : CompO (Itl K a) (gName s) tYes te vs σ H1 D Qd := by
  refine lc_list (K := K) (a := a) (xs := ys) (fun i H' => Same H1 H' ∧ ∃ adr rs, RowsH H' D i adr rs ∧ (∀ k, k < i → P k (rs k)) ∧ ∀ k, k < i → H1 (adr k) = none)
    ⟨same_upd nD, fun _ => D, fun _ => [], ⟨upd_same, fun i hi => absurd hi (Nat.not_lt_zero _), fun i _ hi => absurd hi (Nat.not_lt_zero _), fun i hi => absurd hi (Nat.not_lt_zero _)⟩, fun i hi => absurd hi (Nat.not_lt_zero _), fun i hi => absurd hi (Nat.not_lt_zero _)⟩
    (fun i H' _ ⟨s1, _⟩ => s1.seq hL) (fun i x H' hx ⟨s1, adr, rs, hR, hP, hN⟩ => ?_) (fun H' ⟨s1, adr, rs, hR, hP, hN⟩ => hd H' adr rs s1 hR hP hN)
  have hi : i < ys.length := (List.getElem?_eq_some_iff.mp hx).1
  refine ⟨hw _, ?_⟩
  refine rd_tYes ?_
  refine iteT ?_
  refine he i x H' _ hx s1 fun t xs H2 hp s2 nt ht => ?_
  refine ⟨_, s2 _ _ hR.lst, ?_, Same.mut (s1.trans s2) nD, _, _, hR.snoc s2 nt ht, fun k hk => ?_, fun k hk => ?_⟩
  · rw [List.length_map, List.length_range]
    exact szlt (by omega)
  · show P k (if k = i then xs else rs k)
    by_cases c : k = i
    · rw [if_pos c, c]
      exact hp
    · rw [if_neg c]
      exact hP k (by omega)
  · show H1 (if k = i then t else adr k) = none
    by_cases c : k = i
    · rw [if_pos c]
      exact same_fresh s1 nt
    · rw [if_neg c]
      exact hN k (by omega)
theorem cr_sortedIK {X : Cx} {K : PySem.W.Frag} (h : X.K = K) : CallR X (.builtin "sorted") (rSortedI K) := by subst h; exact cr_sortedI
theorem RowsH.congr {H : Hp} {R : Addr} {n : Nat} {adr : Nat → Addr} {rs rs' : Nat → List V} (h : RowsH H R n adr rs) (e : ∀ i, i < n → rs i = rs' i) : RowsH H R n adr rs' :=
  ⟨h.lst, fun i hi => by rw [← e i hi]; exact h.row i hi, h.inj, h.ne⟩
theorem pick {n : Nat} {rs : Nat → List V} {G : Nat → List Nat → Prop} (h : ∀ i, i < n → ∃ ms : List Nat, rs i = IL (NI ms) ∧ G i ms) : ∃ f : Nat → List Nat, ∀ i, i < n → rs i = IL (NI (f i)) ∧ G i (f i) := by
  refine ⟨fun i => if hi : i < n then Classical.choose (h i hi) else [], fun i hi => ?_⟩
  simp only [dif_pos hi]
  exact Classical.choose_spec (h i hi)
theorem perm_NI {zs : List Int} {ms : List Nat} (h : zs.Perm (NI ms)) : ∃ ks : List Nat, zs = NI ks ∧ ks.Perm ms := by
  have e : zs = NI (zs.map Int.toNat) := by
    unfold NI
    rw [List.map_map]
    refine (List.map_id _).symm.trans (List.map_congr_left fun z hz => ?_)
    obtain ⟨k, _, rfl⟩ := List.mem_map.mp (h.mem_iff.mp hz)
    show (k : Int) = ((Int.toNat (k : Int) : Nat) : Int)
    omega
  refine ⟨zs.map Int.toNat, e, ?_⟩
  have h2 := h.map Int.toNat
  unfold NI at h2
  rw [List.map_map] at h2
  have : ms.map (Int.toNat ∘ fun (k : Nat) => (k : Int)) = ms := (List.map_congr_left fun k _ => by show Int.toNat (k : Int) = id k; exact Int.toNat_natCast k).trans (List.map_id _)
  rw [this] at h2
  exact h2
theorem atI_end {α : Type} {xs : List α} {v : α} (h0 : 0 < xs.length) (h : xs[xs.length - 1]? = some v) : atI xs (-1) = some v := by
  unfold atI ixN
  rw [if_neg (by decide), if_pos (by omega)]
  have e : ((-1 : Int) + (xs.length : Int)).toNat = xs.length - 1 := by omega
  rw [e]
  exact h
theorem lc_listFI {K : PySem.W.Frag} {a D : Addr} {zs : List Int} {s : Nat} {σ : L2.St} {vs : List Nat} {tt : TT} {te : TE} {H1 : Hp} {Qd : Hp → Prop} (p : Int → Bool) (hL : SqL K H1 a (IL zs)) (nD : H1 D = none) (hlen : zs.length < 100000)
    (hw : ∀ v, wipe ((wipe σ vs).set s (some v)) vs = wipe σ vs)
    (ht : ∀ (z : Int) H' (R : Bool → Hp → Prop), z ∈ zs → Same H1 H' → (∀ H'', Same H' H'' → R (p z) H'') → tt ((wipe σ vs).set s (some (.int z))) H' R)
    (he : ∀ (z : Int) H' (R : VK), z ∈ zs → p z = true → Same H1 H' → (∀ H'', Same H' H'' → R (.int z) H'') → te ((wipe σ vs).set s (some (.int z))) H' R)
    (hd : ∀ H', Same H1 H' → H' D = some (.lst (IL (zs.filter p))) → Qd H') : CompO (Itl K a) (gName s) tt te vs σ H1 D Qd := by
  refine lc_listG (fun x => (wipe σ vs).set s (some x)) (fun x => match x with | .int z => p z | _ => false) (fun x => x) hL nD (by rw [IL, List.length_map]; exact hlen) (fun x H' R _ _ q => q) (fun x _ => hw x) (fun x H' R hx s1 q => ?_) (fun x H' R hx hp s1 q => ?_) (fun H' s1 h => hd H' s1 ?_)
  · obtain ⟨z, hz, rfl⟩ := List.mem_map.mp hx
    exact ht z H' R hz s1 q
  · obtain ⟨z, hz, rfl⟩ := List.mem_map.mp hx
    exact he z H' R hz hp s1 q
  · rw [h, List.map_id', IL, IL, List.filter_map]
    rfl

/-! ## hops: the plain law -/
def adj (ns : List Int) (x y : Nat) : Prop := x < ns.length ∧ y < ns.length ∧ nearP ns x y = true
theorem nearP_iff {ns : List Int} {x y : Nat} : nearP ns x y = true ↔ y ≠ x ∧ seeB ns (min x y) (max x y) = true := by
  unfold nearP
  rw [Bool.and_eq_true, decide_eq_true_iff, Nat.min_comm, Nat.max_comm]
theorem adj_symm {ns : List Int} {x y : Nat} (h : adj ns x y) : adj ns y x := by
  obtain ⟨h1, h2, h3⟩ := h
  rw [nearP_iff] at h3
  refine ⟨h2, h1, nearP_iff.mpr ⟨fun z => h3.1 z.symm, ?_⟩⟩
  rw [Nat.min_comm, Nat.max_comm]
  exact h3.2
theorem adj_next {ns : List Int} {x : Nat} (h : x + 1 < ns.length) : adj ns x (x + 1) := by
  refine ⟨by omega, h, nearP_iff.mpr ⟨by omega, ?_⟩⟩
  rw [Nat.min_eq_left (by omega), Nat.max_eq_right (by omega)]
  exact seeB_iff.mpr fun k h1 h2 => by omega
/-- how far every hill is -/
structure Dist (ns : List Int) (a : Nat) (d : Nat → Nat) : Prop where
  zero : d a = 0
  back : ∀ x, x < ns.length → x ≠ a → ∃ y, adj ns x y ∧ d x = d y + 1
  step : ∀ x y, adj ns x y → d y ≤ d x + 1
theorem Dist.pos {ns : List Int} {a : Nat} {d : Nat → Nat} (h : Dist ns a d) {x : Nat} (hx : x < ns.length) (ne : x ≠ a) : 0 < d x := by
  obtain ⟨y, _, e⟩ := h.back x hx ne
  omega
theorem Dist.le {ns : List Int} {a : Nat} {d e : Nat → Nat} (h : Dist ns a d) (h' : Dist ns a e) : ∀ k x, x < ns.length → e x = k → d x ≤ k := by
  intro k
  induction k with
  | zero =>
    intro x hx hk
    by_cases c : x = a
    · rw [c, h.zero]
      exact Nat.le_refl _
    · have := h'.pos hx c
      omega
  | succ k ih =>
    intro x hx hk
    by_cases c : x = a
    · rw [c, h.zero]
      omega
    · obtain ⟨y, hy, e1⟩ := h'.back x hx c
      have := ih y hy.2.1 (by omega)
      have := h.step y x (adj_symm hy)
      omega
theorem Dist.uniq {ns : List Int} {a : Nat} {d e : Nat → Nat} (h : Dist ns a d) (h' : Dist ns a e) {x : Nat} (hx : x < ns.length) : d x = e x := by
  have h1 := h.le h' (e x) x hx rfl
  have h2 := h'.le h (d x) x hx rfl
  omega
theorem Dist.up {ns : List Int} {a : Nat} {d : Nat → Nat} (h : Dist ns a d) : ∀ k, a + k < ns.length → d (a + k) ≤ k := by
  intro k
  induction k with
  | zero => intro _; rw [Nat.add_zero, h.zero]; exact Nat.le_refl _
  | succ k ih =>
    intro hk
    have := ih (by omega)
    have := h.step (a + k) (a + k + 1) (adj_next hk)
    show d (a + k + 1) ≤ k + 1
    omega
theorem Dist.down {ns : List Int} {a : Nat} {d : Nat → Nat} (h : Dist ns a d) (ha : a < ns.length) : ∀ k, k ≤ a → d (a - k) ≤ k := by
  intro k
  induction k with
  | zero => intro _; rw [Nat.sub_zero, h.zero]; exact Nat.le_refl _
  | succ k ih =>
    intro hk
    have := ih (by omega)
    have e : a - k = a - (k + 1) + 1 := by omega
    have := h.step (a - k) (a - (k + 1)) (by rw [e]; exact adj_symm (adj_next (by omega)))
    omega
theorem Dist.bound {ns : List Int} {a : Nat} {d : Nat → Nat} (h : Dist ns a d) (ha : a < ns.length) {x : Nat} (hx : x < ns.length) : d x < ns.length := by
  by_cases c : a ≤ x
  · have := h.up (x - a) (by omega)
    have e : a + (x - a) = x := by omega
    rw [e] at this
    omega
  · have := h.down ha (a - x) (by omega)
    have e : a - (a - x) = x := by omega
    rw [e] at this
    omega
/-- every level below is there -/
theorem Dist.level {ns : List Int} {a : Nat} {d : Nat → Nat} (h : Dist ns a d) (ha : a < ns.length) (m : Nat) : ∀ k x, x < ns.length → d x = m + k → ∃ y, y < ns.length ∧ d y = m := by
  intro k
  induction k with
  | zero => intro x hx e; exact ⟨x, hx, e⟩
  | succ k ih =>
    intro x hx e
    by_cases c : x = a
    · rw [c, h.zero] at e
      omega
    · obtain ⟨y, hy, e1⟩ := h.back x hx c
      exact ih y hy.2.1 (by omega)
/-! there is one -/
def reach (ns : List Int) (a : Nat) : Nat → Nat → Prop
  | 0, x => x = a
  | k + 1, x => reach ns a k x ∨ ∃ y, adj ns x y ∧ reach ns a k y
theorem reach_mono {ns : List Int} {a x : Nat} {k : Nat} : ∀ {j}, k ≤ j → reach ns a k x → reach ns a j x := by
  intro j
  induction j with
  | zero => intro h r; have : k = 0 := by omega
            subst this; exact r
  | succ j ih =>
    intro h r
    by_cases c : k = j + 1
    · subst c; exact r
    · exact .inl (ih (by omega) r)
theorem reach_all {ns : List Int} {a x : Nat} (ha : a < ns.length) (hx : x < ns.length) : ∃ k, reach ns a k x := by
  have up : ∀ k, a + k < ns.length → reach ns a k (a + k) := by
    intro k
    induction k with
    | zero => intro _; exact rfl
    | succ k ih => intro h; exact .inr ⟨a + k, adj_symm (adj_next h), ih (by omega)⟩
  have down : ∀ k, k ≤ a → reach ns a k (a - k) := by
    intro k
    induction k with
    | zero => intro _; exact rfl
    | succ k ih =>
      intro h
      have e : a - k = a - (k + 1) + 1 := by omega
      refine .inr ⟨a - k, ?_, ih (by omega)⟩
      rw [e]
      exact adj_next (by omega)
  by_cases c : a ≤ x
  · have := up (x - a) (by omega)
    have e : a + (x - a) = x := by omega
    rw [e] at this
    exact ⟨_, this⟩
  · have := down (a - x) (by omega)
    have e : a - (a - x) = x := by omega
    rw [e] at this
    exact ⟨_, this⟩
theorem least {p : Nat → Prop} : ∀ k, p k → ∃ m, p m ∧ ∀ j, j < m → ¬ p j := by
  intro k
  induction k using Nat.strongRecOn with
  | ind k ih =>
    intro h
    by_cases c : ∃ j, j < k ∧ p j
    · obtain ⟨j, hj, pj⟩ := c
      exact ih j hj pj
    · exact ⟨k, h, fun j hj pj => c ⟨j, hj, pj⟩⟩
theorem dist_ex {ns : List Int} {a : Nat} (ha : a < ns.length) : ∃ d, Dist ns a d := by
  have ex : ∀ x, ∃ m, x < ns.length → reach ns a m x ∧ ∀ j, j < m → ¬ reach ns a j x := by
    intro x
    by_cases c : x < ns.length
    · obtain ⟨k, hk⟩ := reach_all ha c
      obtain ⟨m, h⟩ := least (p := fun j => reach ns a j x) k hk
      exact ⟨m, fun _ => h⟩
    · exact ⟨0, fun h => absurd h c⟩
  refine ⟨fun x => Classical.choose (ex x), ?_, ?_, ?_⟩
  · show Classical.choose (ex a) = 0
    have h := (Classical.choose_spec (ex a)) ha
    by_cases c : Classical.choose (ex a) = 0
    · exact c
    · exact absurd rfl (h.2 0 (by omega))
  · intro x hx ne
    show ∃ y, adj ns x y ∧ Classical.choose (ex x) = Classical.choose (ex y) + 1
    have h := (Classical.choose_spec (ex x)) hx
    generalize Classical.choose (ex x) = m at *
    cases m with
    | zero => exact absurd h.1 ne
    | succ m =>
      rcases h.1 with r | ⟨y, hy, r⟩
      · exact absurd r (h.2 m (by omega))
      · refine ⟨y, hy, ?_⟩
        have h' := (Classical.choose_spec (ex y)) hy.2.1
        generalize Classical.choose (ex y) = l at *
        have l1 : ¬ m < l := fun z => h'.2 m z r
        have l2 : ¬ l + 1 < m + 1 := fun z => h.2 (l + 1) z (.inr ⟨y, hy, h'.1⟩)
        omega
  · intro x y hy
    show Classical.choose (ex y) ≤ Classical.choose (ex x) + 1
    have h := (Classical.choose_spec (ex x)) hy.1
    have h' := (Classical.choose_spec (ex y)) hy.2.1
    by_cases c : Classical.choose (ex y) ≤ Classical.choose (ex x) + 1
    · exact c
    · exact absurd (.inr ⟨x, adj_symm hy, h.1⟩) (h'.2 (Classical.choose (ex x) + 1) (by omega))
theorem nodup_len : ∀ (n : Nat) (l : List Nat), l.Nodup → (∀ x ∈ l, x < n) → l.length ≤ n := by
  intro n
  induction n with
  | zero =>
    intro l _ h
    cases l with
    | nil => exact Nat.le_refl _
    | cons x l => exact absurd (h x List.mem_cons_self) (by omega)
  | succ n ih =>
    intro l nd h
    have := ih (l.erase n) (nd.erase n) (fun x hx => by
      have h1 := (List.Nodup.mem_erase_iff nd).mp hx
      have := h x h1.2
      have := h1.1
      omega)
    rw [List.length_erase] at this
    split at this <;> omega
/-! the rows, as both sides make them -/
def rowM (ns : List Int) (x : Nat) : List Nat := (List.range ns.length).filter (nearP ns x)
theorem mem_row {ns : List Int} {x y : Nat} (hx : x < ns.length) : y ∈ rowM ns x ↔ adj ns x y := by
  unfold rowM adj
  rw [List.mem_filter, List.mem_range]
  exact ⟨fun h => ⟨hx, h⟩, fun h => h.2⟩
theorem row_len (ns : List Int) (x : Nat) : (rowM ns x).length ≤ ns.length := by
  have h := List.length_filter_le (nearP ns x) (List.range ns.length)
  rw [List.length_range] at h
  exact h
theorem map_set_range {β : Type} {n y : Nat} {f f' : Nat → β} {v : β} (hv : f' y = v) (he : ∀ x, x < n → x ≠ y → f' x = f x) : ((List.range n).map f).set y v = (List.range n).map f' := by
  refine List.ext_getElem (by simp) fun i h1 h2 => ?_
  simp only [List.length_map, List.length_range] at h2
  rw [List.getElem_set]
  simp only [List.getElem_map, List.getElem_range]
  split
  · rename_i e
    rw [← hv, e]
  · rename_i e
    exact (he i h2 fun z => e z.symm).symm

/-! ## the known lands -/
def lineL (n : Nat) (t : Int) : List Int := (List.range n).map fun (k : Nat) => t * (k : Int) + 7
def curveL (n : Nat) (t : Int) : List Int := (List.range n).map fun (k : Nat) => (k : Int) * (k : Int) + t * (k : Int)
theorem g_mapR {n : Nat} {f : Nat → Int} {k : Nat} (h : k < n) : g ((List.range n).map f) k = f k := by
  unfold g
  rw [List.getD_eq_getElem?_getD, List.getElem?_map, List.getElem?_range h]
  rfl
theorem line_no {n : Nat} {t : Int} {a b k : Nat} (h1 : a < n) (h2 : b < n) (h3 : k < n) : ¬ Stp (lineL n t) a b k := by
  unfold Stp lineL
  rw [g_mapR h1, g_mapR h2, g_mapR h3]
  have e : (t * (k : Int) + 7 - (t * (a : Int) + 7)) * ((b : Int) - a) = (t * (b : Int) + 7 - (t * (a : Int) + 7)) * ((k : Int) - a) := by grind
  omega
theorem curve_yes {n : Nat} {t : Int} {a b k : Nat} (h0 : a < k) (h1 : k < b) (h2 : b < n) : Stp (curveL n t) a b k := by
  unfold Stp curveL
  rw [g_mapR (by omega), g_mapR h2, g_mapR (by omega)]
  have e1 : ((k : Int) * k + t * (k : Int) - ((a : Int) * a + t * (a : Int))) * ((b : Int) - a) = (((k : Int) - a) * ((b : Int) - a)) * ((k : Int) + a + t) := by grind
  have e2 : ((b : Int) * b + t * (b : Int) - ((a : Int) * a + t * (a : Int))) * ((k : Int) - a) = (((k : Int) - a) * ((b : Int) - a)) * ((b : Int) + a + t) := by grind
  rw [e1, e2]
  exact Int.mul_lt_mul_of_pos_left (by omega) (Int.mul_pos (by omega) (by omega))
theorem line_len (n : Nat) (t : Int) : (lineL n t).length = n := by unfold lineL; rw [List.length_map, List.length_range]
theorem curve_len (n : Nat) (t : Int) : (curveL n t).length = n := by unfold curveL; rw [List.length_map, List.length_range]
theorem line_beh {n : Nat} {t : Int} {a : Nat} (m : Nat) (hm : m ≤ n) : behN (lineL n t) a m = if a + 1 < m then [a + 1] else [] := by
  induction m with
  | zero => simp [behN]
  | succ m ih =>
    rw [behN_succ, ih (by omega)]
    by_cases h1 : a + 1 < m
    · have : ¬ seeB (lineL n t) a m = true := fun h => line_no (by omega) (by omega) (by omega) (seeB_iff.mp h (a + 1) (by omega) (by omega))
      rw [if_pos h1, if_neg (fun z => this z.2), if_pos (by omega)]
      rfl
    · by_cases h2 : a + 1 = m
      · subst h2
        rw [if_neg (by omega), if_pos ⟨by omega, seeB_next⟩, if_pos (by omega)]
        rfl
      · rw [if_neg h1, if_neg (fun z => by omega), if_neg (by omega)]
        rfl
theorem curve_beh {n : Nat} {t : Int} {a : Nat} (m : Nat) (hm : m ≤ n) : behN (curveL n t) a m = (List.range (m - (a + 1))).map fun i => a + 1 + i := by
  induction m with
  | zero => simp [behN]
  | succ m ih =>
    rw [behN_succ, ih (by omega)]
    by_cases h1 : a < m
    · rw [if_pos ⟨h1, seeB_iff.mpr fun k hk ha => curve_yes ha hk (by omega)⟩, show m + 1 - (a + 1) = (m - (a + 1)) + 1 by omega, List.range_succ, List.map_append]
      simp
      omega
    · rw [if_neg (fun z => h1 z.1), show m + 1 - (a + 1) = m - (a + 1) by omega, List.append_nil]
def dueLine (n : Nat) : List (Nat × Nat) := (List.range (n - 1)).map fun k => (k, k + 1)
theorem line_sights {n : Nat} {t : Int} (h : 0 < n) : sights (lineL n t) = dueLine n := by
  unfold sights
  rw [line_len]
  have : ∀ m, m ≤ n → sigN (lineL n t) m = (List.range (min m (n - 1))).map fun k => (k, k + 1) := by
    intro m
    induction m with
    | zero => intro _; simp [sigN]
    | succ m ih =>
      intro hm
      rw [sigN_succ, ih (by omega), line_len, line_beh n (Nat.le_refl _)]
      by_cases c : m + 1 < n
      · rw [if_pos c, show min (m + 1) (n - 1) = min m (n - 1) + 1 by omega, List.range_succ, List.map_append]
        have e : min m (n - 1) = m := by omega
        rw [e]
        rfl
      · rw [if_neg c, show min (m + 1) (n - 1) = min m (n - 1) by omega]
        simp
  rw [this n (Nat.le_refl _), Nat.min_eq_right (by omega)]
  rfl
def dueRow (n a : Nat) : List (Nat × Nat) := (List.range (n - (a + 1))).map fun i => (a, a + 1 + i)
def dueCurve (n m : Nat) : List (Nat × Nat) := (List.range m).flatMap (dueRow n)
theorem dueCurve_succ (n m : Nat) : dueCurve n (m + 1) = dueCurve n m ++ dueRow n m := by
  unfold dueCurve
  rw [List.range_succ, List.flatMap_append]
  simp
theorem curve_sights {n : Nat} {t : Int} : sights (curveL n t) = dueCurve n n := by
  unfold sights
  rw [curve_len]
  have : ∀ m, sigN (curveL n t) m = dueCurve n m := by
    intro m
    induction m with
    | zero => rfl
    | succ m ih =>
      rw [sigN_succ, ih, dueCurve_succ, curve_len, curve_beh n (Nat.le_refl _), List.map_map]
      rfl
  exact this n

/-! ## hops on a slope of one tilt -/
theorem line_adj {n : Nat} {t : Int} {x y : Nat} : adj (lineL n t) x y ↔ x < n ∧ y < n ∧ (y = x + 1 ∨ x = y + 1) := by
  unfold adj
  rw [line_len, nearP_iff]
  constructor
  · rintro ⟨hx, hy, hne, hs⟩
    refine ⟨hx, hy, ?_⟩
    have key : ∀ a b : Nat, a < b → b < n → seeB (lineL n t) a b = true → b = a + 1 := by
      intro a b hab hb h
      by_cases c : b = a + 1
      · exact c
      · exact absurd (seeB_iff.mp h (a + 1) (by omega) (by omega)) (line_no (by omega) (by omega) (by omega))
    have := key (min x y) (max x y) (by omega) (by omega) hs
    omega
  · rintro ⟨hx, hy, h⟩
    refine ⟨hx, hy, by omega, seeB_iff.mpr fun k h1 h2 => by omega⟩
def gap (a x : Nat) : Nat := ((x : Int) - (a : Int)).natAbs
theorem line_dist {n : Nat} {t : Int} {a : Nat} (ha : a < n) : Dist (lineL n t) a (gap a) := by
  refine ⟨by unfold gap; omega, fun x hx hne => ?_, fun x y h => ?_⟩
  · rw [line_len] at hx
    by_cases c : x < a
    · exact ⟨x + 1, line_adj.mpr ⟨hx, by omega, .inl rfl⟩, by unfold gap; omega⟩
    · exact ⟨x - 1, line_adj.mpr ⟨hx, by omega, .inr (by omega)⟩, by unfold gap; omega⟩
  · have := line_adj.mp h
    unfold gap
    omega

/-! ## ways: the plain law -/
noncomputable def far (ns : List Int) (b : Nat) : Nat → Nat := if h : b < ns.length then Classical.choose (dist_ex h) else fun _ => 0
theorem far_dist {ns : List Int} {b : Nat} (h : b < ns.length) : Dist ns b (far ns b) := by
  unfold far
  rw [dif_pos h]
  exact Classical.choose_spec (dist_ex h)
def Next (ns : List Int) (b x y : Nat) : Prop := adj ns x y ∧ far ns b y + 1 = far ns b x ∧ ∀ z, adj ns x z → far ns b z + 1 = far ns b x → y ≤ z
noncomputable def nextF (ns : List Int) (b x : Nat) : Nat := Classical.epsilon fun y => Next ns b x y
theorem next_is {ns : List Int} {b x y : Nat} (h : Next ns b x y) : nextF ns b x = y := by
  have ex : ∃ y, Next ns b x y := ⟨y, h⟩
  have h' : Next ns b x (nextF ns b x) := Classical.epsilon_spec ex
  have h1 := h'.2.2 y h.1 h.2.1
  have h2 := h.2.2 _ h'.1 h'.2.1
  exact Nat.le_antisymm h1 h2
theorem next_ex {ns : List Int} {b x : Nat} (hb : b < ns.length) (hx : x < ns.length) (ne : x ≠ b) : Next ns b x (nextF ns b x) := by
  obtain ⟨y, hy, e⟩ := (far_dist hb).back x hx ne
  obtain ⟨m, ⟨m1, m2⟩, hm⟩ := least (p := fun y => adj ns x y ∧ far ns b y + 1 = far ns b x) y ⟨hy, by omega⟩
  have h : Next ns b x m := ⟨m1, m2, fun z h1 h2 => Nat.le_of_not_lt fun z' => hm z z' ⟨h1, h2⟩⟩
  rw [next_is h]
  exact h
noncomputable def wayF (ns : List Int) (b : Nat) : Nat → Nat → List Nat
  | 0, x => [x]
  | k + 1, x => x :: wayF ns b k (nextF ns b x)
theorem wayF_len (ns : List Int) (b : Nat) : ∀ k x, (wayF ns b k x).length = k + 1 := by
  intro k
  induction k with
  | zero => intro x; rfl
  | succ k ih => intro x; show (wayF ns b k (nextF ns b x)).length + 1 = _; rw [ih]
noncomputable def wayM (ns : List Int) (a b : Nat) : List Nat := wayF ns b (far ns b a) a
/-- a way, half gone -/
def Gone (ns : List Int) (a b : Nat) (found : List Nat) (here : Nat) : Prop := here < ns.length ∧ ∃ pre, found = pre ++ [here] ∧ pre ++ wayF ns b (far ns b here) here = wayM ns a b
theorem Gone.start {ns : List Int} {a b : Nat} (ha : a < ns.length) : Gone ns a b [a] a := ⟨ha, [], rfl, rfl⟩
theorem Gone.go {ns : List Int} {a b here : Nat} {found : List Nat} (hb : b < ns.length) (h : Gone ns a b found here) (ne : here ≠ b) : Gone ns a b (found ++ [nextF ns b here]) (nextF ns b here) := by
  obtain ⟨hx, pre, rfl, e⟩ := h
  obtain ⟨n1, n2, n3⟩ := next_ex hb hx ne
  refine ⟨n1.2.1, pre ++ [here], rfl, ?_⟩
  rw [← e, ← n2]
  show _ = pre ++ (here :: wayF ns b (far ns b (nextF ns b here)) (nextF ns b here))
  rw [List.append_assoc]
  rfl
theorem Gone.done {ns : List Int} {a b : Nat} {found : List Nat} (hb : b < ns.length) (h : Gone ns a b found b) : found = wayM ns a b := by
  obtain ⟨_, pre, rfl, e⟩ := h
  rw [← e, (far_dist hb).zero]
  rfl
theorem Gone.len {ns : List Int} {a b here : Nat} {found : List Nat} (ha : a < ns.length) (hb : b < ns.length) (h : Gone ns a b found here) : found.length ≤ ns.length := by
  obtain ⟨_, pre, rfl, e⟩ := h
  have h1 := congrArg List.length e
  have h2 := (far_dist hb).bound hb ha
  unfold wayM at h1
  rw [List.length_append, wayF_len, wayF_len] at h1
  rw [List.length_append, List.length_singleton]
  omega
theorem Gone.last {ns : List Int} {a b here : Nat} {found : List Nat} (h : Gone ns a b found here) : 0 < found.length ∧ found[found.length - 1]? = some here := by
  obtain ⟨_, pre, rfl, e⟩ := h
  simp
theorem wayM_pos {ns : List Int} {a b : Nat} : 0 < (wayM ns a b).length := by
  unfold wayM
  rw [wayF_len]
  omega
theorem wayM_len {ns : List Int} {a b : Nat} (ha : a < ns.length) (hb : b < ns.length) : (wayM ns a b).length ≤ ns.length := by
  unfold wayM
  rw [wayF_len]
  have := (far_dist hb).bound hb ha
  omega
/-! on a line -/
theorem line_far {n : Nat} {t : Int} {b x : Nat} (hb : b < n) (hx : x < n) : far (lineL n t) b x = gap b x :=
  (far_dist (by rw [line_len]; exact hb)).uniq (line_dist hb) (by rw [line_len]; exact hx)
theorem line_up {n : Nat} {t : Int} {b : Nat} (hb : b < n) : ∀ k a, a + k = b → wayF (lineL n t) b k a = (List.range (k + 1)).map fun i => a + i := by
  intro k
  induction k with
  | zero => intro a _; rfl
  | succ k ih =>
    intro a e
    have hx : nextF (lineL n t) b a = a + 1 := by
      refine next_is ⟨line_adj.mpr ⟨by omega, by omega, .inl rfl⟩, ?_, fun z hz hd => ?_⟩
      · rw [line_far hb (by omega), line_far hb (by omega)]
        unfold gap
        omega
      · obtain ⟨_, h2, h3⟩ := line_adj.mp hz
        rw [line_far hb (by omega), line_far hb (by omega)] at hd
        unfold gap at hd
        omega
    show a :: wayF (lineL n t) b k (nextF (lineL n t) b a) = _
    rw [hx, ih (a + 1) (by omega), List.range_succ_eq_map (n := k + 1), List.map_cons, List.map_map]
    refine congrArg (List.cons a) (List.map_congr_left fun i _ => ?_)
    show a + 1 + i = a + (i + 1)
    omega
theorem line_down {n : Nat} {t : Int} {b : Nat} : ∀ k a, a < n → b + k = a → wayF (lineL n t) b k a = (List.range (k + 1)).map fun i => a - i := by
  intro k
  induction k with
  | zero => intro a _ _; rfl
  | succ k ih =>
    intro a ha e
    have hb : b < n := by omega
    have hx : nextF (lineL n t) b a = a - 1 := by
      refine next_is ⟨line_adj.mpr ⟨by omega, by omega, .inr (by omega)⟩, ?_, fun z hz hd => ?_⟩
      · rw [line_far hb (by omega), line_far hb (by omega)]
        unfold gap
        omega
      · obtain ⟨_, h2, h3⟩ := line_adj.mp hz
        omega
    show a :: wayF (lineL n t) b k (nextF (lineL n t) b a) = _
    rw [hx, ih (a - 1) (by omega) (by omega), List.range_succ_eq_map (n := k + 1), List.map_cons, List.map_map]
    refine congrArg (List.cons a) (List.map_congr_left fun i _ => ?_)
    show a - 1 - i = a - (i + 1)
    omega
theorem line_wayU {n : Nat} {t : Int} {a b : Nat} (hb : b < n) (h : a ≤ b) : wayM (lineL n t) a b = (List.range (b - a + 1)).map fun i => a + i := by
  unfold wayM
  rw [line_far hb (by omega)]
  have e : gap b a = b - a := by unfold gap; omega
  rw [e]
  exact line_up hb _ _ (by omega)
theorem line_wayD {n : Nat} {t : Int} {a b : Nat} (ha : a < n) (h : b ≤ a) : wayM (lineL n t) a b = (List.range (a - b + 1)).map fun i => a - i := by
  unfold wayM
  rw [line_far (by omega) ha]
  have e : gap b a = a - b := by unfold gap; omega
  rw [e]
  exact line_down _ _ ha (by omega)
/-! the law's own rounds -/
def lvl (n : Nat) (d : Nat → Nat) (m i x : Nat) : Nat := if d x ≤ m ∨ (d x = m + 1 ∧ x < i) then d x else n


def top (i : Nat) : Stmt := PySem.Challenge.pw_hillsight_k09_whole_ways.main.body.getD i (.Pass ⟨0, 0, 0, 0⟩)
abbrev s_is_whole : Stmt := top 4
abbrev s_need_hill : Stmt := top 5
abbrev s_slope : Stmt := top 6
abbrev s_steeper : Stmt := top 7
abbrev s_behind : Stmt := top 9
abbrev s_sights : Stmt := top 10
abbrev s_beside : Stmt := top 12
abbrev s_steps : Stmt := top 13
abbrev s_way : Stmt := top 14
abbrev s_law_whole : Stmt := top 16
abbrev s_law_cell_at : Stmt := top 17
abbrev s_law_height_by : Stmt := top 18
abbrev s_law_longer : Stmt := top 19
abbrev s_law_land_by : Stmt := top 20
abbrev s_law_seen_by : Stmt := top 21
abbrev s_law_near : Stmt := top 22
abbrev s_law_left_by : Stmt := top 23
abbrev s_law_refused : Stmt := top 24
abbrev s_law_known : Stmt := top 25
abbrev s_law : Stmt := top 26
theorem sc_is_whole : FnScope ["thing"] ["thing"] (defScope s_is_whole) := ⟨rfl, rfl, rfl, by decide +kernel, rfl, by decide +kernel, by decide +kernel⟩
theorem sc_need_hill : FnScope ["land", "place"] ["land", "place"] (defScope s_need_hill) := ⟨rfl, rfl, rfl, by decide +kernel, rfl, by decide +kernel, by decide +kernel⟩
theorem sc_slope : FnScope ["land", "a", "b"] ["land", "a", "b"] (defScope s_slope) := ⟨rfl, rfl, rfl, by decide +kernel, rfl, by decide +kernel, by decide +kernel⟩
theorem sc_steeper : FnScope ["one", "other"] ["one", "other"] (defScope s_steeper) := ⟨rfl, rfl, rfl, by decide +kernel, rfl, by decide +kernel, by decide +kernel⟩
theorem sc_behind : FnScope ["land", "a", "found", "best", "b", "now"] ["land", "a"] (defScope s_behind) := ⟨rfl, rfl, rfl, by decide +kernel, rfl, by decide +kernel, by decide +kernel⟩
theorem sc_sights : FnScope ["land", "found", "a", "b"] ["land"] (defScope s_sights) := ⟨rfl, rfl, rfl, by decide +kernel, rfl, by decide +kernel, by decide +kernel⟩
theorem sc_beside : FnScope ["land", "found", "place", "a", "b", "row"] ["land"] (defScope s_beside) := ⟨rfl, rfl, rfl, by decide +kernel, rfl, by decide +kernel, by decide +kernel⟩
theorem sc_steps : FnScope ["rows", "a", "found", "row", "ring", "many", "later", "place", "other"] ["rows", "a"] (defScope s_steps) := ⟨rfl, rfl, rfl, by decide +kernel, rfl, by decide +kernel, by decide +kernel⟩
theorem sc_way : FnScope ["land", "a", "b", "rows", "left", "found", "here", "place"] ["land", "a", "b"] (defScope s_way) := ⟨rfl, rfl, rfl, by decide +kernel, rfl, by decide +kernel, by decide +kernel⟩
theorem sc_law_whole : FnScope ["_law_found"] ["_law_found"] (defScope s_law_whole) := ⟨rfl, rfl, rfl, by decide +kernel, rfl, by decide +kernel, by decide +kernel⟩
theorem sc_law_cell_at : FnScope ["_law_script", "_law_k"] ["_law_script", "_law_k"] (defScope s_law_cell_at) := ⟨rfl, rfl, rfl, by decide +kernel, rfl, by decide +kernel, by decide +kernel⟩
theorem sc_law_height_by : FnScope ["_law_cell", "_law_k", "_law_kind", "_law_tilt", "_law_far"] ["_law_cell", "_law_k", "_law_kind", "_law_tilt"] (defScope s_law_height_by) := ⟨rfl, rfl, rfl, by decide +kernel, rfl, by decide +kernel, by decide +kernel⟩
theorem sc_law_longer : FnScope ["_law_script", "_law_land", "_law_most", "_law_many", "_law_head", "_law_tilt", "_law_found", "_law_k", "_law_cell"] ["_law_script", "_law_land", "_law_most", "_law_many"] (defScope s_law_longer) := ⟨rfl, rfl, rfl, by decide +kernel, rfl, by decide +kernel, by decide +kernel⟩
theorem sc_law_land_by : FnScope ["_law_script", "_law_most", "_law_head", "_law_size", "_law_kind", "_law_tilt", "_law_k"] ["_law_script", "_law_most"] (defScope s_law_land_by) := ⟨rfl, rfl, rfl, by decide +kernel, rfl, by decide +kernel, by decide +kernel⟩
theorem sc_law_seen_by : FnScope ["_law_land", "_law_low", "_law_high", "_law_rise", "_law_k"] ["_law_land", "_law_low", "_law_high"] (defScope s_law_seen_by) := ⟨rfl, rfl, rfl, by decide +kernel, rfl, by decide +kernel, by decide +kernel⟩
theorem sc_law_near : FnScope ["_law_land", "_law_b", "_law_found", "_law_k"] ["_law_land", "_law_b"] (defScope s_law_near) := ⟨rfl, rfl, rfl, by decide +kernel, rfl, by decide +kernel, by decide +kernel⟩
theorem sc_law_left_by : FnScope ["_law_rows", "_law_b", "_law_found", "_law_row", "_law_many", "_law_here", "_law_k"] ["_law_rows", "_law_b"] (defScope s_law_left_by) := ⟨rfl, rfl, rfl, by decide +kernel, rfl, by decide +kernel, by decide +kernel⟩
theorem sc_law_refused : FnScope ["_law_land", "_law_a", "_law_b"] ["_law_land", "_law_a", "_law_b"] (defScope s_law_refused) := ⟨rfl, rfl, rfl, by decide +kernel, rfl, by decide +kernel, by decide +kernel⟩
theorem sc_law_known : FnScope ["_law_script", "_law_size", "_law_tilt", "_law_a", "_law_b", "_law_land", "_law_k"] ["_law_script"] (defScope s_law_known) := ⟨rfl, rfl, rfl, by decide +kernel, rfl, by decide +kernel, by decide +kernel⟩
theorem sc_law : FnScope ["_law_script", "_law_land", "_law_many", "_law_handed", "_law_size", "_law_a", "_law_b", "_law_some", "_law_strange", "_law_rows", "_law_here", "_law_left", "_law_due", "_law_k", "_law_found", "_law_place"] ["_law_script"] (defScope s_law) := ⟨rfl, rfl, rfl, by decide +kernel, rfl, by decide +kernel, by decide +kernel⟩
structure Txt (K : PySem.W.Frag) (mg : Str → Option Value) where
  a_is_whole : Addr
  d_is_whole : FuncData
  F_is_whole : Fun K "is_whole" "is_whole" s_is_whole a_is_whole d_is_whole
  b_is_whole : Binds K d_is_whole ["thing"] []
  g_is_whole : mg "is_whole" = some (.ref a_is_whole)
  a_need_hill : Addr
  d_need_hill : FuncData
  F_need_hill : Fun K "need_hill" "need_hill" s_need_hill a_need_hill d_need_hill
  b_need_hill : Binds K d_need_hill ["land", "place"] []
  g_need_hill : mg "need_hill" = some (.ref a_need_hill)
  a_slope : Addr
  d_slope : FuncData
  F_slope : Fun K "slope" "slope" s_slope a_slope d_slope
  b_slope : Binds K d_slope ["land", "a", "b"] []
  g_slope : mg "slope" = some (.ref a_slope)
  a_steeper : Addr
  d_steeper : FuncData
  F_steeper : Fun K "steeper" "steeper" s_steeper a_steeper d_steeper
  b_steeper : Binds K d_steeper ["one", "other"] []
  g_steeper : mg "steeper" = some (.ref a_steeper)
  a_behind : Addr
  d_behind : FuncData
  F_behind : Fun K "behind" "behind" s_behind a_behind d_behind
  b_behind : Binds K d_behind ["land", "a"] []
  g_behind : mg "behind" = some (.ref a_behind)
  a_sights : Addr
  d_sights : FuncData
  F_sights : Fun K "sights" "sights" s_sights a_sights d_sights
  b_sights : Binds K d_sights ["land"] []
  g_sights : mg "sights" = some (.ref a_sights)
  a_beside : Addr
  d_beside : FuncData
  F_beside : Fun K "beside" "beside" s_beside a_beside d_beside
  b_beside : Binds K d_beside ["land"] []
  g_beside : mg "beside" = some (.ref a_beside)
  a_steps : Addr
  d_steps : FuncData
  F_steps : Fun K "steps" "steps" s_steps a_steps d_steps
  b_steps : Binds K d_steps ["rows", "a"] []
  g_steps : mg "steps" = some (.ref a_steps)
  a_way : Addr
  d_way : FuncData
  F_way : Fun K "way" "way" s_way a_way d_way
  b_way : Binds K d_way ["land", "a", "b"] []
  g_way : mg "way" = some (.ref a_way)
  a_law_whole : Addr
  d_law_whole : FuncData
  F_law_whole : Fun K "_law_whole" "_law_whole" s_law_whole a_law_whole d_law_whole
  b_law_whole : Binds K d_law_whole ["_law_found"] []
  g_law_whole : mg "_law_whole" = some (.ref a_law_whole)
  a_law_cell_at : Addr
  d_law_cell_at : FuncData
  F_law_cell_at : Fun K "_law_cell_at" "_law_cell_at" s_law_cell_at a_law_cell_at d_law_cell_at
  b_law_cell_at : Binds K d_law_cell_at ["_law_script", "_law_k"] []
  g_law_cell_at : mg "_law_cell_at" = some (.ref a_law_cell_at)
  a_law_height_by : Addr
  d_law_height_by : FuncData
  F_law_height_by : Fun K "_law_height_by" "_law_height_by" s_law_height_by a_law_height_by d_law_height_by
  b_law_height_by : Binds K d_law_height_by ["_law_cell", "_law_k", "_law_kind", "_law_tilt"] []
  g_law_height_by : mg "_law_height_by" = some (.ref a_law_height_by)
  a_law_longer : Addr
  d_law_longer : FuncData
  F_law_longer : Fun K "_law_longer" "_law_longer" s_law_longer a_law_longer d_law_longer
  b_law_longer : Binds K d_law_longer ["_law_script", "_law_land", "_law_most", "_law_many"] []
  g_law_longer : mg "_law_longer" = some (.ref a_law_longer)
  a_law_land_by : Addr
  d_law_land_by : FuncData
  F_law_land_by : Fun K "_law_land_by" "_law_land_by" s_law_land_by a_law_land_by d_law_land_by
  b_law_land_by : Binds K d_law_land_by ["_law_script", "_law_most"] []
  g_law_land_by : mg "_law_land_by" = some (.ref a_law_land_by)
  a_law_seen_by : Addr
  d_law_seen_by : FuncData
  F_law_seen_by : Fun K "_law_seen_by" "_law_seen_by" s_law_seen_by a_law_seen_by d_law_seen_by
  b_law_seen_by : Binds K d_law_seen_by ["_law_land", "_law_low", "_law_high"] []
  g_law_seen_by : mg "_law_seen_by" = some (.ref a_law_seen_by)
  a_law_near : Addr
  d_law_near : FuncData
  F_law_near : Fun K "_law_near" "_law_near" s_law_near a_law_near d_law_near
  b_law_near : Binds K d_law_near ["_law_land", "_law_b"] []
  g_law_near : mg "_law_near" = some (.ref a_law_near)
  a_law_left_by : Addr
  d_law_left_by : FuncData
  F_law_left_by : Fun K "_law_left_by" "_law_left_by" s_law_left_by a_law_left_by d_law_left_by
  b_law_left_by : Binds K d_law_left_by ["_law_rows", "_law_b"] []
  g_law_left_by : mg "_law_left_by" = some (.ref a_law_left_by)
  a_law_refused : Addr
  d_law_refused : FuncData
  F_law_refused : Fun K "_law_refused" "_law_refused" s_law_refused a_law_refused d_law_refused
  b_law_refused : Binds K d_law_refused ["_law_land", "_law_a", "_law_b"] []
  g_law_refused : mg "_law_refused" = some (.ref a_law_refused)
  a_law_known : Addr
  d_law_known : FuncData
  F_law_known : Fun K "_law_known" "_law_known" s_law_known a_law_known d_law_known
  b_law_known : Binds K d_law_known ["_law_script"] []
  g_law_known : mg "_law_known" = some (.ref a_law_known)
  a_law : Addr
  d_law : FuncData
  F_law : Fun K "law" "law" s_law a_law d_law
  b_law : Binds K d_law ["_law_script"] []
  g_law : mg "law" = some (.ref a_law)
  c_HillError : Addr
  g_HillError : mg "HillError" = some (.ref c_HillError)
  x_HillError : PySem.W.excIn K c_HillError [.type "ValueError", .type "Exception", .type "BaseException", .type "object"] "ValueError.__new__" = true
  k_HillError : PySem.W.keepIn K (.ref c_HillError) = true
  e_HillError : PySem.W.subIn K (.ref c_HillError) (.type "BaseException") = some true
  t_HillError : PySem.W.typeIn K (.ref c_HillError) = some (.type "type")
  i_HillError : PySem.W.isClsIn K c_HillError = true
  c_NoHill : Addr
  g_NoHill : mg "NoHill" = some (.ref c_NoHill)
  x_NoHill : PySem.W.excIn K c_NoHill [.type "ValueError", .type "Exception", .type "BaseException", .type "object"] "ValueError.__new__" = true
  k_NoHill : PySem.W.keepIn K (.ref c_NoHill) = true
  e_NoHill : PySem.W.subIn K (.ref c_NoHill) (.type "BaseException") = some true
  t_NoHill : PySem.W.typeIn K (.ref c_NoHill) = some (.type "type")
  i_NoHill : PySem.W.isClsIn K c_NoHill = true
  s_NoHill_NoHill : PySem.W.subIn K (.ref c_NoHill) (.ref c_NoHill) = some true
  n_all : mg "all" = none
  n_any : mg "any" = none
  n_bool : mg "bool" = none
  n_int : mg "int" = none
  n_isinstance : mg "isinstance" = none
  n_len : mg "len" = none
  n_list : mg "list" = none
  n_max : mg "max" = none
  n_min : mg "min" = none
  n_range : mg "range" = none
  n_sorted : mg "sorted" = none
section
variable {P : Program} {w : World} {K : PySem.W.Frag} {mg : Str → Option Value} {base : Heap}
theorem ok_law_cell_at (T : Txt K mg) : FnOk P w K mg base CX0 1 T.a_law_cell_at T.d_law_cell_at ["_law_script", "_law_k"] (spCell K) := by
  refine T.F_law_cell_at.ok sc_law_cell_at (fun vs H Q E h => ?_) (fun cdv A outer s H vs Q E hr h => ⟨_, (pss_cons (ps_if (pt_cmpR op_lt (pv 1) (pe_callB (call_lenK (K := K) rfl) rfl T.n_len (by decide +kernel) (pa_cons (pv 0) pa_nil)) (nomark _)) (pss_one (ps_ret (pe_ix (ix_listK (K := K) rfl) (pv 0) (pv 1) (fun _ _ => rfl)))) pss_nil)
      (pss_one (ps_ret pe_int))), ?_⟩)
  · obtain ⟨l, ns, k, rfl, _⟩ := h
    rfl
  · obtain ⟨l, ns, k, rfl, h0, hS, q⟩ := h
    walk_at "rd"
    refine ite2 (fun c => ?_) (fun c => ?_)
    · have c' : k < (ns.length : Int) := by simpa using c
      walk_at "rd"
      exact rd_ixL hS (IL_at h0 c') q
    · have c' : ¬ k < (ns.length : Int) := by simpa using c
      walk_at "rd"
      have e : cell ns k.toNat = 0 := by
        unfold cell
        rw [List.getD_eq_getElem?_getD, List.getElem?_eq_none (by omega)]
        rfl
      rw [e] at q
      exact q

theorem ok_law_whole (T : Txt K mg) : FnOk P w K mg base CX0 1 T.a_law_whole T.d_law_whole ["_law_found"] (spWhole K) := by
  refine T.F_law_whole.ok sc_law_whole (fun vs H Q E h => ?_) (fun cdv A outer s H vs Q E hr h => ⟨_, (pss_one (ps_ret (pe_and (pe_callB (call_isiK0 (K := K) rfl) rfl T.n_isinstance (by decide +kernel) (pa_cons (pv 0) (pa_cons (pe_bltn (v := .ty "int") (by rfl) T.n_int (by decide +kernel) rfl) pa_nil))) (pe_one (pe_not (pe_callB (call_isiK0 (K := K) rfl) rfl T.n_isinstance (by decide +kernel) (pa_cons (pv 0) (pa_cons (pe_bltn (v := .ty "bool") (by rfl) T.n_bool (by decide +kernel) rfl) pa_nil)))))))), ?_⟩)
  · obtain ⟨x, r, rfl, _⟩ := h
    rfl
  · exact whole_run h

/-! ## heights and lands of the script -/
def Bd (z : Int) : Prop := -1000000000000000000 ≤ z ∧ z ≤ 1000000000000000000
theorem FAR_eq : (10 : Int) ^ (18 : Int).toNat = 1000000000000000000 := by decide +kernel
theorem tilt_b {t k : Int} (ht : -3 ≤ t ∧ t ≤ 3) (hk : 0 ≤ k ∧ k ≤ 1000) : -3000 ≤ t * k ∧ t * k ≤ 3000 := by
  have : t = -3 ∨ t = -2 ∨ t = -1 ∨ t = 0 ∨ t = 1 ∨ t = 2 ∨ t = 3 := by omega
  rcases this with h | h | h | h | h | h | h <;> subst h <;> omega
theorem sq_b {k u : Int} (hk : 0 ≤ k ∧ k ≤ 1000) (hu : -1 ≤ u ∧ u ≤ 1) : -1000000 ≤ k * k * u ∧ k * k * u ≤ 1000000 := by
  have h1 : 0 ≤ k * k := Int.mul_nonneg hk.1 hk.1
  have h2 : k * k ≤ 1000 * 1000 := Int.mul_le_mul hk.2 hk.2 hk.1 (by decide)
  have : u = -1 ∨ u = 0 ∨ u = 1 := by omega
  rcases this with h | h | h <;> subst h <;> omega
def spHeight : Sp := fun vs H Q _ => ∃ (c k kind tilt : Int), vs = [.int c, .int k, .int kind, .int tilt] ∧ (0 ≤ k ∧ k ≤ 1000) ∧ (-3 ≤ tilt ∧ tilt ≤ 3) ∧ ∀ z, Bd z → Q (.int z) H
theorem ok_law_height_by (T : Txt K mg) : FnOk P w K mg base CX0 1 T.a_law_height_by T.d_law_height_by ["_law_cell", "_law_k", "_law_kind", "_law_tilt"] spHeight := by
  refine T.F_law_height_by.ok sc_law_height_by (fun vs H Q E h => ?_) (fun cdv A outer s H vs Q E hr h => ⟨_, (pss_cons (ps_set (i := 4) sc_law_height_by.nd rfl (Or.inl rfl) (pe_op op_pow pe_int pe_int))
      (pss_cons (ps_if (pt_cmpR op_eq (pv 2) pe_int (nomark _)) (pss_one (ps_ret (pe_op op_sub (pe_op op_mod (pv 0) pe_int) pe_int))) pss_nil)
      (pss_cons (ps_if (pt_cmpR op_eq (pv 2) pe_int (nomark _)) (pss_one (ps_ret (pe_op op_add (pe_op op_mul (pv 3) (pv 1)) (pe_op op_mod (pv 0) pe_int)))) pss_nil)
      (pss_cons (ps_if (pt_cmpR op_eq (pv 2) pe_int (nomark _)) (pss_one (ps_ret (pe_op op_sub (pe_op op_mod (pe_op op_mul (pv 0) pe_int) (pe_op op_add (pe_op op_mul pe_int (pv 4)) pe_int)) (pv 4)))) pss_nil)
      (pss_cons (ps_if (pt_cmpR op_eq (pv 2) pe_int (nomark _)) (pss_one (ps_ret (pe_op op_add (pe_op op_mul (pe_op op_mul (pv 1) (pv 1)) (pe_op op_sub (pe_op op_mod (pv 3) pe_int) pe_int)) (pe_op op_mod (pv 0) pe_int)))) pss_nil)
      (pss_one (ps_ret (pe_op op_sub (pv 4) (pe_op op_mod (pv 0) pe_int))))))))), ?_⟩)
  · obtain ⟨c, k, kind, tilt, rfl, _⟩ := h
    rfl
  · obtain ⟨c, k, kind, tilt, rfl, hk, ht, q⟩ := h
    have hF := FAR_eq
    walk_at "rd"
    generalize (10 : Int) ^ (18 : Int).toNat = F at *
    refine ite2 (fun _ => ?_) (fun _ => ?_)
    · walk_at "rd"
      exact q _ ⟨by omega, by omega⟩
    walk_at "rd"
    refine ite2 (fun _ => ?_) (fun _ => ?_)
    · walk_at "rd"
      have := tilt_b ht hk
      exact q _ ⟨by omega, by omega⟩
    walk_at "rd"
    refine ite2 (fun _ => ?_) (fun _ => ?_)
    · walk_at "rd"
      have := emod_b (x := c * 48271) (n := 2 * F + 1) (by omega)
      exact q _ ⟨by omega, by omega⟩
    walk_at "rd"
    refine ite2 (fun _ => ?_) (fun _ => ?_)
    · walk_at "rd"
      have := sq_b (u := tilt % 3 - 1) hk (by omega)
      exact q _ ⟨by omega, by omega⟩
    walk_at "rd"
    exact q _ ⟨by omega, by omega⟩
def spLandBy (K : PySem.W.Frag) : Sp := fun vs H Q _ => ∃ (l : Addr) (ns : List Int) (most : Int), vs = [.ref l, .int most] ∧ SqL K H l (IL ns) ∧ (0 < most ∧ most ≤ 900) ∧
  ∀ D hs, H D = none → (0 < hs.length ∧ (hs.length : Int) ≤ most) → (∀ z ∈ hs, Bd z) → Q (.ref D) (upd H D (.lst (IL hs)))
theorem ok_law_land_by (T : Txt K mg) : FnOk P w K mg base CX0 2 T.a_law_land_by T.d_law_land_by ["_law_script", "_law_most"] (spLandBy K) := by
  refine T.F_law_land_by.ok sc_law_land_by (fun vs H Q E h => ?_) (fun cdv A outer s H vs Q E hr h => ⟨_, (pss_cons (ps_set (i := 2) sc_law_land_by.nd rfl (Or.inl rfl) (pe_call (ok_law_cell_at T) (hr.mono (by decide)) rfl T.g_law_cell_at T.F_law_cell_at.kp T.b_law_cell_at .nil pass0 (pa_cons (pv 0) (pa_cons pe_int pa_nil))))
      (pss_cons (ps_set (i := 3) sc_law_land_by.nd rfl (Or.inl rfl) (pe_op op_add pe_int (pe_op op_mod (pv 2) (pv 1))))
      (pss_cons (ps_set (i := 4) sc_law_land_by.nd rfl (Or.inr rfl) (pe_op op_mod (pe_op op_fdiv (pv 2) (pv 1)) pe_int))
      (pss_cons (ps_set (i := 5) sc_law_land_by.nd rfl (Or.inr rfl) (pe_op op_sub (pe_op op_mod (pe_op op_fdiv (pe_op op_fdiv (pv 2) (pv 1)) pe_int) pe_int) pe_int))
      (pss_one (ps_ret (pe_lc (own := [("_law_k", 6)]) (g := gName 6) rfl sc_law_land_by.nd (pi_range1 rfl T.n_range (pa_cons (pv 3) pa_nil)) (blkOk_by (own := [("_law_k", 6)]) (N := ["_law_script", "_law_most", "_law_head", "_law_size", "_law_kind", "_law_tilt", "_law_k"]) (sc := defScope s_law_land_by) (by decide +kernel)) (fun _ _ _ _ _ => (pg_name (i := 6) sc_law_land_by.nd rfl (Or.inl rfl))) (fun _ _ _ _ _ => pts_nil) (fun _ _ _ _ _ => (pe_call (ok_law_height_by T) (hr.mono (by decide)) rfl T.g_law_height_by T.F_law_height_by.kp T.b_law_height_by .nil pass0 (pa_cons (pe_call (ok_law_cell_at T) (hr.mono (by decide)) rfl T.g_law_cell_at T.F_law_cell_at.kp T.b_law_cell_at .nil pass0 (pa_cons (pv 0) (pa_cons (pe_op op_add pe_int (pv 6)) pa_nil))) (pa_cons (pv 6) (pa_cons (pv 4) (pa_cons (pv 5) pa_nil))))))))))))), ?_⟩)
  · obtain ⟨l, ns, most, rfl, _⟩ := h
    rfl
  · obtain ⟨l, ns, most, rfl, hS, hm, q⟩ := h
    walk_at "rd"
    generalize cell ns (Int.toNat 0) = hd
    have m1 := emod_b (x := hd) hm.1
    obtain ⟨n, hn⟩ : ∃ n, n = 1 + hd % most := ⟨_, rfl⟩
    rw [← hn]
    refine ⟨n, rfl, by omega, by omega, fun D nD => lc_range (lo := 0) (n := n.toNat) (fun i H' => ∃ zs : List Int, H' = upd H D (.lst (IL zs)) ∧ zs.length = i ∧ ∀ z ∈ zs, Bd z) ⟨[], rfl, rfl, fun _ h => by cases h⟩ ?_ ?_⟩
    · rintro i _ hi ⟨zs, rfl, hl, hb⟩
      have hS1 := (same_upd (o := .lst (IL zs)) nD).seq hS
      walk_at "rd"
      refine ⟨by rw [hn]; rfl, ?_⟩
      walk_at "rd"
      refine ⟨_, _, _, _, rfl, ⟨by omega, by omega⟩, ⟨by omega, by omega⟩, fun z bz => ?_⟩
      refine ⟨_, upd_same, by rw [List.length_map]; exact szlt (by omega), ?_⟩
      refine ⟨zs ++ [z], upd_snoc, len_snoc hl, fun y hy => ?_⟩
      rcases List.mem_append.mp hy with h | h
      · exact hb y h
      · rw [List.mem_singleton.mp h]
        exact bz
    · rintro _ ⟨zs, rfl, hl, hb⟩
      exact q D zs nD ⟨by omega, by omega⟩ hb

def spLonger (K : PySem.W.Frag) : Sp := fun vs H Q _ => ∃ (l a : Addr) (ns hs : List Int) (most many : Int), vs = [.ref l, .ref a, .int most, .int many] ∧ SqL K H l (IL ns) ∧ SqL K H a (IL hs) ∧ (0 < most ∧ most ≤ 900) ∧ (0 ≤ many ∧ (hs.length : Int) + many ≤ 900) ∧ (∀ z ∈ hs, Bd z) ∧
  ∀ D zs, H D = none → (zs.length : Int) = hs.length + many → (∀ z ∈ zs, Bd z) → Q (.ref D) (upd H D (.lst (IL zs)))
theorem ok_law_longer (T : Txt K mg) : FnOk P w K mg base CX0 2 T.a_law_longer T.d_law_longer ["_law_script", "_law_land", "_law_most", "_law_many"] (spLonger K) := by
  refine T.F_law_longer.ok sc_law_longer (fun vs H Q E h => ?_) (fun cdv A outer s H vs Q E hr h => ⟨_, (pss_cons (ps_set (i := 4) sc_law_longer.nd rfl (Or.inl rfl) (pe_call (ok_law_cell_at T) (hr.mono (by decide)) rfl T.g_law_cell_at T.F_law_cell_at.kp T.b_law_cell_at .nil pass0 (pa_cons (pv 0) (pa_cons pe_int pa_nil))))
      (pss_cons (ps_set (i := 5) sc_law_longer.nd rfl (Or.inl rfl) (pe_op op_sub (pe_op op_mod (pe_op op_fdiv (pe_op op_fdiv (pv 4) (pv 2)) pe_int) pe_int) pe_int))
      (pss_cons (ps_set (i := 6) sc_law_longer.nd rfl (Or.inl rfl) (pe_callTy (call_listK (K := K) rfl) rfl T.n_list (by decide +kernel) (pa_cons (pv 1) pa_nil)))
      (pss_cons (ps_for PassesOwn.never rfl (pi_range1 rfl T.n_range (pa_cons (pv 3) pa_nil)) (pg_name (i := 7) sc_law_longer.nd rfl (Or.inl rfl)) (pss_cons (ps_set (i := 8) sc_law_longer.nd rfl (Or.inl rfl) (pe_op op_mul (pe_call (ok_law_cell_at T) (hr.mono (by decide)) rfl T.g_law_cell_at T.F_law_cell_at.kp T.b_law_cell_at .nil pass0 (pa_cons (pv 0) (pa_cons (pe_op op_add pe_int (pe_op op_mod (pv 7) pe_int)) pa_nil))) (pe_op op_add (pv 7) pe_int)))
        (pss_one (ps_expr (pe_bmK (K := K) rfl PySem.F.plainAttrs_list PySem.F.slot_list_append PySem.F.type_list_append mt_append (pv 6) (pa_cons (pe_call (ok_law_height_by T) (hr.mono (by decide)) rfl T.g_law_height_by T.F_law_height_by.kp T.b_law_height_by .nil pass0 (pa_cons (pv 8) (pa_cons (pe_callB (call_lenK (K := K) rfl) rfl T.n_len (by decide +kernel) (pa_cons (pv 6) pa_nil)) (pa_cons (pe_op op_mod (pe_op op_fdiv (pv 4) (pv 2)) pe_int) (pa_cons (pv 5) pa_nil))))) pa_nil))))))
      (pss_one (ps_ret (pv 6))))))), ?_⟩)
  · obtain ⟨l, a, ns, hs, most, many, rfl, _⟩ := h
    rfl
  · obtain ⟨l, a, ns, hs, most, many, rfl, hS, hA, hm, hn, hb, q⟩ := h
    walk_at "rd"
    generalize cell ns (Int.toNat 0) = hd
    intro D nD
    have hS1 := (same_upd (o := .lst (IL hs)) nD).seq hS
    walk_at "rd"
    refine rng1 ⟨by omega, by omega⟩ (fun i σ H' => ∃ (zs : List Int) (v1 v2 : Option V), σ = [some (.ref l), some (.ref a), some (.int most), some (.int many), some (.int hd), some (.int (hd / most / 5 % 7 - 3)), some (.ref D), v1, v2] ∧ H' = upd H D (.lst (IL zs)) ∧ zs.length = hs.length + i ∧ ∀ z ∈ zs, Bd z)
      ⟨hs, none, none, rfl, rfl, rfl, hb⟩ ?_ ?_
    · rintro i σ H' hi ⟨zs, v1, v2, rfl, rfl, hl, hbz⟩
      have hS2 := (same_upd (o := .lst (IL zs)) nD).seq hS
      walk_at "rd"
      refine ⟨ty_list (.of upd_same), ?_⟩
      walk_at "rd"
      refine ⟨_, _, _, _, rfl, ⟨by omega, by rw [List.length_map]; omega⟩, ⟨by omega, by omega⟩, fun z bz => ?_⟩
      walk_at "rd"
      refine rd_append upd_same (by rw [List.length_map]; omega) ?_
      refine ⟨zs ++ [z], _, _, rfl, upd_snoc, by rw [List.length_append, hl]; rfl, fun y hy => ?_⟩
      rcases List.mem_append.mp hy with h | h
      · exact hbz y h
      · rw [List.mem_singleton.mp h]
        exact bz
    · rintro σ H' ⟨zs, v1, v2, rfl, rfl, hl, hbz⟩
      walk_at "rd"
      exact q D zs nD (by omega) hbz

theorem ok_is_whole (T : Txt K mg) : FnOk P w K mg base CX0 1 T.a_is_whole T.d_is_whole ["thing"] (spWhole K) := by
  refine T.F_is_whole.ok sc_is_whole (fun vs H Q E h => ?_) (fun cdv A outer s H vs Q E hr h => ⟨_, (pss_one (ps_ret (pe_and (pe_callB (call_isiK0 (K := K) rfl) rfl T.n_isinstance (by decide +kernel) (pa_cons (pv 0) (pa_cons (pe_bltn (v := .ty "int") (by rfl) T.n_int (by decide +kernel) rfl) pa_nil))) (pe_one (pe_not (pe_callB (call_isiK0 (K := K) rfl) rfl T.n_isinstance (by decide +kernel) (pa_cons (pv 0) (pa_cons (pe_bltn (v := .ty "bool") (by rfl) T.n_bool (by decide +kernel) rfl) pa_nil)))))))), ?_⟩)
  · obtain ⟨x, r, rfl, _⟩ := h
    rfl
  · exact whole_run h

/-! ## the places -/
/-- a place at which a hill stands -/
def Ok (x : V) (n : Nat) : Prop := ∃ i : Nat, x = .int (i : Int) ∧ i < n
theorem ok_int {i : Int} {n : Nat} : Ok (.int i) n ↔ 0 ≤ i ∧ i < n := by
  constructor
  · rintro ⟨k, e, h⟩
    have := V.int.inj e
    omega
  · rintro ⟨h1, h2⟩
    exact ⟨i.toNat, congrArg V.int (by omega), by omega⟩
/-- what x is, as is_whole tells -/
def Wh (K : PySem.W.Frag) (H : Hp) (x : V) : Prop := ∃ r, Whole K H x r ∧ (r = true ↔ ∃ i, x = .int i)
theorem wh_int {K : PySem.W.Frag} {H : Hp} {i : Int} : Wh K H (.int i) := ⟨true, whole_int, by simp⟩
theorem wh_bl {K : PySem.W.Frag} {H : Hp} {b : Bool} : Wh K H (.bl b) := ⟨false, whole_bl, by simp⟩
theorem wh_non {K : PySem.W.Frag} {H : Hp} : Wh K H .non := ⟨false, whole_non, by simp⟩
theorem wh_str {K : PySem.W.Frag} {H : Hp} {z : Str} : Wh K H (.str z) := ⟨false, whole_str, by simp⟩
theorem wh_lst {K : PySem.W.Frag} {H : Hp} {a : Addr} {xs : List V} (h : H a = some (.lst xs)) : Wh K H (.ref a) := ⟨false, whole_lst h, by simp⟩
theorem wh_tup {K : PySem.W.Frag} {H : Hp} {a : Addr} {xs : List V} (h : H a = some (.tup xs)) : Wh K H (.ref a) := ⟨false, whole_tup h, by simp⟩
def spNeed (K : PySem.W.Frag) (C : Addr) : Sp := fun vs H Q E => ∃ (l : Addr) (ns : List Int) (x : V), vs = [.ref l, x] ∧ SqL K H l (IL ns) ∧ Wh K H x ∧
  (¬ Ok x ns.length → E (.ref C) none H) ∧ (Ok x ns.length → Q x H)
theorem ok_need_hill (T : Txt K mg) : FnOk P w K mg base (L2.CX P w) 2 T.a_need_hill T.d_need_hill ["land", "place"] (spNeed K T.c_NoHill) := by
  refine T.F_need_hill.okX sc_need_hill (fun vs H Q E h => ?_) (fun cdv A outer s H vs Q E hr h => ⟨_, (pss_cons (ps_if (PW.pt (pw_or (pt_not (pt_val (pe_call (ok_is_whole T) (hr.mono (by decide)) rfl T.g_is_whole T.F_is_whole.kp T.b_is_whole .nil pass0 (pa_cons (pv 1) pa_nil)))) (pw_or1 (pt_not (pt_chain op_le op_lt pe_int (pv 1) (pe_callB (call_lenK (K := K) rfl) rfl T.n_len (by decide +kernel) (pa_cons (pv 0) pa_nil))))))) (pss_one (ps_raise rfl (takes_of rfl rfl rfl rfl) (pmk_own PySem.F.excBase_ValueError T.x_NoHill T.g_NoHill T.k_NoHill (raises_own T.e_NoHill T.t_NoHill) (by rfl)))) pss_nil)
      (pss_one (ps_ret (pv 1)))), ?_⟩)
  · obtain ⟨l, ns, x, rfl, _⟩ := h
    rfl
  · obtain ⟨l, ns, x, rfl, hS, ⟨r, hx, hi⟩, e, q⟩ := h
    walk_at "rd"
    refine ⟨x, r, rfl, hx, ?_⟩
    walk_at "rd"
    cases r with
    | false =>
      walk_at "rd"
      refine e ?_
      rintro ⟨i, rfl, _⟩
      exact Bool.false_ne_true (hi.mpr ⟨_, rfl⟩)
    | true =>
      obtain ⟨i, rfl⟩ := hi.mp rfl
      walk_at "rd"
      refine ite2 (fun c => ?_) (fun c => ?_)
      · have c' : 0 ≤ i := of_decide_eq_true c
        walk_at "rd"
        rw [List.length_map]
        refine ite2 (fun d => ?_) (fun d => ?_)
        · have d' : ¬ i < (ns.length : Int) := by simpa using d
          exact e fun z => d' (ok_int.mp z).2
        · have d' : i < (ns.length : Int) := by simpa using d
          walk_at "rd"
          exact q (ok_int.mpr ⟨c', d'⟩)
      · have c' : ¬ 0 ≤ i := fun z => c (decide_eq_true z)
        walk_at "rd"
        exact e fun z => c' (ok_int.mp z).1

/-! ## slopes -/
def hv (ns : List Int) (i : Int) : Int := ns.getD i.toNat 0
def slO (ns : List Int) (a b : Int) : HO := .tup [.int (hv ns b - hv ns a), .int (b - a)]
def spSlope (K : PySem.W.Frag) : Sp := fun vs H Q _ => ∃ (l : Addr) (ns : List Int) (a b : Int), vs = [.ref l, .int a, .int b] ∧ SqL K H l (IL ns) ∧ (0 ≤ a ∧ a < ns.length ∧ 0 ≤ b ∧ b < ns.length) ∧
  ∀ p, H p = none → Q (.ref p) (upd H p (slO ns a b))
theorem ok_slope (T : Txt K mg) : FnOk P w K mg base CX0 1 T.a_slope T.d_slope ["land", "a", "b"] (spSlope K) := by
  refine T.F_slope.ok sc_slope (fun vs H Q E h => ?_) (fun cdv A outer s H vs Q E hr h => ⟨_, (pss_one (ps_ret (pe_tup (pa_cons (pe_op op_sub (pe_ix (ix_listK (K := K) rfl) (pv 0) (pv 2) (fun _ _ => rfl)) (pe_ix (ix_listK (K := K) rfl) (pv 0) (pv 1) (fun _ _ => rfl))) (pa_cons (pe_op op_sub (pv 2) (pv 1)) pa_nil))))), ?_⟩)
  · obtain ⟨l, ns, a, b, rfl, _⟩ := h
    rfl
  · obtain ⟨l, ns, a, b, rfl, hS, ⟨h1, h2, h3, h4⟩, q⟩ := h
    walk_at "rd"
    refine rd_ixL hS (IL_at h3 h4) ?_
    walk_at "rd"
    refine rd_ixL hS (IL_at h1 h2) ?_
    walk_at "rd"
    exact ⟨sz 2, q⟩
def spSteeper (K : PySem.W.Frag) : Sp := fun vs H Q _ => ∃ (p q : Addr) (r1 l1 r2 l2 : Int), vs = [.ref p, .ref q] ∧ SqT K H p [.int r1, .int l1] ∧ SqT K H q [.int r2, .int l2] ∧ CMul r1 l2 ∧ CMul r2 l1 ∧
  Q (.bl (decide (r2 * l1 < r1 * l2))) H
theorem ok_steeper (T : Txt K mg) : FnOk P w K mg base CX0 1 T.a_steeper T.d_steeper ["one", "other"] (spSteeper K) := by
  refine T.F_steeper.ok sc_steeper (fun vs H Q E h => ?_) (fun cdv A outer s H vs Q E hr h => ⟨_, (pss_one (ps_ret (pe_cmpR op_gt (pe_op op_mul (pe_ix (ix_tupK (K := K) rfl) (pv 0) pe_int (fun _ _ => rfl)) (pe_ix (ix_tupK (K := K) rfl) (pv 1) pe_int (fun _ _ => rfl))) (pe_op op_mul (pe_ix (ix_tupK (K := K) rfl) (pv 1) pe_int (fun _ _ => rfl)) (pe_ix (ix_tupK (K := K) rfl) (pv 0) pe_int (fun _ _ => rfl))) (nomark _)))), ?_⟩)
  · obtain ⟨p, q, r1, l1, r2, l2, rfl, _⟩ := h
    rfl
  · obtain ⟨p, q, r1, l1, r2, l2, rfl, h1, h2, c1, c2, k⟩ := h
    walk_at "rd"
    refine rd_ixT h1 (atI_nat (j := 0) rfl) ?_
    walk_at "rd"
    refine rd_ixT h2 (atI_nat (j := 1) rfl) ?_
    walk_at "rd"
    refine rd_I c1 ?_
    walk_at "rd"
    refine rd_ixT h2 (atI_nat (j := 0) rfl) ?_
    walk_at "rd"
    refine rd_ixT h1 (atI_nat (j := 1) rfl) ?_
    walk_at "rd"
    refine rd_I c2 ?_
    walk_at "rd"
    exact k

/-! ## behind -/
theorem sl_g (ns : List Int) (a b : Nat) : slO ns (a : Int) (b : Int) = .tup [.int (g ns b - g ns a), .int ((b : Int) - (a : Int))] := rfl
def spBehind (K : PySem.W.Frag) : Sp := fun vs H Q _ => ∃ (l : Addr) (ns : List Int) (a : Nat), vs = [.ref l, .int (a : Int)] ∧ SqL K H l (IL ns) ∧ a < ns.length ∧ ns.length ≤ 1000 ∧
  ∀ D H', Same H H' → H D = none → H' D = some (.lst (IL (NI (behN ns a ns.length)))) → Q (.ref D) H'
theorem ok_behind (T : Txt K mg) : FnOk P w K mg base CX0 2 T.a_behind T.d_behind ["land", "a"] (spBehind K) := by
  refine T.F_behind.ok sc_behind (fun vs H Q E h => ?_) (fun cdv A outer s H vs Q E hr h => ⟨_, (pss_cons (ps_set (i := 2) sc_behind.nd rfl (Or.inl rfl) (pe_lst pa_nil))
      (pss_cons (ps_set (i := 3) sc_behind.nd rfl (Or.inl rfl) pe_non)
      (pss_cons (ps_for PassesOwn.never rfl (pi_range2 rfl T.n_range (pa_cons (pe_op op_add (pv 1) pe_int) (pa_cons (pe_callB (call_lenK (K := K) rfl) rfl T.n_len (by decide +kernel) (pa_cons (pv 0) pa_nil)) pa_nil))) (pg_name (i := 4) sc_behind.nd rfl (Or.inl rfl)) (pss_cons (ps_set (i := 5) sc_behind.nd rfl (Or.inl rfl) (pe_call (ok_slope T) (hr.mono (by decide)) rfl T.g_slope T.F_slope.kp T.b_slope .nil pass0 (pa_cons (pv 0) (pa_cons (pv 1) (pa_cons (pv 4) pa_nil)))))
        (pss_one (ps_if (PW.pt (pw_or (pt_cmpR op_isN1 (pv 3) pe_non (nomark _)) (pw_or1 (pt_val (pe_call (ok_steeper T) (hr.mono (by decide)) rfl T.g_steeper T.F_steeper.kp T.b_steeper .nil pass0 (pa_cons (pv 5) (pa_cons (pv 3) pa_nil))))))) (pss_cons (ps_expr (pe_bmK (K := K) rfl PySem.F.plainAttrs_list PySem.F.slot_list_append PySem.F.type_list_append mt_append (pv 2) (pa_cons (pv 4) pa_nil)))
          (pss_one (ps_set (i := 3) sc_behind.nd rfl (Or.inl rfl) (pv 5)))) pss_nil))))
      (pss_one (ps_ret (pv 2)))))), ?_⟩)
  · obtain ⟨l, ns, a, rfl, _⟩ := h
    rfl
  · obtain ⟨l, ns, a, rfl, hS, ha, hn, q⟩ := h
    walk_at "rd"
    refine ⟨sz 0, fun D nD => ?_⟩
    have hS1 := (same_upd (o := .lst []) nD).seq hS
    walk_at "rd"
    rw [List.length_map]
    refine rng2 ⟨⟨by omega, by omega⟩, by omega, by omega⟩ (fun i σ H' => ∃ (vb vk vn : Option V), σ = [some (.ref l), some (.int a), some (.ref D), vb, vk, vn] ∧ Same H H' ∧ H' D = some (.lst (IL (NI (behN ns a (a + 1 + i))))) ∧
        ((i = 0 ∧ vb = some .non) ∨ ∃ (p : Addr) (m : Nat), vb = some (.ref p) ∧ H' p = some (slO ns a m) ∧ Steep ns a (a + 1 + i) m))
      ⟨some .non, none, none, rfl, (same_upd (o := .lst []) nD), by rw [behN_low (by omega)]; exact upd_same, .inl ⟨rfl, rfl⟩⟩ ?_ ?_
    · rintro i σ H' hi ⟨vb, vk, vn, rfl, s1, hD, hb⟩
      have hS2 := s1.seq hS
      have eb : ((a : Int) + 1 + (i : Int)) = ((a + 1 + i : Nat) : Int) := by omega
      rw [eb]
      generalize hbb : a + 1 + i = b at *
      have hbl : b < ns.length := by omega
      have hab : a < b := by omega
      walk_at "rd"
      refine ⟨l, ns, a, b, rfl, hS2, ⟨by omega, by omega, by omega, by omega⟩, fun p np => ?_⟩
      have s2 := s1.trans (same_upd (o := slO ns a b) np)
      have hD2 := upd_keep (u := slO ns a b) hD np
      have hp : (upd H' p (slO ns a b)) p = some (slO ns a b) := upd_same
      have hm : ∀ q x, H' q = some x → (upd H' p (slO ns a b)) q = some x := fun q x e => upd_keep e np
      generalize upd H' p (slO ns a b) = H2 at *
      have fin : ∀ (tst : Bool) (N : L2.St → Hp → Prop), True := fun _ _ => trivial
      rcases hb with ⟨rfl, rfl⟩ | ⟨pm, m, rfl, hpm, hst⟩
      · have e1 : b = a + 1 := by omega
        walk_at "rd"
        refine rd_yes (by simp) ?_
        walk_at "rd"
        refine ⟨ty_list (.of hD2), ?_⟩
        walk_at "rd"
        refine rd_append hD2 (by rw [List.length_map, behN_low (by omega)]; decide) ?_
        walk_at "rd"
        have hpD : p ≠ D := ne_of hp hD2 (by intro z; cases z)
        refine ⟨_, _, _, rfl, Same.mut s2 nD, ?_, .inr ⟨p, b, rfl, ?_, ?_⟩⟩
        · rw [upd_same, show a + 1 + (0 + 1) = b + 1 by omega, behN_yes hab (by rw [e1]; exact seeB_next)]
          simp [IL, NI]
        · rw [upd_ne hpD]
          exact hp
        · rw [e1]
          exact Steep.first
      · have hpm2 := hm _ _ hpm
        have hlo := hst.lo
        have hhi := hst.hi
        walk_at "rd"
        refine rd_no (by simp) ?_
        walk_at "rd"
        refine ⟨p, pm, _, _, _, _, rfl, .of hp, .of hpm2, .inr ⟨by omega, by omega⟩, .inr ⟨by omega, by omega⟩, ?_⟩
        walk_at "rd"
        refine ite2 (fun c => ?_) (fun c => ?_)
        · have c' : Stp ns a b m := of_decide_eq_true c
          walk_at "rd"
          refine ⟨ty_list (.of hD2), ?_⟩
          walk_at "rd"
          refine rd_append hD2 (by
            rw [List.length_map, List.length_map]
            have : (behN ns a b).length ≤ b := by
              have h := List.length_filter_le (fun b => decide (a < b) && seeB ns a b) (List.range b)
              rw [List.length_range] at h
              exact h
            omega) ?_
          walk_at "rd"
          have hpD : p ≠ D := ne_of hp hD2 (by intro z; cases z)
          refine ⟨_, _, _, rfl, Same.mut s2 nD, ?_, .inr ⟨p, b, rfl, ?_, ?_⟩⟩
          · rw [upd_same, show a + 1 + (i + 1) = b + 1 by omega, behN_yes hab (hst.see.mpr c')]
            simp [IL, NI]
          · rw [upd_ne hpD]
            exact hp
          · rw [show a + 1 + (i + 1) = b + 1 by omega]
            exact hst.up c'
        · have c' : ¬ Stp ns a b m := fun z => c (decide_eq_true z)
          walk_at "rd"
          refine ⟨_, _, _, rfl, s2, ?_, .inr ⟨pm, m, rfl, hpm2, ?_⟩⟩
          · rw [hD2, show a + 1 + (i + 1) = b + 1 by omega, behN_no (fun z => c' (hst.see.mp z))]
          · rw [show a + 1 + (i + 1) = b + 1 by omega]
            exact hst.stay c'
    · rintro σ H' ⟨vb, vk, vn, rfl, s1, hD, hb⟩
      walk_at "rd"
      refine q D H' s1 nD ?_
      rw [hD]
      by_cases h : a + 1 + (((ns.length : Nat) : Int) - ((a : Int) + 1)).toNat = ns.length
      · rw [h]
      · exfalso
        omega

/-! ## sights -/
def spSights (K : PySem.W.Frag) : Sp := fun vs H Q _ => ∃ (l : Addr) (ns : List Int), vs = [.ref l] ∧ SqL K H l (IL ns) ∧ ns.length ≤ 300 ∧
  ∀ D vs' H', Same H H' → H D = none → H' D = some (.lst vs') → PrsH H' vs' (NP (sights ns)) → Q (.ref D) H'
theorem behN_len (ns : List Int) (a n : Nat) : (behN ns a n).length ≤ n := by
  have h := List.length_filter_le (fun b => decide (a < b) && seeB ns a b) (List.range n)
  rw [List.length_range] at h
  exact h
theorem sigN_len (ns : List Int) (n : Nat) : (sigN ns n).length ≤ n * ns.length := by
  induction n with
  | zero => simp [sigN]
  | succ n ih =>
    rw [sigN_succ, List.length_append, List.length_map, Nat.succ_mul]
    have := behN_len ns n ns.length
    omega
theorem ok_sights (T : Txt K mg) : FnOk P w K mg base CX0 3 T.a_sights T.d_sights ["land"] (spSights K) := by
  refine T.F_sights.ok sc_sights (fun vs H Q E h => ?_) (fun cdv A outer s H vs Q E hr h => ⟨_, (pss_cons (ps_set (i := 1) sc_sights.nd rfl (Or.inl rfl) (pe_lst pa_nil))
      (pss_cons (ps_for PassesOwn.never rfl (pi_range1 rfl T.n_range (pa_cons (pe_callB (call_lenK (K := K) rfl) rfl T.n_len (by decide +kernel) (pa_cons (pv 0) pa_nil)) pa_nil)) (pg_name (i := 2) sc_sights.nd rfl (Or.inl rfl)) (pss_one (ps_for PassesOwn.never rfl (pi_listK (K := K) rfl (pe_call (ok_behind T) (hr.mono (by decide)) rfl T.g_behind T.F_behind.kp T.b_behind .nil pass0 (pa_cons (pv 0) (pa_cons (pv 2) pa_nil)))) (pg_name (i := 3) sc_sights.nd rfl (Or.inl rfl)) (pss_one (ps_expr (pe_bmK (K := K) rfl PySem.F.plainAttrs_list PySem.F.slot_list_append PySem.F.type_list_append mt_append (pv 1) (pa_cons (pe_tup (pa_cons (pv 2) (pa_cons (pv 3) pa_nil))) pa_nil)))))))
      (pss_one (ps_ret (pv 1))))), ?_⟩)
  · obtain ⟨l, ns, rfl, _⟩ := h
    rfl
  · obtain ⟨l, ns, rfl, hS, hn, q⟩ := h
    walk_at "rd"
    refine ⟨sz 0, fun D nD => ?_⟩
    have hS1 := (same_upd (o := .lst []) nD).seq hS
    walk_at "rd"
    rw [List.length_map]
    refine rng1 ⟨by omega, by omega⟩ (fun i σ H' => ∃ (va vb : Option V) (ys : List V), σ = [some (.ref l), some (.ref D), va, vb] ∧ Same H H' ∧ H' D = some (.lst ys) ∧ PrsH H' ys (NP (sigN ns i)))
      ⟨none, none, [], rfl, same_upd nD, upd_same, .nil⟩ ?_ ?_
    · rintro i σ H' hi ⟨va, vb, ys, rfl, s1, hD, hp⟩
      have hS2 := s1.seq hS
      walk_at "rd"
      refine ⟨l, ns, i, rfl, hS2, by omega, by omega, fun B H2 s2 nB hB => ?_⟩
      walk_at "rd"
      have nBD : B ≠ D := fun z => by
        rw [z, hD] at nB
        cases nB
      have hD2 := s2 _ _ hD
      refine ⟨B, rfl, ⟨_, .of hB⟩, for_list (K := K) (a := B) (xs := IL (NI (behN ns i ns.length))) (fun j σ H' => ∃ (vb : Option V) (ys : List V), σ = [some (.ref l), some (.ref D), some (.int i), vb] ∧ Same H H' ∧ H' B = some (.lst (IL (NI (behN ns i ns.length)))) ∧ H' D = some (.lst ys) ∧ PrsH H' ys (NP (sigN ns i ++ ((behN ns i ns.length).take j).map fun b => (i, b))))
        ⟨vb, ys, rfl, s1.trans s2, hB, hD2, by simpa using hp.mono s2⟩ (fun j σ H' _ ⟨_, _, _, _, hB, _⟩ => .of hB) ?_ ?_⟩
      · rintro j x σ H3 hx ⟨vb, zs, rfl, s3, hB3, hD3, hp3⟩
        obtain ⟨b, hbj, rfl⟩ : ∃ b, (behN ns i ns.length)[j]? = some b ∧ x = V.int (b : Int) := by
          rw [List.getElem?_map, List.getElem?_map] at hx
          cases e : (behN ns i ns.length)[j]? with
          | none => rw [e] at hx; cases hx
          | some b => rw [e] at hx; exact ⟨b, rfl, (Option.some.inj hx).symm⟩
        have hj : j < (behN ns i ns.length).length := (List.getElem?_eq_some_iff.mp hbj).1
        have l1 := behN_len ns i ns.length
        have l2 := sigN_len ns i
        walk_at "rd"
        refine ⟨ty_list (.of hD3), ?_⟩
        walk_at "rd"
        refine ⟨sz 2, fun t nt => ?_⟩
        have s4 := same_upd (o := .tup [.int (i : Int), .int (b : Int)]) nt
        have ht : (upd H3 t (.tup [.int (i : Int), .int (b : Int)])) t = some (.tup [.int (i : Int), .int (b : Int)]) := upd_same
        have hD4 := s4 _ _ hD3
        have hB4 := s4 _ _ hB3
        have hp4 := hp3.mono s4
        have s5 := s3.trans s4
        generalize upd H3 t (.tup [.int (i : Int), .int (b : Int)]) = H4 at *
        walk_at "rd"
        refine rd_append hD4 (by
          rw [hp4.length, List.length_map, List.length_append, List.length_map, List.length_take]
          have h1 : i * ns.length ≤ 300 * 300 := Nat.mul_le_mul (by omega) hn
          omega) ?_
        have htk : (behN ns i ns.length).take (j + 1) = (behN ns i ns.length).take j ++ [b] := by rw [List.take_add_one, hbj]; rfl
        refine ⟨_, _, rfl, Same.mut s5 nD, ?_, upd_same, ?_⟩
        · rw [upd_ne nBD]
          exact hB4
        · have h1 := (hp4.upd (o := .lst (zs ++ [.ref t])) hD4).snoc (p := ((i : Int), (b : Int))) (by rw [upd_ne (ne_of ht hD4 (by intro z; cases z))]; exact ht)
          rw [htk]
          simpa [NP, List.append_assoc] using h1
      · rintro σ H3 ⟨vb, zs, rfl, s3, hB3, hD3, hp3⟩
        refine ⟨_, _, _, rfl, s3, hD3, ?_⟩
        rw [sigN_succ]
        rw [List.length_map, List.length_map, List.take_length] at hp3
        exact hp3
    · rintro σ H' ⟨va, vb, ys, rfl, s1, hD, hp⟩
      walk_at "rd"
      exact q D ys H' s1 nD hD (by simpa using hp)

/-! ## beside -/
def spBeside (K : PySem.W.Frag) : Sp := fun vs H Q _ => ∃ (l : Addr) (ns : List Int), vs = [.ref l] ∧ SqL K H l (IL ns) ∧ ns.length ≤ 300 ∧
  ∀ (D : Addr) (H' : Hp) (adr : Nat → Addr) (rs : Nat → List Nat), Same H H' → RowsH H' D ns.length adr (fun i => IL (NI (rs i))) → (∀ x, x < ns.length → (rs x).length ≤ 90000 ∧ ∀ y, y ∈ rs x ↔ adj ns x y) → Q (.ref D) H'
theorem ok_beside (T : Txt K mg) : FnOk P w K mg base CX0 4 T.a_beside T.d_beside ["land"] (spBeside K) := by
  refine T.F_beside.ok sc_beside (fun vs H Q E h => ?_) (fun cdv A outer s H vs Q E hr h => ⟨_, (pss_cons (ps_setLc (i := 1) (own := [("place", 2)]) (g := gName 2) rfl sc_beside.nd rfl rfl (sw_true rfl rfl rfl (by decide +kernel)) (pi_listK (K := K) rfl (pv 0)) (blkOk_by (own := [("place", 2)]) (N := ["land", "found", "place", "a", "b", "row"]) (sc := defScope s_beside) (by decide +kernel)) (fun _ _ _ _ _ => (pg_name (i := 2) sc_beside.nd rfl (Or.inl rfl))) (fun _ _ _ _ _ => pts_nil) (fun _ _ _ _ _ => (pe_lst pa_nil)))
      (pss_cons (ps_for PassesOwn.never rfl (pi_listK (K := K) rfl (pe_call (ok_sights T) (hr.mono (by decide)) rfl T.g_sights T.F_sights.kp T.b_sights .nil pass0 (pa_cons (pv 0) pa_nil))) (pg_tupK (K := K) (n := 2) rfl rfl (pgs_cons (pg_name (i := 3) sc_beside.nd rfl (Or.inl rfl)) (pgs_cons (pg_name (i := 4) sc_beside.nd rfl (Or.inl rfl)) pgs_nil))) (pss_cons (ps_expr (pe_bmK (K := K) rfl PySem.F.plainAttrs_list PySem.F.slot_list_append PySem.F.type_list_append mt_append (pe_ix (ix_listK (K := K) rfl) (pv 1) (pv 3) (fun _ _ => rfl)) (pa_cons (pv 4) pa_nil)))
        (pss_one (ps_expr (pe_bmK (K := K) rfl PySem.F.plainAttrs_list PySem.F.slot_list_append PySem.F.type_list_append mt_append (pe_ix (ix_listK (K := K) rfl) (pv 1) (pv 4) (fun _ _ => rfl)) (pa_cons (pv 3) pa_nil))))))
      (pss_one (ps_ret (pe_lc (own := [("row", 5)]) (g := gName 5) rfl sc_beside.nd (pi_listK (K := K) rfl (pv 1)) (blkOk_by (own := [("row", 5)]) (N := ["land", "found", "place", "a", "b", "row"]) (sc := defScope s_beside) (by decide +kernel)) (fun _ _ _ _ _ => (pg_name (i := 5) sc_beside.nd rfl (Or.inl rfl))) (fun _ _ _ _ _ => pts_nil) (fun _ _ _ _ _ => (pe_callB (cr_sortedIK (K := K) rfl) rfl T.n_sorted (by decide +kernel) (pa_cons (pv 5) pa_nil)))))))), ?_⟩)
  · obtain ⟨l, ns, rfl, _⟩ := h
    rfl
  · obtain ⟨l, ns, rfl, hS, hn, q⟩ := h
    have hnl : (IL ns).length = ns.length := List.length_map _
    walk_at "rd"
    refine ⟨l, rfl, ⟨_, hS⟩, fun R nR => lc_freshL (K := K) (ys := IL ns) (fun _ xs => xs = []) hS nR (by omega) (fun _ => rfl) (fun i x H' Q' hx s1 q' => ?_) (fun H' adr rs s1 hR hP hN => ?_)⟩
    · walk_at "rd"
      refine ⟨sz 0, fun t nt => q' t _ _ rfl (same_upd nt) nt upd_same⟩
    rw [hnl] at hR hP hN
    have hS1 := s1.seq hS
    walk_at "rd"
    refine ⟨l, ns, rfl, hS1, hn, fun B vs' H2 s2 nB hB hp => ?_⟩
    have hR2 := hR.mono s2
    have aB : ∀ x, x < ns.length → adr x ≠ B := fun x hx z => by
      rw [← z, hR.row x hx] at nB
      cases nB
    have RB : B ≠ R := fun z => by
      rw [z, hR.lst] at nB
      cases nB
    have hlp : vs'.length = (sights ns).length := by rw [hp.length, List.length_map]
    have hls : (sights ns).length ≤ 90000 := by
      have h1 := sigN_len ns ns.length
      have h2 : ns.length * ns.length ≤ 300 * 300 := Nat.mul_le_mul hn hn
      have h3 : sights ns = sigN ns ns.length := rfl
      rw [h3]
      omega
    walk_at "rd"
    refine ⟨B, rfl, ⟨_, .of hB⟩, for_list (K := K) (a := B) (xs := vs') (fun j σ H' => ∃ (va vb : Option V) (rs : Nat → List Nat), σ = [some (.ref l), some (.ref R), none, va, vb, none] ∧ Same H H' ∧ H' B = some (.lst vs') ∧ PrsH H' vs' (NP (sights ns)) ∧ RowsH H' R ns.length adr (fun i => IL (NI (rs i))) ∧
      ∀ x, x < ns.length → (rs x).length ≤ j ∧ ∀ y, y ∈ rs x ↔ ((x, y) ∈ (sights ns).take j ∨ (y, x) ∈ (sights ns).take j))
      ⟨none, none, fun _ => [], rfl, s1.trans s2, hB, hp, ?_, fun x hx => ⟨Nat.le_refl _, fun y => by simp⟩⟩ (fun j σ H' _ ⟨_, _, _, _, _, hB, _⟩ => .of hB) ?_ ?_⟩
    · refine ⟨hR2.lst, fun i hi => ?_, hR2.inj, hR2.ne⟩
      rw [hR2.row i hi, hP i hi]
      rfl
    · rintro j x σ H3 hx ⟨va, vb, rs3, rfl, s3, hB3, hp3, hR3, hr3⟩
      obtain ⟨t, p, hpj, rfl, ht⟩ := hp3.get hx
      obtain ⟨⟨a, b⟩, hab, rfl⟩ : ∃ ab : Nat × Nat, (sights ns)[j]? = some ab ∧ p = ((ab.1 : Int), (ab.2 : Int)) := by
        rw [NP, List.getElem?_map] at hpj
        cases e : (sights ns)[j]? with
        | none => rw [e] at hpj; cases hpj
        | some ab => rw [e] at hpj; exact ⟨ab, rfl, (Option.some.inj hpj).symm⟩
      obtain ⟨h1, h2, h3⟩ := mem_sights.mp (List.mem_of_getElem? hab)
      have hj : j < (sights ns).length := (List.getElem?_eq_some_iff.mp hab).1
      refine rd_gTup2 (.of ht) ?_
      have ha : a < ns.length := by omega
      have hra := (hr3 a ha).1
      have hrb := (hr3 b h2).1
      walk_at "rd"
      refine rd_ixL (.of hR3.lst) (atI_nat (hR3.at ha)) ?_
      refine ⟨ty_list (.of (hR3.row a ha)), ?_⟩
      walk_at "rd"
      refine rd_append (hR3.row a ha) (by rw [IL, NI, List.length_map, List.length_map]; omega) ?_
      have hR4 := hR3.upd ha (IL (NI (rs3 a)) ++ [V.int (b : Int)])
      have s4 : Same H _ := Same.mut (o := .lst (IL (NI (rs3 a)) ++ [V.int (b : Int)])) s3 (hN a ha)
      have hp4 := hp3.upd (o := .lst (IL (NI (rs3 a)) ++ [V.int (b : Int)])) (hR3.row a ha)
      have hB4 : (upd H3 (adr a) (.lst (IL (NI (rs3 a)) ++ [V.int (b : Int)]))) B = some (.lst vs') := by
        rw [upd_ne (fun z => aB a ha z.symm)]
        exact hB3
      generalize upd H3 (adr a) (.lst (IL (NI (rs3 a)) ++ [V.int (b : Int)])) = H4 at *
      have rb := hR4.row b h2
      rw [if_neg (show ¬ b = a by omega)] at rb
      walk_at "rd"
      refine rd_ixL (.of hR4.lst) (atI_nat (hR4.at h2)) ?_
      refine ⟨ty_list (.of rb), ?_⟩
      walk_at "rd"
      refine rd_append rb (by rw [IL, NI, List.length_map, List.length_map]; omega) ?_
      have hR5 := hR4.upd h2 (IL (NI (rs3 b)) ++ [V.int (a : Int)])
      walk_at "rd"
      refine ⟨_, _, fun k => if k = a then rs3 a ++ [b] else if k = b then rs3 b ++ [a] else rs3 k, rfl, Same.mut s4 (hN b h2), ?_, hp4.upd rb, hR5.congr fun i hi => ?_, fun x hx => ?_⟩
      · rw [upd_ne (fun z => aB b h2 z.symm)]
        exact hB4
      · show (if i = b then IL (NI (rs3 b)) ++ [V.int (a : Int)] else if i = a then IL (NI (rs3 a)) ++ [V.int (b : Int)] else IL (NI (rs3 i))) = IL (NI (if i = a then rs3 a ++ [b] else if i = b then rs3 b ++ [a] else rs3 i))
        by_cases c : i = a
        · rw [if_neg (by omega), if_pos c, if_pos c]
          simp [IL, NI]
        · rw [if_neg c, if_neg c]
          by_cases d : i = b
          · rw [if_pos d, if_pos d]
            simp [IL, NI]
          · rw [if_neg d, if_neg d]
      · show (if x = a then rs3 a ++ [b] else if x = b then rs3 b ++ [a] else rs3 x).length ≤ j + 1 ∧ ∀ y, y ∈ (if x = a then rs3 a ++ [b] else if x = b then rs3 b ++ [a] else rs3 x) ↔ _
        rw [List.take_add_one, hab]
        have hh := hr3 x hx
        by_cases c : x = a
        · subst c
          rw [if_pos rfl]
          refine ⟨by rw [List.length_append]; simpa using hra, fun y => ?_⟩
          rw [List.mem_append, hh.2 y]
          simp
          have : ¬ (y = x ∧ x = b) := by omega
          grind
        · rw [if_neg c]
          by_cases d : x = b
          · subst d
            rw [if_pos rfl]
            refine ⟨by rw [List.length_append]; simpa using hrb, fun y => ?_⟩
            rw [List.mem_append, hh.2 y]
            simp
            grind
          · rw [if_neg d]
            refine ⟨by omega, fun y => ?_⟩
            rw [hh.2 y]
            simp
            grind
    rintro σ H3 ⟨va, vb, rs3, rfl, s3, hB3, hp3, hR3, hr3⟩
    have hr4 : ∀ x, x < ns.length → (rs3 x).length ≤ 90000 ∧ ∀ y, y ∈ rs3 x ↔ adj ns x y := by
      intro x hx
      have hh := hr3 x hx
      refine ⟨by omega, fun y => ?_⟩
      rw [hh.2 y, hlp, List.take_length, mem_sights, mem_sights]
      unfold adj
      rw [nearP_iff]
      constructor
      · rintro (⟨h1, h2, h3⟩ | ⟨h1, h2, h3⟩)
        · refine ⟨hx, h2, by omega, ?_⟩
          rw [Nat.min_eq_left (by omega), Nat.max_eq_right (by omega)]
          exact h3
        · refine ⟨hx, by omega, by omega, ?_⟩
          rw [Nat.min_eq_right (by omega), Nat.max_eq_left (by omega)]
          exact h3
      · rintro ⟨_, h2, h3, h4⟩
        by_cases c : x < y
        · rw [Nat.min_eq_left (by omega), Nat.max_eq_right (by omega)] at h4
          exact .inl ⟨c, h2, h4⟩
        · rw [Nat.min_eq_right (by omega), Nat.max_eq_left (by omega)] at h4
          exact .inr ⟨by omega, hx, h4⟩
    walk_at "rd"
    have hrl : ((List.range ns.length).map fun i => V.ref (adr i)).length = ns.length := by rw [List.length_map, List.length_range]
    refine ⟨R, rfl, ⟨_, .of hR3.lst⟩, fun D nD => lc_freshL (K := K) (ys := (List.range ns.length).map fun i => V.ref (adr i)) (fun i xs => ∃ ms : List Nat, xs = IL (NI ms) ∧ ms.Perm (rs3 i)) (.of hR3.lst) nD (by omega) (fun _ => rfl) (fun i x H' Q' hx s4 q' => ?_) (fun H' adr' rs' s4 hR' hP' hN' => ?_)⟩
    · have hi : i < ns.length := by
        have := (List.getElem?_eq_some_iff.mp hx).1
        omega
      rw [hR3.at hi] at hx
      obtain rfl := Option.some.inj hx
      walk_at "rd"
      refine ⟨adr i, NI (rs3 i), rfl, s4.seq (.of (hR3.row i hi)), fun zs p hz _ np => ?_⟩
      obtain ⟨ks, rfl, hk⟩ := perm_NI hz
      exact q' p _ _ ⟨ks, rfl, hk⟩ (same_upd np) np upd_same
    rw [hrl] at hR' hP'
    obtain ⟨f, hf⟩ := pick hP'
    refine q D H' adr' f (s3.trans s4) (hR'.congr fun i hi => (hf i hi).1) fun x hx => ⟨?_, fun y => ?_⟩
    · rw [(hf x hx).2.length_eq]
      exact (hr4 x hx).1
    · rw [(hf x hx).2.mem_iff]
      exact (hr4 x hx).2 y

/-! ## steps -/
def fdv (d : Nat → Nat) (M : Nat) (later : List Nat) (x : Nat) : V := if d x < M ∨ x ∈ later then .int (d x : Int) else .non
def spSteps (K : PySem.W.Frag) : Sp := fun vs H Q _ => ∃ (R : Addr) (ns : List Int) (a : Nat) (adr : Nat → Addr) (rs : Nat → List Nat) (d : Nat → Nat), vs = [.ref R, .int (a : Int)] ∧ RowsH H R ns.length adr (fun i => IL (NI (rs i))) ∧ ns.length ≤ 300 ∧ a < ns.length ∧
  (∀ x, x < ns.length → (rs x).length ≤ 90000 ∧ ∀ y, y ∈ rs x ↔ adj ns x y) ∧ Dist ns a d ∧
  ∀ (D : Addr) (H' : Hp), Same H H' → H D = none → H' D = some (.lst (IL ((List.range ns.length).map fun x => (d x : Int)))) → Q (.ref D) H'
theorem ok_steps (T : Txt K mg) : FnOk P w K mg base CX0 1 T.a_steps T.d_steps ["rows", "a"] (spSteps K) := by
  refine T.F_steps.ok sc_steps (fun vs H Q E h => ?_) (fun cdv A outer s H vs Q E hr h => ⟨_, (pss_cons (ps_setLc (i := 2) (own := [("row", 3)]) (g := gName 3) rfl sc_steps.nd rfl rfl (sw_true rfl rfl rfl (by decide +kernel)) (pi_listK (K := K) rfl (pv 0)) (blkOk_by (own := [("row", 3)]) (N := ["rows", "a", "found", "row", "ring", "many", "later", "place", "other"]) (sc := defScope s_steps) (by decide +kernel)) (fun _ _ _ _ _ => (pg_name (i := 3) sc_steps.nd rfl (Or.inl rfl))) (fun _ _ _ _ _ => pts_nil) (fun _ _ _ _ _ => pe_non))
      (pss_cons (ps_asg pe_int (pg_sub (pv 2) (pv 1) set_list))
      (pss_cons (ps_set (i := 4) sc_steps.nd rfl (Or.inl rfl) (pe_lst (pa_cons (pv 1) pa_nil)))
      (pss_cons (ps_set (i := 5) sc_steps.nd rfl (Or.inl rfl) pe_int)
      (pss_cons (ps_while PassesOwn.never (pt_cmpR (op_neDK (K := K) rfl hr.units) (pv 4) (pe_lst pa_nil) (nomark _)) (pss_cons (ps_aug (i := 5) sc_steps.nd rfl (Or.inl rfl) pe_int ip_add)
        (pss_cons (ps_set (i := 6) sc_steps.nd rfl (Or.inl rfl) (pe_lst pa_nil))
        (pss_cons (ps_for PassesOwn.never rfl (pi_listK (K := K) rfl (pv 4)) (pg_name (i := 7) sc_steps.nd rfl (Or.inl rfl)) (pss_one (ps_for PassesOwn.never rfl (pi_listK (K := K) rfl (pe_ix (ix_listK (K := K) rfl) (pv 0) (pv 7) (fun _ _ => rfl))) (pg_name (i := 8) sc_steps.nd rfl (Or.inl rfl)) (pss_one (ps_if (pt_cmpR op_isN1 (pe_ix (ix_listK (K := K) rfl) (pv 2) (pv 8) (fun _ _ => rfl)) pe_non (nomark _)) (pss_cons (ps_asg (pv 5) (pg_sub (pv 2) (pv 8) set_list))
              (pss_one (ps_expr (pe_bmK (K := K) rfl PySem.F.plainAttrs_list PySem.F.slot_list_append PySem.F.type_list_append mt_append (pv 6) (pa_cons (pv 8) pa_nil))))) pss_nil)))))
        (pss_one (ps_set (i := 4) sc_steps.nd rfl (Or.inl rfl) (pv 6)))))))
      (pss_one (ps_ret (pv 2)))))))), ?_⟩)
  · obtain ⟨R, ns, a, adr, rs, d, rfl, _⟩ := h
    rfl
  · obtain ⟨R, ns, a, adr, rs, d, rfl, hR, hn, ha, hr0, hd, q⟩ := h
    have hrl : ((List.range ns.length).map fun i => V.ref (adr i)).length = ns.length := by rw [List.length_map, List.length_range]
    walk_at "rd"
    refine ⟨R, rfl, ⟨_, .of hR.lst⟩, fun F nF => lc_listM (K := K) (fun _ => .non) (.of hR.lst) nF (by omega) (fun _ => rfl) (fun x H' Q' _ s1 q' => ?_) (fun H1 s1 hF => ?_)⟩
    · walk_at "rd"
      exact q' _ (Same.refl _)
    rw [List.map_map] at hF
    walk_at "rd"
    refine rd_setL hF (by rw [List.length_map, List.length_range]; exact ha) ?_
    have hFe : upd H1 F (.lst ((((List.range ns.length).map ((fun _ => V.non) ∘ fun i => V.ref (adr i)))).set a (.int 0))) = upd H1 F (.lst ((List.range ns.length).map (fdv d 1 []))) := by
      congr 2
      refine map_set_range ?_ fun x hx hne => ?_
      · unfold fdv
        rw [hd.zero, if_pos (.inl (by omega))]
        rfl
      · have := hd.pos hx hne
        unfold fdv
        rw [if_neg (by simp; omega)]
        rfl
    rw [hFe]
    have s2 : Same H _ := Same.mut (o := .lst ((List.range ns.length).map (fdv d 1 []))) s1 nF
    have hF2 : (upd H1 F (.lst ((List.range ns.length).map (fdv d 1 [])))) F = some (.lst ((List.range ns.length).map (fdv d 1 []))) := upd_same
    generalize upd H1 F (.lst ((List.range ns.length).map (fdv d 1 []))) = H2 at *
    walk_at "rd"
    refine ⟨sz 1, fun G nG => ?_⟩
    have s3 := s2.trans (same_upd (o := .lst [.int (a : Int)]) nG)
    have hF3 := upd_keep (u := .lst [.int (a : Int)]) hF2 nG
    have hG3 : (upd H2 G (.lst [.int (a : Int)])) G = some (.lst [.int (a : Int)]) := upd_same
    have nGF : G ≠ F := fun z => by
      rw [z, hF2] at nG
      cases nG
    generalize upd H2 G (.lst [.int (a : Int)]) = H3 at *
    walk_at "rd"
    refine ⟨fun m σ H' => ∃ (RG : Addr) (M : Nat) (ring : List Nat) (v6 v7 v8 : Option V), σ = [some (.ref R), some (.int (a : Int)), some (.ref F), none, some (.ref RG), some (.int (M : Int)), v6, v7, v8] ∧ Same H H' ∧ RG ≠ F ∧ H' F = some (.lst ((List.range ns.length).map (fdv d (M + 1) []))) ∧ H' RG = some (.lst (IL (NI ring))) ∧ (∀ x, x ∈ ring ↔ x < ns.length ∧ d x = M) ∧ ring.length ≤ ns.length ∧ m = ns.length - M,
      ⟨ns.length, G, 0, [a], none, none, none, rfl, s3, nGF, hF3, hG3, fun x => ?_, by simpa using (by omega : 1 ≤ ns.length), rfl⟩, ?_⟩
    · rw [List.mem_singleton]
      constructor
      · rintro rfl
        exact ⟨ha, hd.zero⟩
      · rintro ⟨hx, hx0⟩
        by_cases c : x = a
        · exact c
        · have := hd.pos hx c
          omega
    rintro m σ H4 ⟨RG, M, ring, v6, v7, v8, rfl, s4, hne, hF4, hG4, hmem, hlen, rfl⟩
    walk_at "rd"
    refine ⟨sz 0, fun O nO => ?_⟩
    have s5 := s4.trans (same_upd (o := .lst []) nO)
    have hF5 := upd_keep (u := .lst []) hF4 nO
    have hG5 := upd_keep (u := .lst []) hG4 nO
    have hO5 : (upd H4 O (.lst [])) O = some (.lst (IL [])) := upd_same
    generalize upd H4 O (.lst []) = H5 at *
    walk_at "rd"
    refine rd_neI (.of hG5) (.of hO5) ?_
    by_cases hrg : ring = []
    · have e : NI ring = [] := by rw [hrg]; rfl
      refine ⟨_, rfl, ?_⟩
      rw [e]
      refine rd_no (by simp) ?_
      walk_at "rd"
      refine q F H5 s5 nF ?_
      rw [hF5, IL, List.map_map]
      congr 2
      refine List.map_congr_left fun x hx => ?_
      have hx := List.mem_range.mp hx
      have hxM : d x < M + 1 := by
        refine Nat.lt_of_not_le fun z => ?_
        obtain ⟨y, hy, ey⟩ := hd.level ha M (d x - M) x hx (by omega)
        have := (hmem y).mpr ⟨hy, ey⟩
        rw [hrg] at this
        cases this
      show fdv d (M + 1) [] x = _
      unfold fdv
      rw [if_pos (.inl hxM)]
      rfl
    · have e : NI ring ≠ [] := fun z => hrg (by unfold NI at z; exact List.map_eq_nil_iff.mp z)
      refine ⟨_, rfl, ?_⟩
      refine rd_yes (by simp [e]) ?_
      have hMn : M < ns.length := by
        cases ring with
        | nil => exact absurd rfl hrg
        | cons x ring =>
          have h := (hmem x).mp List.mem_cons_self
          have := hd.bound ha h.1
          omega
      refine ⟨_, fun _ _ n => n, ?_⟩
      walk_at "rd"
      refine ⟨sz 0, fun L nL => ?_⟩
      have nL0 : H L = none := same_fresh s5 nL
      have LF : L ≠ F := fun z => by
        rw [z, hF5] at nL
        cases nL
      have LG : L ≠ RG := fun z => by
        rw [z, hG5] at nL
        cases nL
      have s6 := s5.trans (same_upd (o := .lst []) nL)
      have hF6 := upd_keep (u := .lst []) hF5 nL
      have hG6 := upd_keep (u := .lst []) hG5 nL
      have hL6 : (upd H5 L (.lst [])) L = some (.lst (IL (NI []))) := upd_same
      generalize upd H5 L (.lst []) = H6 at *
      have hIl : (IL (NI ring)).length = ring.length := by rw [IL, NI, List.length_map, List.length_map]
      have hrS : ∀ i p, ring[i]? = some p → p < ns.length ∧ d p = M := fun i p hp => (hmem p).mp (List.mem_of_getElem? hp)
      walk_at "rd"
      refine ⟨RG, rfl, ⟨_, .of hG6⟩, for_list (K := K) (a := RG) (xs := IL (NI ring)) (fun i σ H' => ∃ (later : List Nat) (v7 v8 : Option V), σ = [some (.ref R), some (.int (a : Int)), some (.ref F), none, some (.ref RG), some (.int ((M : Int) + 1)), some (.ref L), v7, v8] ∧ Same H H' ∧ H' F = some (.lst ((List.range ns.length).map (fdv d (M + 1) later))) ∧ H' L = some (.lst (IL (NI later))) ∧ H' RG = some (.lst (IL (NI ring))) ∧ later.Nodup ∧ (∀ x, x ∈ later → x < ns.length ∧ d x = M + 1) ∧ ∀ i' p, i' < i → ring[i']? = some p → ∀ y, adj ns p y → d y < M + 1 ∨ y ∈ later)
        ⟨[], v7, v8, rfl, s6, hF6, hL6, hG6, List.nodup_nil, fun x hx => absurd hx (List.not_mem_nil), fun i' p h => absurd h (Nat.not_lt_zero _)⟩ (fun i σ H' _ ⟨_, _, _, _, _, _, _, hG, _⟩ => .of hG) ?_ ?_⟩
      · rintro i x σ H7 hx ⟨later, u7, u8, rfl, s7, hF7, hL7, hG7, nd7, hl7, hc7⟩
        obtain ⟨p, hp, rfl⟩ : ∃ p, ring[i]? = some p ∧ x = V.int (p : Int) := by
          rw [List.getElem?_map, List.getElem?_map] at hx
          cases e : ring[i]? with
          | none => rw [e] at hx; cases hx
          | some p => rw [e] at hx; exact ⟨p, rfl, (Option.some.inj hx).symm⟩
        obtain ⟨hpn, hpM⟩ := hrS i p hp
        have hR7 := hR.mono s7
        walk_at "rd"
        refine rd_ixL (.of hR7.lst) (atI_nat (hR7.at hpn)) ?_
        refine ⟨adr p, rfl, ⟨_, .of (hR7.row p hpn)⟩, for_list (K := K) (a := adr p) (xs := IL (NI (rs p))) (fun j σ H' => ∃ (later : List Nat) (v8 : Option V), σ = [some (.ref R), some (.int (a : Int)), some (.ref F), none, some (.ref RG), some (.int ((M : Int) + 1)), some (.ref L), some (.int (p : Int)), v8] ∧ Same H H' ∧ H' F = some (.lst ((List.range ns.length).map (fdv d (M + 1) later))) ∧ H' L = some (.lst (IL (NI later))) ∧ H' RG = some (.lst (IL (NI ring))) ∧ later.Nodup ∧ (∀ x, x ∈ later → x < ns.length ∧ d x = M + 1) ∧ (∀ i' p, i' < i → ring[i']? = some p → ∀ y, adj ns p y → d y < M + 1 ∨ y ∈ later) ∧ ∀ j' y, j' < j → (rs p)[j']? = some y → d y < M + 1 ∨ y ∈ later)
          ⟨later, u8, rfl, s7, hF7, hL7, hG7, nd7, hl7, hc7, fun j' y h => absurd h (Nat.not_lt_zero _)⟩ (fun j σ H' _ ⟨_, _, _, s, _⟩ => .of ((hR.mono s).row p hpn)) ?_ ?_⟩
        · clear hF7 hL7 hG7 nd7 hl7 hc7 hR7 s7
          rintro j x σ H8 hx ⟨later, u8, rfl, s8, hF8, hL8, hG8, nd8, hl8, hc8, hi8⟩
          obtain ⟨y, hy, rfl⟩ : ∃ y, (rs p)[j]? = some y ∧ x = V.int (y : Int) := by
            rw [List.getElem?_map, List.getElem?_map] at hx
            cases e : (rs p)[j]? with
            | none => rw [e] at hx; cases hx
            | some p => rw [e] at hx; exact ⟨p, rfl, (Option.some.inj hx).symm⟩
          have hadj : adj ns p y := ((hr0 p hpn).2 y).mp (List.mem_of_getElem? hy)
          have hyn := hadj.2.1
          have hst := hd.step p y hadj
          have hll := nodup_len ns.length later nd8 fun x hx => (hl8 x hx).1
          have hFy : ((List.range ns.length).map (fdv d (M + 1) later))[y]? = some (fdv d (M + 1) later y) := by
            rw [List.getElem?_map, List.getElem?_range hyn]
            rfl
          walk_at "rd"
          refine rd_ixL (.of hF8) (atI_nat hFy) ?_
          walk_at "rd"
          by_cases c : d y < M + 1 ∨ y ∈ later
          · have e : fdv d (M + 1) later y = .int (d y : Int) := if_pos c
            rw [e]
            refine rd_no (by simp) ?_
            walk_at "rd"
            refine ⟨later, _, rfl, s8, hF8, hL8, hG8, nd8, hl8, hc8, fun j' z h hz => ?_⟩
            by_cases cj : j' = j
            · subst cj
              rw [hy] at hz
              obtain rfl := Option.some.inj hz
              exact c
            · exact hi8 j' z (by omega) hz
          · have e : fdv d (M + 1) later y = .non := if_neg c
            rw [e]
            refine rd_yes (by simp) ?_
            walk_at "rd"
            refine rd_setL hF8 (by rw [List.length_map, List.length_range]; exact hyn) ?_
            have hyM : d y = M + 1 := by
              have : ¬ d y < M + 1 := fun z => c (.inl z)
              omega
            have hFe : upd H8 F (.lst (((List.range ns.length).map (fdv d (M + 1) later)).set y (.int ((M : Int) + 1)))) = upd H8 F (.lst ((List.range ns.length).map (fdv d (M + 1) (later ++ [y])))) := by
              congr 2
              refine map_set_range ?_ fun x hx hne => ?_
              · unfold fdv
                rw [if_pos (.inr (by simp)), hyM]
                congr 1
              · unfold fdv
                simp [hne]
            rw [hFe]
            have s9 : Same H _ := Same.mut (o := .lst ((List.range ns.length).map (fdv d (M + 1) (later ++ [y])))) s8 nF
            have hF9 : (upd H8 F (.lst ((List.range ns.length).map (fdv d (M + 1) (later ++ [y]))))) F = some (.lst ((List.range ns.length).map (fdv d (M + 1) (later ++ [y])))) := upd_same
            have hL9 : (upd H8 F (.lst ((List.range ns.length).map (fdv d (M + 1) (later ++ [y]))))) L = some (.lst (IL (NI later))) := by
              rw [upd_ne LF]
              exact hL8
            have hG9 : (upd H8 F (.lst ((List.range ns.length).map (fdv d (M + 1) (later ++ [y]))))) RG = some (.lst (IL (NI ring))) := by
              rw [upd_ne hne]
              exact hG8
            generalize upd H8 F (.lst ((List.range ns.length).map (fdv d (M + 1) (later ++ [y])))) = H9 at *
            walk_at "rd"
            refine ⟨ty_list (.of hL9), ?_⟩
            walk_at "rd"
            refine rd_append hL9 (by rw [IL, NI, List.length_map, List.length_map]; omega) ?_
            walk_at "rd"
            refine ⟨later ++ [y], _, rfl, Same.mut s9 nL0, ?_, ?_, ?_, ?_, fun x hx => ?_, fun i' p' h hp' z hz => ?_, fun j' z h hz => ?_⟩
            · rw [upd_ne (fun z => LF z.symm)]
              exact hF9
            · rw [upd_same]
              simp [IL, NI]
            · rw [upd_ne (fun z => LG z.symm)]
              exact hG9
            · refine List.nodup_append.mpr ⟨nd8, by simp, fun x' hx' z hz e => c (.inr ?_)⟩
              rw [List.mem_singleton] at hz
              rw [← hz, ← e]
              exact hx'
            · rcases List.mem_append.mp hx with hx | hx
              · exact hl8 x hx
              · rw [List.mem_singleton] at hx
                subst hx
                exact ⟨hyn, hyM⟩
            · rcases hc8 i' p' h hp' z hz with h | h
              · exact .inl h
              · exact .inr (List.mem_append_left _ h)
            · by_cases cj : j' = j
              · subst cj
                rw [hy] at hz
                obtain rfl := Option.some.inj hz
                exact .inr (by simp)
              · rcases hi8 j' z (by omega) hz with h | h
                · exact .inl h
                · exact .inr (List.mem_append_left _ h)
        · rintro σ H8 ⟨later, u8, rfl, s8, hF8, hL8, hG8, nd8, hl8, hc8, hi8⟩
          refine ⟨later, _, u8, rfl, s8, hF8, hL8, hG8, nd8, hl8, fun i' p' h hp' y hy => ?_⟩
          by_cases ci : i' = i
          · subst ci
            rw [hp] at hp'
            obtain rfl := Option.some.inj hp'
            obtain ⟨j, hj, hjy⟩ := List.getElem_of_mem (((hr0 p hpn).2 y).mpr hy)
            refine hi8 j y (by rw [IL, NI, List.length_map, List.length_map]; exact hj) ?_
            rw [List.getElem?_eq_getElem hj, hjy]
          · exact hc8 i' p' (by omega) hp' y hy
      · rintro σ H7 ⟨later, u7, u8, rfl, s7, hF7, hL7, hG7, nd7, hl7, hc7⟩
        have hlm : ∀ x, x ∈ later ↔ x < ns.length ∧ d x = M + 1 := by
          intro x
          refine ⟨hl7 x, fun ⟨hx, hxM⟩ => ?_⟩
          have hxa : x ≠ a := fun z => by
            rw [z, hd.zero] at hxM
            omega
          obtain ⟨y, hy, ey⟩ := hd.back x hx hxa
          have hyr : y ∈ ring := (hmem y).mpr ⟨hy.2.1, by omega⟩
          obtain ⟨i, hi, hiy⟩ := List.getElem_of_mem hyr
          rcases hc7 i y (by rw [hIl]; exact hi) (by rw [List.getElem?_eq_getElem hi, hiy]) x (adj_symm hy) with h | h
          · omega
          · exact h
        walk_at "rd"
        refine ⟨_, ?_, L, M + 1, later, _, u7, u8, rfl, s7, LF, ?_, hL7, hlm, nodup_len _ _ nd7 fun x hx => (hl7 x hx).1, rfl⟩
        · omega
        · rw [hF7]
          congr 2
          refine List.map_congr_left fun x hx => ?_
          have hx := List.mem_range.mp hx
          unfold fdv
          have : (d x < M + 1 ∨ x ∈ later) ↔ (d x < M + 1 + 1 ∨ x ∈ ([] : List Nat)) := by
            rw [hlm x]
            simp
            omega
          simp only [this]

/-! ## way -/
def spWay (K : PySem.W.Frag) (C : Addr) : Sp := fun vs H Q E => ∃ (l : Addr) (ns : List Int) (x y : V), vs = [.ref l, x, y] ∧ SqL K H l (IL ns) ∧ ns.length ≤ 300 ∧ Wh K H x ∧ Wh K H y ∧
  (¬ Ok x ns.length ∨ ¬ Ok y ns.length → E (.ref C) none H) ∧ (∀ (a b : Nat), x = .int (a : Int) → y = .int (b : Int) → a < ns.length → b < ns.length → ∀ (D : Addr) (H' : Hp), Same H H' → H D = none → H' D = some (.lst (IL (NI (wayM ns a b)))) → Q (.ref D) H')
theorem ok_way (T : Txt K mg) : FnOk P w K mg base (L2.CX P w) 5 T.a_way T.d_way ["land", "a", "b"] (spWay K T.c_NoHill) := by
  refine T.F_way.okX sc_way (fun vs H Q E h => ?_) (fun cdv A outer s H vs Q E hr h => ⟨_, (pss_cons (ps_expr (pe_callS (ok_need_hill T) (hr.mono (by decide)) rfl T.g_need_hill T.F_need_hill.kp T.b_need_hill (fun σ => passAt (takes_of rfl rfl rfl rfl) σ) (pa_cons (pv 0) (pa_cons (pv 1) pa_nil))))
      (pss_cons (ps_expr (pe_callS (ok_need_hill T) (hr.mono (by decide)) rfl T.g_need_hill T.F_need_hill.kp T.b_need_hill (fun σ => passAt (takes_of rfl rfl rfl rfl) σ) (pa_cons (pv 0) (pa_cons (pv 2) pa_nil))))
      (pss_cons (ps_set (i := 3) sc_way.nd rfl (Or.inl rfl) (pe_call (ok_beside T) (hr.mono (by decide)) rfl T.g_beside T.F_beside.kp T.b_beside .nil pass0 (pa_cons (pv 0) pa_nil)))
      (pss_cons (ps_set (i := 4) sc_way.nd rfl (Or.inr rfl) (pe_call (ok_steps T) (hr.mono (by decide)) rfl T.g_steps T.F_steps.kp T.b_steps .nil pass0 (pa_cons (pv 3) (pa_cons (pv 2) pa_nil))))
      (pss_cons (ps_set (i := 5) sc_way.nd rfl (Or.inl rfl) (pe_lst (pa_cons (pv 1) pa_nil)))
      (pss_cons (ps_while (passes_of rfl) (pt_cmpR op_ne (pe_ix (ix_listK (K := K) rfl) (pv 5) (pe_un un_neg pe_int) (fun _ _ => rfl)) (pv 2) (nomark _)) (pss_cons (ps_set (i := 6) sc_way.nd rfl (Or.inr rfl) (pe_ix (ix_listK (K := K) rfl) (pv 5) (pe_un un_neg pe_int) (fun _ _ => rfl)))
        (pss_one (ps_expr (pe_bmK (K := K) rfl PySem.F.plainAttrs_list PySem.F.slot_list_append PySem.F.type_list_append mt_append (pv 5) (pa_cons (pe_callB (cr_minK (K := K) rfl rfl) rfl T.n_min (by decide +kernel) (pa_cons (pe_lc (own := [("place", 7)]) (g := gName 7) rfl sc_way.nd (pi_listK (K := K) rfl (pe_ix (ix_listK (K := K) rfl) (pv 3) (pv 6) (fun _ _ => rfl))) (blkOk_by (own := [("place", 7)]) (N := ["land", "a", "b", "rows", "left", "found", "here", "place"]) (sc := defScope s_way) (by decide +kernel)) (fun _ _ _ _ _ => (pg_name (i := 7) sc_way.nd rfl (Or.inl rfl))) (fun _ _ _ _ _ => pts_one (pt_cmpR op_lt (pe_ix (ix_listK (K := K) rfl) (pv 4) (pv 7) (fun _ _ => rfl)) (pe_ix (ix_listK (K := K) rfl) (pv 4) (pv 6) (fun _ _ => rfl)) (nomark _))) (fun _ _ _ _ _ => (pv 7))) pa_nil)) pa_nil))))))
      (pss_one (ps_ret (pv 5))))))))), ?_⟩)
  · obtain ⟨l, ns, x, y, rfl, _⟩ := h
    rfl
  · obtain ⟨l, ns, x, y, rfl, hS, hn, hx, hy, e, q⟩ := h
    walk_at "rd"
    refine ⟨l, ns, x, rfl, hS, hx, fun h => e (.inl h), fun o => ?_⟩
    obtain ⟨a, rfl, ha⟩ := o
    walk_at "rd"
    refine ⟨l, ns, y, rfl, hS, hy, fun h => e (.inr h), fun o => ?_⟩
    obtain ⟨b, rfl, hb⟩ := o
    have hd := far_dist hb
    walk_at "rd"
    refine ⟨l, ns, rfl, hS, hn, fun R H1 adr rs s1 hR hr => ?_⟩
    walk_at "rd"
    refine ⟨R, ns, b, adr, rs, far ns b, rfl, hR, hn, hb, hr, hd, fun D H2 s2 nD hD => ?_⟩
    have hR2 := hR.mono s2
    have s12 := s1.trans s2
    walk_at "rd"
    refine ⟨sz 1, fun F nF => ?_⟩
    have nF0 := same_fresh s12 nF
    have nFD : D ≠ F := fun z => by
      rw [z, nF] at hD
      cases hD
    have hD3 := upd_keep (u := .lst [.int (a : Int)]) hD nF
    have s3 := s12.trans (same_upd (o := .lst [.int (a : Int)]) nF)
    have hR3 := hR2.mono (same_upd (o := .lst [.int (a : Int)]) nF)
    have hF3 : (upd H2 F (.lst [.int (a : Int)])) F = some (.lst [.int (a : Int)]) := upd_same
    have nFr : R ≠ F := fun z => by
      have := hR2.lst
      rw [z, nF] at this
      cases this
    have nFa : ∀ i, i < ns.length → adr i ≠ F := fun i hi z => by
      have := hR2.row i hi
      rw [z, nF] at this
      cases this
    generalize upd H2 F (.lst [.int (a : Int)]) = H3 at *
    walk_at "rd"
    have hDv : ∀ x : Nat, x < ns.length → (IL ((List.range ns.length).map fun x => (far ns b x : Int)))[x]? = some (.int (far ns b x : Int)) := by
      intro x hx
      rw [IL, List.getElem?_map, List.getElem?_map, List.getElem?_range hx]
      rfl
    refine ⟨fun m σ H' => ∃ (here : Nat) (fs : List Nat) (v6 : Option V), σ = [some (.ref l), some (.int (a : Int)), some (.int (b : Int)), some (.ref R), some (.ref D), some (.ref F), v6, none] ∧ Same H H' ∧ H' D = some (.lst (IL ((List.range ns.length).map fun x => (far ns b x : Int)))) ∧ RowsH H' R ns.length adr (fun i => IL (NI (rs i))) ∧ H' F = some (.lst (IL (NI fs))) ∧ Gone ns a b fs here ∧ m = far ns b here,
      ⟨far ns b a, a, [a], none, rfl, s3, hD3, hR3, hF3, .start ha, rfl⟩, ?_⟩
    rintro m σ H4 ⟨here, fs, v6, rfl, s4, hD4, hR4, hF4, hg, rfl⟩
    have hh := hg.1
    have hfl := hg.len ha hb
    obtain ⟨hf0, hfe⟩ := hg.last
    have hlast : atI (IL (NI fs)) (-1) = some (.int (here : Int)) := by
      refine atI_end (by rw [IL, NI, List.length_map, List.length_map]; exact hf0) ?_
      rw [IL, NI, List.length_map, List.length_map, List.getElem?_map, List.getElem?_map, hfe]
      rfl
    walk_at "rd"
    refine rd_ixL (.of hF4) hlast ?_
    walk_at "rd"
    by_cases c : here = b
    · refine rd_no (by simp [c]) ?_
      walk_at "rd"
      rw [c] at hg
      rw [hg.done hb] at hF4
      exact q a b rfl rfl ha hb F H4 s4 nF0 hF4
    · refine rd_yes (by simp; omega) ?_
      refine ⟨_, fun _ _ n => n, ?_⟩
      walk_at "rd"
      refine rd_ixL (.of hF4) hlast ?_
      walk_at "rd"
      refine ⟨ty_list (.of hF4), ?_⟩
      walk_at "rd"
      refine rd_ixL (.of hR4.lst) (atI_nat (hR4.at hh)) ?_
      have hrl : (NI (rs here)).length ≤ 90000 := by
        rw [NI, List.length_map]
        exact (hr here hh).1
      have hrow : ∀ z, z ∈ NI (rs here) → ∃ y : Nat, z = (y : Int) ∧ adj ns here y := by
        intro z hz
        obtain ⟨y, hy, rfl⟩ := List.mem_map.mp hz
        exact ⟨y, rfl, ((hr here hh).2 y).mp hy⟩
      refine ⟨adr here, rfl, ⟨_, .of (hR4.row here hh)⟩, fun C nC => lc_listFI (fun z => decide ((far ns b z.toNat : Int) < (far ns b here : Int))) (.of (hR4.row here hh)) nC (by omega) (fun _ => rfl) (fun z H' R' hz s5 q' => ?_) (fun z H' R' hz _ s5 q' => ?_) (fun H5 s5 hC => ?_)⟩
      · obtain ⟨y, rfl, hy⟩ := hrow z hz
        walk_at "rd"
        refine rd_ixL (.of (s5 _ _ hD4)) (atI_nat (hDv y hy.2.1)) ?_
        walk_at "rd"
        refine rd_ixL (.of (s5 _ _ hD4)) (atI_nat (hDv here hh)) ?_
        walk_at "rd"
        exact q' _ (Same.refl _)
      · walk_at "rd"
        exact q' _ (Same.refl _)
      have s6 := s4.trans s5
      have hD5 := s5 _ _ hD4
      have hF5 := s5 _ _ hF4
      have hR5 := hR4.mono s5
      walk_at "rd"
      have hnx := next_ex hb hh c
      have hmem : ∀ y : Nat, (y : Int) ∈ (NI (rs here)).filter (fun z => decide ((far ns b z.toNat : Int) < (far ns b here : Int))) ↔ adj ns here y ∧ far ns b y + 1 = far ns b here := by
        intro y
        rw [List.mem_filter]
        constructor
        · rintro ⟨h1, h2⟩
          obtain ⟨y', e, hy⟩ := hrow _ h1
          have e' : y' = y := by omega
          subst e'
          have h3 := of_decide_eq_true h2
          have h4 := hd.step _ _ (adj_symm hy)
          rw [Int.toNat_natCast] at h3
          exact ⟨hy, by omega⟩
        · rintro ⟨h1, h2⟩
          refine ⟨List.mem_map.mpr ⟨y, ((hr here hh).2 y).mpr h1, rfl⟩, decide_eq_true ?_⟩
          rw [Int.toNat_natCast]
          omega
      have hin := (hmem _).mpr ⟨hnx.1, hnx.2.1⟩
      refine ⟨C, _, rfl, .of hC, List.length_pos_of_mem hin, fun m hm hmin => ?_⟩
      obtain ⟨y, rfl, _⟩ := hrow m (List.mem_filter.mp hm).1
      have hmy := (hmem y).mp hm
      have ey : nextF ns b here = y := next_is ⟨hmy.1, hmy.2, fun z h1 h2 => by
        have := hmin z ((hmem z).mpr ⟨h1, h2⟩)
        omega⟩
      have hg' := hg.go hb c
      rw [ey] at hg'
      walk_at "rd"
      refine rd_append hF5 (by rw [IL, NI, List.length_map, List.length_map]; omega) ?_
      refine ⟨far ns b y, by omega, y, fs ++ [y], _, rfl, Same.mut s6 nF0, ?_, hR5.other (fun z => nFr z.symm) nFa, ?_, hg', rfl⟩
      · rw [upd_ne nFD]
        exact hD5
      · rw [upd_same]
        simp [IL, NI]

def spSeenBy (K : PySem.W.Frag) : Sp := fun vs H Q _ => ∃ (l : Addr) (ns : List Int) (a b : Nat), vs = [.ref l, .int (a : Int), .int (b : Int)] ∧ SqL K H l (IL ns) ∧ (a < b ∧ b < ns.length ∧ ns.length ≤ 1000) ∧ Q (.bl (seeB ns a b)) H
theorem ok_law_seen_by (T : Txt K mg) : FnOk P w K mg base CX0 1 T.a_law_seen_by T.d_law_seen_by ["_law_land", "_law_low", "_law_high"] (spSeenBy K) := by
  refine T.F_law_seen_by.ok sc_law_seen_by (fun vs H Q E h => ?_) (fun cdv A outer s H vs Q E hr h => ⟨_, (pss_cons (ps_set (i := 3) sc_law_seen_by.nd rfl (Or.inl rfl) (pe_op op_sub (pe_ix (ix_listK (K := K) rfl) (pv 0) (pv 2) (fun _ _ => rfl)) (pe_ix (ix_listK (K := K) rfl) (pv 0) (pv 1) (fun _ _ => rfl))))
      (pss_cons (ps_for PassesOwn.never rfl (pi_range2 rfl T.n_range (pa_cons (pe_op op_add (pv 1) pe_int) (pa_cons (pv 2) pa_nil))) (pg_name (i := 4) sc_law_seen_by.nd rfl (Or.inl rfl)) (pss_one (ps_if (pt_cmpR op_ge (pe_op op_mul (pe_op op_sub (pe_ix (ix_listK (K := K) rfl) (pv 0) (pv 4) (fun _ _ => rfl)) (pe_ix (ix_listK (K := K) rfl) (pv 0) (pv 1) (fun _ _ => rfl))) (pe_op op_sub (pv 2) (pv 1))) (pe_op op_mul (pv 3) (pe_op op_sub (pv 4) (pv 1))) (nomark _)) (pss_one (ps_ret pe_bl)) pss_nil)))
      (pss_one (ps_ret pe_bl)))), ?_⟩)
  · obtain ⟨l, ns, a, b, rfl, _⟩ := h
    rfl
  · obtain ⟨l, ns, a, b, rfl, hS, ⟨hab, hb, hn⟩, q⟩ := h
    walk_at "rd"
    refine rd_ixL hS (IL_at (by omega) (by omega)) ?_
    walk_at "rd"
    refine rd_ixL hS (IL_at (by omega) (by omega)) ?_
    walk_at "rd"
    refine rng2 ⟨⟨by omega, by omega⟩, by omega, by omega⟩ (fun i σ H' => ∃ v4 : Option V, σ = [some (.ref l), some (.int a), some (.int b), some (.int (g ns b - g ns a)), v4] ∧ H' = H ∧ ∀ k, k < a + 1 + i → a < k → Stp ns a b k) ⟨none, rfl, rfl, fun k h1 h2 => by omega⟩ ?_ ?_
    · rintro i σ H' hi ⟨v4, rfl, rfl, hk⟩
      have ec : (a : Int) + 1 + (i : Int) = ((a + 1 + i : Nat) : Int) := by omega
      rw [ec]
      walk_at "rd"
      refine rd_ixL hS (IL_at (by omega) (by omega)) ?_
      walk_at "rd"
      refine rd_ixL hS (IL_at (by omega) (by omega)) ?_
      walk_at "rd"
      refine ite2 (fun c => ?_) (fun c => ?_)
      · have c' : ¬ Stp ns a b (a + 1 + i) := by
          have := of_decide_eq_true c
          unfold Stp g
          exact Int.not_lt.mpr this
        have e : seeB ns a b = false := by
          rw [← Bool.not_eq_true]
          exact fun z => c' (seeB_iff.mp z _ (by omega) (by omega))
        rw [e] at q
        walk_at "rd"
        exact q
      · have c' : Stp ns a b (a + 1 + i) := by
          have : ¬ _ := fun z => c (decide_eq_true z)
          exact Int.not_le.mp this
        walk_at "rd"
        refine ⟨_, rfl, rfl, fun k h1 h2 => ?_⟩
        by_cases e : k = a + 1 + i
        · rw [e]
          exact c'
        · exact hk k (by omega) h2
    · rintro σ H' ⟨v4, rfl, rfl, hk⟩
      have e : seeB ns a b = true := seeB_iff.mpr fun k h1 h2 => hk k (by omega) h2
      rw [e] at q
      walk_at "rd"
      exact q

/-! ## near -/
def spNear (K : PySem.W.Frag) : Sp := fun vs H Q _ => ∃ (l : Addr) (ns : List Int) (b : Nat), vs = [.ref l, .int (b : Int)] ∧ SqL K H l (IL ns) ∧ b < ns.length ∧ ns.length ≤ 1000 ∧ ∀ D, H D = none → Q (.ref D) (upd H D (.lst (IL (NI (rowM ns b)))))
theorem ok_law_near (T : Txt K mg) : FnOk P w K mg base CX0 2 T.a_law_near T.d_law_near ["_law_land", "_law_b"] (spNear K) := by
  refine T.F_law_near.ok sc_law_near (fun vs H Q E h => ?_) (fun cdv A outer s H vs Q E hr h => ⟨_, (pss_cons (ps_set (i := 2) sc_law_near.nd rfl (Or.inl rfl) (pe_lst pa_nil))
      (pss_cons (ps_for PassesOwn.never rfl (pi_range1 rfl T.n_range (pa_cons (pe_callB (call_lenK (K := K) rfl) rfl T.n_len (by decide +kernel) (pa_cons (pv 0) pa_nil)) pa_nil)) (pg_name (i := 3) sc_law_near.nd rfl (Or.inl rfl)) (pss_one (ps_if (PW.pt (pw_and (pt_cmpR op_ne (pv 3) (pv 1) (nomark _)) (pw_and1 (pt_val (pe_call (ok_law_seen_by T) (hr.mono (by decide)) rfl T.g_law_seen_by T.F_law_seen_by.kp T.b_law_seen_by .nil pass0 (pa_cons (pv 0) (pa_cons (pe_callB (call_min2K rfl) rfl T.n_min (by decide +kernel) (pa_cons (pv 3) (pa_cons (pv 1) pa_nil))) (pa_cons (pe_callB (call_max2K rfl) rfl T.n_max (by decide +kernel) (pa_cons (pv 3) (pa_cons (pv 1) pa_nil))) pa_nil)))))))) (pss_one (ps_expr (pe_bmK (K := K) rfl PySem.F.plainAttrs_list PySem.F.slot_list_append PySem.F.type_list_append mt_append (pv 2) (pa_cons (pv 3) pa_nil)))) pss_nil)))
      (pss_one (ps_ret (pv 2))))), ?_⟩)
  · obtain ⟨l, ns, b, rfl, _⟩ := h
    rfl
  · obtain ⟨l, ns, b, rfl, hS, hb, hn, q⟩ := h
    have hnl : (IL ns).length = ns.length := List.length_map _
    walk_at "rd"
    refine ⟨sz 0, fun U nU => ?_⟩
    have hSU := (same_upd (o := .lst []) nU).seq hS
    walk_at "rd"
    rw [hnl]
    refine rng1 ⟨by omega, by omega⟩ (fun j σ H' => ∃ v3 : Option V, σ = [some (.ref l), some (.int b), some (.ref U), v3] ∧ H' = upd H U (.lst (IL (NI ((List.range j).filter (nearP ns b)))))) ⟨none, rfl, rfl⟩ ?_ ?_
    · rintro j σ H' hj ⟨v3, rfl, rfl⟩
      have hS4 := (same_upd (o := .lst (IL (NI ((List.range j).filter (nearP ns b))))) nU).seq hS
      have fin : ∀ c : Bool, nearP ns b j = c → (upd H U (.lst (IL (NI ((List.range (j + 1)).filter (nearP ns b)))))) = if c = true then upd (upd H U (.lst (IL (NI ((List.range j).filter (nearP ns b)))))) U (.lst (IL (NI ((List.range j).filter (nearP ns b))) ++ [.int (j : Int)])) else upd H U (.lst (IL (NI ((List.range j).filter (nearP ns b))))) := by
        intro c hc
        rw [filter_range_succ, hc]
        cases c with
        | true =>
          rw [if_pos rfl, if_pos rfl, upd_upd]
          congr 2
          simp [IL, NI]
        | false => rw [if_neg (by decide), if_neg (by decide), List.append_nil]
      walk_at "rd"
      by_cases e : j = b
      · have e1 : nearP ns b j = false := by unfold nearP; rw [decide_eq_false (fun z => z e)]; rfl
        refine rd_no (by rw [e]; simp) ?_
        walk_at "rd"
        exact ⟨_, rfl, (fin false e1).symm⟩
      · have e1 : nearP ns b j = seeB ns (min j b) (max j b) := by
          unfold nearP
          rw [decide_eq_true e, Bool.true_and, Nat.min_comm, Nat.max_comm]
        refine rd_yes (by simp [show ¬ (j : Int) = (b : Int) from fun z => e (by omega)]) ?_
        walk_at "rd"
        refine ⟨l, ns, min j b, max j b, rfl, hS4, ⟨by omega, by omega, by omega⟩, ?_⟩
        rw [← e1]
        cases e2 : nearP ns b j with
        | true =>
          walk_at "rd"
          refine ⟨ty_list (.of upd_same), ?_⟩
          walk_at "rd"
          refine rd_append upd_same (by
            rw [List.length_map, List.length_map]
            have := filter_len (nearP ns b) (List.range j)
            rw [List.length_range] at this
            omega) ?_
          exact ⟨_, rfl, (fin true e2).symm⟩
        | false =>
          walk_at "rd"
          exact ⟨_, rfl, (fin false e2).symm⟩
    · rintro σ H' ⟨v3, rfl, rfl⟩
      rw [show ((ns.length : Nat) : Int).toNat = ns.length by omega]
      walk_at "rd"
      exact q U nU

/-! ## caught errors; things that are no places -/
theorem exm_of {S C : Addr} {b : Bool} (h1 : PySem.W.subIn K (.ref C) (.type "BaseException") = some true) (h2 : PySem.W.isClsIn K C = true) (h3 : PySem.W.typeIn K (.ref C) = some (.type "type")) (h4 : PySem.W.subIn K (.ref S) (.ref C) = some b) :
    PySem.W.exmOne K (.ref S) (.ref C) = some b := by
  have e1 : (PySem.W.subIn K (.ref C) (.type "BaseException") == some true) = true := by rw [h1] <;> rfl
  have e2 : ((PySem.W.clsIn K C).isSome && PySem.W.typeIn K (.ref C) == some (.type "type")) = true := by
    have h2' : (PySem.W.clsIn K C).isSome = true := h2
    rw [h2', h3] <;> rfl
  show (if (PySem.W.subIn K (.ref C) (.type "BaseException") == some true) = true then (if ((PySem.W.clsIn K C).isSome && PySem.W.typeIn K (.ref C) == some (.type "type")) = true then PySem.W.subIn K (.ref S) (.ref C) else none) else none) = some b
  rw [if_pos e1, if_pos e2]
  exact h4
def Odd (K : PySem.W.Frag) (H : Hp) (n : Nat) (x : V) : Prop := Wh K H x ∧ ¬ Ok x n
theorem odd_int {H : Hp} {n : Nat} {i : Int} (h : i < 0 ∨ (n : Int) ≤ i) : Odd K H n (.int i) := ⟨wh_int, fun z => by
  have := ok_int.mp z
  omega⟩
theorem odd_bl {H : Hp} {n : Nat} {b : Bool} : Odd K H n (.bl b) := ⟨wh_bl, fun ⟨i, e, _⟩ => by cases e⟩
theorem odd_non {H : Hp} {n : Nat} : Odd K H n .non := ⟨wh_non, fun ⟨i, e, _⟩ => by cases e⟩
theorem odd_str {H : Hp} {n : Nat} {z : Str} : Odd K H n (.str z) := ⟨wh_str, fun ⟨i, e, _⟩ => by cases e⟩
theorem odd_tup {H : Hp} {n : Nat} {a : Addr} {xs : List V} (h : H a = some (.tup xs)) : Odd K H n (.ref a) := ⟨wh_tup h, fun ⟨i, e, _⟩ => by cases e⟩
theorem odd_lst {H : Hp} {n : Nat} {a : Addr} {xs : List V} (h : H a = some (.lst xs)) : Odd K H n (.ref a) := ⟨wh_lst h, fun ⟨i, e, _⟩ => by cases e⟩
theorem atI_mem {xs : List V} {i : Int} (h0 : 0 ≤ i) (h : i < xs.length) : ∃ x, x ∈ xs ∧ atI xs i = some x := by
  obtain ⟨k, rfl⟩ : ∃ k : Nat, i = (k : Int) := ⟨i.toNat, by omega⟩
  have hk : k < xs.length := by omega
  exact ⟨xs[k], List.getElem_mem hk, atI_nat (List.getElem?_eq_getElem hk)⟩
theorem ten9 : (10 : Int) ^ (9 : Int).toNat = 1000000000 := by decide +kernel

/-! ## the law -/
def spLeftBy (K : PySem.W.Frag) : Sp := fun vs H Q _ => ∃ (R : Addr) (ns : List Int) (b : Nat) (adr : Nat → Addr) (d : Nat → Nat), vs = [.ref R, .int (b : Int)] ∧ RowsH H R ns.length adr (fun i => IL (NI (rowM ns i))) ∧ ns.length ≤ 300 ∧ b < ns.length ∧ Dist ns b d ∧
  ∀ (D : Addr) (H' : Hp), Same H H' → H D = none → H' D = some (.lst (IL ((List.range ns.length).map fun x => (d x : Int)))) → Q (.ref D) H'
theorem ok_law_left_by (T : Txt K mg) : FnOk P w K mg base CX0 1 T.a_law_left_by T.d_law_left_by ["_law_rows", "_law_b"] (spLeftBy K) := by
  refine T.F_law_left_by.ok sc_law_left_by (fun vs H Q E h => ?_) (fun cdv A outer s H vs Q E hr h => ⟨_, (pss_cons (ps_set (i := 2) sc_law_left_by.nd rfl (Or.inr rfl) (pe_lc (own := [("_law_row", 3)]) (g := gName 3) rfl sc_law_left_by.nd (pi_listK (K := K) rfl (pv 0)) (blkOk_by (own := [("_law_row", 3)]) (N := ["_law_rows", "_law_b", "_law_found", "_law_row", "_law_many", "_law_here", "_law_k"]) (sc := defScope s_law_left_by) (by decide +kernel)) (fun _ _ _ _ _ => (pg_name (i := 3) sc_law_left_by.nd rfl (Or.inl rfl))) (fun _ _ _ _ _ => pts_nil) (fun _ _ _ _ _ => (pe_callB (call_lenK (K := K) rfl) rfl T.n_len (by decide +kernel) (pa_cons (pv 0) pa_nil)))))
      (pss_cons (ps_asg pe_int (pg_sub (pv 2) (pv 1) set_list))
      (pss_cons (ps_for PassesOwn.never rfl (pi_range1 rfl T.n_range (pa_cons (pe_callB (call_lenK (K := K) rfl) rfl T.n_len (by decide +kernel) (pa_cons (pv 0) pa_nil)) pa_nil)) (pg_name (i := 4) sc_law_left_by.nd rfl (Or.inr rfl)) (pss_one (ps_for PassesOwn.never rfl (pi_range1 rfl T.n_range (pa_cons (pe_callB (call_lenK (K := K) rfl) rfl T.n_len (by decide +kernel) (pa_cons (pv 0) pa_nil)) pa_nil)) (pg_name (i := 5) sc_law_left_by.nd rfl (Or.inl rfl)) (pss_one (ps_if (PW.pt (pw_and (pt_cmpR op_gt (pe_ix (ix_listK (K := K) rfl) (pv 2) (pv 5) (fun _ _ => rfl)) (pe_op op_add (pv 4) pe_int) (nomark _)) (pw_and1 (pt_val (pe_callB (cr_anyK (K := K) rfl rfl) rfl T.n_any (by decide +kernel) (pa_cons (pe_lc (own := [("_law_k", 6)]) (g := gName 6) rfl sc_law_left_by.nd (pi_listK (K := K) rfl (pe_ix (ix_listK (K := K) rfl) (pv 0) (pv 5) (fun _ _ => rfl))) (blkOk_by (own := [("_law_k", 6)]) (N := ["_law_rows", "_law_b", "_law_found", "_law_row", "_law_many", "_law_here", "_law_k"]) (sc := defScope s_law_left_by) (by decide +kernel)) (fun _ _ _ _ _ => (pg_name (i := 6) sc_law_left_by.nd rfl (Or.inl rfl))) (fun _ _ _ _ _ => pts_nil) (fun _ _ _ _ _ => (pe_cmpR op_eq (pe_ix (ix_listK (K := K) rfl) (pv 2) (pv 6) (fun _ _ => rfl)) (pv 4) (nomark _)))) pa_nil)))))) (pss_one (ps_asg (pe_op op_add (pv 4) pe_int) (pg_sub (pv 2) (pv 5) set_list))) pss_nil)))))
      (pss_one (ps_ret (pv 2)))))), ?_⟩)
  · obtain ⟨R, ns, b, adr, d, rfl, _⟩ := h
    rfl
  · obtain ⟨R, ns, b, adr, d, rfl, hR, hn, hb, hd, q⟩ := h
    have hrl : ((List.range ns.length).map fun i => V.ref (adr i)).length = ns.length := by rw [List.length_map, List.length_range]
    have hRs : SqL K H R ((List.range ns.length).map fun i => V.ref (adr i)) := .of hR.lst
    walk_at "rd"
    refine ⟨R, rfl, ⟨_, hRs⟩, fun F nF => lc_listM (K := K) (fun _ => .int (ns.length : Int)) hRs nF (by omega) (fun _ => rfl) (fun x H' Q' _ s1 q' => ?_) (fun H1 s1 hF => ?_)⟩
    · have hR1 := s1.seq hRs
      walk_at "rd"
      rw [hrl]
      exact q' _ (Same.refl _)
    rw [List.map_map] at hF
    walk_at "rd"
    refine rd_setL hF (by rw [List.length_map, List.length_range]; exact hb) ?_
    have hFe : upd H1 F (.lst ((((List.range ns.length).map ((fun _ => V.int (ns.length : Int)) ∘ fun i => V.ref (adr i)))).set b (.int 0))) = upd H1 F (.lst ((List.range ns.length).map fun x => V.int (lvl ns.length d 0 0 x : Int))) := by
      congr 2
      refine map_set_range ?_ fun x hx hne => ?_
      · unfold lvl
        rw [hd.zero, if_pos (.inl (by omega))]
        rfl
      · have := hd.pos hx hne
        unfold lvl
        rw [if_neg (by omega)]
        rfl
    rw [hFe]
    have s2 : Same H _ := Same.mut (o := .lst ((List.range ns.length).map fun x => V.int (lvl ns.length d 0 0 x : Int))) s1 nF
    have hF2 : (upd H1 F (.lst ((List.range ns.length).map fun x => V.int (lvl ns.length d 0 0 x : Int)))) F = some (.lst ((List.range ns.length).map fun x => V.int (lvl ns.length d 0 0 x : Int))) := upd_same
    generalize upd H1 F (.lst ((List.range ns.length).map fun x => V.int (lvl ns.length d 0 0 x : Int))) = H2 at *
    have hR2 := s2.seq hRs
    have lv : ∀ m i x, x < ns.length → ((List.range ns.length).map fun x => V.int (lvl ns.length d m i x : Int))[x]? = some (.int (lvl ns.length d m i x : Int)) := by
      intro m i x hx
      rw [List.getElem?_map, List.getElem?_range hx]
      rfl
    walk_at "rd"
    rw [hrl]
    refine rng1 ⟨by omega, by omega⟩ (fun m σ H' => ∃ (v4 v5 : Option V), σ = [some (.ref R), some (.int (b : Int)), some (.ref F), none, v4, v5, none] ∧ Same H H' ∧ H' F = some (.lst ((List.range ns.length).map fun x => V.int (lvl ns.length d m 0 x : Int))))
      ⟨none, none, rfl, s2, hF2⟩ ?_ ?_
    · rintro m σ H3 hm ⟨v4, v5, rfl, s3, hF3⟩
      have hR3 := s3.seq hRs
      have hm' : m < ns.length := by omega
      walk_at "rd"
      rw [hrl]
      refine rng1 ⟨by omega, by omega⟩ (fun i σ H' => ∃ (v5 : Option V), σ = [some (.ref R), some (.int (b : Int)), some (.ref F), none, some (.int (m : Int)), v5, none] ∧ Same H H' ∧ H' F = some (.lst ((List.range ns.length).map fun x => V.int (lvl ns.length d m i x : Int))))
        ⟨v5, rfl, s3, hF3⟩ ?_ ?_
      · rintro i σ H4 hi ⟨v5, rfl, s4, hF4⟩
        have hi' : i < ns.length := by omega
        have keep : d i ≠ m + 1 → ((List.range ns.length).map fun x => V.int (lvl ns.length d m i x : Int)) = ((List.range ns.length).map fun x => V.int (lvl ns.length d m (i + 1) x : Int)) := by
          intro h
          refine List.map_congr_left fun x _ => ?_
          unfold lvl
          have : (d x ≤ m ∨ (d x = m + 1 ∧ x < i)) ↔ (d x ≤ m ∨ (d x = m + 1 ∧ x < i + 1)) := by
            by_cases c : x = i
            · subst c
              omega
            · omega
          simp only [this]
        walk_at "rd"
        refine rd_ixL (.of hF4) (atI_nat (lv m i i hi')) ?_
        walk_at "rd"
        have hbd := hd.bound hb hi'
        by_cases c : (m : Int) + 1 < (lvl ns.length d m i i : Int)
        · refine rd_yes (decide_eq_true c) ?_
          have hdm : m < d i := by
            unfold lvl at c
            split at c <;> omega
          have hR4 := hR.mono s4
          walk_at "rd"
          refine rd_ixL (.of hR4.lst) (atI_nat (hR4.at hi')) ?_
          have hrow : ∀ x, x ∈ IL (NI (rowM ns i)) → ∃ y : Nat, x = V.int (y : Int) ∧ adj ns i y := by
            intro x hx
            obtain ⟨z, hz, rfl⟩ := List.mem_map.mp hx
            obtain ⟨y, hy, rfl⟩ := List.mem_map.mp hz
            exact ⟨y, rfl, (mem_row hi').mp hy⟩
          have hrl' : (IL (NI (rowM ns i))).length ≤ ns.length := by
            rw [IL, NI, List.length_map, List.length_map]
            exact row_len ns i
          refine ⟨adr i, rfl, ⟨_, .of (hR4.row i hi')⟩, fun C nC => lc_listM (fun x => match x with | .int y => .bl (decide (d y.toNat = m)) | _ => .non) (.of (hR4.row i hi')) nC (by omega) (fun _ => rfl) (fun x H' R' hx s5 q' => ?_) (fun H5 s5 hC => ?_)⟩
          · obtain ⟨y, rfl, hy⟩ := hrow x hx
            walk_at "rd"
            refine rd_ixL (.of (s5 _ _ hF4)) (atI_nat (lv m i y hy.2.1)) ?_
            walk_at "rd"
            have h1 := q' _ (Same.refl _)
            have h2 : decide (d (y : Int).toNat = m) = decide (V.int (lvl ns.length d m i y : Int) = V.int (m : Int)) := by
              rw [Int.toNat_natCast]
              refine decide_eq_decide.mpr ⟨fun e => ?_, fun e => ?_⟩
              · unfold lvl
                rw [if_pos (.inl (by omega)), e]
              · have e := V.int.inj e
                unfold lvl at e
                split at e <;> omega
            simp only [h2] at h1
            exact h1
          have s6 := s4.trans s5
          have hF5 := s5 _ _ hF4
          walk_at "rd"
          refine rd_anyP (fun x => match x with | .int y => decide (d y.toNat = m) | _ => false) (fun x hx => by
            obtain ⟨y, rfl, hy⟩ := hrow x hx
            rfl) hC ?_
          by_cases e : d i = m + 1
          · have hany : (IL (NI (rowM ns i))).any (fun x => match x with | .int y => decide (d y.toNat = m) | _ => false) = true := by
              obtain ⟨y, hy, ey⟩ := hd.back i hi' (fun z => by
                rw [z, hd.zero] at e
                omega)
              refine List.any_eq_true.mpr ⟨.int (y : Int), List.mem_map.mpr ⟨(y : Int), List.mem_map.mpr ⟨y, (mem_row hi').mpr hy, rfl⟩, rfl⟩, ?_⟩
              refine decide_eq_true ?_
              rw [Int.toNat_natCast]
              omega
            rw [hany]
            walk_at "rd"
            refine rd_setL hF5 (by rw [List.length_map, List.length_range]; exact hi') ?_
            refine ⟨_, rfl, Same.mut s6 nF, ?_⟩
            rw [upd_same]
            congr 2
            refine map_set_range ?_ fun x hx hne => ?_
            · unfold lvl
              rw [if_pos (.inr ⟨e, by omega⟩), e]
              rfl
            · unfold lvl
              have : (d x ≤ m ∨ (d x = m + 1 ∧ x < i)) ↔ (d x ≤ m ∨ (d x = m + 1 ∧ x < i + 1)) := by omega
              simp only [this]
          · have hany : (IL (NI (rowM ns i))).any (fun x => match x with | .int y => decide (d y.toNat = m) | _ => false) = false := by
              rw [← Bool.not_eq_true]
              intro z
              obtain ⟨x, hx, hxe⟩ := List.any_eq_true.mp z
              obtain ⟨y, rfl, hy⟩ := hrow x hx
              have h1 := of_decide_eq_true hxe
              rw [Int.toNat_natCast] at h1
              have := hd.step _ _ (adj_symm hy)
              omega
            rw [hany]
            walk_at "rd"
            rw [keep e] at hF5
            exact ⟨_, rfl, s6, hF5⟩
        · have hne : d i ≠ m + 1 := fun e => by
            unfold lvl at c
            rw [if_neg (by omega)] at c
            omega
          rw [keep hne] at hF4
          refine rd_no (fun z => c (of_decide_eq_true z)) ?_
          walk_at "rd"
          exact ⟨_, rfl, s4, hF4⟩
      · rintro σ H4 ⟨v5, rfl, s4, hF4⟩
        rw [show ((ns.length : Nat) : Int).toNat = ns.length by omega] at hF4
        refine ⟨_, v5, rfl, s4, ?_⟩
        rw [hF4]
        congr 2
        refine List.map_congr_left fun x hx => ?_
        have hx := List.mem_range.mp hx
        unfold lvl
        have : (d x ≤ m ∨ (d x = m + 1 ∧ x < ns.length)) ↔ (d x ≤ m + 1 ∨ (d x = m + 1 + 1 ∧ x < 0)) := by omega
        simp only [this]
    · rintro σ H3 ⟨v4, v5, rfl, s3, hF3⟩
      rw [show ((ns.length : Nat) : Int).toNat = ns.length by omega] at hF3
      walk_at "rd"
      refine q F H3 s3 nF ?_
      rw [hF3, IL, List.map_map]
      congr 2
      refine List.map_congr_left fun x hx => ?_
      have hx := List.mem_range.mp hx
      have := hd.bound hb hx
      unfold lvl
      rw [if_pos (.inl (by omega))]
      rfl
def spRefused (K : PySem.W.Frag) : Sp := fun vs H Q _ => ∃ (l : Addr) (ns : List Int) (x y : V), vs = [.ref l, x, y] ∧ SqL K H l (IL ns) ∧ ns.length ≤ 300 ∧ Wh K H x ∧ Wh K H y ∧ (¬ Ok x ns.length ∨ ¬ Ok y ns.length) ∧ Q (.bl true) H
theorem ok_law_refused (T : Txt K mg) : FnOk P w K mg base CX0 6 T.a_law_refused T.d_law_refused ["_law_land", "_law_a", "_law_b"] (spRefused K) := by
  refine T.F_law_refused.ok sc_law_refused (fun vs H Q E h => ?_) (fun cdv A outer s H vs Q E hr h => ⟨_, (pss_cons (ps_try_many rfl rfl takes0 (fun W pn xe tk po => (pss_one (ps_expr (pe_callS (ok_way T) (hr.mono (by decide)) rfl T.g_way T.F_way.kp T.b_way (fun σ => passAt tk σ) (pa_cons (pv 0) (pa_cons (pv 1) (pa_cons (pv 2) pa_nil))))))) (.cons ⟨rfl, by decide, .inl T.g_NoHill⟩ (fun a oe cls d pn hz hf => (pss_one (ps_ret pe_bl))) (.cons ⟨rfl, by decide, .inl T.g_HillError⟩ (fun a oe cls d pn hz hf => (pss_one (ps_ret pe_bl))) .nil)))
      (pss_one (ps_ret pe_bl))), ?_⟩)
  · obtain ⟨l, ns, x, y, rfl, _⟩ := h
    rfl
  · obtain ⟨l, ns, x, y, rfl, hS, hn, hx, hy, ho, q⟩ := h
    walk_at "rd"
    refine ⟨l, ns, x, y, rfl, hS, hn, hx, hy, fun _ => ?_, fun i j ei ej hi hj => ?_⟩
    · refine ⟨true, exm_of T.e_NoHill T.i_NoHill T.t_NoHill T.s_NoHill_NoHill, fun _ ae nae => ?_, fun z => (by cases z)⟩
      walk_at "rd"
      exact q
    · exfalso
      rcases ho with h | h
      · exact h (by rw [ei]; exact ok_int.mpr ⟨by omega, by omega⟩)
      · exact h (by rw [ej]; exact ok_int.mpr ⟨by omega, by omega⟩)
theorem rd_way {C l : Addr} {ns : List Int} {a b : Nat} {H : Hp} {Q : VK} {E : XK} (hS : SqL K H l (IL ns)) (hn : ns.length ≤ 300) (ha : a < ns.length) (hb : b < ns.length)
    (q : ∀ D H', Same H H' → H D = none → H' D = some (.lst (IL (NI (wayM ns a b)))) → Q (.ref D) H') : spWay K C [.ref l, .int (a : Int), .int (b : Int)] H Q E := by
  refine ⟨l, ns, _, _, rfl, hS, hn, wh_int, wh_int, fun h => ?_, fun a' b' e f _ _ D H' s nD hD => ?_⟩
  · exfalso
    rcases h with h | h
    · exact h (ok_int.mpr ⟨by omega, by omega⟩)
    · exact h (ok_int.mpr ⟨by omega, by omega⟩)
  · have e := V.int.inj e
    have f := V.int.inj f
    have e2 : a' = a := by omega
    have f2 : b' = b := by omega
    subst e2 f2
    exact q D H' s nD hD
def spKnown (K : PySem.W.Frag) : Sp := fun vs H Q _ => ∃ (a : Addr) (ns : List Int), vs = [.ref a] ∧ SqL K H a (IL ns) ∧ ∀ H', Q (.bl true) H'
theorem ok_law_known (T : Txt K mg) : FnOk P w K mg base CX0 6 T.a_law_known T.d_law_known ["_law_script"] (spKnown K) := by
  refine T.F_law_known.ok sc_law_known (fun vs H Q E h => ?_) (fun cdv A outer s H vs Q E hr h => ⟨_, (pss_cons (ps_set (i := 1) sc_law_known.nd rfl (Or.inl rfl) (pe_op op_add pe_int (pe_op op_mod (pe_call (ok_law_cell_at T) (hr.mono (by decide)) rfl T.g_law_cell_at T.F_law_cell_at.kp T.b_law_cell_at .nil pass0 (pa_cons (pv 0) (pa_cons pe_int pa_nil))) pe_int)))
      (pss_cons (ps_set (i := 2) sc_law_known.nd rfl (Or.inr rfl) (pe_op op_sub (pe_op op_mod (pe_call (ok_law_cell_at T) (hr.mono (by decide)) rfl T.g_law_cell_at T.F_law_cell_at.kp T.b_law_cell_at .nil pass0 (pa_cons (pv 0) (pa_cons pe_int pa_nil))) pe_int) pe_int))
      (pss_cons (ps_set (i := 3) sc_law_known.nd rfl (Or.inr rfl) (pe_op op_mod (pe_op op_fdiv (pe_call (ok_law_cell_at T) (hr.mono (by decide)) rfl T.g_law_cell_at T.F_law_cell_at.kp T.b_law_cell_at .nil pass0 (pa_cons (pv 0) (pa_cons pe_int pa_nil))) pe_int) (pv 1)))
      (pss_cons (ps_set (i := 4) sc_law_known.nd rfl (Or.inl rfl) (pe_op op_mod (pe_op op_fdiv (pe_call (ok_law_cell_at T) (hr.mono (by decide)) rfl T.g_law_cell_at T.F_law_cell_at.kp T.b_law_cell_at .nil pass0 (pa_cons (pv 0) (pa_cons pe_int pa_nil))) pe_int) (pv 1)))
      (pss_cons (ps_setLc (i := 5) (own := [("_law_k", 6)]) (g := gName 6) rfl sc_law_known.nd rfl rfl (sw_true rfl rfl rfl (by decide +kernel)) (pi_range1 rfl T.n_range (pa_cons (pv 1) pa_nil)) (blkOk_by (own := [("_law_k", 6)]) (N := ["_law_script", "_law_size", "_law_tilt", "_law_a", "_law_b", "_law_land", "_law_k"]) (sc := defScope s_law_known) (by decide +kernel)) (fun _ _ _ _ _ => (pg_name (i := 6) sc_law_known.nd rfl (Or.inl rfl))) (fun _ _ _ _ _ => pts_nil) (fun _ _ _ _ _ => (pe_op op_add (pe_op op_mul (pv 2) (pv 6)) pe_int)))
      (pss_cons (ps_if (pt_cmpR op_lt (pv 3) (pv 4) (nomark _)) (pss_one (ps_ret (pe_cmpR (op_eqDK (K := K) rfl hr.units) (pe_call (ok_way T) (hr.mono (by decide)) rfl T.g_way T.F_way.kp T.b_way .nil passL (pa_cons (pv 5) (pa_cons (pv 3) (pa_cons (pv 4) pa_nil)))) (pe_lc (own := [("_law_k", 6)]) (g := gName 6) rfl sc_law_known.nd (pi_range2 rfl T.n_range (pa_cons (pv 3) (pa_cons (pe_op op_add (pv 4) pe_int) pa_nil))) (blkOk_by (own := [("_law_k", 6)]) (N := ["_law_script", "_law_size", "_law_tilt", "_law_a", "_law_b", "_law_land", "_law_k"]) (sc := defScope s_law_known) (by decide +kernel)) (fun _ _ _ _ _ => (pg_name (i := 6) sc_law_known.nd rfl (Or.inl rfl))) (fun _ _ _ _ _ => pts_nil) (fun _ _ _ _ _ => (pv 6))) (nomark _)))) pss_nil)
      (pss_one (ps_ret (pe_cmpR (op_eqDK (K := K) rfl hr.units) (pe_call (ok_way T) (hr.mono (by decide)) rfl T.g_way T.F_way.kp T.b_way .nil passL (pa_cons (pv 5) (pa_cons (pv 3) (pa_cons (pv 4) pa_nil)))) (pe_lc (own := [("_law_k", 6)]) (g := gName 6) rfl sc_law_known.nd (pi_range1 rfl T.n_range (pa_cons (pe_op op_add (pe_op op_sub (pv 3) (pv 4)) pe_int) pa_nil)) (blkOk_by (own := [("_law_k", 6)]) (N := ["_law_script", "_law_size", "_law_tilt", "_law_a", "_law_b", "_law_land", "_law_k"]) (sc := defScope s_law_known) (by decide +kernel)) (fun _ _ _ _ _ => (pg_name (i := 6) sc_law_known.nd rfl (Or.inl rfl))) (fun _ _ _ _ _ => pts_nil) (fun _ _ _ _ _ => (pe_op op_sub (pv 3) (pv 6)))) (nomark _)))))))))), ?_⟩)
  · obtain ⟨a, ns, rfl, _⟩ := h
    rfl
  · obtain ⟨s0, ns, rfl, hS, k⟩ := h
    walk_at "rd"
    have hn : 150 ≤ 150 + cell ns (Int.toNat 1) % 51 ∧ 150 + cell ns (Int.toNat 1) % 51 ≤ 200 := by omega
    have htl : -4 ≤ cell ns (Int.toNat 0) % 9 - 4 ∧ cell ns (Int.toNat 0) % 9 - 4 ≤ 4 := by omega
    obtain ⟨n, en⟩ : ∃ n : Nat, 150 + cell ns (Int.toNat 1) % 51 = (n : Int) := ⟨(150 + cell ns (Int.toNat 1) % 51).toNat, by omega⟩
    rw [en] at hn ⊢
    generalize cell ns (Int.toNat 0) % 9 - 4 = tl at *
    walk_at "rd"
    obtain ⟨a, ea, ha⟩ : ∃ b : Nat, cell ns (Int.toNat 1) / 51 % (n : Int) = (b : Int) ∧ b < n := by
      have := emod_b (x := cell ns (Int.toNat 1) / 51) (n := (n : Int)) (by omega)
      exact ⟨(cell ns (Int.toNat 1) / 51 % (n : Int)).toNat, by omega, by omega⟩
    obtain ⟨b, eb, hb⟩ : ∃ b : Nat, cell ns (Int.toNat 2) / 9 % (n : Int) = (b : Int) ∧ b < n := by
      have := emod_b (x := cell ns (Int.toNat 2) / 9) (n := (n : Int)) (by omega)
      exact ⟨(cell ns (Int.toNat 2) / 9 % (n : Int)).toNat, by omega, by omega⟩
    rw [ea, eb]
    refine ⟨(n : Int), rfl, by omega, by omega, fun L nL => lc_rangeM (n := n) (fun i => .int (tl * (i : Int) + 7)) nL (by omega) (fun _ => rfl) (fun i H' R hi s2 q => ?_) (fun H2 s2 hL => ?_)⟩
    · walk_at "rd"
      exact q _ (Same.refl _)
    rw [IL_mapR] at hL
    have hL' : H2 L = some (.lst (IL (lineL n tl))) := hL
    walk_at "rd"
    refine ite2 (fun c => ?_) (fun c => ?_)
    · have hab : a < b := by
        have := of_decide_eq_true c
        omega
      walk_at "rd"
      refine rd_way (.of hL') (by rw [line_len]; omega) (by rw [line_len]; exact ha) (by rw [line_len]; exact hb) (fun D H3 s3 nD hD => ?_)
      walk_at "rd"
      refine ⟨(a : Int), (b : Int) + 1, rfl, ⟨by omega, by omega, by omega, by omega⟩, fun M nM => ?_⟩
      rw [show ((b : Int) + 1 - (a : Int)).toNat = b - a + 1 by omega]
      refine lc_range2M (lo := (a : Int)) (n := b - a + 1) (fun i => .int ((a : Int) + (i : Int))) nM (by omega) (fun _ => rfl) (fun i H' R hi s4 q => ?_) (fun H4 s4 hM => ?_)
      · walk_at "rd"
        exact q _ (Same.refl _)
      rw [IL_mapR] at hM
      have hD4 := s4 _ _ hD
      refine rd_eqI (.of hD4) (.of hM) ?_
      rw [line_wayU hb (by omega), NI, List.map_map]
      rw [decide_eq_true (List.map_congr_left fun i _ => by show ((a + i : Nat) : Int) = (a : Int) + (i : Int); omega)]
      exact k H4
    · have hab : b ≤ a := by
        have : ¬ (a : Int) < (b : Int) := fun z => c (decide_eq_true z)
        omega
      walk_at "rd"
      refine rd_way (.of hL') (by rw [line_len]; omega) (by rw [line_len]; exact ha) (by rw [line_len]; exact hb) (fun D H3 s3 nD hD => ?_)
      walk_at "rd"
      refine ⟨(a : Int) - (b : Int) + 1, rfl, by omega, by omega, fun M nM => ?_⟩
      rw [show ((a : Int) - (b : Int) + 1).toNat = a - b + 1 by omega]
      refine lc_rangeM (n := a - b + 1) (fun i => .int ((a : Int) - (i : Int))) nM (by omega) (fun _ => rfl) (fun i H' R hi s4 q => ?_) (fun H4 s4 hM => ?_)
      · walk_at "rd"
        exact q _ (Same.refl _)
      rw [IL_mapR] at hM
      have hD4 := s4 _ _ hD
      refine rd_eqI (.of hD4) (.of hM) ?_
      rw [line_wayD ha hab, NI, List.map_map]
      rw [decide_eq_true (List.map_congr_left fun i hi => by
        have := List.mem_range.mp hi
        show ((a - i : Nat) : Int) = (a : Int) - (i : Int)
        omega)]
      exact k H4
def spLaw (K : PySem.W.Frag) : Sp := fun vs H Q _ => ∃ (a : Addr) (ns : List Int), vs = [.ref a] ∧ SqL K H a (IL ns) ∧ ns.length ≤ 63 ∧ ∀ H', Q (.bl true) H'
theorem ok_law (T : Txt K mg) : FnOk P w K mg base CX0 7 T.a_law T.d_law ["_law_script"] (spLaw K) := by
  refine T.F_law.ok sc_law (fun vs H Q E h => ?_) (fun cdv A outer s H vs Q E hr h => ⟨_, (pss_cons (ps_if (pt_cmpR op_eq (pe_op op_mod (pe_call (ok_law_cell_at T) (hr.mono (by decide)) rfl T.g_law_cell_at T.F_law_cell_at.kp T.b_law_cell_at .nil pass0 (pa_cons (pv 0) (pa_cons pe_int pa_nil))) pe_int) pe_int (nomark _)) (pss_one (ps_ret (pe_call (ok_law_known T) (hr.mono (by decide)) rfl T.g_law_known T.F_law_known.kp T.b_law_known .nil pass0 (pa_cons (pv 0) pa_nil)))) pss_nil)
      (pss_cons (ps_set (i := 1) sc_law.nd rfl (Or.inr rfl) (pe_call (ok_law_land_by T) (hr.mono (by decide)) rfl T.g_law_land_by T.F_law_land_by.kp T.b_law_land_by .nil pass0 (pa_cons (pv 0) (pa_cons pe_int pa_nil))))
      (pss_cons (ps_if (pt_cmpR op_eq (pe_op op_mod (pe_call (ok_law_cell_at T) (hr.mono (by decide)) rfl T.g_law_cell_at T.F_law_cell_at.kp T.b_law_cell_at .nil pass0 (pa_cons (pv 0) (pa_cons pe_int pa_nil))) pe_int) pe_int (nomark _)) (pss_cons (ps_set (i := 2) sc_law.nd rfl (Or.inl rfl) (pe_op op_add pe_int (pe_op op_mul pe_int (pe_callTy call_int1 rfl T.n_int (by decide +kernel) (pa_cons (pe_cmpR op_ne (pe_op op_mod (pe_op op_fdiv (pe_call (ok_law_cell_at T) (hr.mono (by decide)) rfl T.g_law_cell_at T.F_law_cell_at.kp T.b_law_cell_at .nil pass0 (pa_cons (pv 0) (pa_cons pe_int pa_nil))) pe_int) pe_int) pe_int (nomark _)) pa_nil)))))
        (pss_one (ps_set (i := 1) sc_law.nd rfl (Or.inr rfl) (pe_call (ok_law_longer T) (hr.mono (by decide)) rfl T.g_law_longer T.F_law_longer.kp T.b_law_longer .nil pass0 (pa_cons (pv 0) (pa_cons (pv 1) (pa_cons pe_int (pa_cons (pv 2) pa_nil)))))))) pss_nil)
      (pss_cons (ps_set (i := 3) sc_law.nd rfl (Or.inl rfl) (pe_callTy (call_listK (K := K) rfl) rfl T.n_list (by decide +kernel) (pa_cons (pv 1) pa_nil)))
      (pss_cons (ps_set (i := 4) sc_law.nd rfl (Or.inl rfl) (pe_callB (call_lenK (K := K) rfl) rfl T.n_len (by decide +kernel) (pa_cons (pv 1) pa_nil)))
      (pss_cons (ps_set (i := 5) sc_law.nd rfl (Or.inl rfl) (pe_op op_mod (pe_op op_fdiv (pe_call (ok_law_cell_at T) (hr.mono (by decide)) rfl T.g_law_cell_at T.F_law_cell_at.kp T.b_law_cell_at .nil pass0 (pa_cons (pv 0) (pa_cons pe_int pa_nil))) pe_int) (pv 4)))
      (pss_cons (ps_set (i := 6) sc_law.nd rfl (Or.inl rfl) (pe_op op_mod (pe_op op_fdiv (pe_call (ok_law_cell_at T) (hr.mono (by decide)) rfl T.g_law_cell_at T.F_law_cell_at.kp T.b_law_cell_at .nil pass0 (pa_cons (pv 0) (pa_cons pe_int pa_nil))) pe_int) (pv 4)))
      (pss_cons (ps_if (pt_cmpR op_eq (pe_op op_mod (pe_call (ok_law_cell_at T) (hr.mono (by decide)) rfl T.g_law_cell_at T.F_law_cell_at.kp T.b_law_cell_at .nil pass0 (pa_cons (pv 0) (pa_cons pe_int pa_nil))) pe_int) pe_int (nomark _)) (pss_cons (ps_set (i := 7) sc_law.nd rfl (Or.inl rfl) (pe_lst (pa_cons (pe_un un_neg pe_int) (pa_cons (pv 4) (pa_cons (pe_op op_pow pe_int pe_int) (pa_cons pe_bl (pa_cons pe_str (pa_cons pe_non (pa_cons (pe_un un_neg (pv 4)) (pa_cons pe_bl (pa_cons (pe_tup (pa_cons pe_int pa_nil)) (pa_cons (pe_lst (pa_cons pe_int pa_nil)) pa_nil))))))))))))
        (pss_cons (ps_set (i := 8) sc_law.nd rfl (Or.inl rfl) (pe_ix (ix_listK (K := K) rfl) (pv 7) (pe_op op_mod (pe_op op_fdiv (pe_call (ok_law_cell_at T) (hr.mono (by decide)) rfl T.g_law_cell_at T.F_law_cell_at.kp T.b_law_cell_at .nil pass0 (pa_cons (pv 0) (pa_cons pe_int pa_nil))) pe_int) pe_int) (fun _ _ => rfl)))
        (pss_one (ps_ret (pe_and (pe_call (ok_law_refused T) (hr.mono (by decide)) rfl T.g_law_refused T.F_law_refused.kp T.b_law_refused .nil pass0 (pa_cons (pv 3) (pa_cons (pv 5) (pa_cons (pv 8) pa_nil)))) (pe_and (pe_call (ok_law_refused T) (hr.mono (by decide)) rfl T.g_law_refused T.F_law_refused.kp T.b_law_refused .nil pass0 (pa_cons (pv 3) (pa_cons (pv 8) (pa_cons (pv 5) pa_nil)))) (pe_one (pe_cmpR (op_eqDK (K := K) rfl hr.units) (pv 3) (pv 1) (nomark _))))))))) pss_nil)
      (pss_cons (ps_setLc (i := 9) (own := [("_law_here", 10)]) (g := gName 10) rfl sc_law.nd rfl rfl (sw_true rfl rfl rfl (by decide +kernel)) (pi_range1 rfl T.n_range (pa_cons (pv 4) pa_nil)) (blkOk_by (own := [("_law_here", 10)]) (N := ["_law_script", "_law_land", "_law_many", "_law_handed", "_law_size", "_law_a", "_law_b", "_law_some", "_law_strange", "_law_rows", "_law_here", "_law_left", "_law_due", "_law_k", "_law_found", "_law_place"]) (sc := defScope s_law) (by decide +kernel)) (fun _ _ _ _ _ => (pg_name (i := 10) sc_law.nd rfl (Or.inl rfl))) (fun _ _ _ _ _ => pts_nil) (fun _ _ _ _ _ => (pe_call (ok_law_near T) (hr.mono (by decide)) rfl T.g_law_near T.F_law_near.kp T.b_law_near .nil pass0 (pa_cons (pv 1) (pa_cons (pv 10) pa_nil)))))
      (pss_cons (ps_set (i := 11) sc_law.nd rfl (Or.inr rfl) (pe_call (ok_law_left_by T) (hr.mono (by decide)) rfl T.g_law_left_by T.F_law_left_by.kp T.b_law_left_by .nil pass0 (pa_cons (pv 9) (pa_cons (pv 6) pa_nil))))
      (pss_cons (ps_set (i := 12) sc_law.nd rfl (Or.inl rfl) (pe_lst (pa_cons (pv 5) pa_nil)))
      (pss_cons (ps_while PassesOwn.never (pt_cmpR op_ne (pe_ix (ix_listK (K := K) rfl) (pv 12) (pe_un un_neg pe_int) (fun _ _ => rfl)) (pv 6) (nomark _)) (pss_cons (ps_set (i := 10) sc_law.nd rfl (Or.inr rfl) (pe_ix (ix_listK (K := K) rfl) (pv 12) (pe_un un_neg pe_int) (fun _ _ => rfl)))
        (pss_one (ps_expr (pe_bmK (K := K) rfl PySem.F.plainAttrs_list PySem.F.slot_list_append PySem.F.type_list_append mt_append (pv 12) (pa_cons (pe_callB (cr_minK (K := K) rfl rfl) rfl T.n_min (by decide +kernel) (pa_cons (pe_lc (own := [("_law_k", 13)]) (g := gName 13) rfl sc_law.nd (pi_listK (K := K) rfl (pe_ix (ix_listK (K := K) rfl) (pv 9) (pv 10) (fun _ _ => rfl))) (blkOk_by (own := [("_law_k", 13)]) (N := ["_law_script", "_law_land", "_law_many", "_law_handed", "_law_size", "_law_a", "_law_b", "_law_some", "_law_strange", "_law_rows", "_law_here", "_law_left", "_law_due", "_law_k", "_law_found", "_law_place"]) (sc := defScope s_law) (by decide +kernel)) (fun _ _ _ _ _ => (pg_name (i := 13) sc_law.nd rfl (Or.inl rfl))) (fun _ _ _ _ _ => pts_one (pt_cmpR op_eq (pe_ix (ix_listK (K := K) rfl) (pv 11) (pv 13) (fun _ _ => rfl)) (pe_op op_sub (pe_ix (ix_listK (K := K) rfl) (pv 11) (pv 10) (fun _ _ => rfl)) pe_int) (nomark _))) (fun _ _ _ _ _ => (pv 13))) pa_nil)) pa_nil))))))
      (pss_cons (ps_set (i := 14) sc_law.nd rfl (Or.inl rfl) (pe_call (ok_way T) (hr.mono (by decide)) rfl T.g_way T.F_way.kp T.b_way .nil passL (pa_cons (pv 3) (pa_cons (pv 5) (pa_cons (pv 6) pa_nil)))))
      (pss_cons (ps_if (PW.pt (pw_or (pt_not (pt_val (pe_callB (call_isiK0 (K := K) rfl) rfl T.n_isinstance (by decide +kernel) (pa_cons (pv 14) (pa_cons (pe_bltn (v := .ty "list") (by rfl) T.n_list (by decide +kernel) rfl) pa_nil))))) (pw_or1 (pt_cmpR (op_neDK (K := K) rfl hr.units) (pv 3) (pv 1) (nomark _))))) (pss_one (ps_ret pe_bl)) pss_nil)
      (pss_cons (ps_if (pt_not (pt_val (pe_callB (cr_allK (K := K) rfl rfl) rfl T.n_all (by decide +kernel) (pa_cons (pe_lc (own := [("_law_place", 15)]) (g := gName 15) rfl sc_law.nd (pi_listK (K := K) rfl (pv 14)) (blkOk_by (own := [("_law_place", 15)]) (N := ["_law_script", "_law_land", "_law_many", "_law_handed", "_law_size", "_law_a", "_law_b", "_law_some", "_law_strange", "_law_rows", "_law_here", "_law_left", "_law_due", "_law_k", "_law_found", "_law_place"]) (sc := defScope s_law) (by decide +kernel)) (fun _ _ _ _ _ => (pg_name (i := 15) sc_law.nd rfl (Or.inl rfl))) (fun _ _ _ _ _ => pts_nil) (fun _ _ _ _ _ => (pe_call (ok_law_whole T) (hr.mono (by decide)) rfl T.g_law_whole T.F_law_whole.kp T.b_law_whole .nil pass0 (pa_cons (pv 15) pa_nil)))) pa_nil)))) (pss_one (ps_ret pe_bl)) pss_nil)
      (pss_cons (ps_if (pt_cmpR (op_neDK (K := K) rfl hr.units) (pv 14) (pv 12) (nomark _)) (pss_one (ps_ret pe_bl)) pss_nil)
      (pss_cons (ps_expr (pe_bmK (K := K) rfl PySem.F.plainAttrs_list PySem.F.slot_list_append PySem.F.type_list_append mt_append (pv 14) (pa_cons (pe_un un_neg pe_int) pa_nil)))
      (pss_one (ps_ret (pe_and (pe_cmpR (op_eqDK (K := K) rfl hr.units) (pe_call (ok_way T) (hr.mono (by decide)) rfl T.g_way T.F_way.kp T.b_way .nil passL (pa_cons (pv 3) (pa_cons (pv 5) (pa_cons (pv 6) pa_nil)))) (pv 12) (nomark _)) (pe_one (pe_cmpR (op_eqDK (K := K) rfl hr.units) (pv 14) (pe_op op_cat (pv 12) (pe_lst (pa_cons (pe_un un_neg pe_int) pa_nil))) (nomark _))))))))))))))))))))))), ?_⟩)
  · obtain ⟨a, ns, rfl, _⟩ := h
    rfl
  · obtain ⟨s0, ns, rfl, hS, hlen, k⟩ := h
    walk_at "rd"
    refine ite2 (fun c => ?_) (fun c => ?_)
    · walk_at "rd"
      exact ⟨s0, ns, rfl, hS, fun H' => k H'⟩
    walk_at "rd"
    refine ⟨s0, ns, 12, rfl, hS, by omega, fun D1 hs n1 b1 b2 => ?_⟩
    have s1 := same_upd (o := .lst (IL hs)) n1
    have hD1 : (upd H D1 (.lst (IL hs))) D1 = some (.lst (IL hs)) := upd_same
    generalize upd H D1 (.lst (IL hs)) = H1 at *
    have hS1 := s1.seq hS
    walk_at "rq"
    with_reducible refine rd_cut (fun σ' H' => ∃ (L : Addr) (zs : List Int) (v2 : Option V), σ' = [some (.ref s0), some (.ref L), v2, none, none, none, none, none, none, none, none, none, none, none, none, none] ∧ Same H H' ∧ H' L = some (.lst (IL zs)) ∧ 0 < zs.length ∧ zs.length ≤ 70) (fun N hN => ?_) ?_
    · walk_at "rd"
      refine ite2 (fun c => ?_) (fun c => ?_)
      · walk_at "rd"
        refine .inr ⟨_, rfl, ?_⟩
        have hm : ∀ b : Bool, 16 ≤ (16 : Int) + 30 * (if b = true then 1 else 0) ∧ (16 : Int) + 30 * (if b = true then 1 else 0) ≤ 46 := by
          intro b
          cases b <;> decide
        have hm' := hm (!decide (V.int (cell ns (Int.toNat 0) / 12 % 5) = V.int 3))
        walk_at "rd"
        refine ⟨s0, D1, ns, hs, 12, _, rfl, hS1, .of hD1, by omega, ⟨by omega, by omega⟩, b2, fun D3 zs n3 c1 c2 => ?_⟩
        walk_at "rd"
        exact hN _ _ ⟨D3, zs, _, rfl, s1.trans (same_upd n3), upd_same, by omega, by omega⟩
      · walk_at "rd"
        exact hN _ _ ⟨D1, hs, none, rfl, s1, hD1, by omega, by omega⟩
    clear hS1 hD1 s1 n1 b1 b2
    rintro σ1 H1 ⟨L, zs, v2, rfl, s1, hL, hz0, hz⟩
    walk_at "rd"
    intro M nM
    have hM : (upd H1 M (.lst (IL zs))) M = some (.lst (IL zs)) := upd_same
    have hL2 := upd_keep (u := .lst (IL zs)) hL nM
    have s2 := s1.trans (same_upd (o := .lst (IL zs)) nM)
    generalize upd H1 M (.lst (IL zs)) = H2 at *
    have hS2 := s2.seq hS
    have hzl : (IL zs).length = zs.length := List.length_map _
    walk_at "rd"
    rw [hzl]
    obtain ⟨a, ea, ha⟩ : ∃ i : Nat, cell ns (Int.toNat 1) / 9 % (zs.length : Int) = (i : Int) ∧ i < zs.length := by
      have := emod_b (x := cell ns (Int.toNat 1) / 9) (n := (zs.length : Int)) (by omega)
      exact ⟨(cell ns (Int.toNat 1) / 9 % (zs.length : Int)).toNat, by omega, by omega⟩
    obtain ⟨b, eb, hb⟩ : ∃ i : Nat, cell ns (Int.toNat 2) / 7 % (zs.length : Int) = (i : Int) ∧ i < zs.length := by
      have := emod_b (x := cell ns (Int.toNat 2) / 7) (n := (zs.length : Int)) (by omega)
      exact ⟨(cell ns (Int.toNat 2) / 7 % (zs.length : Int)).toNat, by omega, by omega⟩
    walk_at "rd"
    rw [ea, eb]
    refine ite2 (fun c => ?_) (fun c => ?_)
    · -- a place where no hill stands
      walk_at "rd"
      refine ⟨sz 1, fun t nt => ?_⟩
      have s3 := same_upd (o := .tup [.int 0]) nt
      have ht : (upd H2 t (.tup [.int 0])) t = some (.tup [.int 0]) := upd_same
      generalize upd H2 t (.tup [.int 0]) = H3 at *
      walk_at "rd"
      refine ⟨sz 1, fun u nu => ?_⟩
      have s3' := same_upd (o := .lst [.int 1]) nu
      have hu : (upd H3 u (.lst [.int 1])) u = some (.lst [.int 1]) := upd_same
      have ht' := s3' _ _ ht
      have s33 := s3.trans s3'
      generalize upd H3 u (.lst [.int 1]) = H4 at *
      walk_at "rd"
      refine ⟨sz 10, fun S nS => ?_⟩
      obtain ⟨xs, hxs⟩ : ∃ xs : List V, xs = [V.int (-1), .int (zs.length : Int), .int (10 ^ (9 : Int).toNat), .bl true, .str "0", .non, .int (-(zs.length : Int)), .bl false, .ref t, .ref u] := ⟨_, rfl⟩
      have hodd : ∀ x, x ∈ xs → ∀ H', Same H4 H' → Odd K H' zs.length x := by
        intro x hx H' sH
        rw [hxs] at hx
        simp only [List.mem_cons, List.mem_nil_iff, or_false] at hx
        rcases hx with rfl | rfl | rfl | rfl | rfl | rfl | rfl | rfl | rfl | rfl
        · exact odd_int (.inl (by decide))
        · exact odd_int (.inr (by omega))
        · exact odd_int (.inr (by rw [ten9]; omega))
        · exact odd_bl
        · exact odd_str
        · exact odd_non
        · exact odd_int (.inl (by omega))
        · exact odd_bl
        · exact odd_tup (sH _ _ ht')
        · exact odd_lst (sH _ _ hu)
      have hSS : (upd H4 S (.lst xs)) S = some (.lst xs) := upd_same
      have s4 := same_upd (o := .lst xs) nS
      have s24 := s33.trans s4
      rw [hxs] at hSS s4 s24
      generalize upd H4 S _ = H5 at *
      have hS5 := s24.seq hS2
      walk_at "rd"
      obtain ⟨x, hx, ex⟩ := atI_mem (xs := xs) (i := cell ns (Int.toNat 2) / 7 % 10) (by omega) (by rw [hxs]; show _ < (10 : Int); omega)
      rw [hxs] at ex
      refine rd_ixL (.of hSS) ex ?_
      have ho := hodd x hx H5 s4
      walk_at "rd"
      refine ⟨M, zs, _, x, rfl, .of (s24 _ _ hM), by omega, wh_int, ho.1, .inr ho.2, ?_⟩
      walk_at "rd"
      refine ⟨M, zs, x, _, rfl, .of (s24 _ _ hM), by omega, ho.1, wh_int, .inl ho.2, ?_⟩
      walk_at "rd"
      refine rd_eqI (.of (s24 _ _ hM)) (.of (s24 _ _ hL2)) ?_
      rw [decide_eq_true rfl]
      exact k _
    · walk_at "rd"
      refine ⟨(zs.length : Int), rfl, by omega, by omega, fun R nR => lc_freshR (n := zs.length) (fun i xs => xs = IL (NI (rowM zs i))) nR (by omega) (fun _ => rfl) (fun i H' R' hi s3 q' => ?_) (fun H3 adr rs0 s3 hR0 hP hN => ?_)⟩
      · walk_at "rd"
        exact ⟨L, zs, i, rfl, .of (s3 _ _ hL2), hi, by omega, fun D nD => q' D _ _ rfl (same_upd nD) nD upd_same⟩
      have hR := hR0.congr hP
      have hM3 := s3 _ _ hM
      have hL3 := s3 _ _ hL2
      walk_at "rd"
      refine ⟨R, zs, b, adr, far zs b, rfl, hR, by omega, hb, far_dist hb, fun D H4 s4 nD hD => ?_⟩
      have hd := far_dist hb
      have hR4 := hR.mono s4
      have hM4 := s4 _ _ hM3
      have hL4 := s4 _ _ hL3
      walk_at "rd"
      refine ⟨sz 1, fun F nF => ?_⟩
      have s5 := same_upd (o := .lst [.int (a : Int)]) nF
      have hF5 : (upd H4 F (.lst [.int (a : Int)])) F = some (.lst [.int (a : Int)]) := upd_same
      walk_at "rq"
      have hDv : ∀ x : Nat, x < zs.length → (IL ((List.range zs.length).map fun x => (far zs b x : Int)))[x]? = some (.int (far zs b x : Int)) := by
        intro x hx
        rw [IL, List.getElem?_map, List.getElem?_map, List.getElem?_range hx]
        rfl
      with_reducible refine rd_cut (fun σ' H' => ∃ v10 : Option V, σ' = [some (.ref s0), some (.ref L), v2, some (.ref M), some (.int (zs.length : Int)), some (.int (a : Int)), some (.int (b : Int)), none, none, some (.ref R), v10, some (.ref D), some (.ref F), none, none, none] ∧ Same H4 H' ∧ H' F = some (.lst (IL (NI (wayM zs a b))))) (fun N hN => ?_) ?_
      · refine ⟨fun m σ H' => ∃ (here : Nat) (fs : List Nat) (v10 : Option V), σ = [some (.ref s0), some (.ref L), v2, some (.ref M), some (.int (zs.length : Int)), some (.int (a : Int)), some (.int (b : Int)), none, none, some (.ref R), v10, some (.ref D), some (.ref F), none, none, none] ∧ Same H4 H' ∧ H' F = some (.lst (IL (NI fs))) ∧ Gone zs a b fs here ∧ m = far zs b here,
          ⟨far zs b a, a, [a], none, rfl, s5, hF5, .start ha, rfl⟩, ?_⟩
        rintro m σ H6 ⟨here, fs, v10, rfl, s6, hF6, hg, rfl⟩
        have hh := hg.1
        have hfl := hg.len ha hb
        obtain ⟨hf0, hfe⟩ := hg.last
        have hlast : atI (IL (NI fs)) (-1) = some (.int (here : Int)) := by
          refine atI_end (by rw [IL, NI, List.length_map, List.length_map]; exact hf0) ?_
          rw [IL, NI, List.length_map, List.length_map, List.getElem?_map, List.getElem?_map, hfe]
          rfl
        have hD6 := s6 _ _ hD
        have hR6 := hR4.mono s6
        walk_at "rd"
        refine rd_ixL (.of hF6) hlast ?_
        walk_at "rd"
        by_cases c : here = b
        · refine rd_no (by simp [c]) ?_
          rw [c] at hg
          rw [hg.done hb] at hF6
          exact hN _ _ ⟨v10, rfl, s6, hF6⟩
        · refine rd_yes (by simp; omega) ?_
          refine ⟨_, fun _ _ n => n, ?_⟩
          walk_at "rd"
          refine rd_ixL (.of hF6) hlast ?_
          walk_at "rd"
          refine ⟨ty_list (.of hF6), ?_⟩
          walk_at "rd"
          refine rd_ixL (.of hR6.lst) (atI_nat (hR6.at hh)) ?_
          have hrl : (NI (rowM zs here)).length ≤ zs.length := by
            rw [NI, List.length_map]
            exact row_len zs here
          have hrow : ∀ z, z ∈ NI (rowM zs here) → ∃ y : Nat, z = (y : Int) ∧ adj zs here y := by
            intro z hz
            obtain ⟨y, hy, rfl⟩ := List.mem_map.mp hz
            exact ⟨y, rfl, (mem_row hh).mp hy⟩
          refine ⟨adr here, rfl, ⟨_, .of (hR6.row here hh)⟩, fun C nC => lc_listFI (fun z => decide (V.int (far zs b z.toNat : Int) = V.int ((far zs b here : Int) - 1))) (.of (hR6.row here hh)) nC (by omega) (fun _ => rfl) (fun z H' R' hz s7 q' => ?_) (fun z H' R' hz _ s7 q' => ?_) (fun H7 s7 hC => ?_)⟩
          · obtain ⟨y, rfl, hy⟩ := hrow z hz
            walk_at "rd"
            refine rd_ixL (.of (s7 _ _ hD6)) (atI_nat (hDv y hy.2.1)) ?_
            walk_at "rd"
            refine rd_ixL (.of (s7 _ _ hD6)) (atI_nat (hDv here hh)) ?_
            walk_at "rd"
            exact q' _ (Same.refl _)
          · walk_at "rd"
            exact q' _ (Same.refl _)
          have s8 := s6.trans s7
          have hF7 := s7 _ _ hF6
          walk_at "rd"
          have hnx := next_ex hb hh c
          have hmem : ∀ y : Nat, (y : Int) ∈ (NI (rowM zs here)).filter (fun z => decide (V.int (far zs b z.toNat : Int) = V.int ((far zs b here : Int) - 1))) ↔ adj zs here y ∧ far zs b y + 1 = far zs b here := by
            intro y
            rw [List.mem_filter]
            constructor
            · rintro ⟨h1, h2⟩
              obtain ⟨y', e, hy⟩ := hrow _ h1
              have e' : y' = y := by omega
              subst e'
              have h3 := V.int.inj (of_decide_eq_true h2)
              rw [Int.toNat_natCast] at h3
              exact ⟨hy, by omega⟩
            · rintro ⟨h1, h2⟩
              refine ⟨List.mem_map.mpr ⟨y, (mem_row hh).mpr h1, rfl⟩, decide_eq_true ?_⟩
              rw [Int.toNat_natCast]
              congr 1
              omega
          have hin := (hmem _).mpr ⟨hnx.1, hnx.2.1⟩
          refine ⟨C, _, rfl, .of hC, List.length_pos_of_mem hin, fun m hm hmin => ?_⟩
          obtain ⟨y, rfl, _⟩ := hrow m (List.mem_filter.mp hm).1
          have hmy := (hmem y).mp hm
          have ey : nextF zs b here = y := next_is ⟨hmy.1, hmy.2, fun z h1 h2 => by
            have := hmin z ((hmem z).mpr ⟨h1, h2⟩)
            omega⟩
          have hg' := hg.go hb c
          rw [ey] at hg'
          walk_at "rd"
          refine rd_append hF7 (by rw [IL, NI, List.length_map, List.length_map]; omega) ?_
          refine ⟨far zs b y, by omega, y, fs ++ [y], _, rfl, Same.mut s8 nF, ?_, hg', rfl⟩
          rw [upd_same]
          simp [IL, NI]
      clear hF5 s5 hR4 hD
      rintro σ6 H6 ⟨v10, rfl, s6, hF6⟩
      have hM6 := s6 _ _ hM4
      have hL6 := s6 _ _ hL4
      walk_at "rd"
      have hwl := wayM_len ha hb
      obtain ⟨ws, hws⟩ : ∃ ws : List Int, ws = NI (wayM zs a b) := ⟨_, rfl⟩
      have hwsl : (IL ws).length ≤ zs.length := by rw [hws, IL, NI, List.length_map, List.length_map]; exact hwl
      have hwsl2 : ws.length ≤ zs.length := by rw [hws, NI, List.length_map]; exact hwl
      rw [← hws] at hF6
      refine rd_way (.of hM6) (by omega) ha hb (fun G H7 s7 nG hG => ?_)
      rw [← hws] at hG
      have nMG : M ≠ G := fun z => by rw [z, nG] at hM6; cases hM6
      have nFG : F ≠ G := fun z => by rw [z, nG] at hF6; cases hF6
      have hM7 := s7 _ _ hM6
      have hL7 := s7 _ _ hL6
      have hF7 := s7 _ _ hF6
      walk_at "rd"
      refine rd_isi (b := true) (ty_lst hG) (by decide +kernel) ?_
      walk_at "rd"
      refine rd_neI (.of hM7) (.of hL7) ?_
      walk_at "rd"
      refine rd_no (by simp) ?_
      walk_at "rd"
      refine ⟨G, rfl, ⟨_, .of hG⟩, fun Dc nc => lc_listM (fun _ => .bl true) (.of hG) nc (by omega) (fun _ => rfl) (fun x H' R hx s10 q => ?_) (fun H8 s8 hDc => ?_)⟩
      · obtain ⟨z, _, rfl⟩ := List.mem_map.mp hx
        walk_at "rd"
        refine ⟨_, true, rfl, whole_int, ?_⟩
        exact q _ (Same.refl _)
      have hG8 := s8 _ _ hG
      have hF8 := s8 _ _ hF7
      have hM8 := s8 _ _ hM7
      walk_at "rd"
      refine rd_allP (fun _ => true) (fun _ _ => rfl) hDc ?_
      walk_at "rd"
      refine rd_no (by simp) ?_
      walk_at "rd"
      refine rd_neI (.of hG8) (.of hF8) ?_
      walk_at "rd"
      refine rd_no (by simp) ?_
      walk_at "rd"
      refine ⟨ty_list (.of hG8), ?_⟩
      walk_at "rd"
      refine rd_append hG8 (by omega) ?_
      have e0 : IL ws ++ [V.int (-1)] = IL (ws ++ [-1]) := by simp [IL]
      rw [e0]
      have hG9 : (upd H8 G (.lst (IL (ws ++ [-1])))) G = some (.lst (IL (ws ++ [-1]))) := upd_same
      have hM9 : (upd H8 G (.lst (IL (ws ++ [-1])))) M = some (.lst (IL zs)) := by rw [upd_ne nMG]; exact hM8
      have hF9 : (upd H8 G (.lst (IL (ws ++ [-1])))) F = some (.lst (IL ws)) := by rw [upd_ne nFG]; exact hF8
      generalize upd H8 G (.lst (IL (ws ++ [-1]))) = H9 at *
      walk_at "rd"
      refine rd_way (.of hM9) (by omega) ha hb (fun G2 H10 s10 nG2 hG2 => ?_)
      rw [← hws] at hG2
      walk_at "rd"
      refine rd_eqI (.of hG2) (.of (s10 _ _ hF9)) ?_
      walk_at "rd"
      refine rd_yes (by simp) ?_
      walk_at "rd"
      refine ⟨sz 1, fun B nB => ?_⟩
      have s11 := s10.trans (same_upd (o := .lst [.int (-1)]) nB)
      refine ⟨F, B, _, [.int (-1)], rfl, rfl, s11 _ _ hF9, upd_same, by
        exact sz _ (by simp; omega), fun C nC => ?_⟩
      have s12 := s11.trans (same_upd (o := .lst (IL ws ++ [.int (-1)])) nC)
      refine rd_eqI (.of (s12 _ _ hG9)) (.of (by rw [upd_same, e0])) ?_
      rw [decide_eq_true rfl]
      exact k _


end
theorem all_mk {l : PySem.W.OpenLaw} {w : World} {K : PySem.W.Frag} {h : Heap} {mg : Str → Option Value} {fa : Addr} (X : K.In h) (G : h.Ns mainGlobals mg) (hfa : mg "law" = some (.ref fa))
    {f_is_whole : Addr} {od_is_whole an_is_whole : Option Addr} {sl_is_whole : Array (Option Value)} {oc_is_whole kV_is_whole dc_is_whole pm_is_whole cd_is_whole ct_is_whole : Value} {f_need_hill : Addr} {od_need_hill an_need_hill : Option Addr} {sl_need_hill : Array (Option Value)} {oc_need_hill kV_need_hill dc_need_hill pm_need_hill cd_need_hill ct_need_hill : Value} {f_slope : Addr} {od_slope an_slope : Option Addr} {sl_slope : Array (Option Value)} {oc_slope kV_slope dc_slope pm_slope cd_slope ct_slope : Value} {f_steeper : Addr} {od_steeper an_steeper : Option Addr} {sl_steeper : Array (Option Value)} {oc_steeper kV_steeper dc_steeper pm_steeper cd_steeper ct_steeper : Value} {f_behind : Addr} {od_behind an_behind : Option Addr} {sl_behind : Array (Option Value)} {oc_behind kV_behind dc_behind pm_behind cd_behind ct_behind : Value} {f_sights : Addr} {od_sights an_sights : Option Addr} {sl_sights : Array (Option Value)} {oc_sights kV_sights dc_sights pm_sights cd_sights ct_sights : Value} {f_beside : Addr} {od_beside an_beside : Option Addr} {sl_beside : Array (Option Value)} {oc_beside kV_beside dc_beside pm_beside cd_beside ct_beside : Value} {f_steps : Addr} {od_steps an_steps : Option Addr} {sl_steps : Array (Option Value)} {oc_steps kV_steps dc_steps pm_steps cd_steps ct_steps : Value} {f_way : Addr} {od_way an_way : Option Addr} {sl_way : Array (Option Value)} {oc_way kV_way dc_way pm_way cd_way ct_way : Value} {f_law_whole : Addr} {od_law_whole an_law_whole : Option Addr} {sl_law_whole : Array (Option Value)} {oc_law_whole kV_law_whole dc_law_whole pm_law_whole cd_law_whole ct_law_whole : Value} {f_law_cell_at : Addr} {od_law_cell_at an_law_cell_at : Option Addr} {sl_law_cell_at : Array (Option Value)} {oc_law_cell_at kV_law_cell_at dc_law_cell_at pm_law_cell_at cd_law_cell_at ct_law_cell_at : Value} {f_law_height_by : Addr} {od_law_height_by an_law_height_by : Option Addr} {sl_law_height_by : Array (Option Value)} {oc_law_height_by kV_law_height_by dc_law_height_by pm_law_height_by cd_law_height_by ct_law_height_by : Value} {f_law_longer : Addr} {od_law_longer an_law_longer : Option Addr} {sl_law_longer : Array (Option Value)} {oc_law_longer kV_law_longer dc_law_longer pm_law_longer cd_law_longer ct_law_longer : Value} {f_law_land_by : Addr} {od_law_land_by an_law_land_by : Option Addr} {sl_law_land_by : Array (Option Value)} {oc_law_land_by kV_law_land_by dc_law_land_by pm_law_land_by cd_law_land_by ct_law_land_by : Value} {f_law_seen_by : Addr} {od_law_seen_by an_law_seen_by : Option Addr} {sl_law_seen_by : Array (Option Value)} {oc_law_seen_by kV_law_seen_by dc_law_seen_by pm_law_seen_by cd_law_seen_by ct_law_seen_by : Value} {f_law_near : Addr} {od_law_near an_law_near : Option Addr} {sl_law_near : Array (Option Value)} {oc_law_near kV_law_near dc_law_near pm_law_near cd_law_near ct_law_near : Value} {f_law_left_by : Addr} {od_law_left_by an_law_left_by : Option Addr} {sl_law_left_by : Array (Option Value)} {oc_law_left_by kV_law_left_by dc_law_left_by pm_law_left_by cd_law_left_by ct_law_left_by : Value} {f_law_refused : Addr} {od_law_refused an_law_refused : Option Addr} {sl_law_refused : Array (Option Value)} {oc_law_refused kV_law_refused dc_law_refused pm_law_refused cd_law_refused ct_law_refused : Value} {f_law_known : Addr} {od_law_known an_law_known : Option Addr} {sl_law_known : Array (Option Value)} {oc_law_known kV_law_known dc_law_known pm_law_known cd_law_known ct_law_known : Value} {f_law : Addr} {od_law an_law : Option Addr} {sl_law : Array (Option Value)} {oc_law kV_law dc_law pm_law cd_law ct_law : Value} {c_HillError : Addr} {c_NoHill : Addr}
    (a_is_whole : PySem.W.nsIn K mainGlobals "is_whole" = some (some (.ref f_is_whole)))
    (l_is_whole : K.lookup f_is_whole = some ⟨oc_is_whole, od_is_whole, .func (PySem.W.fnOf "is_whole" "is_whole" (defArgs s_is_whole) (defBody s_is_whole) (defScope s_is_whole) .none kV_is_whole dc_is_whole pm_is_whole an_is_whole cd_is_whole ct_is_whole), sl_is_whole⟩)
    (q_is_whole : PySem.W.codeIn K cd_is_whole "is_whole" = true)
    (k_is_whole : PySem.W.keepIn K (.ref f_is_whole) = true)
    (a_need_hill : PySem.W.nsIn K mainGlobals "need_hill" = some (some (.ref f_need_hill)))
    (l_need_hill : K.lookup f_need_hill = some ⟨oc_need_hill, od_need_hill, .func (PySem.W.fnOf "need_hill" "need_hill" (defArgs s_need_hill) (defBody s_need_hill) (defScope s_need_hill) .none kV_need_hill dc_need_hill pm_need_hill an_need_hill cd_need_hill ct_need_hill), sl_need_hill⟩)
    (q_need_hill : PySem.W.codeIn K cd_need_hill "need_hill" = true)
    (k_need_hill : PySem.W.keepIn K (.ref f_need_hill) = true)
    (a_slope : PySem.W.nsIn K mainGlobals "slope" = some (some (.ref f_slope)))
    (l_slope : K.lookup f_slope = some ⟨oc_slope, od_slope, .func (PySem.W.fnOf "slope" "slope" (defArgs s_slope) (defBody s_slope) (defScope s_slope) .none kV_slope dc_slope pm_slope an_slope cd_slope ct_slope), sl_slope⟩)
    (q_slope : PySem.W.codeIn K cd_slope "slope" = true)
    (k_slope : PySem.W.keepIn K (.ref f_slope) = true)
    (a_steeper : PySem.W.nsIn K mainGlobals "steeper" = some (some (.ref f_steeper)))
    (l_steeper : K.lookup f_steeper = some ⟨oc_steeper, od_steeper, .func (PySem.W.fnOf "steeper" "steeper" (defArgs s_steeper) (defBody s_steeper) (defScope s_steeper) .none kV_steeper dc_steeper pm_steeper an_steeper cd_steeper ct_steeper), sl_steeper⟩)
    (q_steeper : PySem.W.codeIn K cd_steeper "steeper" = true)
    (k_steeper : PySem.W.keepIn K (.ref f_steeper) = true)
    (a_behind : PySem.W.nsIn K mainGlobals "behind" = some (some (.ref f_behind)))
    (l_behind : K.lookup f_behind = some ⟨oc_behind, od_behind, .func (PySem.W.fnOf "behind" "behind" (defArgs s_behind) (defBody s_behind) (defScope s_behind) .none kV_behind dc_behind pm_behind an_behind cd_behind ct_behind), sl_behind⟩)
    (q_behind : PySem.W.codeIn K cd_behind "behind" = true)
    (k_behind : PySem.W.keepIn K (.ref f_behind) = true)
    (a_sights : PySem.W.nsIn K mainGlobals "sights" = some (some (.ref f_sights)))
    (l_sights : K.lookup f_sights = some ⟨oc_sights, od_sights, .func (PySem.W.fnOf "sights" "sights" (defArgs s_sights) (defBody s_sights) (defScope s_sights) .none kV_sights dc_sights pm_sights an_sights cd_sights ct_sights), sl_sights⟩)
    (q_sights : PySem.W.codeIn K cd_sights "sights" = true)
    (k_sights : PySem.W.keepIn K (.ref f_sights) = true)
    (a_beside : PySem.W.nsIn K mainGlobals "beside" = some (some (.ref f_beside)))
    (l_beside : K.lookup f_beside = some ⟨oc_beside, od_beside, .func (PySem.W.fnOf "beside" "beside" (defArgs s_beside) (defBody s_beside) (defScope s_beside) .none kV_beside dc_beside pm_beside an_beside cd_beside ct_beside), sl_beside⟩)
    (q_beside : PySem.W.codeIn K cd_beside "beside" = true)
    (k_beside : PySem.W.keepIn K (.ref f_beside) = true)
    (a_steps : PySem.W.nsIn K mainGlobals "steps" = some (some (.ref f_steps)))
    (l_steps : K.lookup f_steps = some ⟨oc_steps, od_steps, .func (PySem.W.fnOf "steps" "steps" (defArgs s_steps) (defBody s_steps) (defScope s_steps) .none kV_steps dc_steps pm_steps an_steps cd_steps ct_steps), sl_steps⟩)
    (q_steps : PySem.W.codeIn K cd_steps "steps" = true)
    (k_steps : PySem.W.keepIn K (.ref f_steps) = true)
    (a_way : PySem.W.nsIn K mainGlobals "way" = some (some (.ref f_way)))
    (l_way : K.lookup f_way = some ⟨oc_way, od_way, .func (PySem.W.fnOf "way" "way" (defArgs s_way) (defBody s_way) (defScope s_way) .none kV_way dc_way pm_way an_way cd_way ct_way), sl_way⟩)
    (q_way : PySem.W.codeIn K cd_way "way" = true)
    (k_way : PySem.W.keepIn K (.ref f_way) = true)
    (a_law_whole : PySem.W.nsIn K mainGlobals "_law_whole" = some (some (.ref f_law_whole)))
    (l_law_whole : K.lookup f_law_whole = some ⟨oc_law_whole, od_law_whole, .func (PySem.W.fnOf "_law_whole" "_law_whole" (defArgs s_law_whole) (defBody s_law_whole) (defScope s_law_whole) .none kV_law_whole dc_law_whole pm_law_whole an_law_whole cd_law_whole ct_law_whole), sl_law_whole⟩)
    (q_law_whole : PySem.W.codeIn K cd_law_whole "_law_whole" = true)
    (k_law_whole : PySem.W.keepIn K (.ref f_law_whole) = true)
    (a_law_cell_at : PySem.W.nsIn K mainGlobals "_law_cell_at" = some (some (.ref f_law_cell_at)))
    (l_law_cell_at : K.lookup f_law_cell_at = some ⟨oc_law_cell_at, od_law_cell_at, .func (PySem.W.fnOf "_law_cell_at" "_law_cell_at" (defArgs s_law_cell_at) (defBody s_law_cell_at) (defScope s_law_cell_at) .none kV_law_cell_at dc_law_cell_at pm_law_cell_at an_law_cell_at cd_law_cell_at ct_law_cell_at), sl_law_cell_at⟩)
    (q_law_cell_at : PySem.W.codeIn K cd_law_cell_at "_law_cell_at" = true)
    (k_law_cell_at : PySem.W.keepIn K (.ref f_law_cell_at) = true)
    (a_law_height_by : PySem.W.nsIn K mainGlobals "_law_height_by" = some (some (.ref f_law_height_by)))
    (l_law_height_by : K.lookup f_law_height_by = some ⟨oc_law_height_by, od_law_height_by, .func (PySem.W.fnOf "_law_height_by" "_law_height_by" (defArgs s_law_height_by) (defBody s_law_height_by) (defScope s_law_height_by) .none kV_law_height_by dc_law_height_by pm_law_height_by an_law_height_by cd_law_height_by ct_law_height_by), sl_law_height_by⟩)
    (q_law_height_by : PySem.W.codeIn K cd_law_height_by "_law_height_by" = true)
    (k_law_height_by : PySem.W.keepIn K (.ref f_law_height_by) = true)
    (a_law_longer : PySem.W.nsIn K mainGlobals "_law_longer" = some (some (.ref f_law_longer)))
    (l_law_longer : K.lookup f_law_longer = some ⟨oc_law_longer, od_law_longer, .func (PySem.W.fnOf "_law_longer" "_law_longer" (defArgs s_law_longer) (defBody s_law_longer) (defScope s_law_longer) .none kV_law_longer dc_law_longer pm_law_longer an_law_longer cd_law_longer ct_law_longer), sl_law_longer⟩)
    (q_law_longer : PySem.W.codeIn K cd_law_longer "_law_longer" = true)
    (k_law_longer : PySem.W.keepIn K (.ref f_law_longer) = true)
    (a_law_land_by : PySem.W.nsIn K mainGlobals "_law_land_by" = some (some (.ref f_law_land_by)))
    (l_law_land_by : K.lookup f_law_land_by = some ⟨oc_law_land_by, od_law_land_by, .func (PySem.W.fnOf "_law_land_by" "_law_land_by" (defArgs s_law_land_by) (defBody s_law_land_by) (defScope s_law_land_by) .none kV_law_land_by dc_law_land_by pm_law_land_by an_law_land_by cd_law_land_by ct_law_land_by), sl_law_land_by⟩)
    (q_law_land_by : PySem.W.codeIn K cd_law_land_by "_law_land_by" = true)
    (k_law_land_by : PySem.W.keepIn K (.ref f_law_land_by) = true)
    (a_law_seen_by : PySem.W.nsIn K mainGlobals "_law_seen_by" = some (some (.ref f_law_seen_by)))
    (l_law_seen_by : K.lookup f_law_seen_by = some ⟨oc_law_seen_by, od_law_seen_by, .func (PySem.W.fnOf "_law_seen_by" "_law_seen_by" (defArgs s_law_seen_by) (defBody s_law_seen_by) (defScope s_law_seen_by) .none kV_law_seen_by dc_law_seen_by pm_law_seen_by an_law_seen_by cd_law_seen_by ct_law_seen_by), sl_law_seen_by⟩)
    (q_law_seen_by : PySem.W.codeIn K cd_law_seen_by "_law_seen_by" = true)
    (k_law_seen_by : PySem.W.keepIn K (.ref f_law_seen_by) = true)
    (a_law_near : PySem.W.nsIn K mainGlobals "_law_near" = some (some (.ref f_law_near)))
    (l_law_near : K.lookup f_law_near = some ⟨oc_law_near, od_law_near, .func (PySem.W.fnOf "_law_near" "_law_near" (defArgs s_law_near) (defBody s_law_near) (defScope s_law_near) .none kV_law_near dc_law_near pm_law_near an_law_near cd_law_near ct_law_near), sl_law_near⟩)
    (q_law_near : PySem.W.codeIn K cd_law_near "_law_near" = true)
    (k_law_near : PySem.W.keepIn K (.ref f_law_near) = true)
    (a_law_left_by : PySem.W.nsIn K mainGlobals "_law_left_by" = some (some (.ref f_law_left_by)))
    (l_law_left_by : K.lookup f_law_left_by = some ⟨oc_law_left_by, od_law_left_by, .func (PySem.W.fnOf "_law_left_by" "_law_left_by" (defArgs s_law_left_by) (defBody s_law_left_by) (defScope s_law_left_by) .none kV_law_left_by dc_law_left_by pm_law_left_by an_law_left_by cd_law_left_by ct_law_left_by), sl_law_left_by⟩)
    (q_law_left_by : PySem.W.codeIn K cd_law_left_by "_law_left_by" = true)
    (k_law_left_by : PySem.W.keepIn K (.ref f_law_left_by) = true)
    (a_law_refused : PySem.W.nsIn K mainGlobals "_law_refused" = some (some (.ref f_law_refused)))
    (l_law_refused : K.lookup f_law_refused = some ⟨oc_law_refused, od_law_refused, .func (PySem.W.fnOf "_law_refused" "_law_refused" (defArgs s_law_refused) (defBody s_law_refused) (defScope s_law_refused) .none kV_law_refused dc_law_refused pm_law_refused an_law_refused cd_law_refused ct_law_refused), sl_law_refused⟩)
    (q_law_refused : PySem.W.codeIn K cd_law_refused "_law_refused" = true)
    (k_law_refused : PySem.W.keepIn K (.ref f_law_refused) = true)
    (a_law_known : PySem.W.nsIn K mainGlobals "_law_known" = some (some (.ref f_law_known)))
    (l_law_known : K.lookup f_law_known = some ⟨oc_law_known, od_law_known, .func (PySem.W.fnOf "_law_known" "_law_known" (defArgs s_law_known) (defBody s_law_known) (defScope s_law_known) .none kV_law_known dc_law_known pm_law_known an_law_known cd_law_known ct_law_known), sl_law_known⟩)
    (q_law_known : PySem.W.codeIn K cd_law_known "_law_known" = true)
    (k_law_known : PySem.W.keepIn K (.ref f_law_known) = true)
    (a_law : PySem.W.nsIn K mainGlobals "law" = some (some (.ref f_law)))
    (l_law : K.lookup f_law = some ⟨oc_law, od_law, .func (PySem.W.fnOf "law" "law" (defArgs s_law) (defBody s_law) (defScope s_law) .none kV_law dc_law pm_law an_law cd_law ct_law), sl_law⟩)
    (q_law : PySem.W.codeIn K cd_law "law" = true)
    (k_law : PySem.W.keepIn K (.ref f_law) = true)
    (a_HillError : PySem.W.nsIn K mainGlobals "HillError" = some (some (.ref c_HillError)))
    (x_HillError : PySem.W.excIn K c_HillError [.type "ValueError", .type "Exception", .type "BaseException", .type "object"] "ValueError.__new__" = true)
    (k_HillError : PySem.W.keepIn K (.ref c_HillError) = true)
    (e_HillError : PySem.W.subIn K (.ref c_HillError) (.type "BaseException") = some true)
    (t_HillError : PySem.W.typeIn K (.ref c_HillError) = some (.type "type"))
    (i_HillError : PySem.W.isClsIn K c_HillError = true)
    (a_NoHill : PySem.W.nsIn K mainGlobals "NoHill" = some (some (.ref c_NoHill)))
    (x_NoHill : PySem.W.excIn K c_NoHill [.type "ValueError", .type "Exception", .type "BaseException", .type "object"] "ValueError.__new__" = true)
    (k_NoHill : PySem.W.keepIn K (.ref c_NoHill) = true)
    (e_NoHill : PySem.W.subIn K (.ref c_NoHill) (.type "BaseException") = some true)
    (t_NoHill : PySem.W.typeIn K (.ref c_NoHill) = some (.type "type"))
    (i_NoHill : PySem.W.isClsIn K c_NoHill = true)
    (s_NoHill_NoHill : PySem.W.subIn K (.ref c_NoHill) (.ref c_NoHill) = some true)
    (n_all : PySem.W.nsIn K mainGlobals "all" = some none)
    (n_any : PySem.W.nsIn K mainGlobals "any" = some none)
    (n_bool : PySem.W.nsIn K mainGlobals "bool" = some none)
    (n_int : PySem.W.nsIn K mainGlobals "int" = some none)
    (n_isinstance : PySem.W.nsIn K mainGlobals "isinstance" = some none)
    (n_len : PySem.W.nsIn K mainGlobals "len" = some none)
    (n_list : PySem.W.nsIn K mainGlobals "list" = some none)
    (n_max : PySem.W.nsIn K mainGlobals "max" = some none)
    (n_min : PySem.W.nsIn K mainGlobals "min" = some none)
    (n_range : PySem.W.nsIn K mainGlobals "range" = some none)
    (n_sorted : PySem.W.nsIn K mainGlobals "sorted" = some none)
    : ∃ fd : FuncData, (∀ (s : Shared) (v : Value), BindsTo s fd ⟨[v], []⟩ [("_law_script", v)]) ∧ ∀ base : Heap, K.In base → base.Ns mainGlobals mg → FnOk l.prog w K mg base CX0 7 fa fd ["_law_script"] (spLaw K) := by
  have e : fa = f_law := Value.ref.inj (Option.some.inj (hfa.symm.trans (PySem.W.mg_of X G a_law)))
  rw [e]
  have T : ∃ T : Txt K mg, T.a_law = f_law ∧ T.d_law = PySem.W.fnOf "law" "law" (defArgs s_law) (defBody s_law) (defScope s_law) .none kV_law dc_law pm_law an_law cd_law ct_law := ⟨{
    a_is_whole := f_is_whole, d_is_whole := PySem.W.fnOf "is_whole" "is_whole" (defArgs s_is_whole) (defBody s_is_whole) (defScope s_is_whole) .none kV_is_whole dc_is_whole pm_is_whole an_is_whole cd_is_whole ct_is_whole, F_is_whole := fun_mk (st := s_is_whole) l_is_whole q_is_whole k_is_whole,
    b_is_whole := (fun_mk (st := s_is_whole) l_is_whole q_is_whole k_is_whole).binds (ps := ["thing"]) fun _ _ _ _ _ _ us hl => match us, hl with | [_], _ => rfl,
    g_is_whole := PySem.W.mg_of X G a_is_whole,
    a_need_hill := f_need_hill, d_need_hill := PySem.W.fnOf "need_hill" "need_hill" (defArgs s_need_hill) (defBody s_need_hill) (defScope s_need_hill) .none kV_need_hill dc_need_hill pm_need_hill an_need_hill cd_need_hill ct_need_hill, F_need_hill := fun_mk (st := s_need_hill) l_need_hill q_need_hill k_need_hill,
    b_need_hill := (fun_mk (st := s_need_hill) l_need_hill q_need_hill k_need_hill).binds (ps := ["land", "place"]) fun _ _ _ _ _ _ us hl => match us, hl with | [_, _], _ => rfl,
    g_need_hill := PySem.W.mg_of X G a_need_hill,
    a_slope := f_slope, d_slope := PySem.W.fnOf "slope" "slope" (defArgs s_slope) (defBody s_slope) (defScope s_slope) .none kV_slope dc_slope pm_slope an_slope cd_slope ct_slope, F_slope := fun_mk (st := s_slope) l_slope q_slope k_slope,
    b_slope := (fun_mk (st := s_slope) l_slope q_slope k_slope).binds (ps := ["land", "a", "b"]) fun _ _ _ _ _ _ us hl => match us, hl with | [_, _, _], _ => rfl,
    g_slope := PySem.W.mg_of X G a_slope,
    a_steeper := f_steeper, d_steeper := PySem.W.fnOf "steeper" "steeper" (defArgs s_steeper) (defBody s_steeper) (defScope s_steeper) .none kV_steeper dc_steeper pm_steeper an_steeper cd_steeper ct_steeper, F_steeper := fun_mk (st := s_steeper) l_steeper q_steeper k_steeper,
    b_steeper := (fun_mk (st := s_steeper) l_steeper q_steeper k_steeper).binds (ps := ["one", "other"]) fun _ _ _ _ _ _ us hl => match us, hl with | [_, _], _ => rfl,
    g_steeper := PySem.W.mg_of X G a_steeper,
    a_behind := f_behind, d_behind := PySem.W.fnOf "behind" "behind" (defArgs s_behind) (defBody s_behind) (defScope s_behind) .none kV_behind dc_behind pm_behind an_behind cd_behind ct_behind, F_behind := fun_mk (st := s_behind) l_behind q_behind k_behind,
    b_behind := (fun_mk (st := s_behind) l_behind q_behind k_behind).binds (ps := ["land", "a"]) fun _ _ _ _ _ _ us hl => match us, hl with | [_, _], _ => rfl,
    g_behind := PySem.W.mg_of X G a_behind,
    a_sights := f_sights, d_sights := PySem.W.fnOf "sights" "sights" (defArgs s_sights) (defBody s_sights) (defScope s_sights) .none kV_sights dc_sights pm_sights an_sights cd_sights ct_sights, F_sights := fun_mk (st := s_sights) l_sights q_sights k_sights,
    b_sights := (fun_mk (st := s_sights) l_sights q_sights k_sights).binds (ps := ["land"]) fun _ _ _ _ _ _ us hl => match us, hl with | [_], _ => rfl,
    g_sights := PySem.W.mg_of X G a_sights,
    a_beside := f_beside, d_beside := PySem.W.fnOf "beside" "beside" (defArgs s_beside) (defBody s_beside) (defScope s_beside) .none kV_beside dc_beside pm_beside an_beside cd_beside ct_beside, F_beside := fun_mk (st := s_beside) l_beside q_beside k_beside,
    b_beside := (fun_mk (st := s_beside) l_beside q_beside k_beside).binds (ps := ["land"]) fun _ _ _ _ _ _ us hl => match us, hl with | [_], _ => rfl,
    g_beside := PySem.W.mg_of X G a_beside,
    a_steps := f_steps, d_steps := PySem.W.fnOf "steps" "steps" (defArgs s_steps) (defBody s_steps) (defScope s_steps) .none kV_steps dc_steps pm_steps an_steps cd_steps ct_steps, F_steps := fun_mk (st := s_steps) l_steps q_steps k_steps,
    b_steps := (fun_mk (st := s_steps) l_steps q_steps k_steps).binds (ps := ["rows", "a"]) fun _ _ _ _ _ _ us hl => match us, hl with | [_, _], _ => rfl,
    g_steps := PySem.W.mg_of X G a_steps,
    a_way := f_way, d_way := PySem.W.fnOf "way" "way" (defArgs s_way) (defBody s_way) (defScope s_way) .none kV_way dc_way pm_way an_way cd_way ct_way, F_way := fun_mk (st := s_way) l_way q_way k_way,
    b_way := (fun_mk (st := s_way) l_way q_way k_way).binds (ps := ["land", "a", "b"]) fun _ _ _ _ _ _ us hl => match us, hl with | [_, _, _], _ => rfl,
    g_way := PySem.W.mg_of X G a_way,
    a_law_whole := f_law_whole, d_law_whole := PySem.W.fnOf "_law_whole" "_law_whole" (defArgs s_law_whole) (defBody s_law_whole) (defScope s_law_whole) .none kV_law_whole dc_law_whole pm_law_whole an_law_whole cd_law_whole ct_law_whole, F_law_whole := fun_mk (st := s_law_whole) l_law_whole q_law_whole k_law_whole,
    b_law_whole := (fun_mk (st := s_law_whole) l_law_whole q_law_whole k_law_whole).binds (ps := ["_law_found"]) fun _ _ _ _ _ _ us hl => match us, hl with | [_], _ => rfl,
    g_law_whole := PySem.W.mg_of X G a_law_whole,
    a_law_cell_at := f_law_cell_at, d_law_cell_at := PySem.W.fnOf "_law_cell_at" "_law_cell_at" (defArgs s_law_cell_at) (defBody s_law_cell_at) (defScope s_law_cell_at) .none kV_law_cell_at dc_law_cell_at pm_law_cell_at an_law_cell_at cd_law_cell_at ct_law_cell_at, F_law_cell_at := fun_mk (st := s_law_cell_at) l_law_cell_at q_law_cell_at k_law_cell_at,
    b_law_cell_at := (fun_mk (st := s_law_cell_at) l_law_cell_at q_law_cell_at k_law_cell_at).binds (ps := ["_law_script", "_law_k"]) fun _ _ _ _ _ _ us hl => match us, hl with | [_, _], _ => rfl,
    g_law_cell_at := PySem.W.mg_of X G a_law_cell_at,
    a_law_height_by := f_law_height_by, d_law_height_by := PySem.W.fnOf "_law_height_by" "_law_height_by" (defArgs s_law_height_by) (defBody s_law_height_by) (defScope s_law_height_by) .none kV_law_height_by dc_law_height_by pm_law_height_by an_law_height_by cd_law_height_by ct_law_height_by, F_law_height_by := fun_mk (st := s_law_height_by) l_law_height_by q_law_height_by k_law_height_by,
    b_law_height_by := (fun_mk (st := s_law_height_by) l_law_height_by q_law_height_by k_law_height_by).binds (ps := ["_law_cell", "_law_k", "_law_kind", "_law_tilt"]) fun _ _ _ _ _ _ us hl => match us, hl with | [_, _, _, _], _ => rfl,
    g_law_height_by := PySem.W.mg_of X G a_law_height_by,
    a_law_longer := f_law_longer, d_law_longer := PySem.W.fnOf "_law_longer" "_law_longer" (defArgs s_law_longer) (defBody s_law_longer) (defScope s_law_longer) .none kV_law_longer dc_law_longer pm_law_longer an_law_longer cd_law_longer ct_law_longer, F_law_longer := fun_mk (st := s_law_longer) l_law_longer q_law_longer k_law_longer,
    b_law_longer := (fun_mk (st := s_law_longer) l_law_longer q_law_longer k_law_longer).binds (ps := ["_law_script", "_law_land", "_law_most", "_law_many"]) fun _ _ _ _ _ _ us hl => match us, hl with | [_, _, _, _], _ => rfl,
    g_law_longer := PySem.W.mg_of X G a_law_longer,
    a_law_land_by := f_law_land_by, d_law_land_by := PySem.W.fnOf "_law_land_by" "_law_land_by" (defArgs s_law_land_by) (defBody s_law_land_by) (defScope s_law_land_by) .none kV_law_land_by dc_law_land_by pm_law_land_by an_law_land_by cd_law_land_by ct_law_land_by, F_law_land_by := fun_mk (st := s_law_land_by) l_law_land_by q_law_land_by k_law_land_by,
    b_law_land_by := (fun_mk (st := s_law_land_by) l_law_land_by q_law_land_by k_law_land_by).binds (ps := ["_law_script", "_law_most"]) fun _ _ _ _ _ _ us hl => match us, hl with | [_, _], _ => rfl,
    g_law_land_by := PySem.W.mg_of X G a_law_land_by,
    a_law_seen_by := f_law_seen_by, d_law_seen_by := PySem.W.fnOf "_law_seen_by" "_law_seen_by" (defArgs s_law_seen_by) (defBody s_law_seen_by) (defScope s_law_seen_by) .none kV_law_seen_by dc_law_seen_by pm_law_seen_by an_law_seen_by cd_law_seen_by ct_law_seen_by, F_law_seen_by := fun_mk (st := s_law_seen_by) l_law_seen_by q_law_seen_by k_law_seen_by,
    b_law_seen_by := (fun_mk (st := s_law_seen_by) l_law_seen_by q_law_seen_by k_law_seen_by).binds (ps := ["_law_land", "_law_low", "_law_high"]) fun _ _ _ _ _ _ us hl => match us, hl with | [_, _, _], _ => rfl,
    g_law_seen_by := PySem.W.mg_of X G a_law_seen_by,
    a_law_near := f_law_near, d_law_near := PySem.W.fnOf "_law_near" "_law_near" (defArgs s_law_near) (defBody s_law_near) (defScope s_law_near) .none kV_law_near dc_law_near pm_law_near an_law_near cd_law_near ct_law_near, F_law_near := fun_mk (st := s_law_near) l_law_near q_law_near k_law_near,
    b_law_near := (fun_mk (st := s_law_near) l_law_near q_law_near k_law_near).binds (ps := ["_law_land", "_law_b"]) fun _ _ _ _ _ _ us hl => match us, hl with | [_, _], _ => rfl,
    g_law_near := PySem.W.mg_of X G a_law_near,
    a_law_left_by := f_law_left_by, d_law_left_by := PySem.W.fnOf "_law_left_by" "_law_left_by" (defArgs s_law_left_by) (defBody s_law_left_by) (defScope s_law_left_by) .none kV_law_left_by dc_law_left_by pm_law_left_by an_law_left_by cd_law_left_by ct_law_left_by, F_law_left_by := fun_mk (st := s_law_left_by) l_law_left_by q_law_left_by k_law_left_by,
    b_law_left_by := (fun_mk (st := s_law_left_by) l_law_left_by q_law_left_by k_law_left_by).binds (ps := ["_law_rows", "_law_b"]) fun _ _ _ _ _ _ us hl => match us, hl with | [_, _], _ => rfl,
    g_law_left_by := PySem.W.mg_of X G a_law_left_by,
    a_law_refused := f_law_refused, d_law_refused := PySem.W.fnOf "_law_refused" "_law_refused" (defArgs s_law_refused) (defBody s_law_refused) (defScope s_law_refused) .none kV_law_refused dc_law_refused pm_law_refused an_law_refused cd_law_refused ct_law_refused, F_law_refused := fun_mk (st := s_law_refused) l_law_refused q_law_refused k_law_refused,
    b_law_refused := (fun_mk (st := s_law_refused) l_law_refused q_law_refused k_law_refused).binds (ps := ["_law_land", "_law_a", "_law_b"]) fun _ _ _ _ _ _ us hl => match us, hl with | [_, _, _], _ => rfl,
    g_law_refused := PySem.W.mg_of X G a_law_refused,
    a_law_known := f_law_known, d_law_known := PySem.W.fnOf "_law_known" "_law_known" (defArgs s_law_known) (defBody s_law_known) (defScope s_law_known) .none kV_law_known dc_law_known pm_law_known an_law_known cd_law_known ct_law_known, F_law_known := fun_mk (st := s_law_known) l_law_known q_law_known k_law_known,
    b_law_known := (fun_mk (st := s_law_known) l_law_known q_law_known k_law_known).binds (ps := ["_law_script"]) fun _ _ _ _ _ _ us hl => match us, hl with | [_], _ => rfl,
    g_law_known := PySem.W.mg_of X G a_law_known,
    a_law := f_law, d_law := PySem.W.fnOf "law" "law" (defArgs s_law) (defBody s_law) (defScope s_law) .none kV_law dc_law pm_law an_law cd_law ct_law, F_law := fun_mk (st := s_law) l_law q_law k_law,
    b_law := (fun_mk (st := s_law) l_law q_law k_law).binds (ps := ["_law_script"]) fun _ _ _ _ _ _ us hl => match us, hl with | [_], _ => rfl,
    g_law := PySem.W.mg_of X G a_law,
    c_HillError := c_HillError, g_HillError := PySem.W.mg_of X G a_HillError, x_HillError := x_HillError, k_HillError := k_HillError, e_HillError := e_HillError, t_HillError := t_HillError, i_HillError := i_HillError,
    c_NoHill := c_NoHill, g_NoHill := PySem.W.mg_of X G a_NoHill, x_NoHill := x_NoHill, k_NoHill := k_NoHill, e_NoHill := e_NoHill, t_NoHill := t_NoHill, i_NoHill := i_NoHill,
    s_NoHill_NoHill := s_NoHill_NoHill,
    n_all := PySem.W.mg_none_of X G n_all,
    n_any := PySem.W.mg_none_of X G n_any,
    n_bool := PySem.W.mg_none_of X G n_bool,
    n_int := PySem.W.mg_none_of X G n_int,
    n_isinstance := PySem.W.mg_none_of X G n_isinstance,
    n_len := PySem.W.mg_none_of X G n_len,
    n_list := PySem.W.mg_none_of X G n_list,
    n_max := PySem.W.mg_none_of X G n_max,
    n_min := PySem.W.mg_none_of X G n_min,
    n_range := PySem.W.mg_none_of X G n_range,
    n_sorted := PySem.W.mg_none_of X G n_sorted }, rfl, rfl⟩
  obtain ⟨T, e1, e2⟩ := T
  refine ⟨PySem.W.fnOf "law" "law" (defArgs s_law) (defBody s_law) (defScope s_law) .none kV_law dc_law pm_law an_law cd_law ct_law, fun s v => .of_eq rfl, fun base _ _ => ?_⟩
  rw [← e1, ← e2]
  exact ok_law T
end Hs
open PySem PySem.W PyProof.Rows
set_option maxRecDepth 100000 in
set_option maxHeartbeats 0 in
theorem PySem.Challenge.cw_hillsight_k09_whole_ways_holds : PySem.Challenge.rw_hillsight_k09_whole_ways.Holds := by
  w_on; o_law; k_head; (case hw => w_witness2)
  k_fill
  refine L2.walk_ofK (l := PySem.Challenge.rw_hillsight_k09_whole_ways) (n := 63) (k := 7) (x := "_law_script") (CX := L2.CX0) (sp := Hs.spLaw) rfl (by decide) rfl ⟨rfl, by decide, by decide⟩ (fun w h Y => PySem.W.kIn_of Y) ?F (fun _ _ a ns hl _ hS => ⟨a, ns, rfl, hS, hl, fun _ => rfl⟩) (fun _ _ _ _ h => h)
  case F =>
    intro w mg fa h KX G hmg
    refine' Hs.all_mk KX G hmg ?a_is_whole ?l_is_whole ?q_is_whole ?k_is_whole ?a_need_hill ?l_need_hill ?q_need_hill ?k_need_hill ?a_slope ?l_slope ?q_slope ?k_slope ?a_steeper ?l_steeper ?q_steeper ?k_steeper ?a_behind ?l_behind ?q_behind ?k_behind ?a_sights ?l_sights ?q_sights ?k_sights ?a_beside ?l_beside ?q_beside ?k_beside ?a_steps ?l_steps ?q_steps ?k_steps ?a_way ?l_way ?q_way ?k_way ?a_law_whole ?l_law_whole ?q_law_whole ?k_law_whole ?a_law_cell_at ?l_law_cell_at ?q_law_cell_at ?k_law_cell_at ?a_law_height_by ?l_law_height_by ?q_law_height_by ?k_law_height_by ?a_law_longer ?l_law_longer ?q_law_longer ?k_law_longer ?a_law_land_by ?l_law_land_by ?q_law_land_by ?k_law_land_by ?a_law_seen_by ?l_law_seen_by ?q_law_seen_by ?k_law_seen_by ?a_law_near ?l_law_near ?q_law_near ?k_law_near ?a_law_left_by ?l_law_left_by ?q_law_left_by ?k_law_left_by ?a_law_refused ?l_law_refused ?q_law_refused ?k_law_refused ?a_law_known ?l_law_known ?q_law_known ?k_law_known ?a_law ?l_law ?q_law ?k_law ?a_HillError ?x_HillError ?k_HillError ?e_HillError ?t_HillError ?i_HillError ?a_NoHill ?x_NoHill ?k_NoHill ?e_NoHill ?t_NoHill ?i_NoHill ?s_NoHill_NoHill ?n_all ?n_any ?n_bool ?n_int ?n_isinstance ?n_len ?n_list ?n_max ?n_min ?n_range ?n_sorted
    (case a_is_whole => first | k_is | rfl)
    (case l_is_whole => first | k_is | rfl)
    (case q_is_whole => first | k_is | rfl)
    (case k_is_whole => first | k_is | rfl)
    (case a_need_hill => first | k_is | rfl)
    (case l_need_hill => first | k_is | rfl)
    (case q_need_hill => first | k_is | rfl)
    (case k_need_hill => first | k_is | rfl)
    (case a_slope => first | k_is | rfl)
    (case l_slope => first | k_is | rfl)
    (case q_slope => first | k_is | rfl)
    (case k_slope => first | k_is | rfl)
    (case a_steeper => first | k_is | rfl)
    (case l_steeper => first | k_is | rfl)
    (case q_steeper => first | k_is | rfl)
    (case k_steeper => first | k_is | rfl)
    (case a_behind => first | k_is | rfl)
    (case l_behind => first | k_is | rfl)
    (case q_behind => first | k_is | rfl)
    (case k_behind => first | k_is | rfl)
    (case a_sights => first | k_is | rfl)
    (case l_sights => first | k_is | rfl)
    (case q_sights => first | k_is | rfl)
    (case k_sights => first | k_is | rfl)
    (case a_beside => first | k_is | rfl)
    (case l_beside => first | k_is | rfl)
    (case q_beside => first | k_is | rfl)
    (case k_beside => first | k_is | rfl)
    (case a_steps => first | k_is | rfl)
    (case l_steps => first | k_is | rfl)
    (case q_steps => first | k_is | rfl)
    (case k_steps => first | k_is | rfl)
    (case a_way => first | k_is | rfl)
    (case l_way => first | k_is | rfl)
    (case q_way => first | k_is | rfl)
    (case k_way => first | k_is | rfl)
    (case a_law_whole => first | k_is | rfl)
    (case l_law_whole => first | k_is | rfl)
    (case q_law_whole => first | k_is | rfl)
    (case k_law_whole => first | k_is | rfl)
    (case a_law_cell_at => first | k_is | rfl)
    (case l_law_cell_at => first | k_is | rfl)
    (case q_law_cell_at => first | k_is | rfl)
    (case k_law_cell_at => first | k_is | rfl)
    (case a_law_height_by => first | k_is | rfl)
    (case l_law_height_by => first | k_is | rfl)
    (case q_law_height_by => first | k_is | rfl)
    (case k_law_height_by => first | k_is | rfl)
    (case a_law_longer => first | k_is | rfl)
    (case l_law_longer => first | k_is | rfl)
    (case q_law_longer => first | k_is | rfl)
    (case k_law_longer => first | k_is | rfl)
    (case a_law_land_by => first | k_is | rfl)
    (case l_law_land_by => first | k_is | rfl)
    (case q_law_land_by => first | k_is | rfl)
    (case k_law_land_by => first | k_is | rfl)
    (case a_law_seen_by => first | k_is | rfl)
    (case l_law_seen_by => first | k_is | rfl)
    (case q_law_seen_by => first | k_is | rfl)
    (case k_law_seen_by => first | k_is | rfl)
    (case a_law_near => first | k_is | rfl)
    (case l_law_near => first | k_is | rfl)
    (case q_law_near => first | k_is | rfl)
    (case k_law_near => first | k_is | rfl)
    (case a_law_left_by => first | k_is | rfl)
    (case l_law_left_by => first | k_is | rfl)
    (case q_law_left_by => first | k_is | rfl)
    (case k_law_left_by => first | k_is | rfl)
    (case a_law_refused => first | k_is | rfl)
    (case l_law_refused => first | k_is | rfl)
    (case q_law_refused => first | k_is | rfl)
    (case k_law_refused => first | k_is | rfl)
    (case a_law_known => first | k_is | rfl)
    (case l_law_known => first | k_is | rfl)
    (case q_law_known => first | k_is | rfl)
    (case k_law_known => first | k_is | rfl)
    (case a_law => first | k_is | rfl)
    (case l_law => first | k_is | rfl)
    (case q_law => first | k_is | rfl)
    (case k_law => first | k_is | rfl)
    (case a_HillError => first | k_is | rfl)
    (case x_HillError => k_exc)
    (case k_HillError => first | k_is | rfl)
    (case e_HillError => first | k_is | rfl)
    (case t_HillError => first | k_is | rfl)
    (case i_HillError => first | k_is | rfl)
    (case a_NoHill => first | k_is | rfl)
    (case x_NoHill => k_exc)
    (case k_NoHill => first | k_is | rfl)
    (case e_NoHill => first | k_is | rfl)
    (case t_NoHill => first | k_is | rfl)
    (case i_NoHill => first | k_is | rfl)
    (case s_NoHill_NoHill => first | k_is | rfl)
    (case n_all => first | k_is | rfl)
    (case n_any => first | k_is | rfl)
    (case n_bool => first | k_is | rfl)
    (case n_int => first | k_is | rfl)
    (case n_isinstance => first | k_is | rfl)
    (case n_len => first | k_is | rfl)
    (case n_list => first | k_is | rfl)
    (case n_max => first | k_is | rfl)
    (case n_min => first | k_is | rfl)
    (case n_range => first | k_is | rfl)
    (case n_sorted => first | k_is | rfl)
