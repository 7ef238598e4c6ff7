import PyProof.Rows.All
import Wide.All
import OpenK.AllK
import Wide.FinOn
import HandS.ForMost
import HandS.Exc
import HandS.ExcOwn
import HandS.TryOnly
import HandS.TryMany
import HandS.WordsExc
import HandS.IsInst
import HandS.Steps
import HandS.Style
import HandS.ExcCtx
import HandS.HotCalls
import HandS.ExcIs
import HandS.Text
import HandS.Codes
import HandS.Walk
import HandS.StrMore
import PySem.Challenge.RW_hillsight_k11_texts
set_option Elab.async false
set_option linter.all false
set_option maxRecDepth 100000
set_option maxHeartbeats 4000000
namespace Hs
open PySem PySem.Spec PyProof.Rows L2
/-! ## readings, step by step -/
theorem rd_var {i : Nat} {σ : L2.St} {H : Hp} {Q : VK} {v : V} (h : σ[i]? = some (some v)) (q : Q v H) : tVar i σ H Q := ⟨v, h, q⟩
theorem rd_c {v : V} {σ : L2.St} {H : Hp} {Q : VK} (q : Q v H) : tC v σ H Q := q
theorem rd_op {r : R2} {ta tb : TE} {σ : L2.St} {H : Hp} {Q : VK} (q : ta σ H fun x H1 => tb σ H1 fun y H2 => r x y H2 Q) : tOp r ta tb σ H Q := q
theorem rd_un {r : V → Hp → VK → Prop} {ta : TE} {σ : L2.St} {H : Hp} {Q : VK} (q : ta σ H fun x H1 => r x H1 Q) : tUn r ta σ H Q := q
theorem rd_U {g : Int → V} {i : Int} {H : Hp} {Q : VK} (q : Q (g i) H) : rU g (.int i) H Q := ⟨i, rfl, q⟩
theorem rd_I0 {g : Int → Int → V} {i j : Int} {H : Hp} {Q : VK} (q : Q (g i j) H) : rI0 g (.int i) (.int j) H Q := ⟨i, j, rfl, rfl, q⟩
theorem rd_I {C : Int → Int → Prop} {g : Int → Int → V} {i j : Int} {H : Hp} {Q : VK} (c : C i j) (q : Q (g i j) H) : rI C g (.int i) (.int j) H Q := ⟨i, j, rfl, rfl, c, q⟩
theorem rd_eq {x y : V} {H : Hp} {Q : VK} (c : scal x y = true) (q : Q (.bl (decide (x = y))) H) : rEq x y H Q := ⟨c, q⟩
theorem rd_ne {x y : V} {H : Hp} {Q : VK} (c : scal x y = true) (q : Q (.bl (!decide (x = y))) H) : rNe x y H Q := ⟨c, q⟩
theorem rd_nil {σ : L2.St} {H : Hp} {Q : List V → Hp → Prop} (q : Q [] H) : tNil σ H Q := q
theorem rd_cons {ta : TE} {tr : TA} {σ : L2.St} {H : Hp} {Q : List V → Hp → Prop} (q : ta σ H fun x H1 => tr σ H1 fun xs H2 => Q (x :: xs) H2) : tCons ta tr σ H Q := q
theorem rd_cb {r : List V → Hp → VK → Prop} {ta : TA} {σ : L2.St} {H : Hp} {Q : VK} (q : ta σ H fun xs H1 => r xs H1 Q) : tCB r ta σ H Q := q
theorem rd_call {sp : Sp} {E : XK} {ta : TA} {σ : L2.St} {H : Hp} {Q : VK} (q : ta σ H fun xs H1 => sp (xs ++ []) H1 Q E) : tCall sp [] E ta σ H Q := q
theorem rd_callS {sp : Sp} {E : L2.St → XK} {ta : TA} {σ : L2.St} {H : Hp} {Q : VK} (q : ta σ H fun xs H1 => sp xs H1 Q (E σ)) : tCallS sp E ta σ H Q := q
theorem rd_test {t : TE} {σ : L2.St} {H : Hp} {Q : Bool → Hp → Prop} (q : t σ H fun x H' => ∃ k, x = .bl k ∧ Q k H') : tTest t σ H Q := q
theorem rd_tB {t : TE} {σ : L2.St} {H : Hp} {Q : Bool → Hp → Prop} (q : t σ H fun x H' => ∃ k, x = .bl k ∧ Q k H') : tB t σ H Q := q
theorem rd_bl {k : Bool} {R : Bool → Prop} (q : R k) : ∃ k', V.bl k = .bl k' ∧ R k' := ⟨k, rfl, q⟩
theorem rd_not {t : TT} {σ : L2.St} {H : Hp} {Q : Bool → Hp → Prop} (q : t σ H fun c H1 => Q (!c) H1) : tNot t σ H Q := q
theorem rd_and {t u : TT} {σ : L2.St} {H : Hp} {Q : Bool → Hp → Prop} (q : t σ H fun c H1 => if c = true then u σ H1 Q else Q false H1) : tAnd t u σ H Q := q
theorem rd_or {t u : TT} {σ : L2.St} {H : Hp} {Q : Bool → Hp → Prop} (q : t σ H fun c H1 => if c = true then Q true H1 else u σ H1 Q) : tOr t u σ H Q := q
theorem rd_andV {t u : TE} {σ : L2.St} {H : Hp} {Q : VK} (q : t σ H fun x H1 => ∃ c, x = .bl c ∧ if c = true then u σ H1 Q else Q (.bl false) H1) : tAndV t u σ H Q := q
theorem rd_orV {t u : TE} {σ : L2.St} {H : Hp} {Q : VK} (q : t σ H fun x H1 => ∃ c, x = .bl c ∧ if c = true then Q (.bl true) H1 else u σ H1 Q) : tOrV t u σ H Q := q
theorem rd_notV {t : TE} {σ : L2.St} {H : Hp} {Q : VK} (q : t σ H fun x H1 => ∃ c, x = .bl c ∧ Q (.bl (!c)) H1) : tNotV t σ H Q := q
theorem rd_if {c : TT} {ta tb : TE} {σ : L2.St} {H : Hp} {Q : VK} (q : c σ H fun b H1 => if b = true then ta σ H1 Q else tb σ H1 Q) : tIf c ta tb σ H Q := q
theorem rd_seq {t u : TS} {D : Ends} {σ : L2.St} {H : Hp} (q : t { D with nx := u D } σ H) : tSeq t u D σ H := q
theorem rd_asg {te : TE} {g : TG} {D : Ends} {σ : L2.St} {H : Hp} (q : te σ H fun x H1 => g x σ H1 D.nx) : tAsg te g D σ H := q
theorem rd_name {i : Nat} {v : V} {σ : L2.St} {H : Hp} {Q : L2.St → Hp → Prop} (q : Q (σ.set i (some v)) H) : gName i v σ H Q := q
theorem rd_ret {te : TE} {D : Ends} {σ : L2.St} {H : Hp} (q : te σ H D.rt) : tRet te D σ H := q
theorem rd_drop {te : TE} {D : Ends} {σ : L2.St} {H : Hp} (q : te σ H fun _ H1 => D.nx σ H1) : tDrop te D σ H := q
theorem rd_ifS {c : TT} {t u : TS} {D : Ends} {σ : L2.St} {H : Hp} (q : c σ H fun b H1 => if b = true then t D σ H1 else u D σ H1) : tIfS c t u D σ H := q
theorem rd_next {D : Ends} {σ : L2.St} {H : Hp} (q : D.nx σ H) : tNext D σ H := q
theorem rd_cont {D : Ends} {σ : L2.St} {H : Hp} (q : D.ct σ H) : tCont D σ H := q
theorem rd_tup {ta : TA} {σ : L2.St} {H : Hp} {Q : VK} (q : ta σ H fun xs H1 => xs.length ≤ sizeLine ∧ ∀ p, H1 p = none → Q (.ref p) (upd H1 p (.tup xs))) : tTup ta σ H Q := q
theorem rd_lst {ta : TA} {σ : L2.St} {H : Hp} {Q : VK} (q : ta σ H fun xs H1 => xs.length ≤ sizeLine ∧ ∀ p, H1 p = none → Q (.ref p) (upd H1 p (.lst xs))) : tLst ta σ H Q := q
theorem rd_ixL {K : PySem.W.Frag} {p : Addr} {xs : List V} {i : Int} {v : V} {H : Hp} {Q : VK} (h : SqL K H p xs) (a : atI xs i = some v) (q : Q v H) : rIxL K (.ref p) (.int i) H Q := ⟨p, xs, i, v, rfl, rfl, h, a, q⟩
theorem rd_ixT {K : PySem.W.Frag} {p : Addr} {xs : List V} {i : Int} {v : V} {H : Hp} {Q : VK} (h : SqT K H p xs) (a : atI xs i = some v) (q : Q v H) : rIxT K (.ref p) (.int i) H Q := ⟨p, xs, i, v, rfl, rfl, h, a, q⟩
theorem rd_yes {c A B : Prop} [Decidable c] (hc : c) (q : A) : if c then A else B := by rw [if_pos hc]; exact q
theorem rd_no {c A B : Prop} [Decidable c] (hc : ¬ c) (q : B) : if c then A else B := by rw [if_neg hc]; exact q
/-! ## heaps -/
theorem same_upd {H : Hp} {p : Addr} {o : HO} (h : H p = none) : Same H (upd H p o) := fun b x e => by
  rw [upd_ne (ne_of_none e h)]
  exact e
theorem Same.seqT {K : PySem.W.Frag} {H H' : Hp} {a : Addr} {xs : List V} (e : Same H H') (h : SqT K H a xs) : SqT K H' a xs := by
  rcases h with (h | ⟨o, h⟩) | h
  · exact .inl (.inl (e _ _ h))
  · exact .inl (.inr ⟨o, e _ _ h⟩)
  · exact .inr h
theorem sz (n : Nat) (h : n ≤ 100000 := by decide) : n ≤ sizeLine := Nat.le_trans h (by decide)
theorem szlt {n : Nat} (h : n < 100000) : n < sizeLine := Nat.lt_of_lt_of_le h (by decide)
abbrev IL (ns : List Int) : List V := ns.map V.int
theorem IL_get {ns : List Int} {k : Nat} (h : k < ns.length) : (IL ns)[k]? = some (V.int (ns.getD k 0)) := by
  rw [List.getElem?_map, List.getElem?_eq_getElem h, List.getD_eq_getElem?_getD, List.getElem?_eq_getElem h]
  rfl
theorem IL_at {ns : List Int} {i : Int} (h0 : 0 ≤ i) (h : i < ns.length) : atI (IL ns) i = some (V.int (ns.getD i.toNat 0)) := by
  obtain ⟨k, rfl⟩ : ∃ k : Nat, i = (k : Int) := ⟨i.toNat, by omega⟩
  have hk : k < ns.length := by omega
  exact atI_nat (IL_get hk)
/-! ## the law's cells -/
def cell (ns : List Int) (k : Nat) : Int := ns.getD k 0
/-! ## loops, cuts, methods -/
theorem rd_cut {t u : TS} {D : Ends} {σ : L2.St} {H : Hp} (J : L2.St → Hp → Prop) (h : ∀ N : L2.St → Hp → Prop, (∀ σ' H', J σ' H' → N σ' H') → t { D with nx := N } σ H) (k : ∀ σ' H', J σ' H' → u D σ' H') : tSeq t u D σ H := h (u D) k
theorem rd_for {wi : TI} {g : TG} {tb : TS} {D : Ends} {σ : L2.St} {H : Hp} (q : wi σ H fun J H1 => ∃ W : Nat → Nat → L2.St → Hp → Prop, (∃ m, W 0 m σ H1) ∧ ∀ i m σ H, W i m σ H →
    (J.stop i H ∧ D.nx σ H) ∨ (J.go i H ∧ ∃ N : L2.St → Hp → Prop, (∀ σ' H', N σ' H' → ∃ m', m' < m ∧ W (i + 1) m' σ' H') ∧ ∀ x H', J.yld i H x H' → g x σ H' fun σ2 H2 => tb { D with nx := N, ct := N, bk := D.nx } σ2 H2)) : tFor wi g tb D σ H := q
/-- what a for over a range asks, its bound known -/
abbrev LoopR (lo : Int) (n : Nat) (g : TG) (tb : TS) (D : Ends) (σ : L2.St) (H : Hp) : Prop := ∃ W : Nat → Nat → L2.St → Hp → Prop, (∃ m, W 0 m σ H) ∧ ∀ i m σ H, W i m σ H →
    ((Itr lo n).stop i H ∧ D.nx σ H) ∨ ((Itr lo n).go i H ∧ ∃ N : L2.St → Hp → Prop, (∀ σ' H', N σ' H' → ∃ m', m' < m ∧ W (i + 1) m' σ' H') ∧ ∀ x H', (Itr lo n).yld i H x H' → g x σ H' fun σ2 H2 => tb { D with nx := N, ct := N, bk := D.nx } σ2 H2)
theorem rd_rng1 {ta : TA} {σ : L2.St} {H : Hp} {R : It → Hp → Prop} (q : ta σ H fun vs H1 => ∃ j : Int, vs = [.int j] ∧ -(2 ^ 62) ≤ j ∧ j < 2 ^ 62 ∧ R (Itr 0 j.toNat) H1) : iRng1 ta σ H R := q
theorem rd_rng2 {ta : TA} {σ : L2.St} {H : Hp} {R : It → Hp → Prop} (q : ta σ H fun vs H1 => ∃ i j : Int, vs = [.int i, .int j] ∧ (-(2 ^ 62) ≤ i ∧ i < 2 ^ 62 ∧ -(2 ^ 62) ≤ j ∧ j < 2 ^ 62) ∧ R (Itr i (j - i).toNat) H1) : iRng2 ta σ H R := q
theorem rd_iList {K : PySem.W.Frag} {tl : TE} {σ : L2.St} {H : Hp} {R : It → Hp → Prop} (q : tl σ H fun x H1 => ∃ a, x = .ref a ∧ (∃ xs, SqL K H1 a xs) ∧ R (Itl K a) H1) : iList K tl σ H R := q
theorem rd_iTup {K : PySem.W.Frag} {tl : TE} {σ : L2.St} {H : Hp} {R : It → Hp → Prop} (q : tl σ H fun x H1 => ∃ a, x = .ref a ∧ (∃ xs, SqT K H1 a xs) ∧ R (Itt K a) H1) : iTup K tl σ H R := q
/-- behind the argument of range: the bound, an invariant by the turn -/
theorem rng1 {n : Int} {g : TG} {tb : TS} {D : Ends} {σ : L2.St} {H : Hp} (b : -1000000 ≤ n ∧ n ≤ 1000000) (Pv : Nat → L2.St → Hp → Prop) (h0 : Pv 0 σ H)
    (hs : ∀ (k : Nat) σ' H', (k : Int) < n → Pv k σ' H' → g (.int (k : Int)) σ' H' fun σ2 H2 => tb { D with nx := Pv (k + 1), ct := Pv (k + 1), bk := D.nx } σ2 H2) (hd : ∀ σ' H', Pv n.toNat σ' H' → D.nx σ' H') :
    ∃ j : Int, [V.int n] = [.int j] ∧ -(2 ^ 62) ≤ j ∧ j < 2 ^ 62 ∧ LoopR 0 j.toNat g tb D σ H := by
  refine ⟨n, rfl, by omega, by omega, for_range (lo := 0) (n := n.toNat) Pv h0 (fun i σ' H' hi p => ?_) hd⟩
  have e0 : (0 : Int) + (i : Int) = (i : Int) := Int.zero_add _
  rw [e0]
  exact hs i σ' H' (by omega) p
theorem rng2 {lo n : Int} {g : TG} {tb : TS} {D : Ends} {σ : L2.St} {H : Hp} (b : (-1000000 ≤ lo ∧ lo ≤ 1000000) ∧ -1000000 ≤ n ∧ n ≤ 1000000) (Pv : Nat → L2.St → Hp → Prop) (h0 : Pv 0 σ H)
    (hs : ∀ (k : Nat) σ' H', lo + (k : Int) < n → Pv k σ' H' → g (.int (lo + (k : Int))) σ' H' fun σ2 H2 => tb { D with nx := Pv (k + 1), ct := Pv (k + 1), bk := D.nx } σ2 H2) (hd : ∀ σ' H', Pv (n - lo).toNat σ' H' → D.nx σ' H') :
    ∃ i j : Int, [V.int lo, V.int n] = [.int i, .int j] ∧ (-(2 ^ 62) ≤ i ∧ i < 2 ^ 62 ∧ -(2 ^ 62) ≤ j ∧ j < 2 ^ 62) ∧ LoopR i (j - i).toNat g tb D σ H := by
  refine ⟨lo, n, rfl, ⟨by omega, by omega, by omega, by omega⟩, for_range (lo := lo) (n := (n - lo).toNat) Pv h0 (fun i σ' H' hi p => hs i σ' H' (by omega) p) hd⟩
theorem rd_bm {K : PySem.W.Frag} {T : String} {r : V → List V → Hp → VK → Prop} {to : TE} {t : TA} {σ : L2.St} {H : Hp} {Q : VK} (q : to σ H fun x H1 => tyV K T x H1 ∧ t σ H1 fun xs H2 => r x xs H2 Q) : tBM K T r to t σ H Q := q
theorem rd_bm0 {K : PySem.W.Frag} {T : String} {r : V → List V → Hp → VK → Prop} {to : TE} {σ : L2.St} {H : Hp} {Q : VK} (q : to σ H fun x H1 => tyV K T x H1 ∧ r x [] H1 Q) : tBM0 K T r to σ H Q := q
theorem ty_list {K : PySem.W.Frag} {H : Hp} {l : Addr} {xs : List V} (h : SqL K H l xs) : tyV K "list" (.ref l) H := .inl ⟨rfl, _, h⟩
theorem rd_append {H : Hp} {l : Addr} {xs : List V} {y : V} {Q : VK} (h : H l = some (.lst xs)) (hz : xs.length < 100000) (q : Q .non (upd H l (.lst (xs ++ [y])))) : rAppend (.ref l) [y] H Q := ⟨l, xs, y, rfl, rfl, h, szlt hz, q⟩
theorem rd_gTup2 {K : PySem.W.Frag} {i j : Nat} {a : Addr} {x y : V} {σ : L2.St} {H : Hp} {Q : L2.St → Hp → Prop} (h : SqT K H a [x, y]) (q : Q ((σ.set i (some x)).set j (some y)) H) : gTup K 2 (gCons (gName i) (gCons (gName j) gNil)) (.ref a) σ H Q :=
  ⟨a, [x, y], rfl, h, rfl, x, [y], rfl, y, [], rfl, rfl, q⟩
theorem same_sq {K : PySem.W.Frag} {H H' : Hp} {a : Addr} {xs : List V} (e : Same H H') (h : SqL K H a xs) : SqL K H' a xs := e.seq h
theorem upd_keep {H : Hp} {a b : Addr} {o u : HO} (h : H a = some o) (n : H b = none) : upd H b u a = some o := by rw [upd_ne (ne_of_none h n)]; exact h
/-! ## the law's cells -/
def spCell (K : PySem.W.Frag) : Sp := fun vs H Q _ => ∃ (l : Addr) (ns : List Int) (k : Int), vs = [.ref l, .int k] ∧ 0 ≤ k ∧ SqL K H l (IL ns) ∧ Q (.int (cell ns k.toNat)) H
theorem rd_cell {K : PySem.W.Frag} {l : Addr} {ns : List Int} {k : Int} {H : Hp} {Q : VK} {E : XK} (h0 : 0 ≤ k) (h : SqL K H l (IL ns)) (q : Q (.int (cell ns k.toNat)) H) : spCell K ([V.ref l, V.int k] ++ []) H Q E := ⟨l, ns, k, rfl, h0, h, q⟩
theorem rd_isi {K : PySem.W.Frag} {H : Hp} {x : V} {t n : String} {b : Bool} {Q : VK} (ty : TyX K H x (.type t)) (e : kitB t n = some b) (q : Q (.bl b) H) : rIsi K [x, .ty n] H Q := ⟨x, .ty n, _, _, b, rfl, .ty _, ty, kit_ty e, q⟩
theorem ty_lst {K : PySem.W.Frag} {H : Hp} {a : Addr} {xs : List V} (h : H a = some (.lst xs)) : TyX K H (.ref a) (.type "list") := .base (.lst h)
theorem ty_tup {K : PySem.W.Frag} {H : Hp} {a : Addr} {xs : List V} (h : H a = some (.tup xs)) : TyX K H (.ref a) (.type "tuple") := .base (.tup h)
theorem emod_b {x n : Int} (h : 0 < n) : 0 ≤ x % n ∧ x % n < n := ⟨Int.emod_nonneg _ (by omega), Int.emod_lt_of_pos _ h⟩
theorem IL_snoc (zs : List Int) (z : Int) : IL zs ++ [V.int z] = IL (zs ++ [z]) := by simp [IL]
theorem upd_snoc {H : Hp} {L : Addr} {o : HO} {zs : List Int} {z : Int} : upd (upd H L o) L (.lst (IL zs ++ [V.int z])) = upd H L (.lst (IL (zs ++ [z]))) := by rw [upd_upd, IL_snoc]
theorem len_snoc {α : Type} {zs : List α} {z : α} {i : Nat} (h : zs.length = i) : (zs ++ [z]).length = i + 1 := by rw [List.length_append, h]; rfl
/-! ## what stands over a change -/
theorem Same.mut {H H' : Hp} {p : Addr} {o : HO} (e : Same H H') (h : H p = none) : Same H (upd H' p o) := fun a u ha => by
  rw [upd_ne (ne_of_none ha h)]
  exact e a u ha
theorem SqT.upd {K : PySem.W.Frag} {H : Hp} {D t : Addr} {ys xs : List V} {o : HO} (hD : H D = some (.lst ys)) (h : SqT K H t xs) : SqT K (upd H D o) t xs := by
  rcases h with (h | ⟨u, h⟩) | h
  · exact .inl (.inl (by rw [upd_ne (ne_of h hD (by intro z; cases z))]; exact h))
  · exact .inl (.inr ⟨u, by rw [upd_ne (ne_of h hD (by intro z; cases z))]; exact h⟩)
  · exact .inr h
theorem SqL.upd {K : PySem.W.Frag} {H : Hp} {D t : Addr} {xs : List V} {o : HO} (hD : t ≠ D) (h : SqL K H t xs) : SqL K (upd H D o) t xs := by
  rcases h with (h | ⟨u, h⟩) | h
  · exact .inl (.inl (by rw [upd_ne hD]; exact h))
  · exact .inl (.inr ⟨u, by rw [upd_ne hD]; exact h⟩)
  · exact .inr h
theorem rd_lc {wi : TI} {g : TG} {tt : TT} {te : TE} {vs : List Nat} {σ : L2.St} {H : Hp} {Q : VK} (q : wi σ H fun J H1 => ∀ D, H1 D = none → ∃ W : Nat → Nat → Hp → Prop, (∃ m, W 0 m (upd H1 D (.lst []))) ∧ ∀ i m H, W i m H →
  (J.stop i H ∧ Q (.ref D) H) ∨ (J.go i H ∧ ∃ Nx : Hp → Prop, (∀ H', Nx H' → ∃ m', m' < m ∧ W (i + 1) m' H') ∧ ∀ x H', J.yld i H x H' → g x (wipe σ vs) H' fun σ2 H2 => wipe σ2 vs = wipe σ vs ∧ tt σ2 H2 fun b H3 =>
    if b = true then te σ2 H3 fun y H4 => ∃ acc, H4 D = some (.lst acc) ∧ acc.length < sizeLine ∧ Nx (upd H4 D (.lst (acc ++ [y]))) else Nx H3)) : tLc wi g tt te vs σ H Q := q
theorem rd_tYes {σ : L2.St} {H : Hp} {Q : Bool → Hp → Prop} (q : Q true H) : tYes σ H Q := q
theorem rd_isN {x : V} {H : Hp} {Q : VK} (q : Q (.bl (decide (x = .non))) H) : rIsN x .non H Q := ⟨rfl, q⟩
theorem rd_notN {x : V} {H : Hp} {Q : VK} (q : Q (.bl (!decide (x = .non))) H) : rNotN x .non H Q := ⟨rfl, q⟩
theorem rd_chain {r r' : R2} {ta tb tc : TE} {σ : L2.St} {H : Hp} {Q : VK} (q : ta σ H fun x H1 => tb σ H1 fun y H2 => r x y H2 fun z H3 => ∃ k, z = .bl k ∧ (if k = true then tc σ H3 fun w' H4 => r' y w' H4 Q else Q (.bl false) H3)) : tChain r r' ta tb tc σ H Q := q
theorem iteNT {A B : Prop} (h : B) : if (!true) = true then A else B := iteF h
theorem iteNF {A B : Prop} (h : A) : if (!false) = true then A else B := iteT h
/-- what a while asks: a word with its measure -/
theorem rd_while {c : TT} {tb : TS} {D : Ends} {σ : L2.St} {H : Hp} (W : Nat → L2.St → Hp → Prop) (m : Nat) (h0 : W m σ H)
    (hs : ∀ m σ H, W m σ H → ∀ N : L2.St → Hp → Prop, (∀ m' σ' H', m' < m → W m' σ' H' → N σ' H') → c σ H fun b H1 => if b = true then tb { D with nx := N, ct := N, bk := D.nx } σ H1 else D.nx σ H1)
    (mono : ∀ σ H Q Q', (∀ b H1, Q b H1 → Q' b H1) → c σ H Q → c σ H Q') : tWhile c tb D σ H := by
  refine ⟨W, ⟨m, h0⟩, fun m σ H w => ?_⟩
  refine mono σ H _ _ (fun b H1 q => ?_) (hs m σ H w (fun σ' H' => ∃ m', m' < m ∧ W m' σ' H') (fun m' σ' H' h w' => ⟨m', h, w'⟩))
  cases b with
  | true => exact iteT ⟨_, fun σ' H' n => n, q⟩
  | false => exact q
/-! ## storing at an index -/
theorem rd_gSub {to ti : TE} {t : TSet} {v : V} {σ : L2.St} {H : Hp} {Q : L2.St → Hp → Prop} (q : to σ H fun o H1 => ti σ H1 fun i H2 => t o i v H2 fun H3 => Q σ H3) : gSub to ti t v σ H Q := q
theorem rd_setL {H : Hp} {p : Addr} {xs : List V} {i : Nat} {v : V} {Q : Hp → Prop} (h : H p = some (.lst xs)) (hi : i < xs.length) (q : Q (upd H p (.lst (xs.set i v)))) : rSetL (.ref p) (.int (i : Int)) v H Q :=
  ⟨p, xs, (i : Int), i, rfl, rfl, h, by unfold ixN; rw [if_pos (by omega), if_pos (by omega)]; rfl, q⟩
theorem rd_aug {i : Nat} {te : TE} {ti : TIp} {D : Ends} {σ : L2.St} {H : Hp} {x : V} (h : σ[i]? = some (some x)) (q : te σ H fun y H1 => ti x y H1 fun z H2 => D.nx (σ.set i (some z)) H2) : tAug i te ti D σ H := ⟨x, h, q⟩
theorem rd_ipI {f : Int → Int → Int} {i j : Int} {H : Hp} {Q : VK} (q : Q (.int (f i j)) H) : ipI f (.int i) (.int j) H Q := ⟨i, j, rfl, rfl, q⟩

/-! ## the rules with K said -/
section
variable {X : Cx} {K : PySem.W.Frag}
theorem ix_listK (h : X.K = K) : IxR X (rIxL K) := by subst h; exact ix_list
theorem ix_tupK (h : X.K = K) : IxR X (rIxT K) := by subst h; exact ix_tup
theorem call_isiK0 (h : X.K = K) : CallR X (.builtin "isinstance") (rIsi K) := by subst h; exact call_isi
def rLenK (K : PySem.W.Frag) : List V → Hp → VK → Prop := fun xs H Q => ∃ p ys, xs = [.ref p] ∧ (SqL K H p ys ∨ SqT K H p ys) ∧ Q (.int ys.length) H
theorem call_lenK (h : X.K = K) : CallR X (.builtin "len") (rLenK K) := by subst h; exact call_len_seq
def rListK (K : PySem.W.Frag) : List V → Hp → VK → Prop := fun xs H Q => ∃ p ys, xs = [.ref p] ∧ (SqL K H p ys ∨ SqT K H p ys) ∧ ∀ l, H l = none → Q (.ref l) (upd H l (.lst ys))
theorem call_listK (h : X.K = K) : CallR X (.type "list") (rListK K) := by subst h; exact call_list_of
theorem op_eqDK (h : X.K = K) (hu : X.A.units + 64 < cLine) : OpR X (compareOp .Eq) (rEqD K) := by subst h; exact op_eqD hu
theorem op_neDK (h : X.K = K) (hu : X.A.units + 64 < cLine) : OpR X (compareOp .NotEq) (rNeD K) := by subst h; exact op_neD hu
theorem sl_listK (h : X.K = K) : SlR X (rSlL K) := by subst h; exact sl_list
theorem cr_allK (h : X.K = K) (hc : X.calm = true) : CallR X (.builtin "all") (rAll K) := by subst h; exact cr_all hc
theorem cr_anyK (h : X.K = K) (hc : X.calm = true) : CallR X (.builtin "any") (rAny K) := by subst h; exact cr_any hc
theorem cr_minK (h : X.K = K) (hc : X.calm = true) : CallR X (.builtin "min") (rMin K) := by subst h; exact cr_min hc
theorem op_ltTK (h : X.K = K) (hu : X.A.units < cLine) : OpR X (compareOp .Lt) (rLtT K) := by subst h; exact op_ltT hu
theorem op_inK (h : X.K = K) : OpR X (compareOp .In) (rIn K false) := by subst h; exact op_in_seq
theorem pi_listK {tg l : Expr} {tl : TE} (h : X.K = K) (hl : PE X l tl) : PI X tg l (iList K tl) := by subst h; exact pi_list hl
theorem pi_tupK {tg l : Expr} {tl : TE} (h : X.K = K) (hl : PE X l tl) : PI X tg l (iTup K tl) := by subst h; exact pi_tup hl
theorem pg_tupK {es : List Expr} {k : Nat} {t : TGs} {n : Nat} {pos : Pos} (h : X.K = K) (hc : X.calm = true) (hg : PGs X es t)
    (hn : (assignEach es X.env).length = n := by rfl) (hst : (assignEach es X.env).findIdx? (·.1) = none := by rfl) : PG X (.Tuple es k pos) (gTup K n t) := by subst h; exact pg_tup hc hg hn hst
section
variable {o e : Expr} {es : List Expr} {to : TE} {t : TA} {name : Str} {apos cpos : Pos} {T id : String} {r : V → List V → Hp → VK → Prop}
theorem pe_bm0K (h : X.K = K) (pa : PlainAttrs T) (slot : Slot T name id) (hty : typeOf (.builtin id) = pure (.type "method_descriptor")) (hm : MtR X id r) (ho : PE X o to)
    (hbase : attributeBase o name X.env (eval o X.env) = eval o X.env := by rfl) (hline : (apos.endLine == cpos.line) = true := by rfl) : PE X (.Call (.Attribute o name apos) [] [] cpos) (tBM0 K T r to) := by
  subst h; exact pe_bm0 pa slot hty hm ho hbase hline
theorem pe_bmK (h : X.K = K) (pa : PlainAttrs T) (slot : Slot T name id) (hty : typeOf (.builtin id) = pure (.type "method_descriptor")) (hm : MtR X id r) (ho : PE X o to) (ha : PA X (e :: es) t)
    (hbase : attributeBase o name X.env (eval o X.env) = eval o X.env := by rfl)
    (hfew : ((backTo cpos (starEach (e :: es) X.env)).all (fun x => !x.1) && (backToKw cpos (keywordEach [] X.env)).all (fun x => x.1.isSome)
      && decide ((e :: es).length + ([] : List Keyword).length + (if ([] : List Keyword).isEmpty then 0 else 1) < 30)) = true := by rfl)
    (hline : (apos.endLine == cpos.line) = true := by rfl) (hs : starEach (e :: es) X.env = (false, eval e X.env) :: starEach es X.env := by rfl) (hplain : (backTo cpos (starEach es X.env)).any (·.1) = false := by rfl) :
    PE X (.Call (.Attribute o name apos) (e :: es) [] cpos) (tBM K T r to t) := by
  subst h; exact pe_bm pa slot hty hm ho ha hbase hfew hline hs hplain
end
end
def rMin2 : List V → Hp → VK → Prop := fun xs H Q => ∃ i j, xs = [.int i, .int j] ∧ Q (.int (if j < i then j else i)) H
def rMax2 : List V → Hp → VK → Prop := fun xs H Q => ∃ i j, xs = [.int i, .int j] ∧ Q (.int (if j > i then j else i)) H
theorem call_min2K {X : Cx} (hc : X.calm = true) : CallR X (.builtin "min") rMin2 := call_min2 hc
theorem call_max2K {X : Cx} (hc : X.calm = true) : CallR X (.builtin "max") rMax2 := call_max2 hc
theorem rd_min2 {a b : Nat} {H : Hp} {Q : VK} (q : Q (.int ((min a b : Nat) : Int)) H) : rMin2 [.int (a : Int), .int (b : Int)] H Q := by
  refine ⟨_, _, rfl, ?_⟩
  have m1 : ((min a b : Nat) : Int) = if (b : Int) < (a : Int) then (b : Int) else (a : Int) := by split <;> omega
  rw [m1] at q
  exact q
theorem rd_max2 {a b : Nat} {H : Hp} {Q : VK} (q : Q (.int ((max a b : Nat) : Int)) H) : rMax2 [.int (a : Int), .int (b : Int)] H Q := by
  refine ⟨_, _, rfl, ?_⟩
  have m2 : ((max a b : Nat) : Int) = if (b : Int) > (a : Int) then (b : Int) else (a : Int) := by split <;> omega
  rw [m2] at q
  exact q
def rAbs : List V → Hp → VK → Prop := fun xs H Q => ∃ i, xs = [.int i] ∧ Q (.int (if i < 0 then -i else i)) H
theorem call_absK {X : Cx} : CallR X (.builtin "abs") rAbs := call_abs
theorem rd_abs {i : Int} {H : Hp} {Q : VK} (q : Q (.int (i.natAbs : Int)) H) : rAbs [.int i] H Q := by
  refine ⟨i, rfl, ?_⟩
  have : ((i.natAbs : Nat) : Int) = if i < 0 then -i else i := by split <;> omega
  rw [this] at q
  exact q

/-! ## comprehensions -/
theorem rd_len {K : PySem.W.Frag} {H : Hp} {a : Addr} {xs : List V} {Q : VK} (h : SqL K H a xs) (q : Q (.int xs.length) H) : rLenK K [.ref a] H Q := ⟨a, xs, rfl, .inl h, q⟩
theorem rd_lenT {K : PySem.W.Frag} {H : Hp} {a : Addr} {xs : List V} {Q : VK} (h : SqT K H a xs) (q : Q (.int xs.length) H) : rLenK K [.ref a] H Q := ⟨a, xs, rfl, .inr h, q⟩
theorem rd_list {K : PySem.W.Frag} {H : Hp} {a : Addr} {xs : List V} {Q : VK} (h : SqL K H a xs) (q : ∀ l, H l = none → Q (.ref l) (upd H l (.lst xs))) : rListK K [.ref a] H Q := ⟨a, xs, rfl, .inl h, q⟩
/-- what a comprehension over a list, over a range asks of its block -/
abbrev CompO (J : It) (g : TG) (tt : TT) (te : TE) (vs : List Nat) (σ : L2.St) (H1 : Hp) (D : Addr) (Qd : Hp → Prop) : Prop :=
  ∃ W : Nat → Nat → Hp → Prop, (∃ m, W 0 m (upd H1 D (.lst []))) ∧ ∀ i m H, W i m H →
    (J.stop i H ∧ Qd H) ∨ (J.go i H ∧ ∃ Nx : Hp → Prop, (∀ H', Nx H' → ∃ m', m' < m ∧ W (i + 1) m' H') ∧ ∀ x H', J.yld i H x H' → g x (wipe σ vs) H' fun σ2 H2 => wipe σ2 vs = wipe σ vs ∧ tt σ2 H2 fun b H3 =>
      if b = true then te σ2 H3 fun y H4 => ∃ acc, H4 D = some (.lst acc) ∧ acc.length < sizeLine ∧ Nx (upd H4 D (.lst (acc ++ [y]))) else Nx H3)
theorem filter_range_succ {p : Nat → Bool} {i : Nat} : (List.range (i + 1)).filter p = (List.range i).filter p ++ (if p i = true then [i] else []) := by
  rw [List.range_succ, List.filter_append]
  congr 1
  by_cases h : p i = true <;> simp [h]
theorem filter_len {α : Type} (p : α → Bool) (l : List α) : (l.filter p).length ≤ l.length := List.length_filter_le p l
theorem lc_rangeF {n : Nat} {D : Addr} {σ : L2.St} {vs : List Nat} {s : Nat} {tt : TT} {te : TE} {H1 : Hp} {Qd : Hp → Prop} (p : Nat → Bool) (f : Nat → V) (nD : H1 D = none) (hlen : n < 100000) (hw : ∀ v, wipe ((wipe σ vs).set s (some v)) vs = wipe σ vs)
    (ht : ∀ (i : Nat) H' (R : Bool → Hp → Prop), i < n → Same H1 H' → (∀ H'', Same H' H'' → R (p i) H'') → tt ((wipe σ vs).set s (some (.int (i : Int)))) H' R)
    (he : ∀ (i : Nat) H' (R : VK), i < n → p i = true → Same H1 H' → (∀ H'', Same H' H'' → R (f i) H'') → te ((wipe σ vs).set s (some (.int (i : Int)))) H' R)
    (hd : ∀ H', Same H1 H' → H' D = some (.lst (((List.range n).filter p).map f)) → Qd H') : CompO (Itr 0 n) (gName s) tt te vs σ H1 D Qd := by
  refine lc_range (lo := 0) (n := n) (fun i H' => Same H1 H' ∧ H' D = some (.lst (((List.range i).filter p).map f))) ⟨same_upd nD, upd_same⟩ (fun i H' hi ⟨s1, hD⟩ => ?_) (fun H' ⟨s1, hD⟩ => hd H' s1 hD)
  show wipe ((wipe σ vs).set s (some (.int (0 + (i : Int))))) vs = wipe σ vs ∧ _
  rw [show (0 : Int) + (i : Int) = (i : Int) by omega]
  refine ⟨hw _, ht i H' _ hi s1 fun H2 s2 => ?_⟩
  cases hp : p i with
  | true =>
    refine iteT ?_
    refine he i H2 _ hi hp (s1.trans s2) fun H3 s3 => ?_
    refine ⟨_, s3 _ _ (s2 _ _ hD), ?_, Same.mut ((s1.trans s2).trans s3) nD, ?_⟩
    · have := filter_len p (List.range i)
      rw [List.length_map]
      rw [List.length_range] at this
      exact szlt (by omega)
    · rw [upd_same, filter_range_succ, hp, if_pos rfl, List.map_append]
      rfl
  | false =>
    refine iteF ?_
    refine ⟨s1.trans s2, ?_⟩
    rw [s2 _ _ hD, filter_range_succ, hp, if_neg (by decide), List.append_nil]
theorem lc_rangeM {n : Nat} {D : Addr} {σ : L2.St} {vs : List Nat} {s : Nat} {te : TE} {H1 : Hp} {Qd : Hp → Prop} (f : Nat → V) (nD : H1 D = none) (hlen : n < 100000) (hw : ∀ v, wipe ((wipe σ vs).set s (some v)) vs = wipe σ vs)
    (he : ∀ (i : Nat) H' (R : VK), i < n → Same H1 H' → (∀ H'', Same H' H'' → R (f i) H'') → te ((wipe σ vs).set s (some (.int (i : Int)))) H' R)
    (hd : ∀ H', Same H1 H' → H' D = some (.lst ((List.range n).map f)) → Qd H') : CompO (Itr 0 n) (gName s) tYes te vs σ H1 D Qd :=
  lc_rangeF (fun _ => true) f nD hlen hw (fun i H' R _ _ q => q H' (Same.refl _)) (fun i H' R hi _ s1 q => he i H' R hi s1 q) (fun H' s1 h => hd H' s1 (by rw [h, List.filter_eq_self.mpr (fun _ _ => rfl)]))
theorem take_filter_succ {α : Type} {p : α → Bool} {xs : List α} {i : Nat} {x : α} (h : xs[i]? = some x) : (xs.take (i + 1)).filter p = (xs.take i).filter p ++ (if p x = true then [x] else []) := by
  rw [List.take_add_one, h, List.filter_append]
  congr 1
  by_cases hp : p x = true <;> simp [hp]
/-- over a list: the target of any form stores at some slots; T: what it leaves -/
theorem lc_listG {K : PySem.W.Frag} {a D : Addr} {xs : List V} {g : TG} {σ : L2.St} {vs : List Nat} {tt : TT} {te : TE} {H1 : Hp} {Qd : Hp → Prop} (T : V → L2.St) (p : V → Bool) (f : V → V) (hL : SqL K H1 a xs) (nD : H1 D = none) (hlen : xs.length < 100000)
    (hg : ∀ x H' (R : L2.St → Hp → Prop), x ∈ xs → Same H1 H' → R (T x) H' → g x (wipe σ vs) H' R) (hw : ∀ x ∈ xs, wipe (T x) vs = wipe σ vs)
    (ht : ∀ x H' (R : Bool → Hp → Prop), x ∈ xs → Same H1 H' → (∀ H'', Same H' H'' → R (p x) H'') → tt (T x) H' R)
    (he : ∀ x H' (R : VK), x ∈ xs → p x = true → Same H1 H' → (∀ H'', Same H' H'' → R (f x) H'') → te (T x) H' R)
    (hd : ∀ H', Same H1 H' → H' D = some (.lst ((xs.filter p).map f)) → Qd H') : CompO (Itl K a) g tt te vs σ H1 D Qd := by
  refine lc_list (K := K) (a := a) (xs := xs) (fun i H' => Same H1 H' ∧ H' D = some (.lst (((xs.take i).filter p).map f))) ⟨same_upd nD, upd_same⟩ (fun i H' _ ⟨s1, _⟩ => s1.seq hL) (fun i x H' hx ⟨s1, hD⟩ => ?_) (fun H' ⟨s1, hD⟩ => hd H' s1 (by rw [hD, List.take_length]))
  have hm := List.mem_of_getElem? hx
  refine hg x H' _ hm s1 ⟨hw x hm, ht x H' _ hm s1 fun H2 s2 => ?_⟩
  have hi : i < xs.length := (List.getElem?_eq_some_iff.mp hx).1
  cases hp : p x with
  | true =>
    refine iteT ?_
    refine he x H2 _ hm hp (s1.trans s2) fun H3 s3 => ?_
    refine ⟨_, s3 _ _ (s2 _ _ hD), ?_, Same.mut ((s1.trans s2).trans s3) nD, ?_⟩
    · have := filter_len p (xs.take i)
      rw [List.length_map]
      rw [List.length_take] at this
      exact szlt (by omega)
    · rw [upd_same, take_filter_succ hx, hp, if_pos rfl, List.map_append]
      rfl
  | false =>
    refine iteF ?_
    refine ⟨s1.trans s2, ?_⟩
    rw [s2 _ _ hD, take_filter_succ hx, hp, if_neg (by decide), List.append_nil]
theorem lc_listM {K : PySem.W.Frag} {a D : Addr} {xs : List V} {s : Nat} {σ : L2.St} {vs : List Nat} {te : TE} {H1 : Hp} {Qd : Hp → Prop} (f : V → V) (hL : SqL K H1 a xs) (nD : H1 D = none) (hlen : xs.length < 100000)
    (hw : ∀ v, wipe ((wipe σ vs).set s (some v)) vs = wipe σ vs)
    (he : ∀ x H' (R : VK), x ∈ xs → Same H1 H' → (∀ H'', Same H' H'' → R (f x) H'') → te ((wipe σ vs).set s (some x)) H' R)
    (hd : ∀ H', Same H1 H' → H' D = some (.lst (xs.map f)) → Qd H') : CompO (Itl K a) (gName s) tYes te vs σ H1 D Qd :=
  lc_listG (fun x => (wipe σ vs).set s (some x)) (fun _ => true) f hL nD hlen (fun x H' R _ _ q => q) (fun x _ => hw x) (fun x H' R _ _ q => q H' (Same.refl _)) (fun x H' R hx _ s1 q => he x H' R hx s1 q)
    (fun H' s1 h => hd H' s1 (by rw [h, List.filter_eq_self.mpr (fun _ _ => rfl)]))
theorem IL_mapR (n : Nat) (f : Nat → Int) : (List.range n).map (fun i => V.int (f i)) = IL ((List.range n).map f) := by rw [IL, List.map_map]; rfl
theorem IL_mapL (xs : List Int) (f : V → V) (h : Int → Int) (e : ∀ x, f (.int x) = .int (h x)) : (IL xs).map f = IL (xs.map h) := by
  rw [IL, IL, List.map_map, List.map_map]
  exact List.map_congr_left fun x _ => e x
theorem lc_range2M {lo : Int} {n : Nat} {D : Addr} {σ : L2.St} {vs : List Nat} {s : Nat} {te : TE} {H1 : Hp} {Qd : Hp → Prop} (f : Nat → V) (nD : H1 D = none) (hlen : n < 100000) (hw : ∀ v, wipe ((wipe σ vs).set s (some v)) vs = wipe σ vs)
    (he : ∀ (i : Nat) H' (R : VK), i < n → Same H1 H' → (∀ H'', Same H' H'' → R (f i) H'') → te ((wipe σ vs).set s (some (.int (lo + (i : Int))))) H' R)
    (hd : ∀ H', Same H1 H' → H' D = some (.lst ((List.range n).map f)) → Qd H') : CompO (Itr lo n) (gName s) tYes te vs σ H1 D Qd := by
  refine lc_range (lo := lo) (n := n) (fun i H' => Same H1 H' ∧ H' D = some (.lst ((List.range i).map f))) ⟨same_upd nD, upd_same⟩ (fun i H' hi ⟨s1, hD⟩ => ?_) (fun H' ⟨s1, hD⟩ => hd H' s1 hD)
  refine ⟨hw _, ?_⟩
  refine rd_tYes ?_
  refine iteT ?_
  refine he i H' _ hi s1 fun H3 s3 => ?_
  refine ⟨_, s3 _ _ hD, ?_, Same.mut (s1.trans s3) nD, ?_⟩
  · rw [List.length_map, List.length_range]
    exact szlt (by omega)
  · rw [upd_same, List.range_succ, List.map_append]
    rfl

/-! ## zip, slices, all -/
theorem for_zipS {K : PySem.W.Frag} {a b : Addr} {xs ys : List V} {g : TG} {tb : TS} {D : Ends} {σ : L2.St} {H : Hp} (hl : ys.length ≤ xs.length) (Pv : Nat → L2.St → Hp → Prop) (h0 : Pv 0 σ H) (hq : ∀ i σ H, Pv i σ H → SqL K H a xs ∧ SqL K H b ys)
    (hs : ∀ (i : Nat) (x y : V) (T : Addr) (σ : L2.St) (H : Hp), xs[i]? = some x → ys[i]? = some y → Pv i σ H → H T = none → g (.ref T) σ (upd H T (.tup [x, y])) fun σ2 H2 => tb { D with nx := Pv (i + 1), ct := Pv (i + 1), bk := D.nx } σ2 H2) (hd : ∀ σ H, Pv ys.length σ H → D.nx σ H) :
    ∃ W : Nat → Nat → L2.St → Hp → Prop, (∃ m, W 0 m σ H) ∧ ∀ i m σ H, W i m σ H →
      ((Itz K a b).stop i H ∧ D.nx σ H) ∨ ((Itz K a b).go i H ∧ ∃ N : L2.St → Hp → Prop, (∀ σ' H', N σ' H' → ∃ m', m' < m ∧ W (i + 1) m' σ' H') ∧ ∀ v H', (Itz K a b).yld i H v H' → g v σ H' fun σ2 H2 => tb { D with nx := N, ct := N, bk := D.nx } σ2 H2) := by
  refine ⟨fun i m σ H => m = ys.length - i ∧ i ≤ ys.length ∧ Pv i σ H, ⟨ys.length, rfl, Nat.zero_le _, h0⟩, ?_⟩
  rintro i m σ H ⟨rfl, hi, p⟩
  obtain ⟨qx, qy⟩ := hq i σ H p
  by_cases hlt : i < ys.length
  · have hlt2 : i < xs.length := by omega
    have hx : xs[i]? = some xs[i] := List.getElem?_eq_getElem hlt2
    have hy : ys[i]? = some ys[i] := List.getElem?_eq_getElem hlt
    refine .inr ⟨⟨xs, ys, _, _, qx, qy, hx, hy⟩, Pv (i + 1), fun σ' H' p' => ⟨ys.length - (i + 1), by omega, rfl, hlt, p'⟩, fun v H' y => ?_⟩
    obtain ⟨T, x', y', rfl, hT, rfl, f1, f2⟩ := y
    exact hs i x' y' T σ H (f1 xs qx) (f2 ys qy) p hT
  · have e : i = ys.length := by omega
    subst e
    exact .inl ⟨⟨xs, ys, qx, qy, Or.inr (Nat.le_refl _)⟩, hd σ H p⟩
theorem cut1 (xs : List V) : cutV xs (some 1) none = xs.drop 1 := by
  unfold cutV
  rw [show HT.sIx xs.length 0 (some 1) = min 1 xs.length from HT.sIx_nat xs.length 0 1, HT.sIx_none]
  cases xs with
  | nil => rfl
  | cons x r =>
    rw [show min 1 (x :: r).length = 1 by
      rw [List.length_cons]
      omega]
    show (List.take ((x :: r).length - 1) r) = r
    rw [List.length_cons, Nat.add_sub_cancel]
    exact List.take_length
theorem cutL (xs : List V) (h : xs ≠ []) : cutV xs none (some (-1)) = xs.dropLast := by
  unfold cutV
  rw [HT.sIx_none]
  have : 0 < xs.length := List.length_pos_iff.mpr h
  have e : HT.sIx xs.length xs.length (some (-1)) = xs.length - 1 := by
    unfold HT.sIx
    simp only
    rw [if_pos (by decide)]
    omega
  rw [e, List.drop_zero, Nat.sub_zero, List.dropLast_eq_take]
theorem rd_sl {K : PySem.W.Frag} {te : TE} {tl th : TO} {σ : L2.St} {H : Hp} {Q : VK} (q : te σ H fun x H1 => tl σ H1 fun l H2 => th σ H2 fun u H3 => rSlL K x l u H3 Q) : tSl (rSlL K) te tl th σ H Q := q
theorem rd_noPart {σ : L2.St} {H : Hp} {Q : Option Int → Hp → Prop} (q : Q none H) : tNoPart σ H Q := q
theorem rd_part {t : TE} {σ : L2.St} {H : Hp} {Q : Option Int → Hp → Prop} (q : t σ H fun x H1 => ∃ i, x = .int i ∧ Q (some i) H1) : tPart t σ H Q := q
theorem rd_cut0 {K : PySem.W.Frag} {a : Addr} {xs : List V} {lo hi : Option Int} {H : Hp} {Q : VK} (h : SqL K H a xs) (q : ∀ p, H p = none → Q (.ref p) (upd H p (.lst (cutV xs lo hi)))) : rSlL K (.ref a) lo hi H Q := ⟨a, xs, rfl, h, q⟩
theorem rd_allP {α : Type} {K : PySem.W.Frag} {H : Hp} {a : Addr} {Q : VK} {l : List α} {f : α → V} (p : α → Bool) (hf : ∀ x ∈ l, f x = .bl (p x)) (h : H a = some (.lst (l.map f))) (q : Q (.bl (l.all p)) H) : rAll K [.ref a] H Q := by
  refine ⟨a, l.map p, rfl, .of ?_, ?_⟩
  · rw [h, List.map_map]
    exact congrArg (fun z => some (HO.lst z)) (List.map_congr_left hf)
  · rw [List.all_map]
    exact q
theorem rd_anyP {α : Type} {K : PySem.W.Frag} {H : Hp} {a : Addr} {Q : VK} {l : List α} {f : α → V} (p : α → Bool) (hf : ∀ x ∈ l, f x = .bl (p x)) (h : H a = some (.lst (l.map f))) (q : Q (.bl (l.any p)) H) : rAny K [.ref a] H Q := by
  refine ⟨a, l.map p, rfl, .of ?_, ?_⟩
  · rw [h, List.map_map]
    exact congrArg (fun z => some (HO.lst z)) (List.map_congr_left hf)
  · rw [List.any_map]
    exact q
theorem pi_zipK {X : Cx} {K : PySem.W.Frag} {e e2 : Expr} {ta : TA} {p pos tpos : Pos} {elts : List Expr} {kk : Nat} (h : X.K = K) (hg : Gl X "zip") (hm : X.mg "zip" = none) (ha : PA X [e, e2] ta)
    (hs : starEach [e, e2] X.env = (false, eval e X.env) :: starEach [e2] X.env := by rfl) (hpl : (backTo pos (starEach [e2] X.env)).any (·.1) = false := by rfl) :
    PI X (.Tuple elts kk tpos) (.Call (.Name "zip" p) [e, e2] [] pos) (iZip K ta) := by subst h; exact pi_zip hg hm ha hs hpl
theorem rd_zip {K : PySem.W.Frag} {ta : TA} {σ : L2.St} {H : Hp} {R : It → Hp → Prop} (q : ta σ H fun vs H1 => ∃ a b xs ys, vs = [.ref a, .ref b] ∧ SqL K H1 a xs ∧ SqL K H1 b ys ∧ R (Itz K a b) H1) : iZip K ta σ H R := q
theorem rd_in1 {i : Int} {R : Int → Prop} (q : R i) : ∃ j, V.int i = .int j ∧ R j := ⟨i, rfl, q⟩

/-! ## a <= b < c < d as a test -/
def tChain3 (r r' r'' : R2) (ta tb tc td : TE) : TE := fun σ H Q => ta σ H fun x H1 => tb σ H1 fun y H2 => r x y H2 fun z H3 => ∃ k, z = .bl k ∧
  (if k = true then tc σ H3 fun u H4 => r' y u H4 fun z2 H5 => ∃ k2, z2 = .bl k2 ∧ (if k2 = true then td σ H5 fun u2 H6 => r'' u u2 H6 Q else Q (.bl false) H5) else Q (.bl false) H3)
theorem pt_chain3 {X : Cx} {a b c d : Expr} {ta tb tc td : TE} {pos : Pos} {op op' op'' : CmpOp} {r r' r'' : R2} (ho : OpR X (compareOp op) r) (ho' : OpR X (compareOp op') r') (ho'' : OpR X (compareOp op'') r'') (ha : PE X a ta) (hb : PE X b tb) (hc : PE X c tc) (hd : PE X d td)
    (hm : lastMarks [op, op', op''] [b, c, d] = false := by with_unfolding_all rfl) : PT X (.Compare a [op, op', op''] [b, c, d] pos) (tTest (tChain3 r r' r'' ta tb tc td)) := by
  refine ⟨fun pins s σ H Q I h => ?_⟩
  refine isTrue_chain (thn (ha.run pins s σ H _ I h) fun v s1 ⟨x, H1, I1, r1, q1⟩ => test_link (thn (hb.run pins s1 σ H1 _ I1 q1) fun u s2 ⟨y, H2, I2, r2, q2⟩ =>
    thn (ho pins s2 σ H2 x y v u _ I2 r1 r2 q2) fun d s3 ⟨z, H3, I3, r3, k, e, q3⟩ => ?_)) hm
  subst e
  cases r3
  refine wpAny_truthy_bool ?_
  cases k with
  | false =>
    obtain ⟨k', e', q'⟩ := q3
    cases e'
    exact ite_ff ⟨H3, I3, q'⟩
  | true =>
    refine ite_tt (test_link (thn (hc.run pins s3 σ H3 _ I3 q3) fun w' s4 ⟨z', H4, I4, r4, q4⟩ => thn (ho' pins s4 σ H4 y z' u w' _ I4 r2 r4 q4) fun d' s5 ⟨z2, H5, I5, r5, k2, e2, q5⟩ => ?_))
    subst e2
    cases r5
    refine wpAny_truthy_bool ?_
    cases k2 with
    | false =>
      obtain ⟨k', e', q'⟩ := q5
      cases e'
      exact ite_ff ⟨H5, I5, q'⟩
    | true =>
      refine ite_tt (test_last (thn (hd.run pins s5 σ H5 _ I5 q5) fun w2 s6 ⟨z6, H6, I6, r6, q6⟩ => thn (ho'' pins s6 σ H6 z' z6 w' w2 _ I6 r4 r6 q6) fun d3 s7 ⟨z7, H7, I7, r7, k7, e7, q7⟩ => ?_))
      subst e7
      cases r7
      exact wpAny_truthy_bool ⟨H7, I7, q7⟩
theorem rd_chain3 {r r' r'' : R2} {ta tb tc td : TE} {σ : L2.St} {H : Hp} {Q : VK} (q : ta σ H fun x H1 => tb σ H1 fun y H2 => r x y H2 fun z H3 => ∃ k, z = .bl k ∧
  (if k = true then tc σ H3 fun u H4 => r' y u H4 fun z2 H5 => ∃ k2, z2 = .bl k2 ∧ (if k2 = true then td σ H5 fun u2 H6 => r'' u u2 H6 Q else Q (.bl false) H5) else Q (.bl false) H3)) : tChain3 r r' r'' ta tb tc td σ H Q := q

/-! ## lists of ints, lists of pairs, compared -/
def dI (ns : List Int) : PyData := .list (ns.map PyData.int)
theorem depthAll_ints : ∀ ns : List Int, PyData.depthAll (ns.map PyData.int) ≤ 1
  | [] => by simp [PyData.depthAll]
  | n :: ns => by
    have ih := depthAll_ints ns
    simp only [List.map_cons, PyData.depthAll, PyData.depth]
    omega
theorem layAll_ints : ∀ ns : List Int, PyData.canLayAll0 (ns.map PyData.int) = true
  | [] => by simp [PyData.canLayAll0]
  | n :: ns => by
    have ih := layAll_ints ns
    simp [PyData.canLayAll0, PyData.canLay0, ih]
theorem shaped_dI (ns : List Int) : SeqAt.shaped (dI ns) = true := by
  have h := depthAll_ints ns
  have h2 := layAll_ints ns
  unfold SeqAt.shaped dI
  rw [Bool.and_eq_true]
  refine ⟨by simpa only [PyData.canLay0] using h2, decide_eq_true ?_⟩
  show PyData.depthAll (ns.map PyData.int) + 1 ≤ 64
  omega
theorem eqvAll_ints : ∀ xs ys : List Int, PyData.eqvAll (xs.map PyData.int) (ys.map PyData.int) = decide (xs = ys)
  | [], [] => by simp [PyData.eqvAll]
  | [], y :: ys => by simp [PyData.eqvAll]
  | x :: xs, [] => by simp [PyData.eqvAll]
  | x :: xs, y :: ys => by
    have ih := eqvAll_ints xs ys
    simp only [List.map_cons, PyData.eqvAll, PyData.eqv, ih]
    by_cases h : x = y <;> by_cases h2 : xs = ys <;> simp [h, h2]
theorem eqv_dI (xs ys : List Int) : PyData.eqv (dI xs) (dI ys) = decide (xs = ys) := by
  unfold dI
  rw [PyData.eqv]
  exact eqvAll_ints xs ys
theorem dpAll_ints {K : PySem.W.Frag} {H : Hp} : ∀ ns : List Int, DpAll K H (IL ns) (ns.map PyData.int)
  | [] => .nil
  | n :: ns => .cons (.int n) (dpAll_ints ns)
theorem dp_ints {K : PySem.W.Frag} {H : Hp} {a : Addr} {ns : List Int} (h : SqL K H a (IL ns)) : Dp K H (.ref a) (dI ns) := .lst h (dpAll_ints ns)
theorem rd_neI {K : PySem.W.Frag} {H : Hp} {a b : Addr} {xs ys : List Int} {Q : VK} (ha : SqL K H a (IL xs)) (hb : SqL K H b (IL ys)) (q : Q (.bl (!decide (xs = ys))) H) : rNeD K (.ref a) (.ref b) H Q :=
  ⟨_, _, dp_ints ha, dp_ints hb, shaped_dI _, shaped_dI _, by rw [eqv_dI]; exact q⟩
theorem rd_eqI {K : PySem.W.Frag} {H : Hp} {a b : Addr} {xs ys : List Int} {Q : VK} (ha : SqL K H a (IL xs)) (hb : SqL K H b (IL ys)) (q : Q (.bl (decide (xs = ys))) H) : rEqD K (.ref a) (.ref b) H Q :=
  ⟨_, _, dp_ints ha, dp_ints hb, shaped_dI _, shaped_dI _, by rw [eqv_dI]; exact q⟩
/-- a list of pairs of ints -/
def Prs (K : PySem.W.Frag) (H : Hp) (vs : List V) (ps : List (Int × Int)) : Prop := Paired (fun v p => ∃ t, v = V.ref t ∧ SqT K H t [.int p.1, .int p.2]) vs ps
def dpr (p : Int × Int) : PyData := .tuple [.int p.1, .int p.2]
def dP (ps : List (Int × Int)) : PyData := .list (ps.map dpr)
theorem Prs.mono {K : PySem.W.Frag} {H H' : Hp} {vs : List V} {ps : List (Int × Int)} (s : Same H H') (h : Prs K H vs ps) : Prs K H' vs ps := by
  unfold Prs at h ⊢
  exact Paired.mapP h fun v p ⟨t, e, q⟩ => ⟨t, e, Same.seqT s q⟩
theorem depthAll_prs : ∀ ps : List (Int × Int), PyData.depthAll (ps.map dpr) ≤ 3
  | [] => by simp [PyData.depthAll]
  | p :: ps => by
    have ih := depthAll_prs ps
    simp only [List.map_cons, PyData.depthAll, PyData.depth, dpr]
    omega
theorem layAll_prs : ∀ ps : List (Int × Int), PyData.canLayAll0 (ps.map dpr) = true
  | [] => by simp [PyData.canLayAll0]
  | p :: ps => by
    have ih := layAll_prs ps
    simp [PyData.canLayAll0, PyData.canLay0, dpr, ih]
theorem shaped_dP (ps : List (Int × Int)) : SeqAt.shaped (dP ps) = true := by
  have h := depthAll_prs ps
  have h2 := layAll_prs ps
  unfold SeqAt.shaped dP
  rw [Bool.and_eq_true]
  refine ⟨by simpa only [PyData.canLay0] using h2, decide_eq_true ?_⟩
  show PyData.depthAll (ps.map dpr) + 1 ≤ 64
  omega
theorem eqv_dpr (p q : Int × Int) : PyData.eqv (dpr p) (dpr q) = decide (p = q) := by
  obtain ⟨a, b⟩ := p
  obtain ⟨c, d⟩ := q
  unfold dpr
  simp only [PyData.eqv, PyData.eqvAll, Bool.and_true]
  by_cases h : a = c <;> by_cases h2 : b = d <;> simp [h, h2]
theorem eqvAll_prs : ∀ xs ys : List (Int × Int), PyData.eqvAll (xs.map dpr) (ys.map dpr) = decide (xs = ys)
  | [], [] => by simp [PyData.eqvAll]
  | [], y :: ys => by simp [PyData.eqvAll]
  | x :: xs, [] => by simp [PyData.eqvAll]
  | x :: xs, y :: ys => by
    have ih := eqvAll_prs xs ys
    simp only [List.map_cons, PyData.eqvAll, eqv_dpr, ih]
    by_cases h : x = y <;> by_cases h2 : xs = ys <;> simp [h, h2]
theorem eqv_dP (xs ys : List (Int × Int)) : PyData.eqv (dP xs) (dP ys) = decide (xs = ys) := by
  unfold dP
  rw [PyData.eqv]
  exact eqvAll_prs xs ys
theorem dp_pr {K : PySem.W.Frag} {H : Hp} {t : Addr} {p : Int × Int} (h : SqT K H t [.int p.1, .int p.2]) : Dp K H (.ref t) (dpr p) := .tup h (.cons (.int _) (.cons (.int _) .nil))
theorem dpAll_prs {K : PySem.W.Frag} {H : Hp} {vs : List V} {ps : List (Int × Int)} (h : Prs K H vs ps) : DpAll K H vs (ps.map dpr) := by
  unfold Prs at h
  induction h with
  | nil => exact .nil
  | cons r t ih =>
    obtain ⟨a, rfl, q⟩ := r
    exact .cons (dp_pr q) ih
theorem dp_prs {K : PySem.W.Frag} {H : Hp} {a : Addr} {vs : List V} {ps : List (Int × Int)} (h : SqL K H a vs) (hp : Prs K H vs ps) : Dp K H (.ref a) (dP ps) := .lst h (dpAll_prs hp)
theorem rd_neP {K : PySem.W.Frag} {H : Hp} {a b : Addr} {vs us : List V} {xs ys : List (Int × Int)} {Q : VK} (ha : SqL K H a vs) (pa : Prs K H vs xs) (hb : SqL K H b us) (pb : Prs K H us ys) (q : Q (.bl (!decide (xs = ys))) H) : rNeD K (.ref a) (.ref b) H Q :=
  ⟨_, _, dp_prs ha pa, dp_prs hb pb, shaped_dP _, shaped_dP _, by rw [eqv_dP]; exact q⟩
theorem rd_eqP {K : PySem.W.Frag} {H : Hp} {a b : Addr} {vs us : List V} {xs ys : List (Int × Int)} {Q : VK} (ha : SqL K H a vs) (pa : Prs K H vs xs) (hb : SqL K H b us) (pb : Prs K H us ys) (q : Q (.bl (decide (xs = ys))) H) : rEqD K (.ref a) (.ref b) H Q :=
  ⟨_, _, dp_prs ha pa, dp_prs hb pb, shaped_dP _, shaped_dP _, by rw [eqv_dP]; exact q⟩
theorem Prs.upd {K : PySem.W.Frag} {H : Hp} {D : Addr} {ys vs : List V} {o : HO} {ps : List (Int × Int)} (hD : H D = some (.lst ys)) (h : Prs K H vs ps) : Prs K (upd H D o) vs ps := by
  unfold Prs at h ⊢
  exact Paired.mapP h fun v p ⟨t, e, q⟩ => ⟨t, e, SqT.upd hD q⟩
theorem Prs.snoc {K : PySem.W.Frag} {H : Hp} {vs : List V} {ps : List (Int × Int)} {t : Addr} {p : Int × Int} (h : Prs K H vs ps) (ht : SqT K H t [.int p.1, .int p.2]) : Prs K H (vs ++ [.ref t]) (ps ++ [p]) :=
  Paired.snoc h ⟨t, rfl, ht⟩
theorem Prs.length {K : PySem.W.Frag} {H : Hp} {vs : List V} {ps : List (Int × Int)} (h : Prs K H vs ps) : vs.length = ps.length := Paired.length h

/-! ## pairs that are tracked -/
def PrsH (H : Hp) (vs : List V) (ps : List (Int × Int)) : Prop := Paired (fun v p => ∃ t, v = V.ref t ∧ H t = some (.tup [.int p.1, .int p.2])) vs ps
theorem PrsH.prs {K : PySem.W.Frag} {H : Hp} {vs : List V} {ps : List (Int × Int)} (h : PrsH H vs ps) : Prs K H vs ps := by
  unfold PrsH at h
  unfold Prs
  exact Paired.mapP h fun v p ⟨t, e, q⟩ => ⟨t, e, .of q⟩
theorem PrsH.mono {H H' : Hp} {vs : List V} {ps : List (Int × Int)} (s : Same H H') (h : PrsH H vs ps) : PrsH H' vs ps := by
  unfold PrsH at h ⊢
  exact Paired.mapP h fun v p ⟨t, e, q⟩ => ⟨t, e, s _ _ q⟩
theorem PrsH.upd {H : Hp} {D : Addr} {ys vs : List V} {o : HO} {ps : List (Int × Int)} (hD : H D = some (.lst ys)) (h : PrsH H vs ps) : PrsH (upd H D o) vs ps := by
  unfold PrsH at h ⊢
  exact Paired.mapP h fun v p ⟨t, e, q⟩ => ⟨t, e, by rw [upd_ne (ne_of q hD (by intro z; cases z))]; exact q⟩
theorem PrsH.snoc {H : Hp} {vs : List V} {ps : List (Int × Int)} {t : Addr} {p : Int × Int} (h : PrsH H vs ps) (ht : H t = some (.tup [.int p.1, .int p.2])) : PrsH H (vs ++ [.ref t]) (ps ++ [p]) := Paired.snoc h ⟨t, rfl, ht⟩
theorem Prs.get {K : PySem.W.Frag} {H : Hp} {vs : List V} {ps : List (Int × Int)} (h : Prs K H vs ps) : ∀ {i : Nat} {v : V}, vs[i]? = some v → ∃ t p, ps[i]? = some p ∧ v = .ref t ∧ SqT K H t [.int p.1, .int p.2] := by
  unfold Prs at h
  induction h with
  | nil => intro i v h; simp at h
  | cons r t ih =>
    intro i v hv
    cases i with
    | zero =>
      obtain ⟨a, rfl, q⟩ := r
      exact ⟨a, _, rfl, (Option.some.inj hv).symm, q⟩
    | succ i => exact ih hv
theorem PrsH.get {H : Hp} {vs : List V} {ps : List (Int × Int)} (h : PrsH H vs ps) : ∀ {i : Nat} {v : V}, vs[i]? = some v → ∃ t p, ps[i]? = some p ∧ v = .ref t ∧ H t = some (.tup [.int p.1, .int p.2]) := by
  unfold PrsH at h
  induction h with
  | nil => intro i v h; simp at h
  | cons r t ih =>
    intro i v hv
    cases i with
    | zero =>
      obtain ⟨a, rfl, q⟩ := r
      exact ⟨a, _, rfl, (Option.some.inj hv).symm, q⟩
    | succ i => exact ih hv
theorem PrsH.length {H : Hp} {vs : List V} {ps : List (Int × Int)} (h : PrsH H vs ps) : vs.length = ps.length := Paired.length h
theorem lc_rangeP {n : Nat} {D : Addr} {σ : L2.St} {vs : List Nat} {s : Nat} {te : TE} {H1 : Hp} {Qd : Hp → Prop} (f : Nat → Int × Int) (nD : H1 D = none) (hlen : n < 100000) (hw : ∀ v, wipe ((wipe σ vs).set s (some v)) vs = wipe σ vs)
    (he : ∀ (i : Nat) H' (R : VK), i < n → Same H1 H' → (∀ t, H' t = none → R (.ref t) (L2.upd H' t (.tup [.int (f i).1, .int (f i).2]))) → te ((wipe σ vs).set s (some (.int (i : Int)))) H' R)
    (hd : ∀ H' ys, Same H1 H' → H' D = some (.lst ys) → PrsH H' ys ((List.range n).map f) → Qd H') : CompO (Itr 0 n) (gName s) tYes te vs σ H1 D Qd := by
  refine lc_range (lo := 0) (n := n) (fun i H' => Same H1 H' ∧ ∃ ys, H' D = some (.lst ys) ∧ PrsH H' ys ((List.range i).map f)) ⟨same_upd nD, [], upd_same, .nil⟩ (fun i H' hi ⟨s1, ys, hD, hp⟩ => ?_) (fun H' ⟨s1, ys, hD, hp⟩ => hd H' ys s1 hD hp)
  show wipe ((wipe σ vs).set s (some (.int (0 + (i : Int))))) vs = wipe σ vs ∧ _
  rw [show (0 : Int) + (i : Int) = (i : Int) by omega]
  refine ⟨hw _, ?_⟩
  refine rd_tYes ?_
  refine iteT ?_
  refine he i H' _ hi s1 fun t nt => ?_
  have s2 := same_upd (o := .tup [.int (f i).1, .int (f i).2]) nt
  have ht : (L2.upd H' t (.tup [.int (f i).1, .int (f i).2])) t = some (.tup [.int (f i).1, .int (f i).2]) := upd_same
  refine ⟨_, s2 _ _ hD, ?_, Same.mut (s1.trans s2) nD, ys ++ [.ref t], upd_same, ?_⟩
  · rw [hp.length, List.length_map, List.length_range]
    exact szlt (by omega)
  · rw [List.range_succ, List.map_append]
    refine ((hp.mono s2).upd (s2 _ _ hD)).snoc ?_
    rw [upd_ne (ne_of ht (s2 _ _ hD) (by intro z; cases z))]
    exact ht
/-! ## dicts of pairs -/
theorem rd_dIn {ty td : TE} {σ : L2.St} {H : Hp} {Q : VK} (q : ty σ H fun y H1 => td σ H1 fun x H2 => ∃ a o, x = .ref a ∧ DGet H2 a y o ∧ Q (.bl o.isSome) H2) : tDIn ty td σ H Q := q
theorem rd_dNotIn {ty td : TE} {σ : L2.St} {H : Hp} {Q : VK} (q : ty σ H fun y H1 => td σ H1 fun x H2 => ∃ a o, x = .ref a ∧ DGet H2 a y o ∧ Q (.bl (!o.isSome)) H2) : tDNotIn ty td σ H Q := q
theorem rd_dput {td ty tv : TE} {D : Ends} {σ : L2.St} {H : Hp} (q : tv σ H fun v H1 => td σ H1 fun x H2 => ty σ H2 fun y H3 => ∃ a H4, x = .ref a ∧ DPut H3 a y v H4 ∧ D.nx σ H4) : sDPut td ty tv D σ H := q
theorem rd_dnewT {σ : L2.St} {H : Hp} {Q : VK} (q : ∀ p, H p = none → Q (.ref p) (L2.upd H p (.dT []))) : tDNewT σ H Q := q
/-- the keys of a dict are just these pairs -/
def Keys (kvs : List (List L2.Key × V)) (ps : List (Int × Int)) : Prop := kvs.length ≤ ps.length ∧ ∀ p : Int × Int, (valV kvs [.inl p.1, .inl p.2]).isSome = decide (p ∈ ps)
theorem Keys.nil : Keys [] [] := ⟨Nat.le_refl _, fun p => by simp [valV]⟩
theorem len_put {kvs : List (List L2.Key × V)} {k : List L2.Key} {v : V} : (putK kvs k v).length ≤ kvs.length + 1 := by
  unfold putK
  split
  · rw [List.length_map]
    omega
  · rw [List.length_append]
    exact Nat.le_refl _
theorem Keys.put {kvs : List (List L2.Key × V)} {ps : List (Int × Int)} {v : V} (h : Keys kvs ps) (p : Int × Int) : Keys (putK kvs [.inl p.1, .inl p.2] v) (ps ++ [p]) := by
  refine ⟨?_, fun q => ?_⟩
  · have := len_put (kvs := kvs) (k := [.inl p.1, .inl p.2]) (v := v)
    have := h.1
    rw [List.length_append]
    simp
    omega
  · rw [valV_put]
    by_cases e : q = p
    · subst e
      rw [if_pos rfl]
      simp
    · have : ¬ ([Sum.inl q.1, Sum.inl q.2] : List L2.Key) = [.inl p.1, .inl p.2] := fun z => e (by
        have h1 := List.cons.inj z
        have h2 := List.cons.inj h1.2
        exact Prod.ext (Sum.inl.inj h1.1) (Sum.inl.inj h2.1))
      rw [if_neg this, h.2 q]
      simp [e]
theorem keys_get {H : Hp} {a t : Addr} {kvs : List (List L2.Key × V)} {p : Int × Int} (hd : H a = some (.dT kvs)) (ht : H t = some (.tup [.int p.1, .int p.2])) : DGet H a (.ref t) (valV kvs [.inl p.1, .inl p.2]) := .t hd ht
theorem keys_put {H : Hp} {a t : Addr} {kvs : List (List L2.Key × V)} {p : Int × Int} {v : V} (hd : H a = some (.dT kvs)) (ht : H t = some (.tup [.int p.1, .int p.2])) (hl : kvs.length < 100000) :
    DPut H a (.ref t) v (L2.upd H a (.dT (putK kvs [.inl p.1, .inl p.2] v))) := .t hd ht (szlt hl)
theorem PrsH.updD {H : Hp} {D : Addr} {ks : List (List L2.Key × V)} {vs : List V} {o : HO} {ps : List (Int × Int)} (hD : H D = some (.dT ks)) (h : PrsH H vs ps) : PrsH (L2.upd H D o) vs ps := by
  unfold PrsH at h ⊢
  exact Paired.mapP h fun v p ⟨t, e, q⟩ => ⟨t, e, by rw [upd_ne (ne_of q hD (by intro z; cases z))]; exact q⟩

/-! ## the steps -/
local macro_rules | `(tactic| walk_at "rd1") => `(tactic| first
  | ((with_reducible refine' rd_var ?h ?_); (case h => rfl))
  | with_reducible refine rd_c ?_
  | with_reducible refine rd_op ?_
  | with_reducible refine rd_I0 ?_
  | with_reducible refine rd_cons ?_
  | with_reducible refine rd_nil ?_
  | with_reducible refine rd_un ?_
  | with_reducible refine rd_U ?_
  | ((with_reducible refine rd_eq ?h ?_); (case h => rfl))
  | ((with_reducible refine rd_ne ?h ?_); (case h => rfl))
  | with_reducible refine rd_cb ?_
  | with_reducible refine rd_call ?_
  | with_reducible refine rd_callS ?_
  | with_reducible refine rd_test ?_
  | with_reducible refine rd_tB ?_
  | with_reducible refine rd_bl ?_
  | with_reducible refine rd_not ?_
  | with_reducible refine rd_and ?_
  | with_reducible refine rd_or ?_
  | with_reducible refine rd_andV ?_
  | with_reducible refine rd_orV ?_
  | with_reducible refine rd_notV ?_
  | with_reducible refine rd_if ?_
  | with_reducible refine rd_seq ?_
  | with_reducible refine rd_asg ?_
  | with_reducible refine rd_name ?_
  | ((with_reducible refine' rd_aug ?h ?_); (case h => rfl))
  | with_reducible refine rd_ipI ?_
  | with_reducible refine rd_gSub ?_
  | with_reducible refine rd_ret ?_
  | with_reducible refine rd_drop ?_
  | with_reducible refine rd_ifS ?_
  | with_reducible refine rd_next ?_
  | with_reducible refine rd_cont ?_
  | with_reducible refine rd_tup ?_
  | with_reducible refine rd_lst ?_
  | with_reducible refine rd_for ?_
  | with_reducible refine rd_lc ?_
  | with_reducible refine rd_min2 ?_
  | with_reducible refine rd_max2 ?_
  | with_reducible refine rd_abs ?_
  | with_reducible refine rd_dIn ?_
  | with_reducible refine rd_dNotIn ?_
  | with_reducible refine rd_dput ?_
  | with_reducible refine rd_dnewT ?_
  | with_reducible refine rd_chain3 ?_
  | with_reducible refine rd_sl ?_
  | with_reducible refine rd_noPart ?_
  | with_reducible refine rd_part ?_
  | with_reducible refine rd_zip ?_
  | with_reducible refine rd_in1 ?_
  | ((with_reducible refine' rd_cut0 ?h ?_); (case h => first | assumption | exact SqL.of (by assumption) | exact SqL.of upd_same))
  | with_reducible refine rd_chain ?_
  | ((with_reducible refine' rd_len ?h ?_); (case h => first | assumption | exact SqL.of (by assumption) | exact SqL.of upd_same))
  | ((with_reducible refine' rd_list ?h ?_); (case h => first | assumption | exact SqL.of (by assumption) | exact SqL.of upd_same))
  | with_reducible refine rd_isN ?_
  | with_reducible refine rd_notN ?_
  | with_reducible refine rd_tYes ?_
  | with_reducible refine iteT ?_
  | with_reducible refine iteF ?_
  | with_reducible refine iteNT ?_
  | with_reducible refine iteNF ?_
  | with_reducible refine rd_rng1 ?_
  | with_reducible refine rd_rng2 ?_
  | with_reducible refine rd_iList ?_
  | with_reducible refine rd_iTup ?_
  | with_reducible refine rd_bm ?_
  | with_reducible refine rd_bm0 ?_
  | ((with_reducible refine rd_I (C := CPow) ?c ?_); (case c => exact ⟨by decide, by decide, by decide⟩))
  | ((with_reducible refine rd_I (C := fun _ j => 0 < j) ?c ?_); (case c => (show (0 : Int) < _); first | omega | decide +kernel))
  | ((with_reducible refine rd_I (C := CDiv) ?c ?_); (case c => first | exact ⟨by decide, by decide⟩ | exact ⟨by omega, by omega⟩))
  | ((with_reducible refine rd_I (C := CMul) ?c ?_); (case c => first | exact .inr ⟨by omega, by omega⟩ | exact .inl ⟨by omega, by omega⟩))
  | ((with_reducible refine' rd_cell ?h0 ?h ?_); (case h => assumption); (case h0 => first | decide | omega)))
local macro_rules | `(tactic| walk_at "rd") => `(tactic| repeat walk_at "rd1")
local macro_rules | `(tactic| walk_at "rq1") => `(tactic| first
  | ((with_reducible refine' rd_var ?h ?_); (case h => rfl))
  | with_reducible refine rd_c ?_
  | with_reducible refine rd_op ?_
  | with_reducible refine rd_I0 ?_
  | with_reducible refine rd_cons ?_
  | with_reducible refine rd_nil ?_
  | with_reducible refine rd_un ?_
  | with_reducible refine rd_U ?_
  | ((with_reducible refine rd_eq ?h ?_); (case h => rfl))
  | ((with_reducible refine rd_ne ?h ?_); (case h => rfl))
  | with_reducible refine rd_cb ?_
  | with_reducible refine rd_call ?_
  | with_reducible refine rd_callS ?_
  | with_reducible refine rd_test ?_
  | with_reducible refine rd_tB ?_
  | with_reducible refine rd_bl ?_
  | with_reducible refine rd_not ?_
  | with_reducible refine rd_and ?_
  | with_reducible refine rd_or ?_
  | with_reducible refine rd_andV ?_
  | with_reducible refine rd_orV ?_
  | with_reducible refine rd_notV ?_
  | with_reducible refine rd_if ?_
  | with_reducible refine rd_asg ?_
  | with_reducible refine rd_name ?_
  | ((with_reducible refine' rd_aug ?h ?_); (case h => rfl))
  | with_reducible refine rd_ipI ?_
  | with_reducible refine rd_gSub ?_
  | with_reducible refine rd_ret ?_
  | with_reducible refine rd_drop ?_
  | with_reducible refine rd_ifS ?_
  | with_reducible refine rd_next ?_
  | with_reducible refine rd_cont ?_
  | with_reducible refine rd_tup ?_
  | with_reducible refine rd_lst ?_
  | with_reducible refine rd_for ?_
  | with_reducible refine rd_lc ?_
  | with_reducible refine rd_min2 ?_
  | with_reducible refine rd_max2 ?_
  | with_reducible refine rd_abs ?_
  | with_reducible refine rd_dIn ?_
  | with_reducible refine rd_dNotIn ?_
  | with_reducible refine rd_dput ?_
  | with_reducible refine rd_dnewT ?_
  | with_reducible refine rd_chain3 ?_
  | with_reducible refine rd_sl ?_
  | with_reducible refine rd_noPart ?_
  | with_reducible refine rd_part ?_
  | with_reducible refine rd_zip ?_
  | with_reducible refine rd_in1 ?_
  | ((with_reducible refine' rd_cut0 ?h ?_); (case h => first | assumption | exact SqL.of (by assumption) | exact SqL.of upd_same))
  | with_reducible refine rd_chain ?_
  | ((with_reducible refine' rd_len ?h ?_); (case h => first | assumption | exact SqL.of (by assumption) | exact SqL.of upd_same))
  | ((with_reducible refine' rd_list ?h ?_); (case h => first | assumption | exact SqL.of (by assumption) | exact SqL.of upd_same))
  | with_reducible refine rd_isN ?_
  | with_reducible refine rd_notN ?_
  | with_reducible refine rd_tYes ?_
  | with_reducible refine iteT ?_
  | with_reducible refine iteF ?_
  | with_reducible refine iteNT ?_
  | with_reducible refine iteNF ?_
  | with_reducible refine rd_rng1 ?_
  | with_reducible refine rd_rng2 ?_
  | with_reducible refine rd_iList ?_
  | with_reducible refine rd_iTup ?_
  | with_reducible refine rd_bm ?_
  | with_reducible refine rd_bm0 ?_
  | ((with_reducible refine rd_I (C := CPow) ?c ?_); (case c => exact ⟨by decide, by decide, by decide⟩))
  | ((with_reducible refine rd_I (C := fun _ j => 0 < j) ?c ?_); (case c => (show (0 : Int) < _); first | omega | decide +kernel))
  | ((with_reducible refine rd_I (C := CDiv) ?c ?_); (case c => first | exact ⟨by decide, by decide⟩ | exact ⟨by omega, by omega⟩))
  | ((with_reducible refine rd_I (C := CMul) ?c ?_); (case c => first | exact .inr ⟨by omega, by omega⟩ | exact .inl ⟨by omega, by omega⟩))
  | ((with_reducible refine' rd_cell ?h0 ?h ?_); (case h => assumption); (case h0 => first | decide | omega)))
local macro_rules | `(tactic| walk_at "rq") => `(tactic| repeat walk_at "rq1")

/-! ## isinstance(x, int) and not isinstance(x, bool) -/
/-- what the two questions answer of a value of the type t -/
def wholeT (K : PySem.W.Frag) (t : Value) (r : Bool) : Prop := ∃ b1 b2, PySem.W.kitOne K t (.type "int") = some b1 ∧ PySem.W.kitOne K t (.type "bool") = some b2 ∧ r = (b1 && !b2)
def Whole (K : PySem.W.Frag) (H : Hp) (x : V) (r : Bool) : Prop := ∃ t, TyX K H x t ∧ wholeT K t r
theorem whole_int {K : PySem.W.Frag} {H : Hp} {i : Int} : Whole K H (.int i) true := ⟨_, .base (.int i), true, false, kit_ty (by decide +kernel), kit_ty (by decide +kernel), rfl⟩
theorem whole_bl {K : PySem.W.Frag} {H : Hp} {b : Bool} : Whole K H (.bl b) false := ⟨_, .base (.bl b), true, true, kit_ty (by decide +kernel), kit_ty (by decide +kernel), rfl⟩
theorem whole_non {K : PySem.W.Frag} {H : Hp} : Whole K H .non false := ⟨_, .base .non, false, false, kit_ty (by decide +kernel), kit_ty (by decide +kernel), rfl⟩
theorem whole_str {K : PySem.W.Frag} {H : Hp} {z : Str} : Whole K H (.str z) false := ⟨_, .base (.str z), false, false, kit_ty (by decide +kernel), kit_ty (by decide +kernel), rfl⟩
theorem whole_lst {K : PySem.W.Frag} {H : Hp} {a : Addr} {xs : List V} (h : H a = some (.lst xs)) : Whole K H (.ref a) false := ⟨_, .base (.lst h), false, false, kit_ty (by decide +kernel), kit_ty (by decide +kernel), rfl⟩
theorem whole_tup {K : PySem.W.Frag} {H : Hp} {a : Addr} {xs : List V} (h : H a = some (.tup xs)) : Whole K H (.ref a) false := ⟨_, .base (.tup h), false, false, kit_ty (by decide +kernel), kit_ty (by decide +kernel), rfl⟩
def spWhole (K : PySem.W.Frag) : Sp := fun vs H Q _ => ∃ (x : V) (r : Bool), vs = [x] ∧ Whole K H x r ∧ Q (.bl r) H
theorem whole_run {K : PySem.W.Frag} {D : Ends} {H : Hp} {vs : List V} {E : XK} {N : List Str} (h : spWhole K vs H D.rt E) :
    tRet (tAndV (tCB (rIsi K) (tCons (tVar 0) (tCons (tC (.ty "int")) tNil))) (tNotV (tCB (rIsi K) (tCons (tVar 0) (tCons (tC (.ty "bool")) tNil))))) D (start N vs) H := by
  obtain ⟨x, r, rfl, ⟨t, ty, b1, b2, h1, h2, rfl⟩, q⟩ := h
  walk_at "rd"
  refine ⟨x, .ty "int", t, _, b1, rfl, .ty _, ty, h1, b1, rfl, ?_⟩
  cases b1 with
  | false => exact iteF q
  | true =>
    refine iteT ?_
    walk_at "rd"
    refine ⟨x, .ty "bool", t, _, b2, rfl, .ty _, ty, h2, b2, rfl, ?_⟩
    exact q

/-! ## texts by their code points -/
abbrev tx (l : List Nat) : V := .str (SX.S l)
theorem tx_inj {a b : List Nat} (h : tx a = tx b) : a = b := SX.S_inj (V.str.inj h)
theorem dec_tx {a b : List Nat} : decide (tx a = tx b) = decide (a = b) := decide_eq_decide.mpr ⟨tx_inj, fun h => by rw [h]⟩
theorem tx_of (x : Str) : V.str x = tx x.cps.toList := congrArg V.str (SX.S_tl x).symm
def dig (c : Nat) : Bool := decide (48 ≤ c) && decide (c ≤ 57)
def figs (l : List Nat) : List Nat := if l.take 1 = [45] then l.drop 1 else l
def valT (l : List Nat) : Int := if l.take 1 = [45] then -((NumText.digitsVal (figs l) : Nat) : Int) else ((NumText.digitsVal (figs l) : Nat) : Int)
def inB (i : Int) : Bool := decide (-1000000000000000000 ≤ i ∧ i ≤ 1000000000000000000)
/-- a word that is no number -/
def badW (l : List Nat) : Bool := decide (figs l = []) || decide (19 < (figs l).length) || !(figs l).all dig || (decide ((figs l).take 1 = [48]) && !decide (l = [48]))
/-- what height_of tells -/
def pH (l : List Nat) : Option Int := if badW l = true then none else some (valT l)
/-- what the law's own look tells -/
def lH (l : List Nat) : Option Int := if badW l = true then none else if inB (valT l) = true then some (valT l) else none
def oI : Option Int → V
  | none => .non
  | some i => .int i
theorem allDig {l : List Nat} (h : l.all dig = true) : NumText.AllDigits l := fun c hc => by
  have z := List.all_eq_true.mp h c hc
  unfold dig at z
  rw [Bool.and_eq_true, decide_eq_true_eq, decide_eq_true_eq] at z
  exact z
theorem take1 {l : List Nat} {c : Nat} (h : l.take 1 = [c]) : l = c :: l.drop 1 := by
  cases l with
  | nil => cases h
  | cons d r =>
    have : d = c := (List.cons.inj h).1
    subst this
    rfl
theorem figs_len (l : List Nat) : l.length ≤ (figs l).length + 1 := by
  unfold figs
  split
  · rw [List.length_drop]; omega
  · omega
theorem int_of {l : List Nat} (h : badW l = false) : intText? (SX.S l) = some (valT l) ∧ l.length ≤ 20 := by
  unfold badW at h
  simp only [Bool.or_eq_false_iff, decide_eq_false_iff_not, Bool.not_eq_false'] at h
  obtain ⟨⟨⟨h1, h2⟩, h3⟩, _⟩ := h
  have h4 := figs_len l
  refine ⟨?_, by omega⟩
  have d := allDig h3
  unfold valT
  by_cases c : l.take 1 = [45]
  · rw [if_pos c]
    have e : figs l = l.drop 1 := if_pos c
    rw [e] at d h1 ⊢
    exact intText_neg (x := SX.S l) (take1 c) d h1 (by rw [SX.S_len]; omega)
  · rw [if_neg c]
    have e : figs l = l := if_neg c
    rw [e] at d h1 h2 ⊢
    exact intText_digits (x := SX.S l) d h1 (by rw [SX.S_len]; omega)
/-! ### a number's text -/
def figL (z : Int) : List Nat := if z < 0 then 45 :: TL.numL z.natAbs else TL.numL z.natAbs
theorem str_int (z : Int) : (Str.ofString (toString z)) = SX.S (figL z) := by
  unfold figL
  by_cases h : z < 0
  · rw [if_pos h]
    refine TL.ext_tl ?_
    show (Str.ofString (toString z)).cps.toList = 45 :: TL.numL z.natAbs
    rw [PyProof.Rows.toString_neg h, PyProof.Rows.signs_ofString, String.toList_append, List.map_append, ← PyProof.Rows.signs_ofString (toString (0 - z))]
    have e : (0 - z : Int) = ((z.natAbs : Nat) : Int) := by omega
    rw [e]
    exact congrArg (fun q => [45] ++ q) (TL.tl_num z.natAbs)
  · rw [if_neg h]
    have e : z = ((z.natAbs : Nat) : Int) := by omega
    have := SX.num_S z.natAbs
    rw [← e] at this
    exact this
theorem numL_dig (n : Nat) : (TL.numL n).all dig = true := List.all_eq_true.mpr fun c hc => by
  have := TL.numL_digits n c hc
  unfold dig
  rw [Bool.and_eq_true, decide_eq_true_eq, decide_eq_true_eq]
  exact this
theorem numL_head (n : Nat) : n ≠ 0 → (TL.numL n).take 1 ≠ [48] := by
  induction n using Nat.strongRecOn with
  | _ n ih =>
    intro h0
    by_cases h : n < 10
    · rw [TL.numL_lt h]
      intro e
      have := (List.cons.inj e).1
      omega
    · rw [TL.numL_step (by omega)]
      have hne := TL.numL_ne (n / 10)
      have := ih (n / 10) (by omega) (by omega)
      cases e : TL.numL (n / 10) with
      | nil => exact absurd e hne
      | cons c r =>
        rw [e] at this
        exact this
theorem numL_no45 (n : Nat) : (TL.numL n).take 1 ≠ [45] := by
  intro e
  have : (45 : Nat) ∈ TL.numL n := by
    rw [take1 e]
    exact List.mem_cons_self
  exact TL.numL_free (by omega) this
theorem figs_figL (z : Int) : figs (figL z) = TL.numL z.natAbs := by
  unfold figL
  split
  · rfl
  · exact if_neg (numL_no45 _)
theorem valT_figL (z : Int) : valT (figL z) = z := by
  unfold valT
  rw [figs_figL, TL.numL_val]
  unfold figL
  by_cases h : z < 0
  · rw [if_pos h, if_pos (show List.take 1 (45 :: TL.numL z.natAbs) = [45] from rfl)]
    omega
  · rw [if_neg h, if_neg (numL_no45 _)]
    omega
theorem figL_ok {z : Int} (h : inB z = true) : badW (figL z) = false := by
  unfold inB at h
  have b := of_decide_eq_true h
  unfold badW
  rw [figs_figL]
  have l := TL.numL_len (n := z.natAbs) (k := 19) (by decide) (by
    have : (10 : Nat) ^ 19 = 10000000000000000000 := by decide +kernel
    omega)
  simp only [Bool.or_eq_false_iff, decide_eq_false_iff_not, Bool.not_eq_false', Bool.and_eq_false_iff]
  refine ⟨⟨⟨TL.numL_ne _, by omega⟩, numL_dig _⟩, ?_⟩
  by_cases h0 : z = 0
  · subst h0
    right
    exact decide_eq_true (by decide +kernel)
  · left
    exact numL_head _ (by omega)
theorem lH_figL {z : Int} (h : inB z = true) : lH (figL z) = some z := by
  unfold lH
  rw [figL_ok h, valT_figL, h]
  rfl
theorem figL_len {z : Int} (h : inB z = true) : (figL z).length ≤ 20 := (int_of (figL_ok h)).2
theorem figL_free (z : Int) : 32 ∉ figL z := by
  unfold figL
  split
  · intro h
    rcases List.mem_cons.mp h with h | h
    · cases h
    · exact TL.numL_free (by omega) h
  · exact TL.numL_free (by omega)
/-! ### the own digits -/
theorem num_step {m : Nat} (h : m ≠ 0) (f : List Nat) : (if m / 10 = 0 then [] else TL.numL (m / 10)) ++ ((48 + m % 10) :: f) = TL.numL m ++ f := by
  by_cases c : m < 10
  · rw [if_pos (by omega), TL.numL_lt c]
    have : m % 10 = m := by omega
    rw [this]
    rfl
  · rw [if_neg (by omega), TL.numL_step (n := m) (by omega), List.append_assoc]
    rfl
/-! ### the words of a line -/
def sp : List Nat → List (List Nat)
  | [] => [[]]
  | c :: r => if c = 32 then [] :: sp r else match sp r with
    | [] => [[c]]
    | p :: ps => (c :: p) :: ps
theorem sp_ne : ∀ l, sp l ≠ []
  | [] => by simp [sp]
  | c :: r => by
    unfold sp
    split
    · simp
    · split <;> simp
theorem spl_sp : ∀ (l acc : List Nat), TL.spl [32] 0 acc l = match sp l with
    | [] => [acc]
    | p :: ps => (acc ++ p) :: ps
  | [], acc => by
    show [acc] = [acc ++ []]
    rw [List.append_nil]
  | c :: r, acc => by
    by_cases h : c = 32
    · subst h
      have e : TL.spl [32] 0 acc (32 :: r) = acc :: TL.spl [32] 0 [] r := if_pos (by rfl)
      rw [e, spl_sp r []]
      have e2 : sp (32 :: r) = [] :: sp r := if_pos rfl
      rw [e2]
      cases e3 : sp r with
      | nil => exact absurd e3 (sp_ne r)
      | cons p ps => simp
    · have e : TL.spl [32] 0 acc (c :: r) = TL.spl [32] 0 (acc ++ [c]) r := if_neg (by
        show ¬ ([c] == [32]) = true
        simpa using h)
      rw [e, spl_sp r (acc ++ [c])]
      cases e3 : sp r with
      | nil => exact absurd e3 (sp_ne r)
      | cons p ps =>
        have e2 : sp (c :: r) = (c :: p) :: ps := by
          show (if c = 32 then [] :: sp r else match sp r with
            | [] => [[c]]
            | p :: ps => (c :: p) :: ps) = _
          rw [if_neg h, e3]
        rw [e2]
        simp
theorem split_sp (l : List Nat) : Txt.split (SX.S l) (SX.S [32]) = (sp l).map SX.S := by
  rw [SX.split_S (by simp) (by decide), spl_sp]
  cases e : sp l with
  | nil => exact absurd e (sp_ne l)
  | cons p ps => simp
theorem sp_app : ∀ a b : List Nat, sp (a ++ 32 :: b) = sp a ++ sp b
  | [], b => by
    show sp (32 :: b) = [] :: sp b
    exact if_pos rfl
  | c :: r, b => by
    have ih := sp_app r b
    by_cases h : c = 32
    · subst h
      have e1 : sp (32 :: (r ++ 32 :: b)) = [] :: sp (r ++ 32 :: b) := if_pos rfl
      have e2 : sp (32 :: r) = [] :: sp r := if_pos rfl
      show sp (32 :: (r ++ 32 :: b)) = _
      rw [e1, e2, ih]
      rfl
    · cases e : sp r with
      | nil => exact absurd e (sp_ne r)
      | cons p ps =>
        have e2 : sp (c :: r) = (c :: p) :: ps := by
          show (if c = 32 then [] :: sp r else match sp r with
            | [] => [[c]]
            | p :: ps => (c :: p) :: ps) = _
          rw [if_neg h, e]
        show (if c = 32 then [] :: sp (r ++ 32 :: b) else match sp (r ++ 32 :: b) with
            | [] => [[c]]
            | p :: ps => (c :: p) :: ps) = _
        rw [if_neg h, ih, e, e2]
        rfl
theorem sp_free : ∀ {l : List Nat}, 32 ∉ l → sp l = [l]
  | [], _ => rfl
  | c :: r, h => by
    have h1 : ¬ c = 32 := fun z => h (by rw [z]; exact List.mem_cons_self)
    have ih := sp_free (l := r) fun z => h (List.mem_cons_of_mem _ z)
    show (if c = 32 then [] :: sp r else match sp r with
            | [] => [[c]]
            | p :: ps => (c :: p) :: ps) = _
    rw [if_neg h1, ih]
theorem sp_join : ∀ ws : List (List Nat), ws ≠ [] → sp (TL.joinL [32] ws) = ws.flatMap sp
  | [], h => absurd rfl h
  | [p], _ => by
    show sp p = sp p ++ []
    rw [List.append_nil]
  | p :: q :: r, _ => by
    have ih := sp_join (q :: r) (by simp)
    show sp (p ++ 32 :: TL.joinL [32] (q :: r)) = sp p ++ (q :: r).flatMap sp
    rw [sp_app, ih]
theorem sp_len : ∀ l : List Nat, (sp l).length ≤ l.length + 1
  | [] => by simp [sp]
  | c :: r => by
    have ih := sp_len r
    by_cases h : c = 32
    · have e1 : sp (c :: r) = [] :: sp r := if_pos h
      rw [e1, List.length_cons, List.length_cons]
      omega
    · show (if c = 32 then [] :: sp r else match sp r with
            | [] => [[c]]
            | p :: ps => (c :: p) :: ps).length ≤ _
      rw [if_neg h, List.length_cons]
      cases e : sp r with
      | nil => simp
      | cons p ps =>
        rw [e] at ih
        simp only [List.length_cons] at ih ⊢
        omega
/-- a text that writes no land, where it stands by itself or as a word -/
def BadT (l : List Nat) : Prop := ∃ p ∈ sp l, lH p = none
theorem BadT.app {a b : List Nat} (h : BadT a ∨ BadT b) : BadT (a ++ 32 :: b) := by
  unfold BadT
  rw [sp_app]
  rcases h with ⟨p, hp, e⟩ | ⟨p, hp, e⟩
  · exact ⟨p, List.mem_append_left _ hp, e⟩
  · exact ⟨p, List.mem_append_right _ hp, e⟩
theorem BadT.sign {l : List Nat} {c : Nat} (h : c ∈ l) (h1 : c ≠ 45) (h2 : dig c = false) (h3 : c ≠ 32) : BadT l := by
  have : ∀ l : List Nat, c ∈ l → ∃ p ∈ sp l, c ∈ p := by
    intro l
    induction l with
    | nil => intro h; cases h
    | cons d r ih =>
      intro hm
      by_cases hd : d = 32
      · have e1 : sp (d :: r) = [] :: sp r := if_pos hd
        rw [e1]
        rcases List.mem_cons.mp hm with z | z
        · exact absurd (z.trans hd) h3
        · obtain ⟨p, hp, hc⟩ := ih z
          exact ⟨p, List.mem_cons_of_mem _ hp, hc⟩
      · cases e : sp r with
        | nil => exact absurd e (sp_ne r)
        | cons p ps =>
          have e2 : sp (d :: r) = (d :: p) :: ps := by
            show (if d = 32 then [] :: sp r else match sp r with
              | [] => [[d]]
              | p :: ps => (d :: p) :: ps) = _
            rw [if_neg hd, e]
          rw [e2]
          rcases List.mem_cons.mp hm with z | z
          · exact ⟨d :: p, List.mem_cons_self, by rw [z]; exact List.mem_cons_self⟩
          · obtain ⟨q, hq, hc⟩ := ih z
            rw [e] at hq
            rcases List.mem_cons.mp hq with y | y
            · exact ⟨d :: p, List.mem_cons_self, by rw [← y]; exact List.mem_cons_of_mem _ hc⟩
            · exact ⟨q, List.mem_cons_of_mem _ y, hc⟩
  obtain ⟨p, hp, hc⟩ := this l h
  refine ⟨p, hp, ?_⟩
  unfold lH
  have : badW p = true := by
    unfold badW
    have hf : c ∈ figs p := by
      unfold figs
      split
      · rename_i h45
        rw [take1 h45] at hc
        rcases List.mem_cons.mp hc with z | z
        · exact absurd z h1
        · exact z
      · exact hc
    have : (figs p).all dig = false := by
      rw [← Bool.not_eq_true]
      intro z
      have := List.all_eq_true.mp z c hf
      rw [h2] at this
      cases this
    rw [this]
    simp
  rw [this]
  rfl
theorem BadT.join {ws : List (List Nat)} {w : List Nat} (hw : w ∈ ws) (h : BadT w) : BadT (TL.joinL [32] ws) := by
  have hne : ws ≠ [] := fun e => by rw [e] at hw; cases hw
  unfold BadT
  rw [sp_join ws hne]
  obtain ⟨p, hp, e⟩ := h
  exact ⟨p, List.mem_flatMap.mpr ⟨w, hw, hp⟩, e⟩
/-! ### slices -/
theorem cut_to (l : List Nat) (k : Nat) : cutS (SX.S l) none (some (k : Int)) = SX.S (l.take k) := by
  have hl : (SX.S l).length = l.length := SX.S_len l
  unfold cutS
  rw [hl, HT.sIx_none, HT.sIx_nat]
  show (⟨((l.drop 0).take (min k l.length - 0)).toArray⟩ : Str) = ⟨(l.take k).toArray⟩
  rw [List.drop_zero, Nat.sub_zero]
  congr 2
  by_cases h : k ≤ l.length
  · rw [Nat.min_eq_left h]
  · rw [Nat.min_eq_right (by omega), List.take_length, List.take_of_length_le (by omega)]
theorem cut_from (l : List Nat) (k : Nat) : cutS (SX.S l) (some (k : Int)) none = SX.S (l.drop k) := by
  have hl : (SX.S l).length = l.length := SX.S_len l
  unfold cutS
  rw [hl, HT.sIx_none, HT.sIx_nat]
  show (⟨((l.drop (min k l.length)).take (l.length - min k l.length)).toArray⟩ : Str) = ⟨(l.drop k).toArray⟩
  congr 1
  by_cases h : k ≤ l.length
  · rw [Nat.min_eq_left h]
    exact congrArg _ (List.take_of_length_le (by rw [List.length_drop]; omega))
  · rw [Nat.min_eq_right (by omega), List.drop_eq_nil_of_le (Nat.le_refl _), List.drop_eq_nil_of_le (by omega)]
    simp
theorem badW_no {l : List Nat} (h1 : figs l ≠ []) (h2 : (figs l).length ≤ 19) (h3 : (figs l).all dig = true) (h4 : ¬ ((figs l).take 1 = [48] ∧ l ≠ [48])) : badW l = false := by
  unfold badW
  simp only [Bool.or_eq_false_iff, decide_eq_false_iff_not, Bool.not_eq_false', Bool.and_eq_false_iff]
  refine ⟨⟨⟨h1, by omega⟩, h3⟩, ?_⟩
  by_cases c : (figs l).take 1 = [48]
  · right
    exact decide_eq_true (Classical.byContradiction fun z => h4 ⟨c, z⟩)
  · left
    exact c
theorem badW_yes {l : List Nat} (h : figs l = [] ∨ 19 < (figs l).length ∨ (figs l).all dig = false ∨ ((figs l).take 1 = [48] ∧ l ≠ [48])) : badW l = true := by
  unfold badW
  rcases h with h | h | h | ⟨h, h'⟩
  · rw [decide_eq_true h]
    rfl
  · rw [decide_eq_true h]
    simp
  · rw [h]
    simp
  · rw [decide_eq_true h, decide_eq_false h']
    simp
theorem pH_bad {l : List Nat} (h : badW l = true) : pH l = none := if_pos h
theorem pH_good {l : List Nat} (h : badW l = false) : pH l = some (valT l) := if_neg (by rw [h]; exact Bool.false_ne_true)
theorem lH_bad {l : List Nat} (h : badW l = true) : lH l = none := if_pos h
theorem lH_good {l : List Nat} (h : badW l = false) : lH l = if inB (valT l) = true then some (valT l) else none := if_neg (by rw [h]; exact Bool.false_ne_true)
theorem lH_some {l : List Nat} {z : Int} (h : lH l = some z) : pH l = some z ∧ inB z = true ∧ z = valT l := by
  cases b : badW l with
  | true =>
    rw [lH_bad b] at h
    cases h
  | false =>
    rw [lH_good b] at h
    rw [pH_good b]
    by_cases c : inB (valT l) = true
    · rw [if_pos c] at h
      have := Option.some.inj h
      exact ⟨h, by rw [← this]; exact c, this.symm⟩
    · rw [if_neg c] at h
      cases h
theorem lH_none {l : List Nat} (h : lH l = none) : pH l = none ∨ ∃ z, pH l = some z ∧ inB z = false := by
  cases b : badW l with
  | true => exact .inl (pH_bad b)
  | false =>
    rw [lH_good b] at h
    by_cases c : inB (valT l) = true
    · rw [if_pos c] at h
      cases h
    · exact .inr ⟨_, pH_good b, by simpa using c⟩
theorem mem_digits (c : Nat) : decide (c ∈ [48, 49, 50, 51, 52, 53, 54, 55, 56, 57]) = dig c := by
  unfold dig
  rw [← Bool.decide_and]
  refine decide_eq_decide.mpr ?_
  simp only [List.mem_cons, List.mem_nil_iff, or_false]
  omega
theorem dig_at : ∀ k, k < 10 → ([48, 49, 50, 51, 52, 53, 54, 55, 56, 57] : List Nat)[k]? = some (48 + k) := by decide
theorem l_digits : V.str (Str.ofString "0123456789") = tx [48, 49, 50, 51, 52, 53, 54, 55, 56, 57] := congrArg V.str (by decide +kernel)
theorem l_minus : V.str (Str.ofString "-") = tx [45] := congrArg V.str (by decide +kernel)
theorem l_empty : V.str (Str.ofString "") = tx [] := congrArg V.str (by decide +kernel)
theorem l_zero : V.str (Str.ofString "0") = tx [48] := congrArg V.str (by decide +kernel)
theorem l_one : V.str (Str.ofString "1") = tx [49] := congrArg V.str (by decide +kernel)
theorem l_seven : V.str (Str.ofString "7") = tx [55] := congrArg V.str (by decide +kernel)
theorem l_blank : V.str (Str.ofString " ") = tx [32] := congrArg V.str (by decide +kernel)
theorem idx_dig {c : Nat} (h : dig c = true) : ∃ rest, Builtin.Str.occurrences (SX.S [48, 49, 50, 51, 52, 53, 54, 55, 56, 57]) (SX.S [c]) 0 (SX.S [48, 49, 50, 51, 52, 53, 54, 55, 56, 57]).length 1 = (c - 48) :: rest := by
  unfold dig at h
  rw [Bool.and_eq_true, decide_eq_true_eq, decide_eq_true_eq] at h
  have : c = 48 ∨ c = 49 ∨ c = 50 ∨ c = 51 ∨ c = 52 ∨ c = 53 ∨ c = 54 ∨ c = 55 ∨ c = 56 ∨ c = 57 := by omega
  rcases this with rfl | rfl | rfl | rfl | rfl | rfl | rfl | rfl | rfl | rfl <;> exact ⟨[], by decide +kernel⟩
theorem val_snoc (l : List Nat) (c : Nat) : NumText.digitsVal (l ++ [c]) = NumText.digitsVal l * 10 + (c - 48) := by
  unfold NumText.digitsVal
  rw [List.foldl_append]
  rfl
theorem cutV_to (xs : List V) (k : Nat) : cutV xs none (some (k : Int)) = xs.take k := by
  unfold cutV
  rw [HT.sIx_none, HT.sIx_nat, List.drop_zero, Nat.sub_zero]
  by_cases h : k ≤ xs.length
  · rw [Nat.min_eq_left h]
  · rw [Nat.min_eq_right (by omega), List.take_length, List.take_of_length_le (by omega)]
theorem cutV_from (xs : List V) (k : Nat) : cutV xs (some (k : Int)) none = xs.drop k := by
  unfold cutV
  rw [HT.sIx_none, HT.sIx_nat]
  by_cases h : k ≤ xs.length
  · rw [Nat.min_eq_left h]
    exact List.take_of_length_le (by rw [List.length_drop]; omega)
  · rw [Nat.min_eq_right (by omega), List.drop_eq_nil_of_le (Nat.le_refl _), List.drop_eq_nil_of_le (by omega)]
    simp
theorem sum_le {b : Nat} : ∀ ws : List (List Nat), (∀ w ∈ ws, w.length ≤ b) → (ws.map (·.length)).sum ≤ ws.length * b
  | [], _ => by simp
  | w :: ws, h => by
    have ih := sum_le ws fun x hx => h x (List.mem_cons_of_mem _ hx)
    have h1 := h w List.mem_cons_self
    simp only [List.map_cons, List.sum_cons, List.length_cons, Nat.succ_mul]
    omega
theorem joinL_len : ∀ ws : List (List Nat), (TL.joinL [32] ws).length ≤ (ws.map (·.length)).sum + ws.length
  | [] => by simp [TL.joinL]
  | [p] => by simp [TL.joinL]
  | p :: q :: r => by
    have ih := joinL_len (q :: r)
    show (p ++ 32 :: TL.joinL [32] (q :: r)).length ≤ _
    simp only [List.map_cons, List.sum_cons, List.length_cons, List.length_append] at ih ⊢
    omega
theorem inV_non (ws : List (List Nat)) : inV .non (ws.map fun w => oI (lH w)) = ws.any fun w => (lH w).isNone := by
  unfold inV
  rw [List.any_map]
  congr 1
  funext w
  cases h : lH w <;> simp [Function.comp, h, oI, eqV]
theorem digits_cps : (Str.ofString "0123456789").cps.toList = [48, 49, 50, 51, 52, 53, 54, 55, 56, 57] := by decide +kernel
theorem mem_digits' (c : Nat) : decide (c ∈ (Str.ofString "0123456789").cps.toList) = dig c := by rw [digits_cps, mem_digits]

/-! ## rules for texts -/
section
variable {X : Cx} {K : PySem.W.Frag}
def rMulS : R2 := fun x y H Q => ∃ a n, x = .str a ∧ y = .int n ∧ MulOk a n ∧ Q (.str (Txt.mul a n)) H
theorem op_mulS : OpR X (binaryOp .Mult) rMulS := by
  intro pins s σ H x y v u Q I rx ry h
  obtain ⟨a, n, rfl, rfl, ok, q⟩ := h
  obtain ⟨t, rfl⟩ := rx
  obtain ⟨t', rfl⟩ := ry
  exact SB.mul ok fun t' k => ⟨.str (Txt.mul a n), H, I.tok _, ⟨_, rfl⟩, q⟩
def rIdx : V → List V → Hp → VK → Prop := fun x xs H Q => ∃ a b k rest, x = .str a ∧ xs = [.str b] ∧ Builtin.Str.occurrences a b 0 a.length 1 = k :: rest ∧ Q (.int (k : Nat)) H
theorem mt_idx : MtR X "str.index" rIdx := by
  intro pins s σ H x xs v us Q I rx rs h
  obtain ⟨a, b, k, rest, rfl, rfl, q, w⟩ := h
  obtain ⟨t, rfl⟩ := rx
  cases rs with
  | cons r1 rs =>
    cases rs
    obtain ⟨u, rfl⟩ := r1
    exact PySem.SC.index q ⟨.int (k : Nat), H, I.tok _, ⟨_, rfl⟩, w⟩
def rSplit : V → List V → Hp → VK → Prop := fun x xs H Q => ∃ a b, x = .str a ∧ xs = [.str b] ∧ (b.length == 0) = false ∧ a.length + 2 ≤ sizeLine ∧ rNewStrs (Txt.split a b) H Q
theorem mt_splitK : MtR X "str.split" rSplit := mt_split
def rJoin (K : PySem.W.Frag) : V → List V → Hp → VK → Prop := fun x xs H Q => ∃ a p, ∃ ys : List Str, x = .str a ∧ xs = [.ref p] ∧ (SqL K H p (ys.map V.str) ∨ SqT K H p (ys.map V.str)) ∧ (ys.map (·.length)).sum + ys.length * a.length ≤ 16777216 ∧ Q (.str (Txt.join a ys)) H
theorem mt_joinK (h : X.K = K) : MtR X "str.join" (rJoin K) := by subst h; exact mt_join
def rLenS : List V → Hp → VK → Prop := fun xs H Q => ∃ z, xs = [.str z] ∧ z.length ≤ sizeLine ∧ Q (.int z.length) H
theorem call_lenS : CallR X (.builtin "len") rLenS := call_len_str
def rStrI : List V → Hp → VK → Prop := fun xs H Q => ∃ i : Int, xs = [.int i] ∧ i.natAbs.log2 < 1920 ∧ Q (.str (toString i)) H
theorem call_strI : CallR X (.type "str") rStrI := call_str_int
def rIntS : List V → Hp → VK → Prop := fun xs H Q => ∃ a n, xs = [.str a] ∧ PySem.intText? a = some n ∧ a.length ≤ 640 ∧ Q (.int n) H
theorem call_intS : CallR X (.type "int") rIntS := call_int_str
def rInC : R2 := fun x y H Q => ∃ (c : Nat) (z : Str), x = .str ⟨#[c]⟩ ∧ y = .str z ∧ Q (.bl (decide (c ∈ z.cps.toList))) H
theorem op_inC : OpR X (compareOp .In) rInC := op_in_sign
def rNotInC : R2 := fun x y H Q => ∃ (c : Nat) (z : Str), x = .str ⟨#[c]⟩ ∧ y = .str z ∧ Q (.bl (!decide (c ∈ z.cps.toList))) H
theorem op_notInC : OpR X (compareOp .NotIn) rNotInC := op_notIn_sign
def rAddS : R2 := fun x y H Q => ∃ i j, x = .str i ∧ y = .str j ∧ i.length + j.length ≤ sizeLine ∧ Q (.str (i ++ j)) H
theorem op_addS : OpR X (binaryOp .Add) rAddS := op_add_str
end
theorem same_fresh {H H' : Hp} {t : Addr} (s : Same H H') (h : H' t = none) : H t = none := by
  cases e : H t with
  | none => rfl
  | some u => exact absurd (s _ _ e) (by rw [h]; intro z; cases z)
theorem szS {n : Nat} (h : n ≤ 100000) : n ≤ sizeLine := Nat.le_trans h (by decide)
theorem rd_m1 {r : V → List V → Hp → VK → Prop} {to te : TE} {σ : L2.St} {H : Hp} {Q : VK} (q : to σ H fun x H1 => (∃ a, x = .str a) ∧ te σ H1 fun y H2 => r x [y] H2 Q) : tM1 r to te σ H Q := q
theorem rd_slT {te : TE} {tl th : TO} {σ : L2.St} {H : Hp} {Q : VK} (q : te σ H fun x H1 => tl σ H1 fun l H2 => th σ H2 fun u H3 => rSlS x l u H3 Q) : tSl rSlS te tl th σ H Q := q
theorem rd_cutTo {l : List Nat} {i : Int} {H : Hp} {Q : VK} (h0 : 0 ≤ i) (hl : l.length ≤ 100000) (q : Q (tx (l.take i.toNat)) H) : rSlS (tx l) none (some i) H Q := by
  obtain ⟨k, rfl⟩ : ∃ k : Nat, i = (k : Int) := ⟨i.toNat, by omega⟩
  refine ⟨SX.S l, rfl, by rw [SX.S_len]; exact szS hl, ?_⟩
  rw [cut_to]
  exact q
theorem rd_cutFrom {l : List Nat} {i : Int} {H : Hp} {Q : VK} (h0 : 0 ≤ i) (hl : l.length ≤ 100000) (q : Q (tx (l.drop i.toNat)) H) : rSlS (tx l) (some i) none H Q := by
  obtain ⟨k, rfl⟩ : ∃ k : Nat, i = (k : Int) := ⟨i.toNat, by omega⟩
  refine ⟨SX.S l, rfl, by rw [SX.S_len]; exact szS hl, ?_⟩
  rw [cut_from]
  exact q
theorem rd_addS {a b : List Nat} {H : Hp} {Q : VK} (h : a.length + b.length ≤ 100000) (q : Q (tx (a ++ b)) H) : rAddS (tx a) (tx b) H Q := by
  refine ⟨SX.S a, SX.S b, rfl, rfl, by rw [SX.S_len, SX.S_len]; exact szS h, ?_⟩
  rw [SX.S_cat]
  exact q
theorem rd_lenS {l : List Nat} {H : Hp} {Q : VK} (h : l.length ≤ 100000) (q : Q (.int l.length) H) : rLenS [tx l] H Q := ⟨SX.S l, rfl, by rw [SX.S_len]; exact szS h, by rw [SX.S_len]; exact q⟩
theorem rd_ixS {l : List Nat} {i : Int} {c : Nat} {H : Hp} {Q : VK} (hl : l.length ≤ 100000) (a : atI l i = some c) (q : Q (tx [c]) H) : rIxS (tx l) (.int i) H Q := ⟨SX.S l, i, c, rfl, rfl, by rw [SX.S_len]; exact szS hl, a, q⟩
theorem rd_inC {c : Nat} {z : List Nat} {H : Hp} {Q : VK} (q : Q (.bl (decide (c ∈ z))) H) : rInC (tx [c]) (tx z) H Q := ⟨c, SX.S z, rfl, rfl, q⟩
theorem rd_notInC {c : Nat} {z : List Nat} {H : Hp} {Q : VK} (q : Q (.bl (!decide (c ∈ z))) H) : rNotInC (tx [c]) (tx z) H Q := ⟨c, SX.S z, rfl, rfl, q⟩
theorem rd_strI {i : Int} {H : Hp} {Q : VK} (h : inB i = true) (q : Q (tx (figL i)) H) : rStrI [.int i] H Q := by
  refine ⟨i, rfl, ?_, ?_⟩
  · have b := of_decide_eq_true (show decide (-1000000000000000000 ≤ i ∧ i ≤ 1000000000000000000) = true from h)
    by_cases h0 : i.natAbs = 0
    · rw [h0]
      decide
    · have : i.natAbs.log2 < 64 := (Nat.log2_lt h0).mpr (by
        have : (2 : Nat) ^ 64 = 18446744073709551616 := by decide +kernel
        omega)
      omega
  · have e := str_int i
    show Q (.str (Str.ofString (toString i))) H
    rw [e]
    exact q
theorem rd_intS {l : List Nat} {H : Hp} {Q : VK} (h : badW l = false) (q : Q (.int (valT l)) H) : rIntS [tx l] H Q := by
  obtain ⟨e, n⟩ := int_of h
  exact ⟨SX.S l, valT l, rfl, e, by rw [SX.S_len]; omega, q⟩
theorem rd_iStr {te : TE} {σ : L2.St} {H : Hp} {R : It → Hp → Prop} {l : List Nat} (mono : ∀ Q Q' : VK, (∀ x H1, Q x H1 → Q' x H1) → te σ H Q → te σ H Q') (q : te σ H fun y H1 => y = tx l ∧ R (Its (SX.S l)) H1) : iStr te σ H R :=
  mono _ _ (fun x H1 h => ⟨SX.S l, h.1, h.2⟩) q
theorem lc_strM {l : List Nat} {D : Addr} {s : Nat} {σ : L2.St} {vs : List Nat} {te : TE} {H1 : Hp} {Qd : Hp → Prop} (f : Nat → V) (nD : H1 D = none) (hlen : l.length < 100000)
    (hw : ∀ v, wipe ((wipe σ vs).set s (some v)) vs = wipe σ vs)
    (he : ∀ c H' (R : VK), c ∈ l → Same H1 H' → (∀ H'', Same H' H'' → R (f c) H'') → te ((wipe σ vs).set s (some (tx [c]))) H' R)
    (hd : ∀ H', Same H1 H' → H' D = some (.lst (l.map f)) → Qd H') : CompO (Its (SX.S l)) (gName s) tYes te vs σ H1 D Qd := by
  refine lc_it (n := l.length) (walk_str (z := SX.S l)) (fun i H' => Same H1 H' ∧ H' D = some (.lst ((l.take i).map f))) ⟨same_upd nD, upd_same⟩ (fun _ _ _ _ => trivial) (fun i x H0 H' hi ⟨s1, hD⟩ hy => ?_) (fun H' ⟨s1, hD⟩ => hd H' s1 (by rw [hD, List.take_length]))
  obtain ⟨rfl, c, hc, rfl⟩ := hy
  have hc' : l[i]? = some c := by
    have : l.toArray[i]? = some c := hc
    simpa using this
  refine ⟨hw _, ?_⟩
  refine rd_tYes ?_
  refine iteT ?_
  refine he c _ _ (List.mem_of_getElem? hc') s1 fun H3 s3 => ?_
  refine ⟨_, s3 _ _ hD, ?_, Same.mut (s1.trans s3) nD, ?_⟩
  · rw [List.length_map, List.length_take]
    exact szlt (by omega)
  · rw [upd_same, List.take_add_one, hc', List.map_append]
    rfl
/-- a for over a text's signs -/
theorem for_strL {l : List Nat} {g : TG} {tb : TS} {D : Ends} {σ : L2.St} {H : Hp} (Pv : Nat → L2.St → Hp → Prop) (h0 : Pv 0 σ H)
    (hs : ∀ i c σ H, l[i]? = some c → Pv i σ H → g (tx [c]) σ H fun σ2 H2 => tb { D with nx := Pv (i + 1), ct := Pv (i + 1), bk := D.nx } σ2 H2) (hd : ∀ σ H, Pv l.length σ H → D.nx σ H) :
    ∃ W : Nat → Nat → L2.St → Hp → Prop, (∃ m, W 0 m σ H) ∧ ∀ i m σ H, W i m σ H →
      ((Its (SX.S l)).stop i H ∧ D.nx σ H) ∨ ((Its (SX.S l)).go i H ∧ ∃ N : L2.St → Hp → Prop, (∀ σ' H', N σ' H' → ∃ m', m' < m ∧ W (i + 1) m' σ' H') ∧ ∀ x H', (Its (SX.S l)).yld i H x H' → g x σ H' fun σ2 H2 => tb { D with nx := N, ct := N, bk := D.nx } σ2 H2) := by
  refine for_it (n := l.length) (walk_str (z := SX.S l)) Pv h0 (fun _ _ _ _ _ => trivial) (fun i x σ1 H1 H2 hi p hy => ?_) hd
  obtain ⟨rfl, c, hc, rfl⟩ := hy
  refine hs i c σ1 _ ?_ p
  have : l.toArray[i]? = some c := hc
  simpa using this
theorem lit {s : String} {l : List Nat} (h : Str.ofString s = SX.S l) : V.str (Str.ofString s) = tx l := congrArg V.str h
theorem rd_addN {x y : Str} {n : Nat} {H : Hp} {Q : VK} (h : x.length + y.length = n) (hn : n ≤ 100000) (q : ∀ sa : List Nat, sa.length = n → Q (tx sa) H) : rAddS (.str x) (.str y) H Q := by
  rw [tx_of x, tx_of y]
  have e1 : x.cps.toList.length = x.length := Array.length_toList
  have e2 : y.cps.toList.length = y.length := Array.length_toList
  exact rd_addS (by omega) (q _ (by rw [List.length_append]; omega))

/-! ## errors caught where nothing else is handled: several clauses, with a name -/
theorem passLN {X : Cx} : Passes (L2N.CX X.prog X.w) X E0 := fun _ _ _ _ _ _ _ h => by
  obtain ⟨_, _, _, _, _, _, _, _, _, _, _, _, z⟩ := h
  exact z.elim
theorem takes0N {X : Cx} : L2N.Takes X (fun _ _ _ _ => False) := fun _ _ x => by
  obtain ⟨_, _, _, _, _, _, _, _, _, _, _, _, _, _, _, _, z⟩ := x
  exact z.elim
theorem okN {P : Program} {w : World} {K : PySem.W.Frag} {mg : Str → Option Value} {base : Heap} {x qual : Str} {st : Stmt} {f : Addr} {fd : FuncData} {N ps : List Str} {k : Nat} {sp : Sp} (F : Fun K x qual st f fd) (S : FnScope N ps (defScope st)) (len : ∀ vs H Q E, sp vs H Q E → vs.length = ps.length)
    (hbody : ∀ (cdv : Value) (A : Around) (outer : List Env) (s : Shared) (H : Hp) (vs : List V) (Q : VK) (E : XK), Room k (A.deeper (envOfC qual (defScope st) s.heap.objs.size f cdv)) → sp vs H Q E →
      ∃ t, PSs (cxOf (L2N.CX P w) P w K mg base N qual (defScope st) f cdv A outer s H E) (defBody st) t ∧ t { nx := fun _ H' => Q .non H', rt := Q } (L2.start N vs) H) : FnOk P w K mg base (L2N.CX P w) (k + 1) f fd ps sp := by
  obtain ⟨oc, od, kV, doc, pm, an, cdv, ct, osl, rfl, lk, hcd⟩ := F.ex
  exact fn_of lk hcd S len fun A outer s H vs Q E hr hsp => hbody cdv A outer s H vs Q E hr hsp
/-- one clause: the class, the slot of its name, its suite -/
abbrev Clause : Type := Value × Option Nat × (Addr → Value → Option Addr → TS)
def endsOf (D : Ends) : Option Nat → Ends
  | none => D
  | some i => { nx := fun σ H => D.nx (σ.set i none) H, rt := D.rt, bk := fun σ H => D.bk (σ.set i none) H, ct := fun σ H => D.ct (σ.set i none) H }
def slotOf (σ : L2.St) (a : Addr) : Option Nat → L2.St
  | none => σ
  | some i => σ.set i (some (.ref a))
def wManyA (K : PySem.W.Frag) (Wout : WX) (D : Ends) : List Clause → WX
  | [] => Wout
  | (c, n, ts) :: r => fun cls d σ H => ∃ b, PySem.W.exmOne K cls c = some b ∧ (b = true → ∀ a, H a = none → ts a cls d (endsOf D n) (slotOf σ a n) H) ∧ (b = false → wManyA K Wout D r cls d σ H)
inductive HdsA (X : Cx) : List ExceptHandler → List Clause → Prop
  | nil : HdsA X [] []
  | cons {x : Str} {c : Value} {ts : Addr → Value → Option Addr → TS} {b₀ : Stmt} {suite : List Stmt} {np pos' : Pos} {hds : List ExceptHandler} {l : List Clause} (hc : Names X x c)
      (hsu : ∀ (a : Addr) (oe : Obj) (cls : Value) (d : Option Addr) (pn : List (Addr × Obj)), L2N.Zn cls d oe → (∃ vs, oe.data = .fields vs) → PSs (X.suite a ((a, oe) :: pn)) (b₀ :: suite) (ts a cls d)) (r : HdsA X hds l) :
      HdsA X (.ExceptHandler (some (.Name x np)) none (b₀ :: suite) pos' :: hds) ((c, none, ts) :: l)
  | consA {i : Nat} {x n : Str} {c : Value} {ts : Addr → Value → Option Addr → TS} {b₀ : Stmt} {suite : List Stmt} {np pos' : Pos} {hds : List ExceptHandler} {l : List Clause} (hi : X.N[i]? = some n) (hln : X.env.kindOf n = some .local) (hc : Names X x c)
      (hsu : ∀ (a : Addr) (oe : Obj) (cls : Value) (d : Option Addr) (pn : List (Addr × Obj)), L2N.Zn cls d oe → (∃ vs, oe.data = .fields vs) → PSs (X.suite a ((a, oe) :: pn)) (b₀ :: suite) (ts a cls d)) (r : HdsA X hds l) :
      HdsA X (.ExceptHandler (some (.Name x np)) (some n) (b₀ :: suite) pos' :: hds) ((c, some i, ts) :: l)
section
variable {X : Cx} {body : List Stmt} {h₀ : ExceptHandler} {hds : List ExceptHandler} {l : List Clause} {pos : Pos} {tb : WX → TS} {Wout : WX}
theorem ps_try_manyA (hs : X.stack = X.env :: X.outer) (hf : X.env.frame = some X.env.locals) (hN : X.N.Nodup) (tk : L2N.Takes X Wout)
    (hb : ∀ (W : WX) (pn : List (Addr × Obj)) (xe : Value → Shared → Prop), L2N.Takes (X.tr pn xe) W → PassesOwn (model X.prog X.w) X.A X.env xe → PSs (X.tr pn xe) body (tb W))
    (hh : HdsA X (h₀ :: hds) l) : PS X (.Try body (h₀ :: hds) [] [] pos) (fun D σ H => tb (wManyA X.K Wout D l) D σ H) := by
  refine ⟨fun pins s σ H D I h => ?_⟩
  have ok := I.ok
  have hfr : X.A.frames = some (X.env :: X.outer) := by rw [ok.frames, hs]
  refine wpAny_Try_except ?_
  refine wpAny_mono ((hb (wManyA X.K Wout D l) (X.pn ++ pins) (fun e s₁ => wpAny (model X.prog X.w) X.A (noteFrame e X.env) (fun _ s₂ => wpAny (model X.prog X.w) X.A (setFlight e none) (fun _ s₃ =>
    wpAny (model X.prog X.w) X.A (handleBy e X.env (h₀ :: hds)) (SP X pins D) X.xe s₃) X.xe s₂) X.xe s₁) (fun u s' xx => ?_) PassesOwn.looking).run [] s σ H D (I.toTry _) h) (fun f s1 hsp => ?_) (fun e s1 he => he)
  · obtain ⟨a, B, sI, pins', σ', H', cls, d, rfl, J', nb, up, sky, na, os, ag, w⟩ := xx
    have J : Inv X pins σ' H' sI := J'.ofTry ok
    have sky' : Sky B (X.env :: X.outer) a (L2N.Zn cls d) X.env.locals s'.heap := by rw [← hs]; exact sky
    show wpAny (model X.prog X.w) X.A (noteFrame (.ref a) X.env) _ _ _
    refine L2N.Sky.land L2N.Zn.steady hfr hf sky' fun h3 fl3 up3 => ?_
    have J3 : Inv X pins σ' H' { s' with heap := h3 } := J.landed nb fl3.1 (up.trans up3) os ag
    obtain ⟨oe3, vs3, he3, hz3, hd3⟩ := fl3.there
    have nfr : a ∉ frs (X.env :: X.outer) := fun hm => by
      obtain ⟨_, o', e', hnf⟩ := fl3.2.2.1.mem hm
      rw [he3] at e'; cases e'
      exact hnf _ hd3
    have nL : a ≠ X.env.locals := fun z => nfr (List.mem_filterMap.mpr ⟨X.env, List.mem_cons_self, by rw [hf, z]⟩)
    have nF : a ∉ X.fs := fun hm => by
      obtain ⟨e, he, q⟩ := List.mem_filterMap.mp hm
      exact nfr (List.mem_filterMap.mpr ⟨e, List.mem_cons_of_mem _ he, q⟩)
    have S3 := J3.suite he3 hd3 na nL nF
    have LT : PySem.W.Looks (model X.prog X.w) h3 (typeOf (.ref a)) cls := fun A Q E s k q => wpAny_typeOf_ref (k _ _ he3) (by rw [hz3.1]; exact q)
    have test : ∀ {x : Str} {c : Value} {np : Pos} {Q : Value → Shared → Prop} {E : Value → Shared → Prop}, Names X x c → Q c { s' with heap := h3 } → wpAny (model X.prog X.w) (X.A.mark (some (.ref a))) (eval (.Name x np) X.env) Q E { s' with heap := h3 } := fun {x c np Q E} hc q => by
      obtain ⟨hg, hdbg, hm | ⟨hm, hv, hnn⟩⟩ := hc
      · exact ld_glob (X := X.suite a ((a, oe3) :: (X.pn ++ pins))) S3 hg hm q hdbg
      · exact ld_blt (X := X.suite a ((a, oe3) :: (X.pn ++ pins))) S3 hg hm hv q hnn hdbg
    have go : ∀ {hds' : List ExceptHandler} {l' : List Clause}, HdsA X hds' l' → wManyA X.K Wout D l' cls d σ' H' →
        wpAny (model X.prog X.w) X.A (handleBy (.ref a) X.env hds') (SP X pins D) X.xe { s' with heap := h3 } := by
      intro hds' l' hk
      induction hk with
      | nil =>
        intro w
        refine wpAny_handleBy_nil ?_
        obtain ⟨k1, k2, k3, oe, vs, T, oT, ts', he, hz, hd, h1, hr⟩ := id fl3
        unfold PySem.passOn
        refine wpAny_bind (wpAny_field he hd h1 ?_)
        rw [if_neg (show ¬ ((Value.ref T == Value.none) = true) from by simp)]
        have fin : wpAny (model X.prog X.w) X.A (setFlight (.ref a) X.env.frame) (fun _ s4 => wpAny (model X.prog X.w) X.A (throw (.ref a) : Sem Flow) (SP X pins D) X.xe s4) X.xe { s' with heap := h3 } := by
          rw [hf]
          refine HandSPX.setFlight_upZ fl3 fun h4 hh4 up4 => wpAny_throw (tk _ _ ?_)
          exact ⟨a, B, sI, pins, σ', H', cls, d, rfl, J, nb, (up.trans up3).trans up4, .inr (.inr (by rw [hs]; exact hh4)), na, os, ag, w⟩
        first
          | exact wpAny_bind (wpAny_pure (wpAny_bind fin))
          | exact wpAny_bind fin
      | @cons x c ts b₀ suite np pos' hds2 l2 hc hsu r ih =>
        intro w
        obtain ⟨b, hb1, hyes, hno⟩ := w
        refine wpAny_handleBy_cons (codeAny_handlers_test ?_) (by intro q; cases q)
        refine test hc ((PySem.W.exm_one (M := model X.prog X.w) (J3.kIn) LT hb1).here ?_)
        cases b with
        | true =>
          refine codeAny_handlers_suite ?_
          refine HandSPX.lands_againZ fl3 fun h4 fl4 up4 => ?_
          have J4 : Inv X pins σ' H' { s' with heap := h4 } := J.landed nb fl4.1 ((up.trans up3).trans up4) os ag
          obtain ⟨oe4, vs4, he4, hz4, hd4⟩ := fl4.there
          have S4 := J4.suite he4 hd4 na nL nF
          refine wpAny_mono ((hsu a oe4 cls d (X.pn ++ pins) hz4 ⟨_, hd4⟩).run [] _ _ H' _ S4 (hyes rfl a na)) (fun f s6 hsp => ?_) (fun _ _ z => False.elim z)
          cases f with
          | ret u =>
            obtain ⟨v6, σ6, H6, S6, r6, q6⟩ := hsp
            exact ⟨_, _, _, S6.unsuite ok, r6, q6⟩
          | _ =>
            obtain ⟨σ6, H6, S6, q6⟩ := hsp
            exact ⟨_, _, S6.unsuite ok, q6⟩
        | false =>
          show wpAny _ X.A (handleBy (.ref a) X.env hds2) _ _ _
          exact ih (hno rfl)
      | @consA i x n c ts b₀ suite np pos' hds2 l2 hi hln hc hsu r ih =>
        intro w
        obtain ⟨b, hb1, hyes, hno⟩ := w
        refine wpAny_handleBy_cons (codeAny_handlers_test ?_) (by intro q; cases q)
        refine test hc ((PySem.W.exm_one (M := model X.prog X.w) (J3.kIn) LT hb1).here ?_)
        cases b with
        | true =>
          refine codeAny_handlers_suite_as ?_
          refine HandSPX.lands_againZ fl3 fun h4 fl4 up4 => ?_
          have J4 : Inv X pins σ' H' { s' with heap := h4 } := J.landed nb fl4.1 ((up.trans up3).trans up4) os ag
          obtain ⟨oe4, vs4, he4, hz4, hd4⟩ := fl4.there
          have S4 := J4.suite he4 hd4 na nL nF
          refine store_ok (X := X.suite a ((a, oe4) :: (X.pn ++ pins))) (v := .ref a) S4 hN hi (.inl hln) rfl (fun s5 S5 => ?_) (.inr hln)
          refine wpAny_mono ((hsu a oe4 cls d (X.pn ++ pins) hz4 ⟨_, hd4⟩).run [] s5 _ H' _ S5 (hyes rfl a na)) (fun f s6 hsp => ?_) (fun _ _ z => False.elim z)
          have end_ : ∀ {σ6 : L2.St} {H6 : Hp} {Q : Shared → Prop}, Inv (X.suite a ((a, oe4) :: (X.pn ++ pins))) [] σ6 H6 s6 → (∀ s7, Inv X pins (σ6.set i none) H6 s7 → Q s7) →
              wpAny (model X.prog X.w) X.A (do bindName X.env n .none; unbindBehindTheSuite X.env n pos') (fun _ s7 => Q s7) X.xe s6 := fun {σ6 H6 Q} S6 hq => gone_ok (S6.unsuite ok) hN hi hln hq
          cases f with
          | ret u =>
            obtain ⟨v6, σ6, H6, S6, r6, q6⟩ := hsp
            exact end_ S6 fun s7 J7 => ⟨_, _, _, J7, r6, q6⟩
          | _ =>
            obtain ⟨σ6, H6, S6, q6⟩ := hsp
            exact end_ S6 fun s7 J7 => ⟨_, _, J7, q6⟩
        | false =>
          show wpAny _ X.A (handleBy (.ref a) X.env hds2) _ _ _
          exact ih (hno rfl)
    exact go hh w
  · cases f with
    | ret u =>
      obtain ⟨v, σ', H', J', r, q⟩ := hsp
      exact ⟨v, σ', H', J'.ofTry ok, r, q⟩
    | next =>
      obtain ⟨σ', H', J', q⟩ := hsp
      exact wpAny_execs_nil ⟨σ', H', J'.ofTry ok, q⟩
    | _ =>
      obtain ⟨σ', H', J', q⟩ := hsp
      exact ⟨σ', H', J'.ofTry ok, q⟩
end
/-! ## a law's def called on the caught error -/
open L2H in
/-- what such a def promises while p is the error that is handled -/
structure FnP (P : Program) (w : World) (K : PySem.W.Frag) (mg : Str → Option Value) (base : Heap) (k : Nat) (f : Addr) (fd : FuncData) (ps : List Str) (p : Addr × Obj) (sp : Sp) : Prop where
  len : ∀ vs H Q E, sp vs H Q E → vs.length = ps.length
  run : ∀ (A : Around) (outer : List Env) (s : Shared) (H : Hp) (args : Args) (us : List Value) (vs : List V) (Q : VK) (E : XK), RoomH k A → Hot1 A p → PinOk outer H s p → Env0 P w K mg base A outer s H → BindsTo s fd args (ps.zip us) → Vals vs us → sp vs H Q E →
    codeAny (model P w) A (.call (.ref f) args) (CR CX0 outer P w H s Q E) s
open L2H in
theorem okP {P : Program} {w : World} {K : PySem.W.Frag} {mg : Str → Option Value} {base : Heap} {x qual : Str} {st : Stmt} {f : Addr} {fd : FuncData} {N ps : List Str} {k : Nat} {p : Addr × Obj} {sp : Sp} (F : Fun K x qual st f fd) (S : FnScope N ps (defScope st)) (len : ∀ vs H Q E, sp vs H Q E → vs.length = ps.length)
    (hbody : ∀ (cdv : Value) (A : Around) (outer : List Env) (s : Shared) (H : Hp) (vs : List V) (Q : VK) (E : XK), Hot1 A p → RoomH k (A.deeper (envOfC qual (defScope st) s.heap.objs.size f cdv)) → sp vs H Q E →
      ∃ t, PSs (cxH CX0 P w K mg base N qual (defScope st) f cdv A outer s H E p) (defBody st) t ∧ t { nx := fun _ H' => Q .non H', rt := Q } (L2.start N vs) H) : FnP P w K mg base (k + 1) f fd ps p sp := by
  obtain ⟨oc, od, kV, doc, pm, an, cdv, ct, osl, rfl, lk, hcd⟩ := F.ex
  refine ⟨len, fun A outer s H args us vs Q E hr hot hpin e0 hb r hsp => ?_⟩
  have hl := len _ _ _ _ hsp
  have kin : K.In s.heap := e0.mod.kin.keeps fun b o e => (e0.bs b o e).1
  have hkind : ∀ y ∈ ps.zip us, (defScope st).names.lookup y.1 = some .local ∨ ((defScope st).names.lookup y.1 = some .cell ∧ ((cellsFrom (s.heap.objs.size + 1) (defScope st).names []).lookup y.1).isSome = true) := fun ⟨n, v⟩ hy =>
    (S.par n (List.of_mem_zip hy).1).imp id fun q => ⟨q, PySem.W.cellsFrom_some _ _ _ (.inl q)⟩
  refine codeAny_call_function hr.depth (kin _ _ lk) rfl S.co S.gen rfl (PySem.W.codeRec_of kin hcd) (hb _ _ _ _ ?_)
  refine wpAny_newFunctionEnv_cells S.kind hkind fun env he s1 x => ?_
  subst he
  refine ⟨(e0.mod.nolimit.keeps fun b o e => (e0.bs b o e).1).keeps x.toInCall.keep, codeAny_func ?_⟩
  obtain ⟨t, ht, hq⟩ := hbody cdv A outer s H vs Q E hot (hr.deeper _) hsp
  refine wpAny_mono (ht.run [] s1 (L2.start N vs) H _ (inv_startH S hpin e0 hl r x) hq) (fun fl s' hs => ?_) fun e s' hs => hs
  cases fl with
  | ret u =>
    obtain ⟨v, σ', H', J, rv, q⟩ := hs
    exact ⟨v, H', J.os, J.bare, J.base, J.hok, rv, q⟩
  | next =>
    obtain ⟨σ', H', J, q⟩ := hs
    exact ⟨V.non, H', J.os, J.bare, J.base, J.hok, rfl, q⟩
  | brk =>
    obtain ⟨_, _, _, q⟩ := hs
    exact q.elim
  | cont =>
    obtain ⟨_, _, _, q⟩ := hs
    exact q.elim
open L2H in
theorem pe_callP {X : Cx} {k : Nat} {f : Addr} {fd : FuncData} {ps : List Str} {p : Addr × Obj} {sp : Sp} {x : Str} {q pos : Pos} {e : Expr} {es : List Expr} {t : TA} (F : FnP X.prog X.w X.K X.mg X.base k f fd ps p sp) (hr : RoomH k X.A) (hot : Hot1 X.A p) (hp : p ∈ X.pn) (hg : Gl X x) (hm : X.mg x = some (.ref f)) (hk : PySem.W.keepIn X.K (.ref f) = true) (hb : Binds X.K fd ps [])
    (ha : PA X (e :: es) t) (hdb : (x == ("__debug__" : Str)) = false := by decide) (he : starEach (e :: es) X.env = (false, eval e X.env) :: starEach es X.env := by rfl) (hpl : (backTo pos (starEach es X.env)).any (·.1) = false := by rfl) :
    PE X (.Call (.Name x q) (e :: es) [] pos) (tCallS sp (fun _ => E0) t) := by
  refine ⟨fun pins s σ H Q I h => ?_⟩
  refine wpAny_Call_Name_kw (ld_glob I hg hm ?_ hdb)
  refine PySem.W.callWith_K (h₀ := X.base) I.ok.mod.kin hk (thn (ha.run pos pins s σ H _ I h) fun us s1 ⟨vs, H1, I1, r, q⟩ => ⟨I1.kIn, ?_⟩) he hpl
  have hl : us.length = ps.length := by rw [← r.length]; exact F.len _ _ _ _ q
  have b := hb s1 us I1.kIn (by rw [List.append_nil]; exact hl)
  rw [List.append_nil] at b
  obtain ⟨p1, p2, p3, p4, p5⟩ := I1.pin p (List.mem_append_left _ hp)
  refine wpAny_call (codeAny_mono (F.run X.A X.stack s1 H1 ⟨us, []⟩ us vs Q E0 hr hot ⟨p1, p2, fun hm => (List.mem_cons.mp (I1.stkSub p.1 hm)).elim p3 p4, p5⟩ I1.env0 b r q) fun r s' hq => ?_)
  cases r with
  | error e => exact False.elim hq
  | ok fl =>
    cases fl with
    | ret u => exact I1.after hq
    | _ => exact False.elim hq
theorem call_isP {X : Cx} {p : Addr × Obj} {D : Addr} (hp : p ∈ X.pn) (C : ExcC X.K D) (hz : Zc (.ref D) none p.2) (hf : ∃ vs, p.2.data = .fields vs) : CallR X (.builtin "isinstance") (rIsE X.K D p.1) := by
  intro pins s σ H xs us Q I r h
  obtain ⟨c, cv, b, rfl, hcv, e, q⟩ := h
  cases r with
  | cons rx rr =>
    cases rr with
    | cons rt rr =>
      cases rr
      cases rx
      have ec := hcv _ rt
      subst ec
      obtain ⟨hget, _⟩ := I.pin p (List.mem_append_left _ hp)
      obtain ⟨vs, hv⟩ := hf
      have J : PySem.W.InstAt s.heap p.1 p.2 D none := by
        obtain ⟨pa, oc, od, oda, osl⟩ := p
        obtain ⟨h1, h2⟩ := hz
        dsimp only at h1 h2 hv hget ⊢
        subst h1 h2 hv
        exact ⟨hget, rfl, rfl, trivial⟩
      exact PySem.W.kia_one (PySem.W.handS_kitx_exc C.hg C.hk C.hs C.hd C.ha C.hn C.ht C.hm) I.kIn J e (fun z => nomatch z) fun tk => ⟨.bl b, H, I.kept (t' := tk) fun _ _ z => z, rfl, q⟩
theorem hot2 {cls : Value} {d : Option Addr} {oe : Obj} (hz : L2N.Zn cls d oe) (hf : ∃ vs, oe.data = .fields vs) : ∃ vs : Array Value, oe.data = .fields vs ∧ vs[2]? = some .none := by
  obtain ⟨vs, e⟩ := hf
  exact ⟨vs, e, hz.2.2 vs e⟩
theorem rd_isE {K : PySem.W.Frag} {D a C : Addr} {b : Bool} {H : Hp} {Q : VK} (e : PySem.W.kitOne K (.ref D) (.ref C) = some b) (q : Q (.bl b) H) : rIsE K D a [.ref a, .ref C] H Q := ⟨.ref C, .ref C, b, rfl, fun _ r => r, e, q⟩
theorem rd_isT {K : PySem.W.Frag} {D a : Addr} {n : String} {b : Bool} {H : Hp} {Q : VK} (e : PySem.W.kitOne K (.ref D) (.type n) = some b) (q : Q (.bl b) H) : rIsE K D a [.ref a, .ty n] H Q := ⟨.ty n, .type n, b, rfl, fun _ r => r, e, q⟩
theorem roomM {j k : Nat} {A : Around} {v : Option Value} (r : Room k A) (h : j ≤ k) : L2H.RoomH j (A.mark v) := ⟨(r.mono h).dp, (r.mono h).un⟩
/-- a for over a tuple, its body not yet opened -/
abbrev ForT (K : PySem.W.Frag) (a : Addr) (xs : List V) (g : TG) (tb : TS) (D : Ends) (σ : L2.St) (H : Hp) : Prop := ∃ Pv : Nat → L2.St → Hp → Prop, Pv 0 σ H ∧ (∀ i σ H, i ≤ xs.length → Pv i σ H → SqT K H a xs) ∧
  (∀ i x σ H, xs[i]? = some x → Pv i σ H → g x σ H fun σ2 H2 => tb { D with nx := Pv (i + 1), ct := Pv (i + 1), bk := D.nx } σ2 H2) ∧ (∀ σ H, Pv xs.length σ H → D.nx σ H)
theorem rd_forTup {K : PySem.W.Frag} {tl : TE} {g : TG} {tb : TS} {D : Ends} {σ : L2.St} {H : Hp} (mono : ∀ σ H Q Q', (∀ x H1, Q x H1 → Q' x H1) → tl σ H Q → tl σ H Q') (q : tl σ H fun x H1 => ∃ a xs, x = .ref a ∧ SqT K H1 a xs ∧ ForT K a xs g tb D σ H1) : tFor (iTup K tl) g tb D σ H := by
  refine mono σ H _ _ (fun x H1 h => ?_) q
  obtain ⟨a, xs, e, hs, Pv, h0, hl, h1, h2⟩ := h
  exact ⟨a, e, ⟨xs, hs⟩, for_tup Pv h0 hl h1 h2⟩
/-- an instance made within a try -/
theorem pe_makeS {X : Cx} {C f : Addr} {k n : Nat} {fd : FuncData} {ps : List Str} {sp : Sp} {W : WX} {x : Str} {p pos : Pos} {e : Expr} {es : List Expr} {t : TA} (M : Mk X.K C f) (F : FnOk X.prog X.w X.K X.mg X.base (L2N.CX X.prog X.w) k f fd ps sp) (hr : Room (k + 1) X.A) (tk : L2N.Takes X W) (hg : Gl X x) (hm : X.mg x = some (.ref C)) (hb : Binds X.K fd ps [])
    (ha : PA X (e :: es) t) (hn : X.N.length = n := by rfl) (hdb : (x == ("__debug__" : Str)) = false := by decide) (he : starEach (e :: es) X.env = (false, eval e X.env) :: starEach es X.env := by rfl) (hpl : (backTo pos (starEach es X.env)).any (·.1) = false := by rfl) :
    PE X (.Call (.Name x p) (e :: es) [] pos) (tMake C sp [] (fun cls d H' => ∀ σ : L2.St, σ.length = n → W cls d σ H') t) :=
  pe_make (E := fun cls d H' => ∀ σ : L2.St, σ.length = n → W cls d σ H') M F hr hg hm hb .nil (fun _ σ _ _ u s' I c => tk u s' (L2N.XE.of_call I (fun _ _ _ h => h σ (I.len.trans hn)) c)) ha hdb he hpl


def top (i : Nat) : Stmt := PySem.Challenge.pw_hillsight_k11_texts.main.body.getD i (.Pass ⟨0, 0, 0, 0⟩)
abbrev s_is_whole : Stmt := top 8
abbrev s_is_height : Stmt := top 12
abbrev s_checked : Stmt := top 13
abbrev s_shown : Stmt := top 17
abbrev s_height_of : Stmt := top 18
abbrev s_read : Stmt := top 19
abbrev s_law_sole : Stmt := top 21
abbrev s_law_whole : Stmt := top 22
abbrev s_law_cell_at : Stmt := top 23
abbrev s_law_height_by : Stmt := top 24
abbrev s_law_longer : Stmt := top 25
abbrev s_law_land_by : Stmt := top 26
abbrev s_law_figures_by : Stmt := top 27
abbrev s_law_wrong_by : Stmt := top 28
abbrev s_law_refused : Stmt := top 29
abbrev s_law_height_of : Stmt := top 30
abbrev s_law_read_alike : Stmt := top 31
abbrev s_law_changed : Stmt := top 32
abbrev s_law : Stmt := top 33
theorem sc_is_whole : FnScope ["thing"] ["thing"] (defScope s_is_whole) := ⟨rfl, rfl, rfl, by decide +kernel, rfl, by decide +kernel, by decide +kernel⟩
theorem sc_is_height : FnScope ["thing"] ["thing"] (defScope s_is_height) := ⟨rfl, rfl, rfl, by decide +kernel, rfl, by decide +kernel, by decide +kernel⟩
theorem sc_checked : FnScope ["land", "height"] ["land"] (defScope s_checked) := ⟨rfl, rfl, rfl, by decide +kernel, rfl, by decide +kernel, by decide +kernel⟩
theorem sc_shown : FnScope ["land", "height"] ["land"] (defScope s_shown) := ⟨rfl, rfl, rfl, by decide +kernel, rfl, by decide +kernel, by decide +kernel⟩
theorem sc_height_of : FnScope ["word", "figures", "sign"] ["word"] (defScope s_height_of) := ⟨rfl, rfl, rfl, by decide +kernel, rfl, by decide +kernel, by decide +kernel⟩
theorem sc_read : FnScope ["line", "word"] ["line"] (defScope s_read) := ⟨rfl, rfl, rfl, by decide +kernel, rfl, by decide +kernel, by decide +kernel⟩
theorem sc_law_sole : FnScope ["_law_error", "_law_many"] ["_law_error"] (defScope s_law_sole) := ⟨rfl, rfl, rfl, by decide +kernel, rfl, by decide +kernel, by decide +kernel⟩
theorem sc_law_whole : FnScope ["_law_found"] ["_law_found"] (defScope s_law_whole) := ⟨rfl, rfl, rfl, by decide +kernel, rfl, by decide +kernel, by decide +kernel⟩
theorem sc_law_cell_at : FnScope ["_law_script", "_law_k"] ["_law_script", "_law_k"] (defScope s_law_cell_at) := ⟨rfl, rfl, rfl, by decide +kernel, rfl, by decide +kernel, by decide +kernel⟩
theorem sc_law_height_by : FnScope ["_law_cell", "_law_k", "_law_kind", "_law_tilt", "_law_far"] ["_law_cell", "_law_k", "_law_kind", "_law_tilt"] (defScope s_law_height_by) := ⟨rfl, rfl, rfl, by decide +kernel, rfl, by decide +kernel, by decide +kernel⟩
theorem sc_law_longer : FnScope ["_law_script", "_law_land", "_law_most", "_law_many", "_law_head", "_law_tilt", "_law_found", "_law_k", "_law_cell"] ["_law_script", "_law_land", "_law_most", "_law_many"] (defScope s_law_longer) := ⟨rfl, rfl, rfl, by decide +kernel, rfl, by decide +kernel, by decide +kernel⟩
theorem sc_law_land_by : FnScope ["_law_script", "_law_most", "_law_head", "_law_size", "_law_kind", "_law_tilt", "_law_k"] ["_law_script", "_law_most"] (defScope s_law_land_by) := ⟨rfl, rfl, rfl, by decide +kernel, rfl, by decide +kernel, by decide +kernel⟩
theorem sc_law_figures_by : FnScope ["_law_height", "_law_found", "_law_rest"] ["_law_height"] (defScope s_law_figures_by) := ⟨rfl, rfl, rfl, by decide +kernel, rfl, by decide +kernel, by decide +kernel⟩
theorem sc_law_wrong_by : FnScope ["_law_words", "_law_cell", "_law_one", "_law_some"] ["_law_words", "_law_cell"] (defScope s_law_wrong_by) := ⟨rfl, rfl, rfl, by decide +kernel, rfl, by decide +kernel, by decide +kernel⟩
theorem sc_law_refused : FnScope ["_law_line", "_law_error"] ["_law_line"] (defScope s_law_refused) := ⟨rfl, rfl, rfl, by decide +kernel, rfl, by decide +kernel, by decide +kernel⟩
theorem sc_law_height_of : FnScope ["_law_word", "_law_figures", "_law_found", "_law_sign"] ["_law_word"] (defScope s_law_height_of) := ⟨rfl, rfl, rfl, by decide +kernel, rfl, by decide +kernel, by decide +kernel⟩
theorem sc_law_read_alike : FnScope ["_law_line", "_law_due", "_law_word"] ["_law_line"] (defScope s_law_read_alike) := ⟨rfl, rfl, rfl, by decide +kernel, rfl, by decide +kernel, by decide +kernel⟩
theorem sc_law_changed : FnScope ["_law_line", "_law_cell", "_law_more", "_law_some", "_law_sign", "_law_at"] ["_law_line", "_law_cell", "_law_more"] (defScope s_law_changed) := ⟨rfl, rfl, rfl, by decide +kernel, rfl, by decide +kernel, by decide +kernel⟩
theorem sc_law : FnScope ["_law_script", "_law_land", "_law_handed", "_law_words", "_law_height", "_law_line", "_law_found", "_law_wrong", "_law_at", "_law_k"] ["_law_script"] (defScope s_law) := ⟨rfl, rfl, rfl, by decide +kernel, rfl, by decide +kernel, by decide +kernel⟩
structure Txt (K : PySem.W.Frag) (mg : Str → Option Value) where
  a_is_whole : Addr
  d_is_whole : FuncData
  F_is_whole : Fun K "is_whole" "is_whole" s_is_whole a_is_whole d_is_whole
  b_is_whole : Binds K d_is_whole ["thing"] []
  g_is_whole : mg "is_whole" = some (.ref a_is_whole)
  a_is_height : Addr
  d_is_height : FuncData
  F_is_height : Fun K "is_height" "is_height" s_is_height a_is_height d_is_height
  b_is_height : Binds K d_is_height ["thing"] []
  g_is_height : mg "is_height" = some (.ref a_is_height)
  a_checked : Addr
  d_checked : FuncData
  F_checked : Fun K "checked" "checked" s_checked a_checked d_checked
  b_checked : Binds K d_checked ["land"] []
  g_checked : mg "checked" = some (.ref a_checked)
  a_shown : Addr
  d_shown : FuncData
  F_shown : Fun K "shown" "shown" s_shown a_shown d_shown
  b_shown : Binds K d_shown ["land"] []
  g_shown : mg "shown" = some (.ref a_shown)
  a_height_of : Addr
  d_height_of : FuncData
  F_height_of : Fun K "height_of" "height_of" s_height_of a_height_of d_height_of
  b_height_of : Binds K d_height_of ["word"] []
  g_height_of : mg "height_of" = some (.ref a_height_of)
  a_read : Addr
  d_read : FuncData
  F_read : Fun K "read" "read" s_read a_read d_read
  b_read : Binds K d_read ["line"] []
  g_read : mg "read" = some (.ref a_read)
  a_law_sole : Addr
  d_law_sole : FuncData
  F_law_sole : Fun K "_law_sole" "_law_sole" s_law_sole a_law_sole d_law_sole
  b_law_sole : Binds K d_law_sole ["_law_error"] []
  g_law_sole : mg "_law_sole" = some (.ref a_law_sole)
  a_law_whole : Addr
  d_law_whole : FuncData
  F_law_whole : Fun K "_law_whole" "_law_whole" s_law_whole a_law_whole d_law_whole
  b_law_whole : Binds K d_law_whole ["_law_found"] []
  g_law_whole : mg "_law_whole" = some (.ref a_law_whole)
  a_law_cell_at : Addr
  d_law_cell_at : FuncData
  F_law_cell_at : Fun K "_law_cell_at" "_law_cell_at" s_law_cell_at a_law_cell_at d_law_cell_at
  b_law_cell_at : Binds K d_law_cell_at ["_law_script", "_law_k"] []
  g_law_cell_at : mg "_law_cell_at" = some (.ref a_law_cell_at)
  a_law_height_by : Addr
  d_law_height_by : FuncData
  F_law_height_by : Fun K "_law_height_by" "_law_height_by" s_law_height_by a_law_height_by d_law_height_by
  b_law_height_by : Binds K d_law_height_by ["_law_cell", "_law_k", "_law_kind", "_law_tilt"] []
  g_law_height_by : mg "_law_height_by" = some (.ref a_law_height_by)
  a_law_longer : Addr
  d_law_longer : FuncData
  F_law_longer : Fun K "_law_longer" "_law_longer" s_law_longer a_law_longer d_law_longer
  b_law_longer : Binds K d_law_longer ["_law_script", "_law_land", "_law_most", "_law_many"] []
  g_law_longer : mg "_law_longer" = some (.ref a_law_longer)
  a_law_land_by : Addr
  d_law_land_by : FuncData
  F_law_land_by : Fun K "_law_land_by" "_law_land_by" s_law_land_by a_law_land_by d_law_land_by
  b_law_land_by : Binds K d_law_land_by ["_law_script", "_law_most"] []
  g_law_land_by : mg "_law_land_by" = some (.ref a_law_land_by)
  a_law_figures_by : Addr
  d_law_figures_by : FuncData
  F_law_figures_by : Fun K "_law_figures_by" "_law_figures_by" s_law_figures_by a_law_figures_by d_law_figures_by
  b_law_figures_by : Binds K d_law_figures_by ["_law_height"] []
  g_law_figures_by : mg "_law_figures_by" = some (.ref a_law_figures_by)
  a_law_wrong_by : Addr
  d_law_wrong_by : FuncData
  F_law_wrong_by : Fun K "_law_wrong_by" "_law_wrong_by" s_law_wrong_by a_law_wrong_by d_law_wrong_by
  b_law_wrong_by : Binds K d_law_wrong_by ["_law_words", "_law_cell"] []
  g_law_wrong_by : mg "_law_wrong_by" = some (.ref a_law_wrong_by)
  a_law_refused : Addr
  d_law_refused : FuncData
  F_law_refused : Fun K "_law_refused" "_law_refused" s_law_refused a_law_refused d_law_refused
  b_law_refused : Binds K d_law_refused ["_law_line"] []
  g_law_refused : mg "_law_refused" = some (.ref a_law_refused)
  a_law_height_of : Addr
  d_law_height_of : FuncData
  F_law_height_of : Fun K "_law_height_of" "_law_height_of" s_law_height_of a_law_height_of d_law_height_of
  b_law_height_of : Binds K d_law_height_of ["_law_word"] []
  g_law_height_of : mg "_law_height_of" = some (.ref a_law_height_of)
  a_law_read_alike : Addr
  d_law_read_alike : FuncData
  F_law_read_alike : Fun K "_law_read_alike" "_law_read_alike" s_law_read_alike a_law_read_alike d_law_read_alike
  b_law_read_alike : Binds K d_law_read_alike ["_law_line"] []
  g_law_read_alike : mg "_law_read_alike" = some (.ref a_law_read_alike)
  a_law_changed : Addr
  d_law_changed : FuncData
  F_law_changed : Fun K "_law_changed" "_law_changed" s_law_changed a_law_changed d_law_changed
  b_law_changed : Binds K d_law_changed ["_law_line", "_law_cell", "_law_more"] []
  g_law_changed : mg "_law_changed" = some (.ref a_law_changed)
  a_law : Addr
  d_law : FuncData
  F_law : Fun K "law" "law" s_law a_law d_law
  b_law : Binds K d_law ["_law_script"] []
  g_law : mg "law" = some (.ref a_law)
  c_HillError : Addr
  g_HillError : mg "HillError" = some (.ref c_HillError)
  x_HillError : PySem.W.excIn K c_HillError [.type "ValueError", .type "Exception", .type "BaseException", .type "object"] "ValueError.__new__" = true
  k_HillError : PySem.W.keepIn K (.ref c_HillError) = true
  e_HillError : PySem.W.subIn K (.ref c_HillError) (.type "BaseException") = some true
  t_HillError : PySem.W.typeIn K (.ref c_HillError) = some (.type "type")
  i_HillError : PySem.W.isClsIn K c_HillError = true
  c_NoLand : Addr
  g_NoLand : mg "NoLand" = some (.ref c_NoLand)
  x_NoLand : PySem.W.excIn K c_NoLand [.type "ValueError", .type "Exception", .type "BaseException", .type "object"] "ValueError.__new__" = true
  k_NoLand : PySem.W.keepIn K (.ref c_NoLand) = true
  e_NoLand : PySem.W.subIn K (.ref c_NoLand) (.type "BaseException") = some true
  t_NoLand : PySem.W.typeIn K (.ref c_NoLand) = some (.type "type")
  i_NoLand : PySem.W.isClsIn K c_NoLand = true
  c_NoHill : Addr
  g_NoHill : mg "NoHill" = some (.ref c_NoHill)
  x_NoHill : PySem.W.excIn K c_NoHill [.type "ValueError", .type "Exception", .type "BaseException", .type "object"] "ValueError.__new__" = true
  k_NoHill : PySem.W.keepIn K (.ref c_NoHill) = true
  e_NoHill : PySem.W.subIn K (.ref c_NoHill) (.type "BaseException") = some true
  t_NoHill : PySem.W.typeIn K (.ref c_NoHill) = some (.type "type")
  i_NoHill : PySem.W.isClsIn K c_NoHill = true
  c_SameHill : Addr
  g_SameHill : mg "SameHill" = some (.ref c_SameHill)
  x_SameHill : PySem.W.excIn K c_SameHill [.type "ValueError", .type "Exception", .type "BaseException", .type "object"] "ValueError.__new__" = true
  k_SameHill : PySem.W.keepIn K (.ref c_SameHill) = true
  e_SameHill : PySem.W.subIn K (.ref c_SameHill) (.type "BaseException") = some true
  t_SameHill : PySem.W.typeIn K (.ref c_SameHill) = some (.type "type")
  i_SameHill : PySem.W.isClsIn K c_SameHill = true
  c_TooHigh : Addr
  g_TooHigh : mg "TooHigh" = some (.ref c_TooHigh)
  x_TooHigh : PySem.W.excIn K c_TooHigh [.type "ValueError", .type "Exception", .type "BaseException", .type "object"] "ValueError.__new__" = true
  k_TooHigh : PySem.W.keepIn K (.ref c_TooHigh) = true
  e_TooHigh : PySem.W.subIn K (.ref c_TooHigh) (.type "BaseException") = some true
  t_TooHigh : PySem.W.typeIn K (.ref c_TooHigh) = some (.type "type")
  i_TooHigh : PySem.W.isClsIn K c_TooHigh = true
  c_NothingDone : Addr
  g_NothingDone : mg "NothingDone" = some (.ref c_NothingDone)
  x_NothingDone : PySem.W.excIn K c_NothingDone [.type "ValueError", .type "Exception", .type "BaseException", .type "object"] "ValueError.__new__" = true
  k_NothingDone : PySem.W.keepIn K (.ref c_NothingDone) = true
  e_NothingDone : PySem.W.subIn K (.ref c_NothingDone) (.type "BaseException") = some true
  t_NothingDone : PySem.W.typeIn K (.ref c_NothingDone) = some (.type "type")
  i_NothingDone : PySem.W.isClsIn K c_NothingDone = true
  s_NoLand_NoLand : PySem.W.subIn K (.ref c_NoLand) (.ref c_NoLand) = some true
  hn_obj : PySem.W.specialIn K (.builtin "object.__class__") "__get__" = some (some (.builtin "getset_descriptor.__get__"))
  ht_obj : PySem.W.takesIn K (.builtin "object.__class__") = some true
  hg_NoLand : PySem.W.findIn K (.ref c_NoLand) "__getattribute__" = some (some (.builtin "BaseException.__getattribute__"))
  hk_NoLand : PySem.W.findIn K (.ref c_NoLand) "__getattr__" = some none
  hd_NoLand : PySem.W.hasDictIn K c_NoLand = true
  ha_NoLand : PySem.W.findIn K (.ref c_NoLand) "__class__" = some (some (.builtin "object.__class__"))
  hm_NoLand : PySem.W.mroIn K c_NoLand (.type "object") = some true
  kv_NoLand : PySem.W.kitOne K (.ref c_NoLand) (.type "ValueError") = some true
  kt_NoLand_NoLand : PySem.W.kitOne K (.ref c_NoLand) (.ref c_NoLand) = some true
  kt_NoLand_NoHill : PySem.W.kitOne K (.ref c_NoLand) (.ref c_NoHill) = some false
  kt_NoLand_SameHill : PySem.W.kitOne K (.ref c_NoLand) (.ref c_SameHill) = some false
  kt_NoLand_TooHigh : PySem.W.kitOne K (.ref c_NoLand) (.ref c_TooHigh) = some false
  kt_NoLand_NothingDone : PySem.W.kitOne K (.ref c_NoLand) (.ref c_NothingDone) = some false
  kt_NoLand_HillError : PySem.W.kitOne K (.ref c_NoLand) (.ref c_HillError) = some true
  w_MOST_HILLS : Tok
  g_MOST_HILLS : mg "MOST_HILLS" = some (.int 200 w_MOST_HILLS)
  w_MOST_HEIGHT : Tok
  g_MOST_HEIGHT : mg "MOST_HEIGHT" = some (.int 1000000000000000000 w_MOST_HEIGHT)
  w_FIGURES : Tok
  g_FIGURES : mg "FIGURES" = some (.str "0123456789" w_FIGURES)
  w_MOST_FIGURES : Tok
  g_MOST_FIGURES : mg "MOST_FIGURES" = some (.int 19 w_MOST_FIGURES)
  n_ValueError : mg "ValueError" = none
  n_abs : mg "abs" = none
  n_all : mg "all" = none
  n_bool : mg "bool" = none
  n_int : mg "int" = none
  n_isinstance : mg "isinstance" = none
  n_len : mg "len" = none
  n_list : mg "list" = none
  n_range : mg "range" = none
  n_str : mg "str" = none
section
variable {P : Program} {w : World} {K : PySem.W.Frag} {mg : Str → Option Value} {base : Heap}
theorem exm_of {S C : Addr} {b : Bool} (h1 : PySem.W.subIn K (.ref C) (.type "BaseException") = some true) (h2 : PySem.W.isClsIn K C = true) (h3 : PySem.W.typeIn K (.ref C) = some (.type "type")) (h4 : PySem.W.subIn K (.ref S) (.ref C) = some b) :
    PySem.W.exmOne K (.ref S) (.ref C) = some b := by
  have e1 : (PySem.W.subIn K (.ref C) (.type "BaseException") == some true) = true := by rw [h1] <;> rfl
  have e2 : ((PySem.W.clsIn K C).isSome && PySem.W.typeIn K (.ref C) == some (.type "type")) = true := by
    have h2' : (PySem.W.clsIn K C).isSome = true := h2
    rw [h2', h3] <;> rfl
  show (if (PySem.W.subIn K (.ref C) (.type "BaseException") == some true) = true then (if ((PySem.W.clsIn K C).isSome && PySem.W.typeIn K (.ref C) == some (.type "type")) = true then PySem.W.subIn K (.ref S) (.ref C) else none) else none) = some b
  rw [if_pos e1, if_pos e2]
  exact h4
theorem atI_mem {xs : List V} {i : Int} (h0 : 0 ≤ i) (h : i < xs.length) : ∃ x, x ∈ xs ∧ atI xs i = some x := by
  obtain ⟨k, rfl⟩ : ∃ k : Nat, i = (k : Int) := ⟨i.toNat, by omega⟩
  have hk : k < xs.length := by omega
  exact ⟨xs[k], List.getElem_mem hk, atI_nat (List.getElem?_eq_getElem hk)⟩

/-! ## sole -/
/-- which errors may be asked -/
structure Sole (T : Txt K mg) (D : Addr) (b1 b2 b3 b4 b5 : Bool) : Prop where
  ec : ExcC K D
  k1 : PySem.W.kitOne K (.ref D) (.ref T.c_NoLand) = some b1
  k2 : PySem.W.kitOne K (.ref D) (.ref T.c_NoHill) = some b2
  k3 : PySem.W.kitOne K (.ref D) (.ref T.c_SameHill) = some b3
  k4 : PySem.W.kitOne K (.ref D) (.ref T.c_TooHigh) = some b4
  k5 : PySem.W.kitOne K (.ref D) (.ref T.c_NothingDone) = some b5
  k6 : PySem.W.kitOne K (.ref D) (.ref T.c_HillError) = some true
  k7 : PySem.W.kitOne K (.ref D) (.type "ValueError") = some true
  one : (0 : Int) + (if b1 = true then 1 else 0) + (if b2 = true then 1 else 0) + (if b3 = true then 1 else 0) + (if b4 = true then 1 else 0) + (if b5 = true then 1 else 0) = 1
def spSole (T : Txt K mg) (a : Addr) (cls : Value) (d : Option Addr) : Sp := fun vs H Q _ => vs = [.ref a] ∧ d = none ∧ (∃ D b1 b2 b3 b4 b5, cls = .ref D ∧ Sole T D b1 b2 b3 b4 b5) ∧ Q (.bl true) H
theorem okP_law_sole (T : Txt K mg) {p : Addr × Obj} {cls : Value} {d : Option Addr} (hz : L2N.Zn cls d p.2) (hf : ∃ vs, p.2.data = .fields vs) : FnP P w K mg base 1 T.a_law_sole T.d_law_sole ["_law_error"] p (spSole T p.1 cls d) := by
  refine okP T.F_law_sole sc_law_sole (fun vs H Q E h => ?_) (fun cdv A outer s H vs Q E hot hr h => ?_)
  · obtain ⟨rfl, _⟩ := h
    rfl
  · obtain ⟨rfl, rfl, ⟨D, b1, b2, b3, b4, b5, rfl, S⟩, q⟩ := h
    have C := S.ec
    have hz' : Zc (.ref D) none p.2 := hz.zc
    refine ⟨_, (pss_cons (ps_set (i := 1) sc_law_sole.nd rfl (Or.inl rfl) pe_int)
      (pss_cons (ps_set (i := 1) sc_law_sole.nd rfl (Or.inl rfl) (pe_op op_add (pv 1) (pe_callTy call_int1 rfl T.n_int (by decide +kernel) (pa_cons (pe_callB (call_isP (p := p) (show p ∈ [p] from List.mem_singleton.mpr rfl) C hz' hf) rfl T.n_isinstance (by decide +kernel) (pa_cons (pv 0) (pa_cons (pe_glob (v := .ref T.c_NoLand) rfl T.g_NoLand rfl) pa_nil))) pa_nil))))
      (pss_cons (ps_set (i := 1) sc_law_sole.nd rfl (Or.inl rfl) (pe_op op_add (pv 1) (pe_callTy call_int1 rfl T.n_int (by decide +kernel) (pa_cons (pe_callB (call_isP (p := p) (show p ∈ [p] from List.mem_singleton.mpr rfl) C hz' hf) rfl T.n_isinstance (by decide +kernel) (pa_cons (pv 0) (pa_cons (pe_glob (v := .ref T.c_NoHill) rfl T.g_NoHill rfl) pa_nil))) pa_nil))))
      (pss_cons (ps_set (i := 1) sc_law_sole.nd rfl (Or.inl rfl) (pe_op op_add (pv 1) (pe_callTy call_int1 rfl T.n_int (by decide +kernel) (pa_cons (pe_callB (call_isP (p := p) (show p ∈ [p] from List.mem_singleton.mpr rfl) C hz' hf) rfl T.n_isinstance (by decide +kernel) (pa_cons (pv 0) (pa_cons (pe_glob (v := .ref T.c_SameHill) rfl T.g_SameHill rfl) pa_nil))) pa_nil))))
      (pss_cons (ps_set (i := 1) sc_law_sole.nd rfl (Or.inl rfl) (pe_op op_add (pv 1) (pe_callTy call_int1 rfl T.n_int (by decide +kernel) (pa_cons (pe_callB (call_isP (p := p) (show p ∈ [p] from List.mem_singleton.mpr rfl) C hz' hf) rfl T.n_isinstance (by decide +kernel) (pa_cons (pv 0) (pa_cons (pe_glob (v := .ref T.c_TooHigh) rfl T.g_TooHigh rfl) pa_nil))) pa_nil))))
      (pss_cons (ps_set (i := 1) sc_law_sole.nd rfl (Or.inl rfl) (pe_op op_add (pv 1) (pe_callTy call_int1 rfl T.n_int (by decide +kernel) (pa_cons (pe_callB (call_isP (p := p) (show p ∈ [p] from List.mem_singleton.mpr rfl) C hz' hf) rfl T.n_isinstance (by decide +kernel) (pa_cons (pv 0) (pa_cons (pe_glob (v := .ref T.c_NothingDone) rfl T.g_NothingDone rfl) pa_nil))) pa_nil))))
      (pss_one (ps_ret (pe_and (pe_cmpR op_eq (pv 1) pe_int (nomark _)) (pe_and (pe_callB (call_isP (p := p) (show p ∈ [p] from List.mem_singleton.mpr rfl) C hz' hf) rfl T.n_isinstance (by decide +kernel) (pa_cons (pv 0) (pa_cons (pe_glob (v := .ref T.c_HillError) rfl T.g_HillError rfl) pa_nil))) (pe_one (pe_callB (call_isP (p := p) (show p ∈ [p] from List.mem_singleton.mpr rfl) C hz' hf) rfl T.n_isinstance (by decide +kernel) (pa_cons (pv 0) (pa_cons (pe_bltn (v := .ty "ValueError") (by rfl) T.n_ValueError (by decide +kernel) rfl) pa_nil)))))))))))))), ?_⟩
    walk_at "rd"
    refine rd_isE S.k1 ?_
    refine .inr ⟨_, rfl, ?_⟩
    walk_at "rd"
    refine rd_isE S.k2 ?_
    refine .inr ⟨_, rfl, ?_⟩
    walk_at "rd"
    refine rd_isE S.k3 ?_
    refine .inr ⟨_, rfl, ?_⟩
    walk_at "rd"
    refine rd_isE S.k4 ?_
    refine .inr ⟨_, rfl, ?_⟩
    walk_at "rd"
    refine rd_isE S.k5 ?_
    refine .inr ⟨_, rfl, ?_⟩
    walk_at "rd"
    rw [S.one]
    walk_at "rd"
    refine rd_yes (by simp) ?_
    walk_at "rd"
    refine rd_isE S.k6 ?_
    walk_at "rd"
    refine rd_isT S.k7 ?_
    exact q

theorem ok_law_cell_at (T : Txt K mg) : FnOk P w K mg base CX0 1 T.a_law_cell_at T.d_law_cell_at ["_law_script", "_law_k"] (spCell K) := by
  refine T.F_law_cell_at.ok sc_law_cell_at (fun vs H Q E h => ?_) (fun cdv A outer s H vs Q E hr h => ⟨_, (pss_cons (ps_if (pt_cmpR op_lt (pv 1) (pe_callB (call_lenK (K := K) rfl) rfl T.n_len (by decide +kernel) (pa_cons (pv 0) pa_nil)) (nomark _)) (pss_one (ps_ret (pe_ix (ix_listK (K := K) rfl) (pv 0) (pv 1) (fun _ _ => rfl)))) pss_nil)
      (pss_one (ps_ret pe_int))), ?_⟩)
  · obtain ⟨l, ns, k, rfl, _⟩ := h
    rfl
  · obtain ⟨l, ns, k, rfl, h0, hS, q⟩ := h
    walk_at "rd"
    refine ite2 (fun c => ?_) (fun c => ?_)
    · have c' : k < (ns.length : Int) := by simpa using c
      walk_at "rd"
      exact rd_ixL hS (IL_at h0 c') q
    · have c' : ¬ k < (ns.length : Int) := by simpa using c
      walk_at "rd"
      have e : cell ns k.toNat = 0 := by
        unfold cell
        rw [List.getD_eq_getElem?_getD, List.getElem?_eq_none (by omega)]
        rfl
      rw [e] at q
      exact q

theorem ok_law_whole (T : Txt K mg) : FnOk P w K mg base CX0 1 T.a_law_whole T.d_law_whole ["_law_found"] (spWhole K) := by
  refine T.F_law_whole.ok sc_law_whole (fun vs H Q E h => ?_) (fun cdv A outer s H vs Q E hr h => ⟨_, (pss_one (ps_ret (pe_and (pe_callB (call_isiK0 (K := K) rfl) rfl T.n_isinstance (by decide +kernel) (pa_cons (pv 0) (pa_cons (pe_bltn (v := .ty "int") (by rfl) T.n_int (by decide +kernel) rfl) pa_nil))) (pe_one (pe_not (pe_callB (call_isiK0 (K := K) rfl) rfl T.n_isinstance (by decide +kernel) (pa_cons (pv 0) (pa_cons (pe_bltn (v := .ty "bool") (by rfl) T.n_bool (by decide +kernel) rfl) pa_nil)))))))), ?_⟩)
  · obtain ⟨x, r, rfl, _⟩ := h
    rfl
  · exact whole_run h

theorem ok_is_whole (T : Txt K mg) : FnOk P w K mg base CX0 1 T.a_is_whole T.d_is_whole ["thing"] (spWhole K) := by
  refine T.F_is_whole.ok sc_is_whole (fun vs H Q E h => ?_) (fun cdv A outer s H vs Q E hr h => ⟨_, (pss_one (ps_ret (pe_and (pe_callB (call_isiK0 (K := K) rfl) rfl T.n_isinstance (by decide +kernel) (pa_cons (pv 0) (pa_cons (pe_bltn (v := .ty "int") (by rfl) T.n_int (by decide +kernel) rfl) pa_nil))) (pe_one (pe_not (pe_callB (call_isiK0 (K := K) rfl) rfl T.n_isinstance (by decide +kernel) (pa_cons (pv 0) (pa_cons (pe_bltn (v := .ty "bool") (by rfl) T.n_bool (by decide +kernel) rfl) pa_nil)))))))), ?_⟩)
  · obtain ⟨x, r, rfl, _⟩ := h
    rfl
  · exact whole_run h

/-! ## heights, lists of heights -/
/-- what is_height answers of a value -/
def Ht (K : PySem.W.Frag) (H : Hp) (x : V) (b : Bool) : Prop := ∃ r, Whole K H x r ∧ ((r = false ∧ b = false) ∨ ∃ i : Int, r = true ∧ x = .int i ∧ b = decide (-1000000000000000000 ≤ i ∧ i ≤ 1000000000000000000))
def spIsHt (K : PySem.W.Frag) : Sp := fun vs H Q _ => ∃ x b, vs = [x] ∧ Ht K H x b ∧ Q (.bl b) H
theorem ok_is_height (T : Txt K mg) : FnOk P w K mg base CX0 2 T.a_is_height T.d_is_height ["thing"] (spIsHt K) := by
  refine T.F_is_height.ok sc_is_height (fun vs H Q E h => ?_) (fun cdv A outer s H vs Q E hr h => ⟨_, (pss_one (ps_ret (pe_and (pe_call (ok_is_whole T) (hr.mono (by decide)) rfl T.g_is_whole T.F_is_whole.kp T.b_is_whole .nil pass0 (pa_cons (pv 0) pa_nil)) (pe_one (pe_chain op_le op_le (pe_un un_neg (pe_glob (v := .int 1000000000000000000) rfl T.g_MOST_HEIGHT ⟨_, rfl⟩)) (pv 0) (pe_glob (v := .int 1000000000000000000) rfl T.g_MOST_HEIGHT ⟨_, rfl⟩)))))), ?_⟩)
  · obtain ⟨x, b, rfl, _⟩ := h
    rfl
  · obtain ⟨x, b, rfl, ⟨r, hw, hr⟩, q⟩ := h
    walk_at "rd"
    refine ⟨x, r, rfl, hw, ?_⟩
    rcases hr with ⟨rfl, rfl⟩ | ⟨i, rfl, rfl, rfl⟩
    · walk_at "rd"
      exact q
    · walk_at "rd"
      refine ite2 (fun c => ?_) (fun c => ?_)
      · have c' : -1000000000000000000 ≤ i := of_decide_eq_true c
        walk_at "rd"
        have e : decide (i ≤ 1000000000000000000) = decide (-1000000000000000000 ≤ i ∧ i ≤ 1000000000000000000) := decide_eq_decide.mpr ⟨fun h => ⟨c', h⟩, fun h => h.2⟩
        rw [e]
        exact q
      · have c' : ¬ -1000000000000000000 ≤ i := fun z => c (decide_eq_true z)
        walk_at "rd"
        rw [decide_eq_false (fun h => c' h.1)] at q
        exact q
/-- what checked asks -/
def spChecked (K : PySem.W.Frag) (C : Addr) : Sp := fun vs H Q E => ∃ x, vs = [x] ∧
  ((∃ t, TyX K H x (.type t) ∧ kitB t "list" = some false ∧ E (.ref C) none H) ∨
   (∃ (l : Addr) (xs : List V) (g : V → Bool), x = .ref l ∧ H l = some (.lst xs) ∧ xs.length ≤ 90000 ∧ (∀ H' v, Same H H' → v ∈ xs → Ht K H' v (g v)) ∧
     ((1 ≤ xs.length ∧ xs.length ≤ 200) ∧ xs.all g = true → ∀ D H', Same H H' → H D = none → H' D = some (.lst xs) → Q (.ref D) H') ∧
     (¬ ((1 ≤ xs.length ∧ xs.length ≤ 200) ∧ xs.all g = true) → ∀ H', Same H H' → E (.ref C) none H')))
theorem ok_checked (T : Txt K mg) : FnOk P w K mg base (L2N.CX P w) 3 T.a_checked T.d_checked ["land"] (spChecked K T.c_NoLand) := by
  refine okN T.F_checked sc_checked (fun vs H Q E h => ?_) (fun cdv A outer s H vs Q E hr h => ⟨_, (pss_cons (ps_if (PW.pt (pw_or (pt_not (pt_val (pe_callB (call_isiK0 (K := K) rfl) rfl T.n_isinstance (by decide +kernel) (pa_cons (pv 0) (pa_cons (pe_bltn (v := .ty "list") (by rfl) T.n_list (by decide +kernel) rfl) pa_nil))))) (pw_or1 (pt_not (pt_chain op_le op_le pe_int (pe_callB (call_lenK (K := K) rfl) rfl T.n_len (by decide +kernel) (pa_cons (pv 0) pa_nil)) (pe_glob (v := .int 200) rfl T.g_MOST_HILLS ⟨_, rfl⟩)))))) (pss_one (L2N.ps_raise rfl (L2N.takes_of rfl rfl rfl rfl) (L2N.pmk_own PySem.F.excBase_ValueError T.x_NoLand T.g_NoLand T.k_NoLand (raises_own T.e_NoLand T.t_NoLand) (by rfl)))) pss_nil)
      (pss_cons (ps_if (pt_not (pt_val (pe_callB (cr_allK (K := K) rfl rfl) rfl T.n_all (by decide +kernel) (pa_cons (pe_lc (own := [("height", 1)]) (g := gName 1) rfl sc_checked.nd (pi_listK (K := K) rfl (pv 0)) (blkOk_by (own := [("height", 1)]) (N := ["land", "height"]) (sc := defScope s_checked) (by decide +kernel)) (fun _ _ _ _ _ => (pg_name (i := 1) sc_checked.nd rfl (Or.inl rfl))) (fun _ _ _ _ _ => pts_nil) (fun _ _ _ _ _ => (pe_call (ok_is_height T) (hr.mono (by decide)) rfl T.g_is_height T.F_is_height.kp T.b_is_height .nil pass0 (pa_cons (pv 1) pa_nil)))) pa_nil)))) (pss_one (L2N.ps_raise rfl (L2N.takes_of rfl rfl rfl rfl) (L2N.pmk_own PySem.F.excBase_ValueError T.x_NoLand T.g_NoLand T.k_NoLand (raises_own T.e_NoLand T.t_NoLand) (by rfl)))) pss_nil)
      (pss_one (ps_ret (pe_callTy (call_listK (K := K) rfl) rfl T.n_list (by decide +kernel) (pa_cons (pv 0) pa_nil)))))), ?_⟩)
  · obtain ⟨x, rfl, _⟩ := h
    rfl
  · obtain ⟨x, rfl, ⟨t, ty, kt, e⟩ | ⟨l, xs, g, rfl, hS, hx, hg, q, e⟩⟩ := h
    · walk_at "rd"
      refine rd_isi ty kt ?_
      walk_at "rd"
      exact e
    · walk_at "rd"
      refine rd_isi (b := true) (ty_lst hS) (by decide +kernel) ?_
      have no : (¬ (1 ≤ xs.length ∧ xs.length ≤ 200)) → ∀ H', Same H H' → E (.ref T.c_NoLand) none H' := fun h => e fun z => h z.1
      walk_at "rd"
      refine ite2 (fun c => ?_) (fun c => ?_)
      · have c' : (1 : Int) ≤ (xs.length : Int) := of_decide_eq_true c
        walk_at "rd"
        refine ite2 (fun d => ?_) (fun d => ?_)
        · have d' : ¬ (xs.length : Int) ≤ 200 := by simpa using d
          exact no (by omega) _ (Same.refl _)
        · have d' : (xs.length : Int) ≤ 200 := by simpa using d
          walk_at "rd"
          refine ⟨l, rfl, ⟨_, .of hS⟩, fun D nD => lc_listM (fun v => .bl (g v)) (.of hS) nD (by omega) (fun _ => rfl) (fun v H' R hv s1 q' => ?_) (fun H1 s1 hD => ?_)⟩
          · walk_at "rd"
            exact ⟨v, g v, rfl, hg H' v s1 hv, q' _ (Same.refl _)⟩
          have hS1 := s1 _ _ hS
          walk_at "rd"
          refine rd_allP g (fun _ _ => rfl) hD ?_
          walk_at "rd"
          refine ite2 (fun a => ?_) (fun a => ?_)
          · exact e (fun z => by rw [z.2] at a; cases a) _ s1
          · have a' : xs.all g = true := by simpa using a
            walk_at "rd"
            intro G nG
            exact q ⟨⟨by omega, by omega⟩, a'⟩ G _ (s1.trans (same_upd nG)) (same_fresh s1 nG) upd_same
      · have c' : ¬ (1 : Int) ≤ (xs.length : Int) := fun z => c (decide_eq_true z)
        walk_at "rd"
        exact no (by omega) _ (Same.refl _)
theorem spChecked_mono {K : PySem.W.Frag} {C : Addr} {vs : List V} {H : Hp} {Q Q' : VK} {E : XK} (h : spChecked K C vs H Q E) (m : ∀ v H', Q v H' → Q' v H') : spChecked K C vs H Q' E := by
  obtain ⟨x, rfl, ⟨t, ty, kt, e⟩ | ⟨l, xs, g, rfl, hS, hx, hg, q, e⟩⟩ := h
  · exact ⟨x, rfl, .inl ⟨t, ty, kt, e⟩⟩
  · exact ⟨_, rfl, .inr ⟨l, xs, g, rfl, hS, hx, hg, fun hh D H' s n d => m _ _ (q hh D H' s n d), e⟩⟩
/-- what checked takes, what it refuses -/
def BadAt (K : PySem.W.Frag) (H : Hp) (x : V) : Prop := (∃ t, TyX K H x (.type t) ∧ kitB t "list" = some false) ∨ ∃ (l : Addr) (xs : List V) (g : V → Bool), x = .ref l ∧ H l = some (.lst xs) ∧ xs.length ≤ 90000 ∧ (∀ H' v, Same H H' → v ∈ xs → Ht K H' v (g v)) ∧ ¬ ((1 ≤ xs.length ∧ xs.length ≤ 200) ∧ xs.all g = true)
def BadL (K : PySem.W.Frag) (H : Hp) (x : V) : Prop := ∀ H', Same H H' → BadAt K H' x
theorem BadL.mono {K : PySem.W.Frag} {H H' : Hp} {x : V} (s : Same H H') (h : BadL K H x) : BadL K H' x := fun H2 s2 => h H2 (s.trans s2)
theorem BadAt.checked {K : PySem.W.Frag} {H : Hp} {x : V} {C : Addr} {Q : VK} {E : XK} (h : BadAt K H x) (e : ∀ H', Same H H' → E (.ref C) none H') : spChecked K C [x] H Q E := by
  rcases h with ⟨t, ty, k⟩ | ⟨l, xs, g, rfl, hl, hx, hg, no⟩
  · exact ⟨x, rfl, .inl ⟨t, ty, k, e _ (Same.refl _)⟩⟩
  · exact ⟨_, rfl, .inr ⟨l, xs, g, rfl, hl, hx, hg, fun z => absurd z no, fun _ => e⟩⟩
theorem good_checked {K : PySem.W.Frag} {H : Hp} {l C : Addr} {zs : List Int} {Q : VK} {E : XK} (hl : H l = some (.lst (IL zs))) (hn : 1 ≤ zs.length ∧ zs.length ≤ 200) (hb : ∀ z ∈ zs, -1000000000000000000 ≤ z ∧ z ≤ 1000000000000000000)
    (q : ∀ D H', Same H H' → H D = none → H' D = some (.lst (IL zs)) → Q (.ref D) H') : spChecked K C [.ref l] H Q E := by
  have e : (IL zs).length = zs.length := List.length_map _
  refine ⟨_, rfl, .inr ⟨l, IL zs, fun _ => true, rfl, hl, by omega, fun H' v _ hv => ?_, fun _ => q, fun z => absurd ⟨⟨by omega, by omega⟩, ?_⟩ z⟩⟩
  · obtain ⟨z, hz, rfl⟩ := List.mem_map.mp hv
    exact ⟨true, whole_int, .inr ⟨z, rfl, rfl, (decide_eq_true (hb z hz)).symm⟩⟩
  · rw [List.all_eq_true]
    intro _ _
    rfl

/-! ## heights and lands of the script -/
def Bd (z : Int) : Prop := -1000000000000000000 ≤ z ∧ z ≤ 1000000000000000000
theorem FAR_eq : (10 : Int) ^ (18 : Int).toNat = 1000000000000000000 := by decide +kernel
theorem tilt_b {t k : Int} (ht : -3 ≤ t ∧ t ≤ 3) (hk : 0 ≤ k ∧ k ≤ 1000) : -3000 ≤ t * k ∧ t * k ≤ 3000 := by
  have : t = -3 ∨ t = -2 ∨ t = -1 ∨ t = 0 ∨ t = 1 ∨ t = 2 ∨ t = 3 := by omega
  rcases this with h | h | h | h | h | h | h <;> subst h <;> omega
theorem sq_b {k u : Int} (hk : 0 ≤ k ∧ k ≤ 1000) (hu : -1 ≤ u ∧ u ≤ 1) : -1000000 ≤ k * k * u ∧ k * k * u ≤ 1000000 := by
  have h1 : 0 ≤ k * k := Int.mul_nonneg hk.1 hk.1
  have h2 : k * k ≤ 1000 * 1000 := Int.mul_le_mul hk.2 hk.2 hk.1 (by decide)
  have : u = -1 ∨ u = 0 ∨ u = 1 := by omega
  rcases this with h | h | h <;> subst h <;> omega
def spHeight : Sp := fun vs H Q _ => ∃ (c k kind tilt : Int), vs = [.int c, .int k, .int kind, .int tilt] ∧ (0 ≤ k ∧ k ≤ 1000) ∧ (-3 ≤ tilt ∧ tilt ≤ 3) ∧ ∀ z, Bd z → Q (.int z) H
theorem ok_law_height_by (T : Txt K mg) : FnOk P w K mg base CX0 1 T.a_law_height_by T.d_law_height_by ["_law_cell", "_law_k", "_law_kind", "_law_tilt"] spHeight := by
  refine T.F_law_height_by.ok sc_law_height_by (fun vs H Q E h => ?_) (fun cdv A outer s H vs Q E hr h => ⟨_, (pss_cons (ps_set (i := 4) sc_law_height_by.nd rfl (Or.inl rfl) (pe_op op_pow pe_int pe_int))
      (pss_cons (ps_if (pt_cmpR op_eq (pv 2) pe_int (nomark _)) (pss_one (ps_ret (pe_op op_sub (pe_op op_mod (pv 0) pe_int) pe_int))) pss_nil)
      (pss_cons (ps_if (pt_cmpR op_eq (pv 2) pe_int (nomark _)) (pss_one (ps_ret (pe_op op_add (pe_op op_mul (pv 3) (pv 1)) (pe_op op_mod (pv 0) pe_int)))) pss_nil)
      (pss_cons (ps_if (pt_cmpR op_eq (pv 2) pe_int (nomark _)) (pss_one (ps_ret (pe_op op_sub (pe_op op_mod (pe_op op_mul (pv 0) pe_int) (pe_op op_add (pe_op op_mul pe_int (pv 4)) pe_int)) (pv 4)))) pss_nil)
      (pss_cons (ps_if (pt_cmpR op_eq (pv 2) pe_int (nomark _)) (pss_one (ps_ret (pe_op op_add (pe_op op_mul (pe_op op_mul (pv 1) (pv 1)) (pe_op op_sub (pe_op op_mod (pv 3) pe_int) pe_int)) (pe_op op_mod (pv 0) pe_int)))) pss_nil)
      (pss_one (ps_ret (pe_op op_sub (pv 4) (pe_op op_mod (pv 0) pe_int))))))))), ?_⟩)
  · obtain ⟨c, k, kind, tilt, rfl, _⟩ := h
    rfl
  · obtain ⟨c, k, kind, tilt, rfl, hk, ht, q⟩ := h
    have hF := FAR_eq
    walk_at "rd"
    generalize (10 : Int) ^ (18 : Int).toNat = F at *
    refine ite2 (fun _ => ?_) (fun _ => ?_)
    · walk_at "rd"
      exact q _ ⟨by omega, by omega⟩
    walk_at "rd"
    refine ite2 (fun _ => ?_) (fun _ => ?_)
    · walk_at "rd"
      have := tilt_b ht hk
      exact q _ ⟨by omega, by omega⟩
    walk_at "rd"
    refine ite2 (fun _ => ?_) (fun _ => ?_)
    · walk_at "rd"
      have := emod_b (x := c * 48271) (n := 2 * F + 1) (by omega)
      exact q _ ⟨by omega, by omega⟩
    walk_at "rd"
    refine ite2 (fun _ => ?_) (fun _ => ?_)
    · walk_at "rd"
      have := sq_b (u := tilt % 3 - 1) hk (by omega)
      exact q _ ⟨by omega, by omega⟩
    walk_at "rd"
    exact q _ ⟨by omega, by omega⟩
def spLandBy (K : PySem.W.Frag) : Sp := fun vs H Q _ => ∃ (l : Addr) (ns : List Int) (most : Int), vs = [.ref l, .int most] ∧ SqL K H l (IL ns) ∧ (0 < most ∧ most ≤ 900) ∧
  ∀ D hs, H D = none → (0 < hs.length ∧ (hs.length : Int) ≤ most) → (∀ z ∈ hs, Bd z) → Q (.ref D) (upd H D (.lst (IL hs)))
theorem ok_law_land_by (T : Txt K mg) : FnOk P w K mg base CX0 2 T.a_law_land_by T.d_law_land_by ["_law_script", "_law_most"] (spLandBy K) := by
  refine T.F_law_land_by.ok sc_law_land_by (fun vs H Q E h => ?_) (fun cdv A outer s H vs Q E hr h => ⟨_, (pss_cons (ps_set (i := 2) sc_law_land_by.nd rfl (Or.inl rfl) (pe_call (ok_law_cell_at T) (hr.mono (by decide)) rfl T.g_law_cell_at T.F_law_cell_at.kp T.b_law_cell_at .nil pass0 (pa_cons (pv 0) (pa_cons pe_int pa_nil))))
      (pss_cons (ps_set (i := 3) sc_law_land_by.nd rfl (Or.inl rfl) (pe_op op_add pe_int (pe_op op_mod (pv 2) (pv 1))))
      (pss_cons (ps_set (i := 4) sc_law_land_by.nd rfl (Or.inr rfl) (pe_op op_mod (pe_op op_fdiv (pv 2) (pv 1)) pe_int))
      (pss_cons (ps_set (i := 5) sc_law_land_by.nd rfl (Or.inr rfl) (pe_op op_sub (pe_op op_mod (pe_op op_fdiv (pe_op op_fdiv (pv 2) (pv 1)) pe_int) pe_int) pe_int))
      (pss_one (ps_ret (pe_lc (own := [("_law_k", 6)]) (g := gName 6) rfl sc_law_land_by.nd (pi_range1 rfl T.n_range (pa_cons (pv 3) pa_nil)) (blkOk_by (own := [("_law_k", 6)]) (N := ["_law_script", "_law_most", "_law_head", "_law_size", "_law_kind", "_law_tilt", "_law_k"]) (sc := defScope s_law_land_by) (by decide +kernel)) (fun _ _ _ _ _ => (pg_name (i := 6) sc_law_land_by.nd rfl (Or.inl rfl))) (fun _ _ _ _ _ => pts_nil) (fun _ _ _ _ _ => (pe_call (ok_law_height_by T) (hr.mono (by decide)) rfl T.g_law_height_by T.F_law_height_by.kp T.b_law_height_by .nil pass0 (pa_cons (pe_call (ok_law_cell_at T) (hr.mono (by decide)) rfl T.g_law_cell_at T.F_law_cell_at.kp T.b_law_cell_at .nil pass0 (pa_cons (pv 0) (pa_cons (pe_op op_add pe_int (pv 6)) pa_nil))) (pa_cons (pv 6) (pa_cons (pv 4) (pa_cons (pv 5) pa_nil))))))))))))), ?_⟩)
  · obtain ⟨l, ns, most, rfl, _⟩ := h
    rfl
  · obtain ⟨l, ns, most, rfl, hS, hm, q⟩ := h
    walk_at "rd"
    generalize cell ns (Int.toNat 0) = hd
    have m1 := emod_b (x := hd) hm.1
    obtain ⟨n, hn⟩ : ∃ n, n = 1 + hd % most := ⟨_, rfl⟩
    rw [← hn]
    refine ⟨n, rfl, by omega, by omega, fun D nD => lc_range (lo := 0) (n := n.toNat) (fun i H' => ∃ zs : List Int, H' = upd H D (.lst (IL zs)) ∧ zs.length = i ∧ ∀ z ∈ zs, Bd z) ⟨[], rfl, rfl, fun _ h => by cases h⟩ ?_ ?_⟩
    · rintro i _ hi ⟨zs, rfl, hl, hb⟩
      have hS1 := (same_upd (o := .lst (IL zs)) nD).seq hS
      walk_at "rd"
      refine ⟨by rw [hn]; rfl, ?_⟩
      walk_at "rd"
      refine ⟨_, _, _, _, rfl, ⟨by omega, by omega⟩, ⟨by omega, by omega⟩, fun z bz => ?_⟩
      refine ⟨_, upd_same, by rw [List.length_map]; exact szlt (by omega), ?_⟩
      refine ⟨zs ++ [z], upd_snoc, len_snoc hl, fun y hy => ?_⟩
      rcases List.mem_append.mp hy with h | h
      · exact hb y h
      · rw [List.mem_singleton.mp h]
        exact bz
    · rintro _ ⟨zs, rfl, hl, hb⟩
      exact q D zs nD ⟨by omega, by omega⟩ hb

def spLonger (K : PySem.W.Frag) : Sp := fun vs H Q _ => ∃ (l a : Addr) (ns hs : List Int) (most many : Int), vs = [.ref l, .ref a, .int most, .int many] ∧ SqL K H l (IL ns) ∧ SqL K H a (IL hs) ∧ (0 < most ∧ most ≤ 900) ∧ (0 ≤ many ∧ (hs.length : Int) + many ≤ 900) ∧ (∀ z ∈ hs, Bd z) ∧
  ∀ D zs, H D = none → (zs.length : Int) = hs.length + many → (∀ z ∈ zs, Bd z) → Q (.ref D) (upd H D (.lst (IL zs)))
theorem ok_law_longer (T : Txt K mg) : FnOk P w K mg base CX0 2 T.a_law_longer T.d_law_longer ["_law_script", "_law_land", "_law_most", "_law_many"] (spLonger K) := by
  refine T.F_law_longer.ok sc_law_longer (fun vs H Q E h => ?_) (fun cdv A outer s H vs Q E hr h => ⟨_, (pss_cons (ps_set (i := 4) sc_law_longer.nd rfl (Or.inl rfl) (pe_call (ok_law_cell_at T) (hr.mono (by decide)) rfl T.g_law_cell_at T.F_law_cell_at.kp T.b_law_cell_at .nil pass0 (pa_cons (pv 0) (pa_cons pe_int pa_nil))))
      (pss_cons (ps_set (i := 5) sc_law_longer.nd rfl (Or.inl rfl) (pe_op op_sub (pe_op op_mod (pe_op op_fdiv (pe_op op_fdiv (pv 4) (pv 2)) pe_int) pe_int) pe_int))
      (pss_cons (ps_set (i := 6) sc_law_longer.nd rfl (Or.inl rfl) (pe_callTy (call_listK (K := K) rfl) rfl T.n_list (by decide +kernel) (pa_cons (pv 1) pa_nil)))
      (pss_cons (ps_for PassesOwn.never rfl (pi_range1 rfl T.n_range (pa_cons (pv 3) pa_nil)) (pg_name (i := 7) sc_law_longer.nd rfl (Or.inl rfl)) (pss_cons (ps_set (i := 8) sc_law_longer.nd rfl (Or.inl rfl) (pe_op op_mul (pe_call (ok_law_cell_at T) (hr.mono (by decide)) rfl T.g_law_cell_at T.F_law_cell_at.kp T.b_law_cell_at .nil pass0 (pa_cons (pv 0) (pa_cons (pe_op op_add pe_int (pe_op op_mod (pv 7) pe_int)) pa_nil))) (pe_op op_add (pv 7) pe_int)))
        (pss_one (ps_expr (pe_bmK (K := K) rfl PySem.F.plainAttrs_list PySem.F.slot_list_append PySem.F.type_list_append mt_append (pv 6) (pa_cons (pe_call (ok_law_height_by T) (hr.mono (by decide)) rfl T.g_law_height_by T.F_law_height_by.kp T.b_law_height_by .nil pass0 (pa_cons (pv 8) (pa_cons (pe_callB (call_lenK (K := K) rfl) rfl T.n_len (by decide +kernel) (pa_cons (pv 6) pa_nil)) (pa_cons (pe_op op_mod (pe_op op_fdiv (pv 4) (pv 2)) pe_int) (pa_cons (pv 5) pa_nil))))) pa_nil))))))
      (pss_one (ps_ret (pv 6))))))), ?_⟩)
  · obtain ⟨l, a, ns, hs, most, many, rfl, _⟩ := h
    rfl
  · obtain ⟨l, a, ns, hs, most, many, rfl, hS, hA, hm, hn, hb, q⟩ := h
    walk_at "rd"
    generalize cell ns (Int.toNat 0) = hd
    intro D nD
    have hS1 := (same_upd (o := .lst (IL hs)) nD).seq hS
    walk_at "rd"
    refine rng1 ⟨by omega, by omega⟩ (fun i σ H' => ∃ (zs : List Int) (v1 v2 : Option V), σ = [some (.ref l), some (.ref a), some (.int most), some (.int many), some (.int hd), some (.int (hd / most / 5 % 7 - 3)), some (.ref D), v1, v2] ∧ H' = upd H D (.lst (IL zs)) ∧ zs.length = hs.length + i ∧ ∀ z ∈ zs, Bd z)
      ⟨hs, none, none, rfl, rfl, rfl, hb⟩ ?_ ?_
    · rintro i σ H' hi ⟨zs, v1, v2, rfl, rfl, hl, hbz⟩
      have hS2 := (same_upd (o := .lst (IL zs)) nD).seq hS
      walk_at "rd"
      refine ⟨ty_list (.of upd_same), ?_⟩
      walk_at "rd"
      refine ⟨_, _, _, _, rfl, ⟨by omega, by rw [List.length_map]; omega⟩, ⟨by omega, by omega⟩, fun z bz => ?_⟩
      walk_at "rd"
      refine rd_append upd_same (by rw [List.length_map]; omega) ?_
      refine ⟨zs ++ [z], _, _, rfl, upd_snoc, by rw [List.length_append, hl]; rfl, fun y hy => ?_⟩
      rcases List.mem_append.mp hy with h | h
      · exact hbz y h
      · rw [List.mem_singleton.mp h]
        exact bz
    · rintro σ H' ⟨zs, v1, v2, rfl, rfl, hl, hbz⟩
      walk_at "rd"
      exact q D zs nD (by omega) hbz

/-! ## words, lines -/
local macro_rules | `(tactic| walk_at "rt1") => `(tactic| first
  | with_reducible refine rd_slT ?_
  | with_reducible refine rd_m1 ?_
  | ((with_reducible refine rd_cutTo ?h0 ?hl ?_); (case h0 => first | decide | omega); (case hl => omega))
  | ((with_reducible refine rd_cutFrom ?h0 ?hl ?_); (case h0 => first | decide | omega); (case hl => omega))
  | ((with_reducible refine rd_lenS ?hl ?_); (case hl => omega))
  | with_reducible refine rd_inC ?_
  | with_reducible refine rd_notInC ?_
  | walk_at "rd1")
local macro_rules | `(tactic| walk_at "rt") => `(tactic| repeat walk_at "rt1")
def spHeightOf : Sp := fun vs H Q _ => ∃ l, vs = [tx l] ∧ l.length ≤ 50000 ∧ ∀ H', Same H H' → Q (oI (pH l)) H'
theorem figs_le (l : List Nat) : (figs l).length ≤ l.length := by
  unfold figs
  split
  · rw [List.length_drop]; omega
  · exact Nat.le_refl _
theorem rd_iStrV {i : Nat} {l : List Nat} {σ : L2.St} {H : Hp} {R : It → Hp → Prop} (h : σ[i]? = some (some (tx l))) (q : R (Its (SX.S l)) H) : iStr (tVar i) σ H R := ⟨tx l, h, SX.S l, rfl, q⟩
theorem ok_height_of (T : Txt K mg) : FnOk P w K mg base CX0 1 T.a_height_of T.d_height_of ["word"] spHeightOf := by
  refine T.F_height_of.ok sc_height_of (fun vs H Q E h => ?_) (fun cdv A outer s H vs Q E hr h => ⟨_, (pss_cons (ps_set (i := 1) sc_height_of.nd rfl (Or.inl rfl) (pv 0))
      (pss_cons (ps_if (pt_cmpR op_eq (pe_slice sl_str (pv 0) po_none (po_some pe_int)) pe_str (nomark _)) (pss_one (ps_set (i := 1) sc_height_of.nd rfl (Or.inl rfl) (pe_slice sl_str (pv 0) (po_some pe_int) po_none))) pss_nil)
      (pss_cons (ps_if (PW.pt (pw_or (pt_cmpR op_eq (pv 1) pe_str (nomark _)) (pw_or (pt_cmpR op_gt (pe_callB call_lenS rfl T.n_len (by decide +kernel) (pa_cons (pv 1) pa_nil)) (pe_glob (v := .int 19) rfl T.g_MOST_FIGURES ⟨_, rfl⟩) (nomark _)) (pw_or1 (pt_not (pt_val (pe_callB (cr_allK (K := K) rfl rfl) rfl T.n_all (by decide +kernel) (pa_cons (pe_lc (own := [("sign", 2)]) (g := gName 2) rfl sc_height_of.nd (pi_str (pv 1)) (blkOk_by (own := [("sign", 2)]) (N := ["word", "figures", "sign"]) (sc := defScope s_height_of) (by decide +kernel)) (fun _ _ _ _ _ => (pg_name (i := 2) sc_height_of.nd rfl (Or.inl rfl))) (fun _ _ _ _ _ => pts_nil) (fun _ _ _ _ _ => (pe_cmpR op_inC (pv 2) (pe_glob (v := .str "0123456789") rfl T.g_FIGURES ⟨_, rfl⟩) (by rfl)))) pa_nil)))))))) (pss_one (ps_ret pe_non)) pss_nil)
      (pss_cons (ps_if (PW.pt (pw_and (pt_cmpR op_eq (pe_ix ix_str (pv 1) pe_int (fun _ _ => rfl)) pe_str (nomark _)) (pw_and1 (pt_cmpR op_ne (pv 0) pe_str (nomark _))))) (pss_one (ps_ret pe_non)) pss_nil)
      (pss_one (ps_ret (pe_callTy call_intS rfl T.n_int (by decide +kernel) (pa_cons (pv 0) pa_nil)))))))), ?_⟩)
  · obtain ⟨l, rfl, _⟩ := h
    rfl
  · obtain ⟨l, rfl, hl, q⟩ := h
    have hf := figs_le l
    have none_ : ∀ H', Same H H' → badW l = true → Q .non H' := fun H' s b => by
      have := q H' s
      rw [pH_bad b] at this
      exact this
    with_reducible refine rd_seq ?_
    walk_at "rq"
    with_reducible refine rd_cut (fun σ' H' => σ' = [some (tx l), some (tx (figs l)), none] ∧ H' = H) (fun N hN => ?_) ?_
    · walk_at "rt"
      rw [l_minus, dec_tx]
      refine ite2 (fun c => ?_) (fun c => ?_)
      · have c' : l.take 1 = [45] := of_decide_eq_true c
        walk_at "rt"
        refine hN _ _ ⟨?_, rfl⟩
        rw [figs, if_pos c']
        rfl
      · have c' : ¬ l.take 1 = [45] := fun z => c (decide_eq_true z)
        walk_at "rt"
        refine hN _ _ ⟨?_, rfl⟩
        rw [figs, if_neg c']
        rfl
    rintro σ1 H1 ⟨rfl, rfl⟩
    walk_at "rt"
    rw [l_empty, dec_tx]
    refine ite2 (fun c => ?_) (fun c => ?_)
    · walk_at "rt"
      exact none_ _ (Same.refl _) (badW_yes (.inl (of_decide_eq_true c)))
    have c1 : ¬ figs l = [] := fun z => c (decide_eq_true z)
    walk_at "rt"
    refine ite2 (fun c => ?_) (fun c => ?_)
    · have c' : (19 : Int) < ((figs l).length : Int) := of_decide_eq_true c
      walk_at "rt"
      exact none_ _ (Same.refl _) (badW_yes (.inr (.inl (by omega))))
    have c2 : ¬ (19 : Int) < ((figs l).length : Int) := fun z => c (decide_eq_true z)
    walk_at "rt"
    refine rd_iStrV rfl fun D nD => lc_strM (fun c => .bl (dig c)) nD (by omega) (fun _ => rfl) (fun c H' R hc s1 q' => ?_) (fun H1 s1 hD => ?_)
    · walk_at "rt"
      have := q' _ (Same.refl _)
      rw [← mem_digits'] at this
      exact this
    walk_at "rt"
    refine rd_allP dig (fun _ _ => rfl) hD ?_
    walk_at "rt"
    refine ite2 (fun c => ?_) (fun c => ?_)
    · walk_at "rt"
      exact none_ _ s1 (badW_yes (.inr (.inr (.inl (by simpa using c)))))
    have c3 : (figs l).all dig = true := by simpa using c
    walk_at "rt"
    obtain ⟨a, r, har⟩ : ∃ a r, figs l = a :: r := by
      cases e : figs l with
      | nil => exact absurd e c1
      | cons a r => exact ⟨a, r, rfl⟩
    have t1 : (figs l).take 1 = [a] := by rw [har]; rfl
    refine rd_ixS (by omega) (show atI (figs l) 0 = some a by rw [har]; exact atI_nat (j := 0) rfl) ?_
    walk_at "rt"
    rw [l_zero, dec_tx]
    refine ite2 (fun c => ?_) (fun c => ?_)
    · have c' : [a] = [48] := of_decide_eq_true c
      walk_at "rt"
      rw [dec_tx]
      refine ite2 (fun d => ?_) (fun d => ?_)
      · have d' : ¬ l = [48] := by simpa using d
        walk_at "rt"
        exact none_ _ s1 (badW_yes (.inr (.inr (.inr ⟨t1.trans c', d'⟩))))
      · have d' : l = [48] := by simpa using d
        walk_at "rt"
        have g := badW_no c1 (by omega) c3 fun z => z.2 d'
        refine rd_intS g ?_
        have := q _ s1
        rw [pH_good g] at this
        exact this
    · have c' : ¬ [a] = [48] := fun z => c (decide_eq_true z)
      walk_at "rt"
      have g := badW_no c1 (by omega) c3 fun z => c' (t1.symm.trans z.1)
      refine rd_intS g ?_
      have := q _ s1
      rw [pH_good g] at this
      exact this
def spLawHeightOf : Sp := fun vs H Q _ => ∃ l, vs = [tx l] ∧ l.length ≤ 50000 ∧ Q (oI (lH l)) H
theorem FAR_eq' : (10 : Int) ^ (18 : Int).toNat = 1000000000000000000 := by decide +kernel
theorem ok_law_height_of (T : Txt K mg) : FnOk P w K mg base CX0 1 T.a_law_height_of T.d_law_height_of ["_law_word"] spLawHeightOf := by
  refine T.F_law_height_of.ok sc_law_height_of (fun vs H Q E h => ?_) (fun cdv A outer s H vs Q E hr h => ⟨_, (pss_cons (ps_set (i := 1) sc_law_height_of.nd rfl (Or.inl rfl) (pv 0))
      (pss_cons (ps_if (pt_cmpR op_eq (pe_slice sl_str (pv 0) po_none (po_some pe_int)) pe_str (nomark _)) (pss_one (ps_set (i := 1) sc_law_height_of.nd rfl (Or.inl rfl) (pe_slice sl_str (pv 0) (po_some pe_int) po_none))) pss_nil)
      (pss_cons (ps_if (PW.pt (pw_or (pt_cmpR op_eq (pv 1) pe_str (nomark _)) (pw_or (pt_cmpR op_gt (pe_callB call_lenS rfl T.n_len (by decide +kernel) (pa_cons (pv 1) pa_nil)) pe_int (nomark _)) (pw_or1 (PW.pt (pw_and (pt_cmpR op_eq (pe_ix ix_str (pv 1) pe_int (fun _ _ => rfl)) pe_str (nomark _)) (pw_and1 (pt_cmpR op_ne (pv 0) pe_str (nomark _))))))))) (pss_one (ps_ret pe_non)) pss_nil)
      (pss_cons (ps_set (i := 2) sc_law_height_of.nd rfl (Or.inl rfl) pe_int)
      (pss_cons (ps_for PassesOwn.never rfl (pi_str (pv 1)) (pg_name (i := 3) sc_law_height_of.nd rfl (Or.inl rfl)) (pss_cons (ps_if (pt_cmpR op_notInC (pv 3) pe_str (by rfl)) (pss_one (ps_ret pe_non)) pss_nil)
        (pss_one (ps_set (i := 2) sc_law_height_of.nd rfl (Or.inl rfl) (pe_op op_add (pe_op op_mul (pv 2) pe_int) (pe_m1 PySem.F.slot_str_index PySem.F.type_str_index mt_idx pe_str (pv 3)))))))
      (pss_cons (ps_if (pt_cmpR op_eq (pe_slice sl_str (pv 0) po_none (po_some pe_int)) pe_str (nomark _)) (pss_one (ps_set (i := 2) sc_law_height_of.nd rfl (Or.inl rfl) (pe_un un_neg (pv 2)))) pss_nil)
      (pss_cons (ps_if (pt_not (pt_chain op_le op_le (pe_un un_neg (pe_op op_pow pe_int pe_int)) (pv 2) (pe_op op_pow pe_int pe_int))) (pss_one (ps_ret pe_non)) pss_nil)
      (pss_one (ps_ret (pv 2)))))))))), ?_⟩)
  · obtain ⟨l, rfl, _⟩ := h
    rfl
  · obtain ⟨l, rfl, hl, q⟩ := h
    have hf := figs_le l
    have none_ : badW l = true → Q .non H := fun b => by
      rw [lH_bad b] at q
      exact q
    with_reducible refine rd_seq ?_
    walk_at "rq"
    with_reducible refine rd_cut (fun σ' H' => σ' = [some (tx l), some (tx (figs l)), none, none] ∧ H' = H) (fun N hN => ?_) ?_
    · walk_at "rt"
      rw [l_minus, dec_tx]
      refine ite2 (fun c => ?_) (fun c => ?_)
      · have c' : l.take 1 = [45] := of_decide_eq_true c
        walk_at "rt"
        refine hN _ _ ⟨?_, rfl⟩
        rw [figs, if_pos c']
        rfl
      · have c' : ¬ l.take 1 = [45] := fun z => c (decide_eq_true z)
        walk_at "rt"
        refine hN _ _ ⟨?_, rfl⟩
        rw [figs, if_neg c']
        rfl
    rintro σ1 H1 ⟨rfl, rfl⟩
    walk_at "rq"
    with_reducible refine rd_cut (fun σ' H' => σ' = [some (tx l), some (tx (figs l)), none, none] ∧ H' = H1 ∧ figs l ≠ [] ∧ (figs l).length ≤ 19 ∧ ¬ ((figs l).take 1 = [48] ∧ l ≠ [48])) (fun N hN => ?_) ?_
    · walk_at "rt"
      rw [l_empty, dec_tx]
      refine ite2 (fun c => ?_) (fun c => ?_)
      · walk_at "rt"
        exact none_ (badW_yes (.inl (of_decide_eq_true c)))
      have c1 : ¬ figs l = [] := fun z => c (decide_eq_true z)
      walk_at "rt"
      refine ite2 (fun c => ?_) (fun c => ?_)
      · have c' : (19 : Int) < ((figs l).length : Int) := of_decide_eq_true c
        walk_at "rt"
        exact none_ (badW_yes (.inr (.inl (by omega))))
      have c2 : ¬ (19 : Int) < ((figs l).length : Int) := fun z => c (decide_eq_true z)
      walk_at "rt"
      obtain ⟨a, r, har⟩ : ∃ a r, figs l = a :: r := by
        cases e : figs l with
        | nil => exact absurd e c1
        | cons a r => exact ⟨a, r, rfl⟩
      have t1 : (figs l).take 1 = [a] := by rw [har]; rfl
      refine rd_ixS (by omega) (show atI (figs l) 0 = some a by rw [har]; exact atI_nat (j := 0) rfl) ?_
      walk_at "rt"
      rw [l_zero, dec_tx]
      refine ite2 (fun c => ?_) (fun c => ?_)
      · have c' : [a] = [48] := of_decide_eq_true c
        walk_at "rt"
        rw [dec_tx]
        refine ite2 (fun d => ?_) (fun d => ?_)
        · have d' : ¬ l = [48] := by simpa using d
          walk_at "rt"
          exact none_ (badW_yes (.inr (.inr (.inr ⟨t1.trans c', d'⟩))))
        · have d' : l = [48] := by simpa using d
          walk_at "rt"
          exact hN _ _ ⟨rfl, rfl, c1, by omega, fun z => z.2 d'⟩
      · have c' : ¬ [a] = [48] := fun z => c (decide_eq_true z)
        walk_at "rt"
        exact hN _ _ ⟨rfl, rfl, c1, by omega, fun z => c' (t1.symm.trans z.1)⟩
    rintro σ1 H1 ⟨rfl, rfl, c1, c2, c4⟩
    walk_at "rt"
    refine rd_iStrV rfl (for_strL (fun i σ' H' => ∃ v3 : Option V, σ' = [some (tx l), some (tx (figs l)), some (.int ((NumText.digitsVal ((figs l).take i) : Nat) : Int)), v3] ∧ H' = H1 ∧ ((figs l).take i).all dig = true) ⟨none, rfl, rfl, rfl⟩ ?_ ?_)
    · rintro i c σ' H' hc ⟨v3, rfl, rfl, had⟩
      walk_at "rt"
      refine ite2 (fun d => ?_) (fun d => ?_)
      · have d' : ¬ dig c = true := by
          rw [← mem_digits']
          simpa using d
        walk_at "rt"
        refine none_ (badW_yes (.inr (.inr (.inl ?_))))
        rw [← Bool.not_eq_true]
        exact fun z => d' (List.all_eq_true.mp z c (List.mem_of_getElem? hc))
      · have d' : dig c = true := by
          rw [← mem_digits']
          simpa using d
        walk_at "rt"
        refine ⟨⟨_, rfl⟩, ?_⟩
        walk_at "rt"
        obtain ⟨rest, er⟩ := idx_dig d'
        rw [l_digits]
        refine ⟨_, _, _, rest, rfl, rfl, er, ?_⟩
        walk_at "rt"
        have et : (figs l).take (i + 1) = (figs l).take i ++ [c] := by rw [List.take_add_one, hc]; rfl
        refine ⟨some (tx [c]), ?_, rfl, ?_⟩
        · rw [et, val_snoc]
          push_cast
          rfl
        · rw [et, List.all_append, had]
          simpa using d'
    · rintro σ' H' ⟨v3, rfl, rfl, had⟩
      rw [List.take_length] at had ⊢
      have g := badW_no c1 c2 had c4
      rw [lH_good g] at q
      walk_at "rq"
      with_reducible refine rd_cut (fun σ' H2 => ∃ v3 : Option V, σ' = [some (tx l), some (tx (figs l)), some (.int (valT l)), v3] ∧ H2 = H') (fun N hN => ?_) ?_
      · walk_at "rt"
        rw [l_minus, dec_tx]
        refine ite2 (fun c => ?_) (fun c => ?_)
        · have c' : l.take 1 = [45] := of_decide_eq_true c
          walk_at "rt"
          refine hN _ _ ⟨v3, ?_, rfl⟩
          rw [valT, if_pos c']
          rfl
        · have c' : ¬ l.take 1 = [45] := fun z => c (decide_eq_true z)
          walk_at "rt"
          refine hN _ _ ⟨v3, ?_, rfl⟩
          rw [valT, if_neg c']
      rintro σ' H2 ⟨v4, rfl, rfl⟩
      have hF := FAR_eq'
      walk_at "rt"
      generalize (10 : Int) ^ (18 : Int).toNat = F at *
      subst hF
      refine ite2 (fun c => ?_) (fun c => ?_)
      · have c' := of_decide_eq_true c
        walk_at "rt"
        refine ite2 (fun d => ?_) (fun d => ?_)
        · have d' : ¬ valT l ≤ 1000000000000000000 := by simpa using d
          walk_at "rt"
          rw [if_neg (show ¬ inB (valT l) = true from fun z => d' (of_decide_eq_true z).2)] at q
          exact q
        · have d' : valT l ≤ 1000000000000000000 := by simpa using d
          walk_at "rt"
          rw [if_pos (show inB (valT l) = true from decide_eq_true ⟨c', d'⟩)] at q
          exact q
      · have c' := fun z => c (decide_eq_true z)
        walk_at "rt"
        rw [if_neg (show ¬ inB (valT l) = true from fun z => c' (of_decide_eq_true z).1)] at q
        exact q
/-! ## lines -/
def rowOf (ws : List (List Nat)) : List V := ws.map tx
theorem map_tx (ws : List (List Nat)) : ws.map tx = (ws.map SX.S).map V.str := by rw [List.map_map]; rfl
theorem rd_join {H : Hp} {p : Addr} {ws : List (List Nat)} {b : Nat} {Q : VK} (hS : SqL K H p (ws.map tx)) (hb : ∀ w ∈ ws, w.length ≤ b) (hz : ws.length * b + ws.length ≤ 16777216) (q : Q (tx (TL.joinL [32] ws)) H) : rJoin K (tx [32]) [.ref p] H Q := by
  refine ⟨SX.S [32], p, ws.map SX.S, rfl, rfl, .inl (by rw [← map_tx]; exact hS), ?_, ?_⟩
  · rw [SX.lens, List.length_map]
    have := sum_le ws hb
    have e : (SX.S [32]).length = 1 := rfl
    rw [e]
    omega
  · rw [SX.join_S]
    exact q
def spShown (K : PySem.W.Frag) : Sp := fun vs H Q _ => ∃ (a : Addr) (zs : List Int), vs = [.ref a] ∧ SqL K H a (IL zs) ∧ (∀ z ∈ zs, inB z = true) ∧ zs.length ≤ 1000 ∧ ∀ H', Same H H' → Q (tx (TL.joinL [32] (zs.map figL))) H'
def ftx : V → V
  | .int z => tx (figL z)
  | _ => .non
theorem ftx_IL (zs : List Int) : (IL zs).map ftx = (zs.map figL).map tx := by
  rw [IL, List.map_map, List.map_map]
  rfl
theorem figs_b {zs : List Int} (h : ∀ z ∈ zs, inB z = true) : ∀ w ∈ zs.map figL, w.length ≤ 20 := fun w hw => by
  obtain ⟨z, hz, rfl⟩ := List.mem_map.mp hw
  exact figL_len (h z hz)
theorem ok_shown (T : Txt K mg) : FnOk P w K mg base CX0 1 T.a_shown T.d_shown ["land"] (spShown K) := by
  refine T.F_shown.ok sc_shown (fun vs H Q E h => ?_) (fun cdv A outer s H vs Q E hr h => ⟨_, (pss_one (ps_ret (pe_m1 PySem.F.slot_str_join PySem.F.type_str_join (mt_joinK (K := K) rfl) pe_str (pe_lc (own := [("height", 1)]) (g := gName 1) rfl sc_shown.nd (pi_listK (K := K) rfl (pv 0)) (blkOk_by (own := [("height", 1)]) (N := ["land", "height"]) (sc := defScope s_shown) (by decide +kernel)) (fun _ _ _ _ _ => (pg_name (i := 1) sc_shown.nd rfl (Or.inl rfl))) (fun _ _ _ _ _ => pts_nil) (fun _ _ _ _ _ => (pe_callTy call_strI rfl T.n_str (by decide +kernel) (pa_cons (pv 1) pa_nil))))))), ?_⟩)
  · obtain ⟨a, zs, rfl, _⟩ := h
    rfl
  · obtain ⟨a, zs, rfl, hS, hb, hl, q⟩ := h
    walk_at "rt"
    refine ⟨⟨_, rfl⟩, ?_⟩
    walk_at "rt"
    refine ⟨a, rfl, ⟨_, hS⟩, fun D nD => lc_listM ftx hS nD (by rw [List.length_map]; omega) (fun _ => rfl) (fun x H' R hx s1 q' => ?_) (fun H1 s1 hD => ?_)⟩
    · obtain ⟨z, hz, rfl⟩ := List.mem_map.mp hx
      walk_at "rt"
      exact rd_strI (hb z hz) (q' _ (Same.refl _))
    rw [l_blank]
    rw [ftx_IL] at hD
    exact rd_join (b := 20) (.of hD) (figs_b hb) (by rw [List.length_map]; omega) (q _ s1)
def spFigures : Sp := fun vs H Q _ => ∃ z : Int, vs = [.int z] ∧ inB z = true ∧ Q (tx (figL z)) H
theorem ok_law_figures_by (T : Txt K mg) : FnOk P w K mg base CX0 1 T.a_law_figures_by T.d_law_figures_by ["_law_height"] spFigures := by
  refine T.F_law_figures_by.ok sc_law_figures_by (fun vs H Q E h => ?_) (fun cdv A outer s H vs Q E hr h => ⟨_, (pss_cons (ps_set (i := 1) sc_law_figures_by.nd rfl (Or.inl rfl) pe_str)
      (pss_cons (ps_set (i := 2) sc_law_figures_by.nd rfl (Or.inl rfl) (pe_callB call_absK rfl T.n_abs (by decide +kernel) (pa_cons (pv 0) pa_nil)))
      (pss_cons (ps_while PassesOwn.never (PW.pt (pw_or (pt_cmpR op_gt (pv 2) pe_int (nomark _)) (pw_or1 (pt_cmpR op_eq (pv 1) pe_str (nomark _))))) (pss_cons (ps_set (i := 1) sc_law_figures_by.nd rfl (Or.inl rfl) (pe_op op_addS (pe_ix ix_str pe_str (pe_op op_mod (pv 2) pe_int) (fun _ _ => rfl)) (pv 1)))
        (pss_one (ps_set (i := 2) sc_law_figures_by.nd rfl (Or.inl rfl) (pe_op op_fdiv (pv 2) pe_int)))))
      (pss_cons (ps_if (pt_cmpR op_lt (pv 0) pe_int (nomark _)) (pss_one (ps_ret (pe_op op_addS pe_str (pv 1)))) pss_nil)
      (pss_one (ps_ret (pv 1))))))), ?_⟩)
  · obtain ⟨z, rfl, _⟩ := h
    rfl
  · obtain ⟨z, rfl, hz, q⟩ := h
    have hn : (TL.numL z.natAbs).length ≤ 20 := by
      have := figL_len hz
      unfold figL at this
      split at this
      · rw [List.length_cons] at this
        omega
      · exact this
    with_reducible refine rd_seq ?_
    walk_at "rt"
    refine ⟨fun m σ H' => ∃ (f : List Nat) (r : Nat), σ = [some (.int z), some (tx f), some (.int (r : Int))] ∧ H' = H ∧ m = (if f = [] then 1 else 0) + r ∧ ((f = [] ∧ r = z.natAbs) ∨ (f ≠ [] ∧ (if r = 0 then [] else TL.numL r) ++ f = TL.numL z.natAbs)), ⟨_, [], z.natAbs, by rw [l_empty]; rfl, rfl, rfl, .inl ⟨rfl, rfl⟩⟩, ?_⟩
    rintro m σ H' ⟨f, r, rfl, rfl, rfl, hf⟩
    have fl : f.length ≤ 20 := by
      rcases hf with ⟨rfl, _⟩ | ⟨_, e⟩
      · simp
      · have := congrArg List.length e
        rw [List.length_append] at this
        omega
    have step : (∀ N : L2.St → Hp → Prop, (∀ (f' : List Nat) (r' : Nat), ((f' = [] ∧ r' = z.natAbs) ∨ (f' ≠ [] ∧ (if r' = 0 then [] else TL.numL r') ++ f' = TL.numL z.natAbs)) → (if f' = [] then 1 else 0) + r' < (if f = [] then 1 else 0) + r → N [some (.int z), some (tx f'), some (.int (r' : Int))] H') → (r ≠ 0 ∨ f = []) → N [some (.int z), some (tx ((48 + r % 10) :: f)), some (.int ((r / 10 : Nat) : Int))] H') := by
      intro N hN hr0
      refine hN _ _ (.inr ⟨by simp, ?_⟩) ?_
      · by_cases h0 : r = 0
        · rcases hf with ⟨rfl, h⟩ | ⟨h1, _⟩
          · subst h0
            rw [← h]
            rfl
          · rcases hr0 with h | h
            · exact absurd h0 h
            · exact absurd h h1
        · rw [num_step h0]
          rcases hf with ⟨rfl, h⟩ | ⟨_, e⟩
          · rw [← h, List.append_nil]
          · rw [if_neg h0] at e
            exact e
      · rw [if_neg (by simp)]
        rcases hr0 with h | h
        · omega
        · rw [if_pos h]
          omega
    have body : ∀ (N : L2.St → Hp → Prop) (R : VK) (B : L2.St → Hp → Prop), (∀ (f' : List Nat) (r' : Nat), ((f' = [] ∧ r' = z.natAbs) ∨ (f' ≠ [] ∧ (if r' = 0 then [] else TL.numL r') ++ f' = TL.numL z.natAbs)) → (if f' = [] then 1 else 0) + r' < (if f = [] then 1 else 0) + r → N [some (.int z), some (tx f'), some (.int (r' : Int))] H') → (r ≠ 0 ∨ f = []) →
        tSeq (tAsg (tOp rAddS (tOp rIxS (tC (V.str (Str.ofString "0123456789"))) (tOp (rI (fun x j => 0 < j) fun i j => V.int (i % j)) (tVar 2) (tC (V.int 10)))) (tVar 1)) (gName 1))
          (tAsg (tOp (rI CDiv fun i j => V.int (i / j)) (tVar 2) (tC (V.int 10))) (gName 2)) { nx := N, rt := R, bk := B, ct := N } [some (.int z), some (tx f), some (.int (r : Int))] H' := by
      intro N R B hN hr0
      walk_at "rt"
      rw [l_digits]
      have e : (r : Int) % 10 = ((r % 10 : Nat) : Int) := by omega
      rw [e]
      refine rd_ixS (by decide) (atI_nat (dig_at (r % 10) (by omega))) ?_
      walk_at "rt"
      refine rd_addS (by simp; omega) ?_
      walk_at "rt"
      have e2 : (r : Int) / 10 = ((r / 10 : Nat) : Int) := by omega
      rw [e2]
      exact step N hN hr0
    have fin : (¬ (r ≠ 0 ∨ f = [])) → f = TL.numL z.natAbs := fun h => by
      have h0 : r = 0 := Classical.byContradiction fun c => h (.inl c)
      rcases hf with ⟨h1, _⟩ | ⟨_, e⟩
      · exact absurd (.inr h1) h
      · rw [if_pos h0] at e
        exact e
    walk_at "rt"
    refine ite2 (fun c => ?_) (fun c => ?_)
    · have c' : (0 : Int) < (r : Int) := of_decide_eq_true c
      refine iteT ?_
      refine ⟨_, fun _ _ n => n, ?_⟩
      exact body _ _ _ (fun f' r' h1 h2 => ⟨_, h2, f', r', rfl, rfl, rfl, h1⟩) (.inl (by omega))
    · have c' : ¬ (0 : Int) < (r : Int) := fun z => c (decide_eq_true z)
      walk_at "rt"
      rw [l_empty, dec_tx]
      refine ite2 (fun d => ?_) (fun d => ?_)
      · have d' : f = [] := of_decide_eq_true d
        refine ⟨_, fun _ _ n => n, ?_⟩
        exact body _ _ _ (fun f' r' h1 h2 => ⟨_, h2, f', r', rfl, rfl, rfl, h1⟩) (.inr d')
      · have d' : ¬ f = [] := fun z => d (decide_eq_true z)
        have ef : f = TL.numL z.natAbs := fin (fun h => h.elim (fun h => h (by omega)) d')
        subst ef
        walk_at "rt"
        refine ite2 (fun e => ?_) (fun e => ?_)
        · have e' : z < 0 := of_decide_eq_true e
          walk_at "rt"
          rw [l_minus]
          refine rd_addS (by simp; omega) ?_
          unfold figL at q
          rw [if_pos e'] at q
          exact q
        · have e' : ¬ z < 0 := fun y => e (decide_eq_true y)
          walk_at "rt"
          unfold figL at q
          rw [if_neg e'] at q
          exact q
/-! ## read -/
/-- a line that is no land -/
def NoLine (l : List Nat) : Prop := 200 < (sp l).length ∨ ∃ w ∈ sp l, lH w = none
def spRead (K : PySem.W.Frag) (C : Addr) : Sp := fun vs H Q E => (∃ x t, vs = [x] ∧ TyX K H x (.type t) ∧ kitB t "str" = some false ∧ E (.ref C) none H) ∨
  (∃ l, vs = [tx l] ∧ l.length ≤ 50000 ∧ (NoLine l → ∀ H', Same H H' → E (.ref C) none H') ∧ (¬ NoLine l → ∀ D H', Same H H' → H D = none → H' D = some (.lst (IL ((sp l).map valT))) → Q (.ref D) H'))
def isHo : V → Bool
  | .int i => inB i
  | _ => false
theorem isHo_iff (w : List Nat) : isHo (oI (pH w)) = (lH w).isSome := by
  cases b : badW w with
  | true => rw [pH_bad b, lH_bad b]; rfl
  | false =>
    rw [pH_good b, lH_good b]
    show inB (valT w) = _
    cases c : inB (valT w) with
    | true => rfl
    | false => rfl
theorem ht_oI {H : Hp} (o : Option Int) : Ht K H (oI o) (isHo (oI o)) := by
  cases o with
  | none => exact ⟨false, whole_non, .inl ⟨rfl, rfl⟩⟩
  | some i => exact ⟨true, whole_int, .inr ⟨i, rfl, rfl, rfl⟩⟩
theorem sp_sub : ∀ (l : List Nat) (w : List Nat), w ∈ sp l → w.length ≤ l.length
  | [], w, h => by
    have : w = [] := List.mem_singleton.mp h
    rw [this]
    simp
  | c :: r, w, h => by
    by_cases hc : c = 32
    · have e1 : sp (c :: r) = [] :: sp r := if_pos hc
      rw [e1] at h
      rcases List.mem_cons.mp h with z | z
      · rw [z]; simp
      · have := sp_sub r w z
        rw [List.length_cons]
        omega
    · cases e : sp r with
      | nil => exact absurd e (sp_ne r)
      | cons p ps =>
        have e2 : sp (c :: r) = (c :: p) :: ps := by
          show (if c = 32 then [] :: sp r else match sp r with
            | [] => [[c]]
            | p :: ps => (c :: p) :: ps) = _
          rw [if_neg hc, e]
        rw [e2] at h
        rcases List.mem_cons.mp h with z | z
        · have := sp_sub r p (by rw [e]; exact List.mem_cons_self)
          rw [z, List.length_cons, List.length_cons]
          omega
        · have := sp_sub r w (by rw [e]; exact List.mem_cons_of_mem _ z)
          rw [List.length_cons]
          omega
def fH (g : List Nat → Option Int) : V → V
  | .str x => oI (g x.cps.toList)
  | _ => .non
theorem fH_map (g : List Nat → Option Int) (ws : List (List Nat)) : (ws.map tx).map (fH g) = ws.map fun w => oI (g w) := by
  rw [List.map_map]
  rfl
theorem all_isHo (ws : List (List Nat)) : (ws.map fun w => oI (pH w)).all isHo = ws.all fun w => (lH w).isSome := by
  rw [List.all_map]
  congr 1
  funext w
  exact isHo_iff w
theorem due_IL {ws : List (List Nat)} (g : List Nat → Option Int) (h : ∀ w ∈ ws, g w = some (valT w)) : (ws.map fun w => oI (g w)) = IL (ws.map valT) := by
  rw [IL, List.map_map]
  refine List.map_congr_left fun w hw => ?_
  rw [h w hw]
  rfl
theorem rd_split {l : List Nat} {H : Hp} {Q : VK} (hl : l.length ≤ 50000) (q : ∀ p, H p = none → Q (.ref p) (upd H p (.lst ((sp l).map tx)))) : rSplit (tx l) [tx [32]] H Q := by
  refine ⟨SX.S l, SX.S [32], rfl, rfl, rfl, by rw [SX.S_len]; exact szS (by omega), fun p np => ?_⟩
  rw [split_sp, ← map_tx]
  exact q p np
theorem okLine {l : List Nat} (h : ¬ NoLine l) : (1 ≤ (sp l).length ∧ (sp l).length ≤ 200) ∧ ∀ w ∈ sp l, lH w = some (valT w) := by
  refine ⟨⟨?_, ?_⟩, fun w hw => ?_⟩
  · have := List.length_pos_iff.mpr (sp_ne l)
    omega
  · exact Classical.byContradiction fun z => h (.inl (by omega))
  · cases e : lH w with
    | none => exact absurd (.inr ⟨w, hw, e⟩) h
    | some i =>
      rw [(lH_some e).2.2]
theorem ok_read (T : Txt K mg) : FnOk P w K mg base (L2N.CX P w) 4 T.a_read T.d_read ["line"] (spRead K T.c_NoLand) := by
  refine okN T.F_read sc_read (fun vs H Q E h => ?_) (fun cdv A outer s H vs Q E hr h => ⟨_, (pss_cons (ps_if (pt_not (pt_val (pe_callB (call_isiK0 (K := K) rfl) rfl T.n_isinstance (by decide +kernel) (pa_cons (pv 0) (pa_cons (pe_bltn (v := .ty "str") (by rfl) T.n_str (by decide +kernel) rfl) pa_nil))))) (pss_one (L2N.ps_raise rfl (L2N.takes_of rfl rfl rfl rfl) (L2N.pmk_own PySem.F.excBase_ValueError T.x_NoLand T.g_NoLand T.k_NoLand (raises_own T.e_NoLand T.t_NoLand) (by rfl)))) pss_nil)
      (pss_one (ps_ret (pe_callS (ok_checked T) (hr.mono (by decide)) rfl T.g_checked T.F_checked.kp T.b_checked (fun σ => L2N.passAt (L2N.takes_of rfl rfl rfl rfl) σ) (pa_cons (pe_lc (own := [("word", 1)]) (g := gName 1) rfl sc_read.nd (pi_listK (K := K) rfl (pe_m1 PySem.F.slot_str_split PySem.F.type_str_split mt_splitK (pv 0) pe_str)) (blkOk_by (own := [("word", 1)]) (N := ["line", "word"]) (sc := defScope s_read) (by decide +kernel)) (fun _ _ _ _ _ => (pg_name (i := 1) sc_read.nd rfl (Or.inl rfl))) (fun _ _ _ _ _ => pts_nil) (fun _ _ _ _ _ => (pe_call (ok_height_of T) (hr.mono (by decide)) rfl T.g_height_of T.F_height_of.kp T.b_height_of .nil pass0 (pa_cons (pv 1) pa_nil)))) pa_nil))))), ?_⟩)
  · rcases h with ⟨x, t, rfl, _⟩ | ⟨l, rfl, _⟩ <;> rfl
  · rcases h with ⟨x, t, rfl, ty, kt, e⟩ | ⟨l, rfl, hl, e, q⟩
    · walk_at "rt"
      refine rd_isi ty kt ?_
      walk_at "rt"
      exact e
    · walk_at "rt"
      refine rd_isi (b := true) (.base (.str _)) (by decide +kernel) ?_
      walk_at "rt"
      refine ⟨⟨_, rfl⟩, ?_⟩
      walk_at "rt"
      rw [l_blank]
      refine rd_split hl fun W nW => ?_
      have s1 := same_upd (o := .lst ((sp l).map tx)) nW
      have hW : (upd H W (.lst ((sp l).map tx))) W = some (.lst ((sp l).map tx)) := upd_same
      have ln := sp_len l
      generalize upd H W (.lst ((sp l).map tx)) = H1 at *
      refine ⟨W, rfl, ⟨_, .of hW⟩, fun D nD => lc_listM (fH pH) (.of hW) nD (by rw [List.length_map]; omega) (fun _ => rfl) (fun x H' R hx s2 q' => ?_) (fun H2 s2 hD => ?_)⟩
      · obtain ⟨w, hw, rfl⟩ := List.mem_map.mp hx
        have := sp_sub l w hw
        walk_at "rt"
        exact ⟨w, rfl, by omega, q'⟩
      rw [fH_map] at hD
      have s12 := s1.trans s2
      walk_at "rt"
      refine ⟨_, rfl, .inr ⟨D, _, isHo, rfl, hD, by rw [List.length_map]; omega, fun H' v _ hv => ?_, fun hg D2 H3 s3 nD2 hD2 => ?_, fun hb H3 s3 => ?_⟩⟩
      · obtain ⟨w, _, rfl⟩ := List.mem_map.mp hv
        exact ht_oI _
      · obtain ⟨⟨g1, g2⟩, g3⟩ := hg
        rw [List.length_map] at g1 g2
        rw [all_isHo] at g3
        have ok : ∀ w ∈ sp l, lH w = some (valT w) := fun w hw => by
          have := List.all_eq_true.mp g3 w hw
          cases e : lH w with
          | none => rw [e] at this; cases this
          | some i => rw [(lH_some e).2.2]
        have nn : ¬ NoLine l := fun z => by
          rcases z with z | ⟨w, hw, z⟩
          · omega
          · rw [ok w hw] at z
            cases z
        refine q nn D2 H3 (s12.trans s3) (same_fresh s12 nD2) ?_
        rw [hD2, due_IL pH (fun w hw => (lH_some (ok w hw)).1)]
      · refine e (Classical.byContradiction fun z => hb ?_) H3 (s12.trans s3)
        obtain ⟨⟨o1, o2⟩, o3⟩ := okLine z
        rw [List.length_map, all_isHo]
        exact ⟨⟨o1, o2⟩, List.all_eq_true.mpr fun w hw => by rw [o3 w hw]; rfl⟩
theorem so_NoLand (T : Txt K mg) : Sole T T.c_NoLand true false false false false := ⟨⟨T.hg_NoLand, T.hk_NoLand, T.e_NoLand, T.hd_NoLand, T.ha_NoLand, T.hn_obj, T.ht_obj, T.hm_NoLand⟩, T.kt_NoLand_NoLand, T.kt_NoLand_NoHill, T.kt_NoLand_SameHill, T.kt_NoLand_TooHigh, T.kt_NoLand_NothingDone, T.kt_NoLand_HillError, T.kv_NoLand, rfl⟩
def spRefused (K : PySem.W.Frag) : Sp := fun vs H Q _ => ∃ x, vs = [x] ∧ ((∃ t, TyX K H x (.type t) ∧ kitB t "str" = some false) ∨ ∃ l, x = tx l ∧ l.length ≤ 50000 ∧ NoLine l) ∧ ∀ H', Same H H' → Q (.bl true) H'
theorem ok_law_refused (T : Txt K mg) : FnOk P w K mg base CX0 5 T.a_law_refused T.d_law_refused ["_law_line"] (spRefused K) := by
  refine T.F_law_refused.ok sc_law_refused (fun vs H Q E h => ?_) (fun cdv A outer s H vs Q E hr h => ⟨_, (pss_cons (ps_try_manyA rfl rfl sc_law_refused.nd takes0N (fun W pn xe tk po => (pss_one (ps_expr (pe_callS (ok_read T) (hr.mono (by decide)) rfl T.g_read T.F_read.kp T.b_read (fun σ => L2N.passAt tk σ) (pa_cons (pv 0) pa_nil))))) (.consA (i := 1) rfl rfl ⟨rfl, by decide, .inl T.g_NoLand⟩ (fun a oe cls d pn hz hf => (pss_one (ps_ret (pe_callP (p := (a, oe)) (okP_law_sole T hz hf) (roomM (j := 1) hr (by decide)) ⟨rfl, hot2 hz hf⟩ List.mem_cons_self rfl T.g_law_sole T.F_law_sole.kp T.b_law_sole (pa_cons (pv 1) pa_nil))))) (.cons ⟨rfl, by decide, .inl T.g_HillError⟩ (fun a oe cls d pn hz hf => (pss_one (ps_ret pe_bl))) .nil)))
      (pss_one (ps_ret pe_bl))), ?_⟩)
  · obtain ⟨x, rfl, _⟩ := h
    rfl
  · obtain ⟨x, rfl, hx, q⟩ := h
    walk_at "rt"
    have sup : ∀ (H' : Hp) (D : Ends), Same H H' → D.rt = Q → wManyA K (fun _ _ _ _ => False) D [(Value.ref T.c_NoLand, some 1, fun a cls d => tRet (tCallS (spSole T a cls d) (fun _ => E0) (tCons (tVar 1) tNil))), (Value.ref T.c_HillError, none, fun a cls d => tRet (tC (V.bl false)))] (.ref T.c_NoLand) none [some x, none] H' := by
      intro H' D s1 eD
      refine ⟨true, exm_of T.e_NoLand T.i_NoLand T.t_NoLand T.s_NoLand_NoLand, fun _ ae nae => ?_, fun z => (by cases z)⟩
      dsimp only [endsOf, slotOf]
      walk_at "rt"
      refine ⟨rfl, rfl, ⟨T.c_NoLand, _, _, _, _, _, rfl, so_NoLand T⟩, ?_⟩
      rw [eD]
      exact q _ s1
    rcases hx with ⟨t, ty, kt⟩ | ⟨l, rfl, hl, hn⟩
    · exact .inl ⟨x, t, rfl, ty, kt, sup _ _ (Same.refl _) rfl⟩
    · exact .inr ⟨l, rfl, hl, fun _ H' s1 => sup _ _ s1 rfl, fun z => absurd hn z⟩
def spAlike : Sp := fun vs H Q _ => ∃ l, vs = [tx l] ∧ l.length ≤ 50000 ∧ ∀ H', Q (.bl true) H'
theorem flat_oI (o : Option Int) : flatV (oI o) = true := by cases o <;> rfl
theorem ok_law_read_alike (T : Txt K mg) : FnOk P w K mg base CX0 6 T.a_law_read_alike T.d_law_read_alike ["_law_line"] spAlike := by
  refine T.F_law_read_alike.ok sc_law_read_alike (fun vs H Q E h => ?_) (fun cdv A outer s H vs Q E hr h => ⟨_, (pss_cons (ps_setLc (i := 1) (own := [("_law_word", 2)]) (g := gName 2) rfl sc_law_read_alike.nd rfl rfl (sw_true rfl rfl rfl (by decide +kernel)) (pi_listK (K := K) rfl (pe_m1 PySem.F.slot_str_split PySem.F.type_str_split mt_splitK (pv 0) pe_str)) (blkOk_by (own := [("_law_word", 2)]) (N := ["_law_line", "_law_due", "_law_word"]) (sc := defScope s_law_read_alike) (by decide +kernel)) (fun _ _ _ _ _ => (pg_name (i := 2) sc_law_read_alike.nd rfl (Or.inl rfl))) (fun _ _ _ _ _ => pts_nil) (fun _ _ _ _ _ => (pe_call (ok_law_height_of T) (hr.mono (by decide)) rfl T.g_law_height_of T.F_law_height_of.kp T.b_law_height_of .nil pass0 (pa_cons (pv 2) pa_nil))))
      (pss_cons (ps_if (PW.pt (pw_or (pt_cmpR (op_inK (K := K) rfl) pe_non (pv 1) (by rfl)) (pw_or1 (pt_cmpR op_gt (pe_callB (call_lenK (K := K) rfl) rfl T.n_len (by decide +kernel) (pa_cons (pv 1) pa_nil)) pe_int (nomark _))))) (pss_one (ps_ret (pe_call (ok_law_refused T) (hr.mono (by decide)) rfl T.g_law_refused T.F_law_refused.kp T.b_law_refused .nil pass0 (pa_cons (pv 0) pa_nil)))) pss_nil)
      (pss_one (ps_try_manyA rfl rfl sc_law_read_alike.nd takes0N (fun W pn xe tk po => (pss_one (ps_ret (pe_cmpR (op_eqDK (K := K) rfl hr.units) (pe_callS (ok_read T) (hr.mono (by decide)) rfl T.g_read T.F_read.kp T.b_read (fun σ => L2N.passAt tk σ) (pa_cons (pv 0) pa_nil)) (pv 1) (nomark _))))) (.cons ⟨rfl, by decide, .inl T.g_NoLand⟩ (fun a oe cls d pn hz hf => (pss_one (ps_ret pe_bl))) .nil))))), ?_⟩)
  · obtain ⟨l, rfl, _⟩ := h
    rfl
  · obtain ⟨l, rfl, hl, q⟩ := h
    have ln := sp_len l
    walk_at "rt"
    refine ⟨⟨_, rfl⟩, ?_⟩
    walk_at "rt"
    rw [l_blank]
    refine rd_split hl fun W nW => ?_
    have s1 := same_upd (o := .lst ((sp l).map tx)) nW
    have hW : (upd H W (.lst ((sp l).map tx))) W = some (.lst ((sp l).map tx)) := upd_same
    generalize upd H W (.lst ((sp l).map tx)) = H1 at *
    refine ⟨W, rfl, ⟨_, .of hW⟩, fun D nD => lc_listM (fH lH) (.of hW) nD (by rw [List.length_map]; omega) (fun _ => rfl) (fun x H' R hx s2 q' => ?_) (fun H2 s2 hD => ?_)⟩
    · obtain ⟨w, hw, rfl⟩ := List.mem_map.mp hx
      have := sp_sub l w hw
      walk_at "rt"
      exact ⟨w, rfl, by omega, q' _ (Same.refl _)⟩
    rw [fH_map] at hD
    walk_at "rt"
    refine ⟨D, _, rfl, .inl (.of hD), rfl, by
      rw [List.all_map]
      exact List.all_eq_true.mpr fun w _ => flat_oI _, ?_⟩
    walk_at "rt"
    rw [if_neg (show ¬ (false = true) from Bool.false_ne_true), inV_non]
    refine ite2 (fun c => ?_) (fun c => ?_)
    · obtain ⟨w, hw, e⟩ := List.any_eq_true.mp c
      have e' : lH w = none := by
        cases h : lH w with
        | none => rfl
        | some i => rw [h] at e; cases e
      walk_at "rt"
      exact ⟨_, rfl, .inr ⟨l, rfl, hl, .inr ⟨w, hw, e'⟩⟩, fun H' _ => q H'⟩
    · walk_at "rt"
      rw [List.length_map]
      refine ite2 (fun d => ?_) (fun d => ?_)
      · have d' : (200 : Int) < ((sp l).length : Int) := of_decide_eq_true d
        walk_at "rt"
        exact ⟨_, rfl, .inr ⟨l, rfl, hl, .inl (by omega)⟩, fun H' _ => q H'⟩
      · have d' : ¬ (200 : Int) < ((sp l).length : Int) := fun z => d (decide_eq_true z)
        have nn : ¬ NoLine l := fun z => by
          rcases z with z | ⟨w, hw, e⟩
          · omega
          · exact c (List.any_eq_true.mpr ⟨w, hw, by rw [e]; rfl⟩)
        obtain ⟨_, ok⟩ := okLine nn
        rw [due_IL lH ok] at hD
        walk_at "rt"
        refine .inr ⟨l, rfl, hl, fun z => absurd z nn, fun _ D2 H3 s3 nD2 hD2 => ?_⟩
        walk_at "rt"
        refine rd_eqI (.of hD2) (.of (s3 _ _ hD)) ?_
        rw [decide_eq_true rfl]
        exact q _
/-! ## changed, wrong -/
def spChanged : Sp := fun vs H Q _ => ∃ (l : List Nat) (c m : Int), vs = [tx l, .int c, .int m] ∧ l.length ≤ 40000 ∧ ∀ l', l'.length ≤ l.length + 1 → Q (tx l') H
theorem ok_law_changed (T : Txt K mg) : FnOk P w K mg base CX0 1 T.a_law_changed T.d_law_changed ["_law_line", "_law_cell", "_law_more"] spChanged := by
  refine T.F_law_changed.ok sc_law_changed (fun vs H Q E h => ?_) (fun cdv A outer s H vs Q E hr h => ⟨_, (pss_cons (ps_set (i := 3) sc_law_changed.nd rfl (Or.inl rfl) pe_str)
      (pss_cons (ps_set (i := 3) sc_law_changed.nd rfl (Or.inl rfl) (pe_op op_addS (pv 3) pe_str))
      (pss_cons (ps_set (i := 4) sc_law_changed.nd rfl (Or.inl rfl) (pe_ix ix_str (pv 3) (pe_op op_mod (pv 1) pe_int) (fun _ _ => rfl)))
      (pss_cons (ps_set (i := 5) sc_law_changed.nd rfl (Or.inl rfl) (pe_op op_mod (pv 2) (pe_op op_add (pe_callB call_lenS rfl T.n_len (by decide +kernel) (pa_cons (pv 0) pa_nil)) pe_int)))
      (pss_cons (ps_if (pt_cmpR op_eq (pe_op op_mod (pe_op op_fdiv (pv 1) pe_int) pe_int) pe_int (nomark _)) (pss_one (ps_ret (pe_op op_addS (pe_op op_addS (pe_slice sl_str (pv 0) po_none (po_some (pv 5))) (pv 4)) (pe_slice sl_str (pv 0) (po_some (pv 5)) po_none)))) pss_nil)
      (pss_cons (ps_if (pt_cmpR op_eq (pe_op op_mod (pe_op op_fdiv (pv 1) pe_int) pe_int) pe_int (nomark _)) (pss_one (ps_ret (pe_op op_addS (pe_op op_addS (pe_slice sl_str (pv 0) po_none (po_some (pv 5))) (pv 4)) (pe_slice sl_str (pv 0) (po_some (pe_op op_add (pv 5) pe_int)) po_none)))) pss_nil)
      (pss_one (ps_ret (pe_op op_addS (pe_slice sl_str (pv 0) po_none (po_some (pv 5))) (pe_slice sl_str (pv 0) (po_some (pe_op op_add (pv 5) pe_int)) po_none)))))))))), ?_⟩)
  · obtain ⟨l, c, m, rfl, _⟩ := h
    rfl
  · obtain ⟨l, c, m, rfl, hl, q⟩ := h
    walk_at "rt"
    refine rd_addN (n := 94) (by decide +kernel) (by decide) fun sa hsa => ?_
    walk_at "rt"
    have m1 := emod_b (x := c) (n := 94) (by decide)
    obtain ⟨i, ei, hi⟩ : ∃ i : Nat, c % 94 = (i : Int) ∧ i < 94 := ⟨(c % 94).toNat, by omega, by omega⟩
    rw [ei]
    refine rd_ixS (by omega) (atI_nat (List.getElem?_eq_getElem (show i < sa.length by omega))) ?_
    generalize sa[i] = g
    walk_at "rt"
    obtain ⟨k, ek, hk⟩ : ∃ k : Nat, m % ((l.length : Int) + 1) = (k : Int) ∧ k ≤ l.length := by
      have := emod_b (x := m) (n := (l.length : Int) + 1) (by omega)
      exact ⟨(m % ((l.length : Int) + 1)).toNat, by omega, by omega⟩
    rw [ek]
    have t1 : (l.take k).length = k := by rw [List.length_take]; omega
    have t2 : (l.drop k).length = l.length - k := List.length_drop
    have t3 : (l.drop (k + 1)).length = l.length - (k + 1) := List.length_drop
    have ek2 : Int.toNat ((k : Int) + 1) = k + 1 := by omega
    refine ite2 (fun a => ?_) (fun a => ?_)
    · walk_at "rt"
      rw [Int.toNat_natCast]
      refine rd_addS (by rw [t1]; show k + 1 ≤ _; omega) ?_
      walk_at "rt"
      rw [Int.toNat_natCast]
      have e : (l.take k ++ [g]).length = k + 1 := by rw [List.length_append, t1]; rfl
      refine rd_addS (by omega) (q _ ?_)
      rw [List.length_append]
      omega
    · walk_at "rt"
      refine ite2 (fun b => ?_) (fun b => ?_)
      · walk_at "rt"
        rw [Int.toNat_natCast]
        refine rd_addS (by rw [t1]; show k + 1 ≤ _; omega) ?_
        walk_at "rt"
        rw [ek2]
        have e : (l.take k ++ [g]).length = k + 1 := by rw [List.length_append, t1]; rfl
        refine rd_addS (by omega) (q _ ?_)
        rw [List.length_append]
        omega
      · walk_at "rt"
        rw [Int.toNat_natCast, ek2]
        refine rd_addS (by omega) (q _ ?_)
        rw [List.length_append]
        omega
theorem l_blank2 : V.str (Str.ofString "  ") = tx [32, 32] := congrArg V.str (by decide +kernel)
theorem l_x : V.str (Str.ofString "x") = tx [120] := congrArg V.str (by decide +kernel)
theorem l_bm : V.str (Str.ofString " -") = tx [32, 45] := congrArg V.str (by decide +kernel)
theorem l_b1n : V.str (Str.ofString " 1\n") = tx [32, 49, 10] := congrArg V.str (by decide +kernel)
theorem l_t1 : V.str (Str.ofString "\t1") = tx [9, 49] := congrArg V.str (by decide +kernel)
theorem l_m1 : V.str (Str.ofString "-1") = tx [45, 49] := congrArg V.str (by decide +kernel)
theorem l_mul : V.str (Txt.mul (SX.S [48]) 19) = tx (List.replicate 19 48) := congrArg V.str (by decide +kernel)
theorem rd_mulS {H : Hp} {Q : VK} (q : Q (tx (List.replicate 19 48)) H) : rMulS (tx [48]) (.int 19) H Q :=
  ⟨SX.S [48], 19, rfl, rfl, ⟨by decide +kernel, fun _ _ => by decide +kernel, fun _ _ => by decide +kernel⟩, by rw [l_mul]; exact q⟩
def IsBad (x : V) : Prop := ∃ l, x = tx l ∧ BadT l ∧ l.length ≤ 200
theorem lit_bad (x : Str) (h : (decide (∃ p ∈ sp x.cps.toList, lH p = none) && decide (x.cps.toList.length ≤ 200)) = true) : IsBad (.str x) := by
  rw [Bool.and_eq_true, decide_eq_true_eq, decide_eq_true_eq] at h
  exact ⟨_, tx_of x, h.1, h.2⟩
theorem bad_nil : BadT [] := ⟨[], List.mem_singleton.mpr rfl, by decide +kernel⟩
theorem bad_m : BadT [45] := ⟨[45], by decide +kernel, by decide +kernel⟩
theorem cat_len {a b : List Nat} {n : Nat} (h : a.length + b.length ≤ n) : (a ++ b).length ≤ n := by rw [List.length_append]; exact h
def spWrong (K : PySem.W.Frag) : Sp := fun vs H Q _ => ∃ (Wd : Addr) (ws : List (List Nat)) (c : Int), vs = [.ref Wd, .int c] ∧ SqL K H Wd (ws.map tx) ∧ 0 < ws.length ∧ ws.length ≤ 1000 ∧ (∀ w ∈ ws, w.length ≤ 20 ∧ 32 ∉ w) ∧ ∀ l H', Same H H' → BadT l → l.length ≤ 200 → Q (tx l) H'
theorem ok_law_wrong_by (T : Txt K mg) : FnOk P w K mg base CX0 1 T.a_law_wrong_by T.d_law_wrong_by ["_law_words", "_law_cell"] (spWrong K) := by
  refine T.F_law_wrong_by.ok sc_law_wrong_by (fun vs H Q E h => ?_) (fun cdv A outer s H vs Q E hr h => ⟨_, (pss_cons (ps_set (i := 2) sc_law_wrong_by.nd rfl (Or.inl rfl) (pe_ix (ix_listK (K := K) rfl) (pv 0) (pe_op op_mod (pe_op op_fdiv (pv 1) pe_int) (pe_callB (call_lenK (K := K) rfl) rfl T.n_len (by decide +kernel) (pa_cons (pv 0) pa_nil))) (fun _ _ => rfl)))
      (pss_cons (ps_set (i := 3) sc_law_wrong_by.nd rfl (Or.inl rfl) (pe_lst (pa_cons pe_str (pa_cons pe_str (pa_cons (pe_op op_addS (pv 2) pe_str) (pa_cons (pe_op op_addS pe_str (pv 2)) (pa_cons (pe_op op_addS (pe_op op_addS (pv 2) pe_str) (pv 2)) (pa_cons pe_str (pa_cons pe_str (pa_cons pe_str (pa_cons pe_str (pa_cons pe_str pa_nil))))))))))))
      (pss_cons (ps_set (i := 3) sc_law_wrong_by.nd rfl (Or.inl rfl) (pe_op op_cat (pv 3) (pe_lst (pa_cons pe_str (pa_cons pe_str (pa_cons pe_str (pa_cons (pe_op op_addS (pv 2) pe_str) (pa_cons (pe_op op_addS (pv 2) pe_str) (pa_cons pe_str (pa_cons pe_str (pa_cons pe_str (pa_cons pe_str (pa_cons pe_str pa_nil)))))))))))))
      (pss_cons (ps_set (i := 3) sc_law_wrong_by.nd rfl (Or.inl rfl) (pe_op op_cat (pv 3) (pe_lst (pa_cons (pe_op op_addS pe_str (pe_op op_mulS pe_str pe_int)) (pa_cons (pe_op op_addS pe_str (pe_op op_mulS pe_str pe_int)) (pa_cons pe_str (pa_cons (pe_op op_addS (pv 2) pe_str) (pa_cons (pe_op op_addS (pv 2) pe_str) pa_nil))))))))
      (pss_one (ps_ret (pe_ix (ix_listK (K := K) rfl) (pv 3) (pe_op op_mod (pv 1) pe_int) (fun _ _ => rfl)))))))), ?_⟩)
  · obtain ⟨Wd, ws, c, rfl, _⟩ := h
    rfl
  · obtain ⟨Wd, ws, c, rfl, hW, h0, h1, hw, q⟩ := h
    have e0 : (0 : Int) < ((ws.map tx).length : Int) := by rw [List.length_map]; omega
    walk_at "rt"
    obtain ⟨i, ei, hi⟩ : ∃ i : Nat, c / 25 % ((ws.map tx).length : Int) = (i : Int) ∧ i < ws.length := by
      have := emod_b (x := c / 25) e0
      rw [List.length_map] at this ⊢
      exact ⟨(c / 25 % (ws.length : Int)).toNat, by omega, by omega⟩
    rw [ei]
    refine rd_ixL hW (atI_nat (show (ws.map tx)[i]? = some (tx ws[i]) by rw [List.getElem?_map, List.getElem?_eq_getElem hi]; rfl)) ?_
    obtain ⟨o1, o2⟩ := hw ws[i] (List.getElem_mem hi)
    generalize ws[i] = o at *
    walk_at "rt"
    rw [l_blank, l_blank2]
    refine rd_addS (by show _ + 1 ≤ _; omega) ?_
    walk_at "rt"
    refine rd_addS (by show 1 + _ ≤ _; omega) ?_
    walk_at "rt"
    refine rd_addS (by show _ + 2 ≤ _; omega) ?_
    walk_at "rt"
    refine rd_addS (by rw [List.length_append]; show _ + 2 + _ ≤ _; omega) ?_
    walk_at "rt"
    refine ⟨sz 10, fun L1 n1 => ?_⟩
    obtain ⟨xs1, hxs1⟩ : ∃ xs1 : List V, xs1 = [V.str (Str.ofString ""), tx [32], tx (o ++ [32]), tx ([32] ++ o), tx (o ++ [32, 32] ++ o), .str (Str.ofString "+1"), .str (Str.ofString "-0"), .str (Str.ofString "00"), .str (Str.ofString "01"), .str (Str.ofString "-01")] := ⟨_, rfl⟩
    have b1 : ∀ x ∈ xs1, IsBad x := by
      intro x hx
      rw [hxs1] at hx
      simp only [List.mem_cons, List.mem_nil_iff, or_false] at hx
      rcases hx with rfl | rfl | rfl | rfl | rfl | rfl | rfl | rfl | rfl | rfl
      · exact lit_bad _ (by decide +kernel)
      · exact ⟨_, rfl, BadT.app (a := []) (b := []) (.inl bad_nil), by decide⟩
      · exact ⟨_, rfl, BadT.app (b := []) (.inr bad_nil), cat_len (by show _ + 1 ≤ _; omega)⟩
      · exact ⟨_, rfl, BadT.app (a := []) (.inl bad_nil), cat_len (by show 1 + _ ≤ _; omega)⟩
      · refine ⟨_, rfl, ?_, cat_len (by rw [List.length_append]; show _ + 2 + _ ≤ _; omega)⟩
        rw [List.append_assoc]
        exact BadT.app (b := 32 :: o) (.inr (BadT.app (a := []) (.inl bad_nil)))
      · exact lit_bad _ (by decide +kernel)
      · exact lit_bad _ (by decide +kernel)
      · exact lit_bad _ (by decide +kernel)
      · exact lit_bad _ (by decide +kernel)
      · exact lit_bad _ (by decide +kernel)
    have k1 : xs1.length = 10 := by rw [hxs1]; rfl
    rw [← hxs1]
    have s1 := same_upd (o := .lst xs1) n1
    have hL1 : (upd H L1 (.lst xs1)) L1 = some (.lst xs1) := upd_same
    generalize upd H L1 (.lst xs1) = H1 at *
    walk_at "rt"
    rw [l_x, l_bm]
    refine rd_addS (by show _ + 1 ≤ _; omega) ?_
    walk_at "rt"
    refine rd_addS (by show _ + 2 ≤ _; omega) ?_
    walk_at "rt"
    refine ⟨sz 10, fun L2' n2 => ?_⟩
    obtain ⟨xs2, hxs2⟩ : ∃ xs2 : List V, xs2 = [V.str (Str.ofString "1."), .str (Str.ofString "1,2"), .str (Str.ofString "a"), tx (o ++ [120]), tx (o ++ [32, 45]), .str (Str.ofString "--1"), .str (Str.ofString "1-"), .str (Str.ofString "1 +2"), .str (Str.ofString "0x1"), .str (Str.ofString "1_0")] := ⟨_, rfl⟩
    have b2 : ∀ x ∈ xs2, IsBad x := by
      intro x hx
      rw [hxs2] at hx
      simp only [List.mem_cons, List.mem_nil_iff, or_false] at hx
      rcases hx with rfl | rfl | rfl | rfl | rfl | rfl | rfl | rfl | rfl | rfl
      · exact lit_bad _ (by decide +kernel)
      · exact lit_bad _ (by decide +kernel)
      · exact lit_bad _ (by decide +kernel)
      · exact ⟨_, rfl, BadT.sign (c := 120) (by simp) (by decide) (by decide) (by decide), cat_len (by show _ + 1 ≤ _; omega)⟩
      · exact ⟨_, rfl, BadT.app (b := [45]) (.inr bad_m), cat_len (by show _ + 2 ≤ _; omega)⟩
      · exact lit_bad _ (by decide +kernel)
      · exact lit_bad _ (by decide +kernel)
      · exact lit_bad _ (by decide +kernel)
      · exact lit_bad _ (by decide +kernel)
      · exact lit_bad _ (by decide +kernel)
    have k2 : xs2.length = 10 := by rw [hxs2]; rfl
    rw [← hxs2]
    have s2 := same_upd (o := .lst xs2) n2
    have hL2 : (upd H1 L2' (.lst xs2)) L2' = some (.lst xs2) := upd_same
    have hL12 := s2 _ _ hL1
    generalize upd H1 L2' (.lst xs2) = H2 at *
    refine ⟨L1, L2', _, _, rfl, rfl, hL12, hL2, by rw [k1, k2]; exact sz 20, fun L3 n3 => ?_⟩
    have s3 := same_upd (o := .lst (xs1 ++ xs2)) n3
    have hL3 : (upd H2 L3 (.lst (xs1 ++ xs2))) L3 = some (.lst (xs1 ++ xs2)) := upd_same
    generalize upd H2 L3 (.lst (xs1 ++ xs2)) = H3 at *
    walk_at "rt"
    rw [l_zero, l_one, l_m1, l_b1n, l_t1]
    refine rd_mulS ?_
    refine rd_addS (by decide) ?_
    walk_at "rt"
    refine rd_mulS ?_
    refine rd_addS (by decide) ?_
    walk_at "rt"
    refine rd_addS (by show _ + 3 ≤ _; omega) ?_
    walk_at "rt"
    refine rd_addS (by show _ + 2 ≤ _; omega) ?_
    walk_at "rt"
    refine ⟨sz 5, fun L4 n4 => ?_⟩
    obtain ⟨xs3, hxs3⟩ : ∃ xs3 : List V, xs3 = [tx ([49] ++ List.replicate 19 48), tx ([45, 49] ++ List.replicate 19 48), .str (Str.ofString "1000000000000000001"), tx (o ++ [32, 49, 10]), tx (o ++ [9, 49])] := ⟨_, rfl⟩
    have b3 : ∀ x ∈ xs3, IsBad x := by
      intro x hx
      rw [hxs3] at hx
      simp only [List.mem_cons, List.mem_nil_iff, or_false] at hx
      rcases hx with rfl | rfl | rfl | rfl | rfl
      · exact ⟨_, rfl, (show ∃ p ∈ sp ([49] ++ List.replicate 19 48), lH p = none by decide +kernel), by decide +kernel⟩
      · exact ⟨_, rfl, (show ∃ p ∈ sp ([45, 49] ++ List.replicate 19 48), lH p = none by decide +kernel), by decide +kernel⟩
      · exact lit_bad _ (by decide +kernel)
      · exact ⟨_, rfl, BadT.app (b := [49, 10]) (.inr (BadT.sign (c := 10) (by simp) (by decide) (by decide) (by decide))), cat_len (by show _ + 3 ≤ _; omega)⟩
      · exact ⟨_, rfl, BadT.sign (c := 9) (by simp) (by decide) (by decide) (by decide), cat_len (by show _ + 2 ≤ _; omega)⟩
    have k3 : xs3.length = 5 := by rw [hxs3]; rfl
    rw [← hxs3]
    have s4 := same_upd (o := .lst xs3) n4
    have hL4 : (upd H3 L4 (.lst xs3)) L4 = some (.lst xs3) := upd_same
    have hL34 := s4 _ _ hL3
    generalize upd H3 L4 (.lst xs3) = H4 at *
    refine ⟨L3, L4, _, _, rfl, rfl, hL34, hL4, by rw [List.length_append, k1, k2, k3]; exact sz 25, fun L5 n5 => ?_⟩
    have s5 := same_upd (o := .lst (xs1 ++ xs2 ++ xs3)) n5
    have hL5 : (upd H4 L5 (.lst (xs1 ++ xs2 ++ xs3))) L5 = some (.lst (xs1 ++ xs2 ++ xs3)) := upd_same
    generalize upd H4 L5 (.lst (xs1 ++ xs2 ++ xs3)) = H5 at *
    walk_at "rt"
    have m5 := emod_b (x := c) (n := 25) (by decide)
    obtain ⟨x, hx, ex⟩ := atI_mem (xs := xs1 ++ xs2 ++ xs3) m5.1 (by rw [List.length_append, List.length_append, k1, k2, k3]; omega)
    refine rd_ixL (.of hL5) ex ?_
    obtain ⟨l, rfl, hb, hl⟩ : IsBad x := by
      rcases List.mem_append.mp hx with h | h
      · rcases List.mem_append.mp h with h | h
        · exact b1 x h
        · exact b2 x h
      · exact b3 x h
    exact q l _ ((((s1.trans s2).trans s3).trans s4).trans s5) hb hl
/-! ## law k11 -/
theorem flat_free : ∀ ws : List (List Nat), (∀ w ∈ ws, 32 ∉ w) → ws.flatMap sp = ws
  | [], _ => rfl
  | w :: ws, h => by
    rw [List.flatMap_cons, sp_free (h w List.mem_cons_self), flat_free ws fun x hx => h x (List.mem_cons_of_mem _ hx)]
    rfl
theorem sp_line {ws : List (List Nat)} (h : ∀ w ∈ ws, 32 ∉ w) (n : 0 < ws.length) : sp (TL.joinL [32] ws) = ws := by
  rw [sp_join ws (fun e => by rw [e] at n; cases n), flat_free ws h]
theorem inB_of {z : Int} (h : Bd z) : inB z = true := decide_eq_true h
def spLaw (K : PySem.W.Frag) : Sp := fun vs H Q _ => ∃ (a : Addr) (ns : List Int), vs = [.ref a] ∧ SqL K H a (IL ns) ∧ ns.length ≤ 63 ∧ ∀ H', Q (.bl true) H'
theorem ok_law (T : Txt K mg) : FnOk P w K mg base CX0 7 T.a_law T.d_law ["_law_script"] (spLaw K) := by
  refine T.F_law.ok sc_law (fun vs H Q E h => ?_) (fun cdv A outer s H vs Q E hr h => ⟨_, (pss_cons (ps_set (i := 1) sc_law.nd rfl (Or.inl rfl) (pe_call (ok_law_land_by T) (hr.mono (by decide)) rfl T.g_law_land_by T.F_law_land_by.kp T.b_law_land_by .nil pass0 (pa_cons (pv 0) (pa_cons pe_int pa_nil))))
      (pss_cons (ps_if (pt_cmpR op_eq (pe_op op_mod (pe_call (ok_law_cell_at T) (hr.mono (by decide)) rfl T.g_law_cell_at T.F_law_cell_at.kp T.b_law_cell_at .nil pass0 (pa_cons (pv 0) (pa_cons pe_int pa_nil))) pe_int) pe_int (nomark _)) (pss_one (ps_set (i := 1) sc_law.nd rfl (Or.inl rfl) (pe_call (ok_law_longer T) (hr.mono (by decide)) rfl T.g_law_longer T.F_law_longer.kp T.b_law_longer .nil pass0 (pa_cons (pv 0) (pa_cons (pv 1) (pa_cons pe_int (pa_cons pe_int pa_nil))))))) pss_nil)
      (pss_cons (ps_set (i := 1) sc_law.nd rfl (Or.inl rfl) (pe_slice (sl_listK (K := K) rfl) (pv 1) po_none (po_some pe_int)))
      (pss_cons (ps_set (i := 2) sc_law.nd rfl (Or.inl rfl) (pe_callTy (call_listK (K := K) rfl) rfl T.n_list (by decide +kernel) (pa_cons (pv 1) pa_nil)))
      (pss_cons (ps_setLc (i := 3) (own := [("_law_height", 4)]) (g := gName 4) rfl sc_law.nd rfl rfl (sw_true rfl rfl rfl (by decide +kernel)) (pi_listK (K := K) rfl (pv 1)) (blkOk_by (own := [("_law_height", 4)]) (N := ["_law_script", "_law_land", "_law_handed", "_law_words", "_law_height", "_law_line", "_law_found", "_law_wrong", "_law_at", "_law_k"]) (sc := defScope s_law) (by decide +kernel)) (fun _ _ _ _ _ => (pg_name (i := 4) sc_law.nd rfl (Or.inl rfl))) (fun _ _ _ _ _ => pts_nil) (fun _ _ _ _ _ => (pe_call (ok_law_figures_by T) (hr.mono (by decide)) rfl T.g_law_figures_by T.F_law_figures_by.kp T.b_law_figures_by .nil pass0 (pa_cons (pv 4) pa_nil))))
      (pss_cons (ps_set (i := 5) sc_law.nd rfl (Or.inl rfl) (pe_call (ok_shown T) (hr.mono (by decide)) rfl T.g_shown T.F_shown.kp T.b_shown .nil pass0 (pa_cons (pv 2) pa_nil)))
      (pss_cons (ps_if (PW.pt (pw_or (pt_not (pt_val (pe_callB (call_isiK0 (K := K) rfl) rfl T.n_isinstance (by decide +kernel) (pa_cons (pv 5) (pa_cons (pe_bltn (v := .ty "str") (by rfl) T.n_str (by decide +kernel) rfl) pa_nil))))) (pw_or (pt_cmpR op_ne (pv 5) (pe_m1 PySem.F.slot_str_join PySem.F.type_str_join (mt_joinK (K := K) rfl) pe_str (pv 3)) (nomark _)) (pw_or1 (pt_cmpR (op_neDK (K := K) rfl hr.units) (pv 2) (pv 1) (nomark _)))))) (pss_one (ps_ret pe_bl)) pss_nil)
      (pss_cons (ps_set (i := 6) sc_law.nd rfl (Or.inl rfl) (pe_call (ok_read T) (hr.mono (by decide)) rfl T.g_read T.F_read.kp T.b_read .nil passLN (pa_cons (pv 5) pa_nil)))
      (pss_cons (ps_if (PW.pt (pw_or (pt_not (pt_val (pe_callB (call_isiK0 (K := K) rfl) rfl T.n_isinstance (by decide +kernel) (pa_cons (pv 6) (pa_cons (pe_bltn (v := .ty "list") (by rfl) T.n_list (by decide +kernel) rfl) pa_nil))))) (pw_or (pt_not (pt_val (pe_callB (cr_allK (K := K) rfl rfl) rfl T.n_all (by decide +kernel) (pa_cons (pe_lc (own := [("_law_height", 4)]) (g := gName 4) rfl sc_law.nd (pi_listK (K := K) rfl (pv 6)) (blkOk_by (own := [("_law_height", 4)]) (N := ["_law_script", "_law_land", "_law_handed", "_law_words", "_law_height", "_law_line", "_law_found", "_law_wrong", "_law_at", "_law_k"]) (sc := defScope s_law) (by decide +kernel)) (fun _ _ _ _ _ => (pg_name (i := 4) sc_law.nd rfl (Or.inl rfl))) (fun _ _ _ _ _ => pts_nil) (fun _ _ _ _ _ => (pe_call (ok_law_whole T) (hr.mono (by decide)) rfl T.g_law_whole T.F_law_whole.kp T.b_law_whole .nil pass0 (pa_cons (pv 4) pa_nil)))) pa_nil)))) (pw_or1 (pt_cmpR (op_neDK (K := K) rfl hr.units) (pv 6) (pv 1) (nomark _)))))) (pss_one (ps_ret pe_bl)) pss_nil)
      (pss_cons (ps_set (i := 7) sc_law.nd rfl (Or.inl rfl) (pe_call (ok_law_wrong_by T) (hr.mono (by decide)) rfl T.g_law_wrong_by T.F_law_wrong_by.kp T.b_law_wrong_by .nil pass0 (pa_cons (pv 3) (pa_cons (pe_call (ok_law_cell_at T) (hr.mono (by decide)) rfl T.g_law_cell_at T.F_law_cell_at.kp T.b_law_cell_at .nil pass0 (pa_cons (pv 0) (pa_cons pe_int pa_nil))) pa_nil))))
      (pss_cons (ps_set (i := 8) sc_law.nd rfl (Or.inl rfl) (pe_op op_mod (pe_op op_fdiv (pe_call (ok_law_cell_at T) (hr.mono (by decide)) rfl T.g_law_cell_at T.F_law_cell_at.kp T.b_law_cell_at .nil pass0 (pa_cons (pv 0) (pa_cons pe_int pa_nil))) pe_int) (pe_callB (call_lenK (K := K) rfl) rfl T.n_len (by decide +kernel) (pa_cons (pv 3) pa_nil))))
      (pss_cons (ps_if (PW.pt (pw_or (pt_not (pt_val (pe_call (ok_law_refused T) (hr.mono (by decide)) rfl T.g_law_refused T.F_law_refused.kp T.b_law_refused .nil pass0 (pa_cons (pv 7) pa_nil)))) (pw_or1 (pt_not (pt_val (pe_call (ok_law_refused T) (hr.mono (by decide)) rfl T.g_law_refused T.F_law_refused.kp T.b_law_refused .nil pass0 (pa_cons (pe_m1 PySem.F.slot_str_join PySem.F.type_str_join (mt_joinK (K := K) rfl) pe_str (pe_op op_cat (pe_op op_cat (pe_slice (sl_listK (K := K) rfl) (pv 3) po_none (po_some (pv 8))) (pe_lst (pa_cons (pv 7) pa_nil))) (pe_slice (sl_listK (K := K) rfl) (pv 3) (po_some (pe_op op_add (pv 8) pe_int)) po_none))) pa_nil))))))) (pss_one (ps_ret pe_bl)) pss_nil)
      (pss_cons (ps_if (pt_not (pt_val (pe_call (ok_law_refused T) (hr.mono (by decide)) rfl T.g_law_refused T.F_law_refused.kp T.b_law_refused .nil pass0 (pa_cons (pe_ix (ix_listK (K := K) rfl) (pe_lst (pa_cons pe_non (pa_cons pe_int (pa_cons (pe_lst (pa_cons pe_str pa_nil)) pa_nil)))) (pe_op op_mod (pe_call (ok_law_cell_at T) (hr.mono (by decide)) rfl T.g_law_cell_at T.F_law_cell_at.kp T.b_law_cell_at .nil pass0 (pa_cons (pv 0) (pa_cons pe_int pa_nil))) pe_int) (fun _ _ => rfl)) pa_nil)))) (pss_one (ps_ret pe_bl)) pss_nil)
      (pss_cons (ps_if (pt_not (pt_val (pe_call (ok_law_read_alike T) (hr.mono (by decide)) rfl T.g_law_read_alike T.F_law_read_alike.kp T.b_law_read_alike .nil pass0 (pa_cons (pe_call (ok_law_changed T) (hr.mono (by decide)) rfl T.g_law_changed T.F_law_changed.kp T.b_law_changed .nil pass0 (pa_cons (pv 5) (pa_cons (pe_call (ok_law_cell_at T) (hr.mono (by decide)) rfl T.g_law_cell_at T.F_law_cell_at.kp T.b_law_cell_at .nil pass0 (pa_cons (pv 0) (pa_cons pe_int pa_nil))) (pa_cons (pe_call (ok_law_cell_at T) (hr.mono (by decide)) rfl T.g_law_cell_at T.F_law_cell_at.kp T.b_law_cell_at .nil pass0 (pa_cons (pv 0) (pa_cons pe_int pa_nil))) pa_nil)))) pa_nil)))) (pss_one (ps_ret pe_bl)) pss_nil)
      (pss_one (ps_ret (pe_call (ok_law_refused T) (hr.mono (by decide)) rfl T.g_law_refused T.F_law_refused.kp T.b_law_refused .nil pass0 (pa_cons (pe_m1 PySem.F.slot_str_join PySem.F.type_str_join (mt_joinK (K := K) rfl) pe_str (pe_lc (own := [("_law_k", 9)]) (g := gName 9) rfl sc_law.nd (pi_range1 rfl T.n_range (pa_cons pe_int pa_nil)) (blkOk_by (own := [("_law_k", 9)]) (N := ["_law_script", "_law_land", "_law_handed", "_law_words", "_law_height", "_law_line", "_law_found", "_law_wrong", "_law_at", "_law_k"]) (sc := defScope s_law) (by decide +kernel)) (fun _ _ _ _ _ => (pg_name (i := 9) sc_law.nd rfl (Or.inl rfl))) (fun _ _ _ _ _ => pts_nil) (fun _ _ _ _ _ => pe_str))) pa_nil)))))))))))))))))), ?_⟩)
  · obtain ⟨a, ns, rfl, _⟩ := h
    rfl
  · obtain ⟨s0, ns, rfl, hS, hlen, k⟩ := h
    walk_at "rt"
    refine ⟨s0, ns, 12, rfl, hS, by omega, fun D1 hs n1 b1 b2 => ?_⟩
    have s1 := same_upd (o := .lst (IL hs)) n1
    have hD1 : (upd H D1 (.lst (IL hs))) D1 = some (.lst (IL hs)) := upd_same
    generalize upd H D1 (.lst (IL hs)) = H1 at *
    have hS1 := s1.seq hS
    walk_at "rq"
    with_reducible refine rd_cut (fun σ' H' => ∃ (L : Addr) (zs : List Int), σ' = [some (.ref s0), some (.ref L), none, none, none, none, none, none, none, none] ∧ Same H H' ∧ H' L = some (.lst (IL zs)) ∧ 0 < zs.length ∧ zs.length ≤ 200 ∧ ∀ z ∈ zs, Bd z) (fun N hN => ?_) ?_
    · walk_at "rt"
      refine ite2 (fun c => ?_) (fun c => ?_)
      · walk_at "rt"
        refine ⟨s0, D1, ns, hs, 12, 188, rfl, hS1, .of hD1, by omega, by omega, b2, fun D3 zs n3 c1 c2 => ?_⟩
        walk_at "rt"
        exact hN _ _ ⟨D3, zs, rfl, s1.trans (same_upd n3), upd_same, by omega, by omega, c2⟩
      · walk_at "rt"
        exact hN _ _ ⟨D1, hs, rfl, s1, hD1, by omega, by omega, b2⟩
    clear hS1 hD1 s1 n1 b1 b2
    rintro σ1 H1 ⟨L, zs, rfl, s1, hL, hz0, hz, hb⟩
    have hbi : ∀ z ∈ zs, inB z = true := fun z hz => inB_of (hb z hz)
    walk_at "rt"
    intro L2' n2
    have eL : cutV (IL zs) none (some 200) = IL zs := by
      have e := cutV_to (IL zs) 200
      rw [List.take_of_length_le (by rw [List.length_map]; exact hz)] at e
      exact e
    rw [eL]
    have s2 := s1.trans (same_upd (o := .lst (IL zs)) n2)
    have hL2 : (upd H1 L2' (.lst (IL zs))) L2' = some (.lst (IL zs)) := upd_same
    clear hL eL
    generalize upd H1 L2' (.lst (IL zs)) = H2 at *
    walk_at "rt"
    intro A nA
    have s3 := s2.trans (same_upd (o := .lst (IL zs)) nA)
    have hA : (upd H2 A (.lst (IL zs))) A = some (.lst (IL zs)) := upd_same
    have hL3 := upd_keep (u := .lst (IL zs)) hL2 nA
    generalize upd H2 A (.lst (IL zs)) = H3 at *
    walk_at "rt"
    refine ⟨L2', rfl, ⟨_, .of hL3⟩, fun W nW => lc_listM ftx (.of hL3) nW (by rw [List.length_map]; omega) (fun _ => rfl) (fun x H' R hx s4 q' => ?_) (fun H4 s4 hW => ?_)⟩
    · obtain ⟨z, hz, rfl⟩ := List.mem_map.mp hx
      walk_at "rt"
      exact ⟨z, rfl, hbi z hz, q' _ (Same.refl _)⟩
    rw [ftx_IL] at hW
    obtain ⟨ws, hws⟩ : ∃ ws, ws = zs.map figL := ⟨_, rfl⟩
    have w1 : ∀ w ∈ ws, w.length ≤ 20 ∧ 32 ∉ w := fun w hw => ⟨figs_b hbi w (by rw [← hws]; exact hw), by
      rw [hws] at hw
      obtain ⟨z, _, rfl⟩ := List.mem_map.mp hw
      exact figL_free z⟩
    have w2 : ws.length = zs.length := by rw [hws, List.length_map]
    have w3 : ∀ w ∈ ws, lH w = some (valT w) := fun w hw => by
      rw [hws] at hw
      obtain ⟨z, hz, rfl⟩ := List.mem_map.mp hw
      rw [lH_figL (hbi z hz), valT_figL]
    have w4 : ws.map valT = zs := by
      rw [hws, List.map_map]
      exact (List.map_congr_left fun z _ => valT_figL z).trans (List.map_id _)
    rw [← hws] at hW
    have hA4 := s4 _ _ hA
    have hL4 := s4 _ _ hL3
    have s34 := s3.trans s4
    have hS4 := s34.seq hS
    have wl := sp_line (fun w hw => (w1 w hw).2) (show 0 < ws.length by omega)
    have ll : (TL.joinL [32] ws).length ≤ 5000 := by
      have a := joinL_len ws
      have b := sum_le ws (b := 20) fun w hw => (w1 w hw).1
      omega
    walk_at "rt"
    refine ⟨A, zs, rfl, .of hA4, hbi, by omega, fun H5 s5 => ?_⟩
    rw [← hws]
    have hA5 := s5 _ _ hA4
    have hL5 := s5 _ _ hL4
    have hW5 := s5 _ _ hW
    have hS5 := s5.seq hS4
    generalize hline : TL.joinL [32] ws = line at *
    walk_at "rt"
    refine rd_isi (b := true) (.base (.str _)) (by decide +kernel) ?_
    walk_at "rt"
    refine ⟨⟨_, rfl⟩, ?_⟩
    walk_at "rt"
    rw [l_blank]
    refine rd_join (b := 20) (.of hW5) (fun w hw => (w1 w hw).1) (by omega) ?_
    rw [hline]
    walk_at "rt"
    refine rd_no (by simp) ?_
    walk_at "rt"
    refine rd_neI (.of hA5) (.of hL5) ?_
    walk_at "rt"
    refine rd_no (by simp) ?_
    walk_at "rt"
    have nn : ¬ NoLine line := fun z => by
      unfold NoLine at z
      rw [wl] at z
      rcases z with z | ⟨w, hw, e⟩
      · omega
      · rw [w3 w hw] at e
        cases e
    refine .inr ⟨line, rfl, by omega, fun z => absurd z nn, fun _ D H6 s6 nD hD => ?_⟩
    rw [wl, w4] at hD
    have hL6 := s6 _ _ hL5
    have hW6 := s6 _ _ hW5
    have hS6 := s6.seq hS5
    walk_at "rt"
    refine rd_isi (b := true) (ty_lst hD) (by decide +kernel) ?_
    walk_at "rt"
    refine ⟨D, rfl, ⟨_, .of hD⟩, fun B nB => lc_listM (fun _ => .bl true) (.of hD) nB (by rw [List.length_map]; omega) (fun _ => rfl) (fun x H' R hx s7 q' => ?_) (fun H7 s7 hB => ?_)⟩
    · walk_at "rt"
      obtain ⟨z, _, rfl⟩ := List.mem_map.mp hx
      exact ⟨_, true, rfl, whole_int, q' _ (Same.refl _)⟩
    walk_at "rt"
    refine rd_allP (fun _ => true) (fun _ _ => rfl) hB ?_
    rw [show (IL zs).all (fun _ => true) = true by simp]
    have hD7 := s7 _ _ hD
    have hL7 := s7 _ _ hL6
    have hW7 := s7 _ _ hW6
    have hS7 := s7.seq hS6
    walk_at "rt"
    refine rd_neI (.of hD7) (.of hL7) ?_
    walk_at "rt"
    refine rd_no (by simp) ?_
    walk_at "rt"
    refine ⟨W, ws, _, rfl, .of hW7, by omega, by omega, w1, fun bl H8 s8 hbad hbl => ?_⟩
    have hW8 := s8 _ _ hW7
    have hS8 := s8.seq hS7
    have e0 : (0 : Int) < ((ws.map tx).length : Int) := by rw [List.length_map]; omega
    walk_at "rt"
    obtain ⟨a, ea, ha⟩ : ∃ i : Nat, cell ns (Int.toNat 1) / 50 % ((ws.map tx).length : Int) = (i : Int) ∧ i < ws.length := by
      have := emod_b (x := cell ns (Int.toNat 1) / 50) e0
      rw [List.length_map] at this ⊢
      exact ⟨(cell ns (Int.toNat 1) / 50 % (ws.length : Int)).toNat, by omega, by omega⟩
    rw [ea]
    walk_at "rt"
    refine ⟨_, rfl, .inr ⟨bl, rfl, by omega, .inr hbad⟩, fun H9 s9 => ?_⟩
    have hW9 := s9 _ _ hW8
    have hS9 := s9.seq hS8
    walk_at "rt"
    refine ⟨⟨_, rfl⟩, ?_⟩
    walk_at "rt"
    intro P1 nP1
    rw [cutV_to, ← List.map_take]
    have t1 := same_upd (o := .lst ((ws.take a).map tx)) nP1
    have hP1 : (upd H9 P1 (.lst ((ws.take a).map tx))) P1 = some (.lst ((ws.take a).map tx)) := upd_same
    have hW10 := t1 _ _ hW9
    generalize upd H9 P1 (.lst ((ws.take a).map tx)) = H10 at *
    walk_at "rt"
    refine ⟨sz 1, fun P2 nP2 => ?_⟩
    have t2 := same_upd (o := .lst [tx bl]) nP2
    have hP2 : (upd H10 P2 (.lst [tx bl])) P2 = some (.lst ([bl].map tx)) := upd_same
    have hP1' := t2 _ _ hP1
    have hW11 := t2 _ _ hW10
    generalize upd H10 P2 (.lst [tx bl]) = H11 at *
    have la : (ws.take a).length ≤ 200 := by rw [List.length_take]; omega
    have lb : (ws.drop (a + 1)).length ≤ 200 := by rw [List.length_drop]; omega
    refine ⟨P1, P2, _, _, rfl, rfl, hP1', hP2, by rw [List.length_map]; show _ + 1 ≤ sizeLine; exact sz _ (by omega), fun P3 nP3 => ?_⟩
    rw [← List.map_append]
    have t3 := same_upd (o := .lst ((ws.take a ++ [bl]).map tx)) nP3
    have hP3 : (upd H11 P3 (.lst ((ws.take a ++ [bl]).map tx))) P3 = some (.lst ((ws.take a ++ [bl]).map tx)) := upd_same
    have hW12 := t3 _ _ hW11
    generalize upd H11 P3 (.lst ((ws.take a ++ [bl]).map tx)) = H12 at *
    walk_at "rt"
    rw [show ((a : Int) + 1) = ((a + 1 : Nat) : Int) by omega]
    intro P4 nP4
    rw [cutV_from, ← List.map_drop]
    have t4 := same_upd (o := .lst ((ws.drop (a + 1)).map tx)) nP4
    have hP4 : (upd H12 P4 (.lst ((ws.drop (a + 1)).map tx))) P4 = some (.lst ((ws.drop (a + 1)).map tx)) := upd_same
    have hP3' := t4 _ _ hP3
    generalize upd H12 P4 (.lst ((ws.drop (a + 1)).map tx)) = H13 at *
    refine ⟨P3, P4, _, _, rfl, rfl, hP3', hP4, by rw [List.length_map, List.length_map, List.length_append]; show _ + 1 + _ ≤ sizeLine; exact sz _ (by omega), fun P5 nP5 => ?_⟩
    rw [← List.map_append]
    have t5 := same_upd (o := .lst ((ws.take a ++ [bl] ++ ws.drop (a + 1)).map tx)) nP5
    have hP5 : (upd H13 P5 (.lst ((ws.take a ++ [bl] ++ ws.drop (a + 1)).map tx))) P5 = some (.lst ((ws.take a ++ [bl] ++ ws.drop (a + 1)).map tx)) := upd_same
    generalize upd H13 P5 (.lst ((ws.take a ++ [bl] ++ ws.drop (a + 1)).map tx)) = H14 at *
    have hS14 := ((((t1.trans t2).trans t3).trans t4).trans t5).seq hS9
    have v1 : ∀ w ∈ ws.take a ++ [bl] ++ ws.drop (a + 1), w.length ≤ 200 := by
      intro w hw
      rcases List.mem_append.mp hw with h | h
      · rcases List.mem_append.mp h with h | h
        · exact Nat.le_trans (w1 w (List.mem_of_mem_take h)).1 (by decide)
        · rw [List.mem_singleton.mp h]
          exact hbl
      · exact Nat.le_trans (w1 w (List.mem_of_mem_drop h)).1 (by decide)
    have v2 : BadT (TL.joinL [32] (ws.take a ++ [bl] ++ ws.drop (a + 1))) := BadT.join (by simp) hbad
    have v3 : (ws.take a ++ [bl] ++ ws.drop (a + 1)).length ≤ 201 := by
      rw [List.length_append, List.length_append, List.length_take, List.length_drop]
      show _ + 1 + _ ≤ _
      omega
    have v4 := joinL_len (ws.take a ++ [bl] ++ ws.drop (a + 1))
    have v5 := sum_le _ v1
    generalize ws.take a ++ [bl] ++ ws.drop (a + 1) = us at *
    refine rd_join (b := 200) (.of hP5) v1 (by omega) ?_
    walk_at "rt"
    refine ⟨_, rfl, .inr ⟨_, rfl, by omega, .inr v2⟩, fun H15 s15 => ?_⟩
    have hS15 := s15.seq hS14
    walk_at "rt"
    refine ⟨sz 1, fun P6 nP6 => ?_⟩
    have t6 := same_upd (o := .lst [.str (Str.ofString "1")]) nP6
    have hP6 : (upd H15 P6 (.lst [.str (Str.ofString "1")])) P6 = some (.lst [.str (Str.ofString "1")]) := upd_same
    generalize upd H15 P6 (.lst [.str (Str.ofString "1")]) = H16 at *
    walk_at "rt"
    refine ⟨sz 3, fun P7 nP7 => ?_⟩
    obtain ⟨xs, hxs⟩ : ∃ xs : List V, xs = [V.non, .int 5, .ref P6] := ⟨_, rfl⟩
    rw [← hxs]
    have hnos : ∀ x ∈ xs, ∀ H', Same H16 H' → ∃ t, TyX K H' x (.type t) ∧ kitB t "str" = some false := by
      intro x hx H' s
      rw [hxs] at hx
      simp only [List.mem_cons, List.mem_nil_iff, or_false] at hx
      rcases hx with rfl | rfl | rfl
      · exact ⟨_, .base .non, by decide +kernel⟩
      · exact ⟨_, .base (.int _), by decide +kernel⟩
      · exact ⟨_, .base (.lst (s _ _ hP6)), by decide +kernel⟩
    have hxl : xs.length = 3 := by rw [hxs]; rfl
    have t7 := same_upd (o := .lst xs) nP7
    have hP7 : (upd H16 P7 (.lst xs)) P7 = some (.lst xs) := upd_same
    have hS17 := (t6.trans t7).seq hS15
    generalize upd H16 P7 (.lst xs) = H17 at *
    walk_at "rt"
    have m3 := emod_b (x := cell ns (Int.toNat 1)) (n := 3) (by decide)
    obtain ⟨x, hx, ex⟩ := atI_mem (xs := xs) m3.1 (by omega)
    refine rd_ixL (.of hP7) ex ?_
    walk_at "rt"
    refine ⟨_, rfl, .inl (hnos x hx _ t7), fun H18 s18 => ?_⟩
    have hS18 := s18.seq hS17
    walk_at "rt"
    refine ⟨line, _, _, rfl, by omega, fun l' hl' => ?_⟩
    walk_at "rt"
    refine ⟨l', rfl, by omega, fun H19 => ?_⟩
    walk_at "rt"
    refine ⟨⟨_, rfl⟩, ?_⟩
    walk_at "rt"
    refine ⟨_, rfl, by decide, by decide, fun P8 nP8 => lc_rangeM (fun _ => tx [55]) nP8 (by decide) (fun _ => rfl) (fun i H' R _ _ q' => ?_) (fun H20 s20 hP8 => ?_)⟩
    · walk_at "rt"
      rw [l_seven]
      exact q' _ (Same.refl _)
    have e7 : (List.range (Int.toNat 201)).map (fun _ => tx [55]) = (List.replicate 201 [55]).map tx := by
      rw [List.map_const', List.length_range, List.map_replicate]
      rfl
    rw [e7] at hP8
    have f1 : ∀ w ∈ List.replicate 201 [55], w.length ≤ 1 := fun w hw => by rw [List.eq_of_mem_replicate hw]; exact Nat.le_refl _
    have f2 : ∀ w ∈ List.replicate 201 [55], 32 ∉ w := fun w hw => by rw [List.eq_of_mem_replicate hw]; decide
    have f3 : (List.replicate 201 [55]).length = 201 := List.length_replicate
    have f4 := joinL_len (List.replicate 201 [55])
    have f5 := sum_le _ f1
    have f6 := sp_line f2 (by rw [f3]; decide)
    generalize List.replicate 201 [55] = us' at *
    refine rd_join (b := 1) (.of hP8) f1 (by omega) ?_
    walk_at "rt"
    exact ⟨_, rfl, .inr ⟨_, rfl, by omega, .inl (by rw [f6, f3]; decide)⟩, fun H21 _ => k _⟩


end
theorem all_mk {l : PySem.W.OpenLaw} {w : World} {K : PySem.W.Frag} {h : Heap} {mg : Str → Option Value} {fa : Addr} (X : K.In h) (G : h.Ns mainGlobals mg) (hfa : mg "law" = some (.ref fa))
    {f_is_whole : Addr} {od_is_whole an_is_whole : Option Addr} {sl_is_whole : Array (Option Value)} {oc_is_whole kV_is_whole dc_is_whole pm_is_whole cd_is_whole ct_is_whole : Value} {f_is_height : Addr} {od_is_height an_is_height : Option Addr} {sl_is_height : Array (Option Value)} {oc_is_height kV_is_height dc_is_height pm_is_height cd_is_height ct_is_height : Value} {f_checked : Addr} {od_checked an_checked : Option Addr} {sl_checked : Array (Option Value)} {oc_checked kV_checked dc_checked pm_checked cd_checked ct_checked : Value} {f_shown : Addr} {od_shown an_shown : Option Addr} {sl_shown : Array (Option Value)} {oc_shown kV_shown dc_shown pm_shown cd_shown ct_shown : Value} {f_height_of : Addr} {od_height_of an_height_of : Option Addr} {sl_height_of : Array (Option Value)} {oc_height_of kV_height_of dc_height_of pm_height_of cd_height_of ct_height_of : Value} {f_read : Addr} {od_read an_read : Option Addr} {sl_read : Array (Option Value)} {oc_read kV_read dc_read pm_read cd_read ct_read : Value} {f_law_sole : Addr} {od_law_sole an_law_sole : Option Addr} {sl_law_sole : Array (Option Value)} {oc_law_sole kV_law_sole dc_law_sole pm_law_sole cd_law_sole ct_law_sole : Value} {f_law_whole : Addr} {od_law_whole an_law_whole : Option Addr} {sl_law_whole : Array (Option Value)} {oc_law_whole kV_law_whole dc_law_whole pm_law_whole cd_law_whole ct_law_whole : Value} {f_law_cell_at : Addr} {od_law_cell_at an_law_cell_at : Option Addr} {sl_law_cell_at : Array (Option Value)} {oc_law_cell_at kV_law_cell_at dc_law_cell_at pm_law_cell_at cd_law_cell_at ct_law_cell_at : Value} {f_law_height_by : Addr} {od_law_height_by an_law_height_by : Option Addr} {sl_law_height_by : Array (Option Value)} {oc_law_height_by kV_law_height_by dc_law_height_by pm_law_height_by cd_law_height_by ct_law_height_by : Value} {f_law_longer : Addr} {od_law_longer an_law_longer : Option Addr} {sl_law_longer : Array (Option Value)} {oc_law_longer kV_law_longer dc_law_longer pm_law_longer cd_law_longer ct_law_longer : Value} {f_law_land_by : Addr} {od_law_land_by an_law_land_by : Option Addr} {sl_law_land_by : Array (Option Value)} {oc_law_land_by kV_law_land_by dc_law_land_by pm_law_land_by cd_law_land_by ct_law_land_by : Value} {f_law_figures_by : Addr} {od_law_figures_by an_law_figures_by : Option Addr} {sl_law_figures_by : Array (Option Value)} {oc_law_figures_by kV_law_figures_by dc_law_figures_by pm_law_figures_by cd_law_figures_by ct_law_figures_by : Value} {f_law_wrong_by : Addr} {od_law_wrong_by an_law_wrong_by : Option Addr} {sl_law_wrong_by : Array (Option Value)} {oc_law_wrong_by kV_law_wrong_by dc_law_wrong_by pm_law_wrong_by cd_law_wrong_by ct_law_wrong_by : Value} {f_law_refused : Addr} {od_law_refused an_law_refused : Option Addr} {sl_law_refused : Array (Option Value)} {oc_law_refused kV_law_refused dc_law_refused pm_law_refused cd_law_refused ct_law_refused : Value} {f_law_height_of : Addr} {od_law_height_of an_law_height_of : Option Addr} {sl_law_height_of : Array (Option Value)} {oc_law_height_of kV_law_height_of dc_law_height_of pm_law_height_of cd_law_height_of ct_law_height_of : Value} {f_law_read_alike : Addr} {od_law_read_alike an_law_read_alike : Option Addr} {sl_law_read_alike : Array (Option Value)} {oc_law_read_alike kV_law_read_alike dc_law_read_alike pm_law_read_alike cd_law_read_alike ct_law_read_alike : Value} {f_law_changed : Addr} {od_law_changed an_law_changed : Option Addr} {sl_law_changed : Array (Option Value)} {oc_law_changed kV_law_changed dc_law_changed pm_law_changed cd_law_changed ct_law_changed : Value} {f_law : Addr} {od_law an_law : Option Addr} {sl_law : Array (Option Value)} {oc_law kV_law dc_law pm_law cd_law ct_law : Value} {c_HillError : Addr} {c_NoLand : Addr} {c_NoHill : Addr} {c_SameHill : Addr} {c_TooHigh : Addr} {c_NothingDone : Addr} {w_MOST_HILLS : Tok} {w_MOST_HEIGHT : Tok} {w_FIGURES : Tok} {w_MOST_FIGURES : Tok}
    (a_is_whole : PySem.W.nsIn K mainGlobals "is_whole" = some (some (.ref f_is_whole)))
    (l_is_whole : K.lookup f_is_whole = some ⟨oc_is_whole, od_is_whole, .func (PySem.W.fnOf "is_whole" "is_whole" (defArgs s_is_whole) (defBody s_is_whole) (defScope s_is_whole) .none kV_is_whole dc_is_whole pm_is_whole an_is_whole cd_is_whole ct_is_whole), sl_is_whole⟩)
    (q_is_whole : PySem.W.codeIn K cd_is_whole "is_whole" = true)
    (k_is_whole : PySem.W.keepIn K (.ref f_is_whole) = true)
    (a_is_height : PySem.W.nsIn K mainGlobals "is_height" = some (some (.ref f_is_height)))
    (l_is_height : K.lookup f_is_height = some ⟨oc_is_height, od_is_height, .func (PySem.W.fnOf "is_height" "is_height" (defArgs s_is_height) (defBody s_is_height) (defScope s_is_height) .none kV_is_height dc_is_height pm_is_height an_is_height cd_is_height ct_is_height), sl_is_height⟩)
    (q_is_height : PySem.W.codeIn K cd_is_height "is_height" = true)
    (k_is_height : PySem.W.keepIn K (.ref f_is_height) = true)
    (a_checked : PySem.W.nsIn K mainGlobals "checked" = some (some (.ref f_checked)))
    (l_checked : K.lookup f_checked = some ⟨oc_checked, od_checked, .func (PySem.W.fnOf "checked" "checked" (defArgs s_checked) (defBody s_checked) (defScope s_checked) .none kV_checked dc_checked pm_checked an_checked cd_checked ct_checked), sl_checked⟩)
    (q_checked : PySem.W.codeIn K cd_checked "checked" = true)
    (k_checked : PySem.W.keepIn K (.ref f_checked) = true)
    (a_shown : PySem.W.nsIn K mainGlobals "shown" = some (some (.ref f_shown)))
    (l_shown : K.lookup f_shown = some ⟨oc_shown, od_shown, .func (PySem.W.fnOf "shown" "shown" (defArgs s_shown) (defBody s_shown) (defScope s_shown) .none kV_shown dc_shown pm_shown an_shown cd_shown ct_shown), sl_shown⟩)
    (q_shown : PySem.W.codeIn K cd_shown "shown" = true)
    (k_shown : PySem.W.keepIn K (.ref f_shown) = true)
    (a_height_of : PySem.W.nsIn K mainGlobals "height_of" = some (some (.ref f_height_of)))
    (l_height_of : K.lookup f_height_of = some ⟨oc_height_of, od_height_of, .func (PySem.W.fnOf "height_of" "height_of" (defArgs s_height_of) (defBody s_height_of) (defScope s_height_of) .none kV_height_of dc_height_of pm_height_of an_height_of cd_height_of ct_height_of), sl_height_of⟩)
    (q_height_of : PySem.W.codeIn K cd_height_of "height_of" = true)
    (k_height_of : PySem.W.keepIn K (.ref f_height_of) = true)
    (a_read : PySem.W.nsIn K mainGlobals "read" = some (some (.ref f_read)))
    (l_read : K.lookup f_read = some ⟨oc_read, od_read, .func (PySem.W.fnOf "read" "read" (defArgs s_read) (defBody s_read) (defScope s_read) .none kV_read dc_read pm_read an_read cd_read ct_read), sl_read⟩)
    (q_read : PySem.W.codeIn K cd_read "read" = true)
    (k_read : PySem.W.keepIn K (.ref f_read) = true)
    (a_law_sole : PySem.W.nsIn K mainGlobals "_law_sole" = some (some (.ref f_law_sole)))
    (l_law_sole : K.lookup f_law_sole = some ⟨oc_law_sole, od_law_sole, .func (PySem.W.fnOf "_law_sole" "_law_sole" (defArgs s_law_sole) (defBody s_law_sole) (defScope s_law_sole) .none kV_law_sole dc_law_sole pm_law_sole an_law_sole cd_law_sole ct_law_sole), sl_law_sole⟩)
    (q_law_sole : PySem.W.codeIn K cd_law_sole "_law_sole" = true)
    (k_law_sole : PySem.W.keepIn K (.ref f_law_sole) = true)
    (a_law_whole : PySem.W.nsIn K mainGlobals "_law_whole" = some (some (.ref f_law_whole)))
    (l_law_whole : K.lookup f_law_whole = some ⟨oc_law_whole, od_law_whole, .func (PySem.W.fnOf "_law_whole" "_law_whole" (defArgs s_law_whole) (defBody s_law_whole) (defScope s_law_whole) .none kV_law_whole dc_law_whole pm_law_whole an_law_whole cd_law_whole ct_law_whole), sl_law_whole⟩)
    (q_law_whole : PySem.W.codeIn K cd_law_whole "_law_whole" = true)
    (k_law_whole : PySem.W.keepIn K (.ref f_law_whole) = true)
    (a_law_cell_at : PySem.W.nsIn K mainGlobals "_law_cell_at" = some (some (.ref f_law_cell_at)))
    (l_law_cell_at : K.lookup f_law_cell_at = some ⟨oc_law_cell_at, od_law_cell_at, .func (PySem.W.fnOf "_law_cell_at" "_law_cell_at" (defArgs s_law_cell_at) (defBody s_law_cell_at) (defScope s_law_cell_at) .none kV_law_cell_at dc_law_cell_at pm_law_cell_at an_law_cell_at cd_law_cell_at ct_law_cell_at), sl_law_cell_at⟩)
    (q_law_cell_at : PySem.W.codeIn K cd_law_cell_at "_law_cell_at" = true)
    (k_law_cell_at : PySem.W.keepIn K (.ref f_law_cell_at) = true)
    (a_law_height_by : PySem.W.nsIn K mainGlobals "_law_height_by" = some (some (.ref f_law_height_by)))
    (l_law_height_by : K.lookup f_law_height_by = some ⟨oc_law_height_by, od_law_height_by, .func (PySem.W.fnOf "_law_height_by" "_law_height_by" (defArgs s_law_height_by) (defBody s_law_height_by) (defScope s_law_height_by) .none kV_law_height_by dc_law_height_by pm_law_height_by an_law_height_by cd_law_height_by ct_law_height_by), sl_law_height_by⟩)
    (q_law_height_by : PySem.W.codeIn K cd_law_height_by "_law_height_by" = true)
    (k_law_height_by : PySem.W.keepIn K (.ref f_law_height_by) = true)
    (a_law_longer : PySem.W.nsIn K mainGlobals "_law_longer" = some (some (.ref f_law_longer)))
    (l_law_longer : K.lookup f_law_longer = some ⟨oc_law_longer, od_law_longer, .func (PySem.W.fnOf "_law_longer" "_law_longer" (defArgs s_law_longer) (defBody s_law_longer) (defScope s_law_longer) .none kV_law_longer dc_law_longer pm_law_longer an_law_longer cd_law_longer ct_law_longer), sl_law_longer⟩)
    (q_law_longer : PySem.W.codeIn K cd_law_longer "_law_longer" = true)
    (k_law_longer : PySem.W.keepIn K (.ref f_law_longer) = true)
    (a_law_land_by : PySem.W.nsIn K mainGlobals "_law_land_by" = some (some (.ref f_law_land_by)))
    (l_law_land_by : K.lookup f_law_land_by = some ⟨oc_law_land_by, od_law_land_by, .func (PySem.W.fnOf "_law_land_by" "_law_land_by" (defArgs s_law_land_by) (defBody s_law_land_by) (defScope s_law_land_by) .none kV_law_land_by dc_law_land_by pm_law_land_by an_law_land_by cd_law_land_by ct_law_land_by), sl_law_land_by⟩)
    (q_law_land_by : PySem.W.codeIn K cd_law_land_by "_law_land_by" = true)
    (k_law_land_by : PySem.W.keepIn K (.ref f_law_land_by) = true)
    (a_law_figures_by : PySem.W.nsIn K mainGlobals "_law_figures_by" = some (some (.ref f_law_figures_by)))
    (l_law_figures_by : K.lookup f_law_figures_by = some ⟨oc_law_figures_by, od_law_figures_by, .func (PySem.W.fnOf "_law_figures_by" "_law_figures_by" (defArgs s_law_figures_by) (defBody s_law_figures_by) (defScope s_law_figures_by) .none kV_law_figures_by dc_law_figures_by pm_law_figures_by an_law_figures_by cd_law_figures_by ct_law_figures_by), sl_law_figures_by⟩)
    (q_law_figures_by : PySem.W.codeIn K cd_law_figures_by "_law_figures_by" = true)
    (k_law_figures_by : PySem.W.keepIn K (.ref f_law_figures_by) = true)
    (a_law_wrong_by : PySem.W.nsIn K mainGlobals "_law_wrong_by" = some (some (.ref f_law_wrong_by)))
    (l_law_wrong_by : K.lookup f_law_wrong_by = some ⟨oc_law_wrong_by, od_law_wrong_by, .func (PySem.W.fnOf "_law_wrong_by" "_law_wrong_by" (defArgs s_law_wrong_by) (defBody s_law_wrong_by) (defScope s_law_wrong_by) .none kV_law_wrong_by dc_law_wrong_by pm_law_wrong_by an_law_wrong_by cd_law_wrong_by ct_law_wrong_by), sl_law_wrong_by⟩)
    (q_law_wrong_by : PySem.W.codeIn K cd_law_wrong_by "_law_wrong_by" = true)
    (k_law_wrong_by : PySem.W.keepIn K (.ref f_law_wrong_by) = true)
    (a_law_refused : PySem.W.nsIn K mainGlobals "_law_refused" = some (some (.ref f_law_refused)))
    (l_law_refused : K.lookup f_law_refused = some ⟨oc_law_refused, od_law_refused, .func (PySem.W.fnOf "_law_refused" "_law_refused" (defArgs s_law_refused) (defBody s_law_refused) (defScope s_law_refused) .none kV_law_refused dc_law_refused pm_law_refused an_law_refused cd_law_refused ct_law_refused), sl_law_refused⟩)
    (q_law_refused : PySem.W.codeIn K cd_law_refused "_law_refused" = true)
    (k_law_refused : PySem.W.keepIn K (.ref f_law_refused) = true)
    (a_law_height_of : PySem.W.nsIn K mainGlobals "_law_height_of" = some (some (.ref f_law_height_of)))
    (l_law_height_of : K.lookup f_law_height_of = some ⟨oc_law_height_of, od_law_height_of, .func (PySem.W.fnOf "_law_height_of" "_law_height_of" (defArgs s_law_height_of) (defBody s_law_height_of) (defScope s_law_height_of) .none kV_law_height_of dc_law_height_of pm_law_height_of an_law_height_of cd_law_height_of ct_law_height_of), sl_law_height_of⟩)
    (q_law_height_of : PySem.W.codeIn K cd_law_height_of "_law_height_of" = true)
    (k_law_height_of : PySem.W.keepIn K (.ref f_law_height_of) = true)
    (a_law_read_alike : PySem.W.nsIn K mainGlobals "_law_read_alike" = some (some (.ref f_law_read_alike)))
    (l_law_read_alike : K.lookup f_law_read_alike = some ⟨oc_law_read_alike, od_law_read_alike, .func (PySem.W.fnOf "_law_read_alike" "_law_read_alike" (defArgs s_law_read_alike) (defBody s_law_read_alike) (defScope s_law_read_alike) .none kV_law_read_alike dc_law_read_alike pm_law_read_alike an_law_read_alike cd_law_read_alike ct_law_read_alike), sl_law_read_alike⟩)
    (q_law_read_alike : PySem.W.codeIn K cd_law_read_alike "_law_read_alike" = true)
    (k_law_read_alike : PySem.W.keepIn K (.ref f_law_read_alike) = true)
    (a_law_changed : PySem.W.nsIn K mainGlobals "_law_changed" = some (some (.ref f_law_changed)))
    (l_law_changed : K.lookup f_law_changed = some ⟨oc_law_changed, od_law_changed, .func (PySem.W.fnOf "_law_changed" "_law_changed" (defArgs s_law_changed) (defBody s_law_changed) (defScope s_law_changed) .none kV_law_changed dc_law_changed pm_law_changed an_law_changed cd_law_changed ct_law_changed), sl_law_changed⟩)
    (q_law_changed : PySem.W.codeIn K cd_law_changed "_law_changed" = true)
    (k_law_changed : PySem.W.keepIn K (.ref f_law_changed) = true)
    (a_law : PySem.W.nsIn K mainGlobals "law" = some (some (.ref f_law)))
    (l_law : K.lookup f_law = some ⟨oc_law, od_law, .func (PySem.W.fnOf "law" "law" (defArgs s_law) (defBody s_law) (defScope s_law) .none kV_law dc_law pm_law an_law cd_law ct_law), sl_law⟩)
    (q_law : PySem.W.codeIn K cd_law "law" = true)
    (k_law : PySem.W.keepIn K (.ref f_law) = true)
    (a_HillError : PySem.W.nsIn K mainGlobals "HillError" = some (some (.ref c_HillError)))
    (x_HillError : PySem.W.excIn K c_HillError [.type "ValueError", .type "Exception", .type "BaseException", .type "object"] "ValueError.__new__" = true)
    (k_HillError : PySem.W.keepIn K (.ref c_HillError) = true)
    (e_HillError : PySem.W.subIn K (.ref c_HillError) (.type "BaseException") = some true)
    (t_HillError : PySem.W.typeIn K (.ref c_HillError) = some (.type "type"))
    (i_HillError : PySem.W.isClsIn K c_HillError = true)
    (a_NoLand : PySem.W.nsIn K mainGlobals "NoLand" = some (some (.ref c_NoLand)))
    (x_NoLand : PySem.W.excIn K c_NoLand [.type "ValueError", .type "Exception", .type "BaseException", .type "object"] "ValueError.__new__" = true)
    (k_NoLand : PySem.W.keepIn K (.ref c_NoLand) = true)
    (e_NoLand : PySem.W.subIn K (.ref c_NoLand) (.type "BaseException") = some true)
    (t_NoLand : PySem.W.typeIn K (.ref c_NoLand) = some (.type "type"))
    (i_NoLand : PySem.W.isClsIn K c_NoLand = true)
    (a_NoHill : PySem.W.nsIn K mainGlobals "NoHill" = some (some (.ref c_NoHill)))
    (x_NoHill : PySem.W.excIn K c_NoHill [.type "ValueError", .type "Exception", .type "BaseException", .type "object"] "ValueError.__new__" = true)
    (k_NoHill : PySem.W.keepIn K (.ref c_NoHill) = true)
    (e_NoHill : PySem.W.subIn K (.ref c_NoHill) (.type "BaseException") = some true)
    (t_NoHill : PySem.W.typeIn K (.ref c_NoHill) = some (.type "type"))
    (i_NoHill : PySem.W.isClsIn K c_NoHill = true)
    (a_SameHill : PySem.W.nsIn K mainGlobals "SameHill" = some (some (.ref c_SameHill)))
    (x_SameHill : PySem.W.excIn K c_SameHill [.type "ValueError", .type "Exception", .type "BaseException", .type "object"] "ValueError.__new__" = true)
    (k_SameHill : PySem.W.keepIn K (.ref c_SameHill) = true)
    (e_SameHill : PySem.W.subIn K (.ref c_SameHill) (.type "BaseException") = some true)
    (t_SameHill : PySem.W.typeIn K (.ref c_SameHill) = some (.type "type"))
    (i_SameHill : PySem.W.isClsIn K c_SameHill = true)
    (a_TooHigh : PySem.W.nsIn K mainGlobals "TooHigh" = some (some (.ref c_TooHigh)))
    (x_TooHigh : PySem.W.excIn K c_TooHigh [.type "ValueError", .type "Exception", .type "BaseException", .type "object"] "ValueError.__new__" = true)
    (k_TooHigh : PySem.W.keepIn K (.ref c_TooHigh) = true)
    (e_TooHigh : PySem.W.subIn K (.ref c_TooHigh) (.type "BaseException") = some true)
    (t_TooHigh : PySem.W.typeIn K (.ref c_TooHigh) = some (.type "type"))
    (i_TooHigh : PySem.W.isClsIn K c_TooHigh = true)
    (a_NothingDone : PySem.W.nsIn K mainGlobals "NothingDone" = some (some (.ref c_NothingDone)))
    (x_NothingDone : PySem.W.excIn K c_NothingDone [.type "ValueError", .type "Exception", .type "BaseException", .type "object"] "ValueError.__new__" = true)
    (k_NothingDone : PySem.W.keepIn K (.ref c_NothingDone) = true)
    (e_NothingDone : PySem.W.subIn K (.ref c_NothingDone) (.type "BaseException") = some true)
    (t_NothingDone : PySem.W.typeIn K (.ref c_NothingDone) = some (.type "type"))
    (i_NothingDone : PySem.W.isClsIn K c_NothingDone = true)
    (s_NoLand_NoLand : PySem.W.subIn K (.ref c_NoLand) (.ref c_NoLand) = some true)
    (hn_obj : PySem.W.specialIn K (.builtin "object.__class__") "__get__" = some (some (.builtin "getset_descriptor.__get__")))
    (ht_obj : PySem.W.takesIn K (.builtin "object.__class__") = some true)
    (hg_NoLand : PySem.W.findIn K (.ref c_NoLand) "__getattribute__" = some (some (.builtin "BaseException.__getattribute__")))
    (hk_NoLand : PySem.W.findIn K (.ref c_NoLand) "__getattr__" = some none)
    (hd_NoLand : PySem.W.hasDictIn K c_NoLand = true)
    (ha_NoLand : PySem.W.findIn K (.ref c_NoLand) "__class__" = some (some (.builtin "object.__class__")))
    (hm_NoLand : PySem.W.mroIn K c_NoLand (.type "object") = some true)
    (kv_NoLand : PySem.W.kitOne K (.ref c_NoLand) (.type "ValueError") = some true)
    (kt_NoLand_NoLand : PySem.W.kitOne K (.ref c_NoLand) (.ref c_NoLand) = some true)
    (kt_NoLand_NoHill : PySem.W.kitOne K (.ref c_NoLand) (.ref c_NoHill) = some false)
    (kt_NoLand_SameHill : PySem.W.kitOne K (.ref c_NoLand) (.ref c_SameHill) = some false)
    (kt_NoLand_TooHigh : PySem.W.kitOne K (.ref c_NoLand) (.ref c_TooHigh) = some false)
    (kt_NoLand_NothingDone : PySem.W.kitOne K (.ref c_NoLand) (.ref c_NothingDone) = some false)
    (kt_NoLand_HillError : PySem.W.kitOne K (.ref c_NoLand) (.ref c_HillError) = some true)
    (a_MOST_HILLS : PySem.W.nsIn K mainGlobals "MOST_HILLS" = some (some (.int 200 w_MOST_HILLS)))
    (a_MOST_HEIGHT : PySem.W.nsIn K mainGlobals "MOST_HEIGHT" = some (some (.int 1000000000000000000 w_MOST_HEIGHT)))
    (a_FIGURES : PySem.W.nsIn K mainGlobals "FIGURES" = some (some (.str "0123456789" w_FIGURES)))
    (a_MOST_FIGURES : PySem.W.nsIn K mainGlobals "MOST_FIGURES" = some (some (.int 19 w_MOST_FIGURES)))
    (n_ValueError : PySem.W.nsIn K mainGlobals "ValueError" = some none)
    (n_abs : PySem.W.nsIn K mainGlobals "abs" = some none)
    (n_all : PySem.W.nsIn K mainGlobals "all" = some none)
    (n_bool : PySem.W.nsIn K mainGlobals "bool" = some none)
    (n_int : PySem.W.nsIn K mainGlobals "int" = some none)
    (n_isinstance : PySem.W.nsIn K mainGlobals "isinstance" = some none)
    (n_len : PySem.W.nsIn K mainGlobals "len" = some none)
    (n_list : PySem.W.nsIn K mainGlobals "list" = some none)
    (n_range : PySem.W.nsIn K mainGlobals "range" = some none)
    (n_str : PySem.W.nsIn K mainGlobals "str" = some none)
    : ∃ fd : FuncData, (∀ (s : Shared) (v : Value), BindsTo s fd ⟨[v], []⟩ [("_law_script", v)]) ∧ ∀ base : Heap, K.In base → base.Ns mainGlobals mg → FnOk l.prog w K mg base CX0 7 fa fd ["_law_script"] (spLaw K) := by
  have e : fa = f_law := Value.ref.inj (Option.some.inj (hfa.symm.trans (PySem.W.mg_of X G a_law)))
  rw [e]
  have T : ∃ T : Txt K mg, T.a_law = f_law ∧ T.d_law = PySem.W.fnOf "law" "law" (defArgs s_law) (defBody s_law) (defScope s_law) .none kV_law dc_law pm_law an_law cd_law ct_law := ⟨{
    a_is_whole := f_is_whole, d_is_whole := PySem.W.fnOf "is_whole" "is_whole" (defArgs s_is_whole) (defBody s_is_whole) (defScope s_is_whole) .none kV_is_whole dc_is_whole pm_is_whole an_is_whole cd_is_whole ct_is_whole, F_is_whole := fun_mk (st := s_is_whole) l_is_whole q_is_whole k_is_whole,
    b_is_whole := (fun_mk (st := s_is_whole) l_is_whole q_is_whole k_is_whole).binds (ps := ["thing"]) fun _ _ _ _ _ _ us hl => match us, hl with | [_], _ => rfl,
    g_is_whole := PySem.W.mg_of X G a_is_whole,
    a_is_height := f_is_height, d_is_height := PySem.W.fnOf "is_height" "is_height" (defArgs s_is_height) (defBody s_is_height) (defScope s_is_height) .none kV_is_height dc_is_height pm_is_height an_is_height cd_is_height ct_is_height, F_is_height := fun_mk (st := s_is_height) l_is_height q_is_height k_is_height,
    b_is_height := (fun_mk (st := s_is_height) l_is_height q_is_height k_is_height).binds (ps := ["thing"]) fun _ _ _ _ _ _ us hl => match us, hl with | [_], _ => rfl,
    g_is_height := PySem.W.mg_of X G a_is_height,
    a_checked := f_checked, d_checked := PySem.W.fnOf "checked" "checked" (defArgs s_checked) (defBody s_checked) (defScope s_checked) .none kV_checked dc_checked pm_checked an_checked cd_checked ct_checked, F_checked := fun_mk (st := s_checked) l_checked q_checked k_checked,
    b_checked := (fun_mk (st := s_checked) l_checked q_checked k_checked).binds (ps := ["land"]) fun _ _ _ _ _ _ us hl => match us, hl with | [_], _ => rfl,
    g_checked := PySem.W.mg_of X G a_checked,
    a_shown := f_shown, d_shown := PySem.W.fnOf "shown" "shown" (defArgs s_shown) (defBody s_shown) (defScope s_shown) .none kV_shown dc_shown pm_shown an_shown cd_shown ct_shown, F_shown := fun_mk (st := s_shown) l_shown q_shown k_shown,
    b_shown := (fun_mk (st := s_shown) l_shown q_shown k_shown).binds (ps := ["land"]) fun _ _ _ _ _ _ us hl => match us, hl with | [_], _ => rfl,
    g_shown := PySem.W.mg_of X G a_shown,
    a_height_of := f_height_of, d_height_of := PySem.W.fnOf "height_of" "height_of" (defArgs s_height_of) (defBody s_height_of) (defScope s_height_of) .none kV_height_of dc_height_of pm_height_of an_height_of cd_height_of ct_height_of, F_height_of := fun_mk (st := s_height_of) l_height_of q_height_of k_height_of,
    b_height_of := (fun_mk (st := s_height_of) l_height_of q_height_of k_height_of).binds (ps := ["word"]) fun _ _ _ _ _ _ us hl => match us, hl with | [_], _ => rfl,
    g_height_of := PySem.W.mg_of X G a_height_of,
    a_read := f_read, d_read := PySem.W.fnOf "read" "read" (defArgs s_read) (defBody s_read) (defScope s_read) .none kV_read dc_read pm_read an_read cd_read ct_read, F_read := fun_mk (st := s_read) l_read q_read k_read,
    b_read := (fun_mk (st := s_read) l_read q_read k_read).binds (ps := ["line"]) fun _ _ _ _ _ _ us hl => match us, hl with | [_], _ => rfl,
    g_read := PySem.W.mg_of X G a_read,
    a_law_sole := f_law_sole, d_law_sole := PySem.W.fnOf "_law_sole" "_law_sole" (defArgs s_law_sole) (defBody s_law_sole) (defScope s_law_sole) .none kV_law_sole dc_law_sole pm_law_sole an_law_sole cd_law_sole ct_law_sole, F_law_sole := fun_mk (st := s_law_sole) l_law_sole q_law_sole k_law_sole,
    b_law_sole := (fun_mk (st := s_law_sole) l_law_sole q_law_sole k_law_sole).binds (ps := ["_law_error"]) fun _ _ _ _ _ _ us hl => match us, hl with | [_], _ => rfl,
    g_law_sole := PySem.W.mg_of X G a_law_sole,
    a_law_whole := f_law_whole, d_law_whole := PySem.W.fnOf "_law_whole" "_law_whole" (defArgs s_law_whole) (defBody s_law_whole) (defScope s_law_whole) .none kV_law_whole dc_law_whole pm_law_whole an_law_whole cd_law_whole ct_law_whole, F_law_whole := fun_mk (st := s_law_whole) l_law_whole q_law_whole k_law_whole,
    b_law_whole := (fun_mk (st := s_law_whole) l_law_whole q_law_whole k_law_whole).binds (ps := ["_law_found"]) fun _ _ _ _ _ _ us hl => match us, hl with | [_], _ => rfl,
    g_law_whole := PySem.W.mg_of X G a_law_whole,
    a_law_cell_at := f_law_cell_at, d_law_cell_at := PySem.W.fnOf "_law_cell_at" "_law_cell_at" (defArgs s_law_cell_at) (defBody s_law_cell_at) (defScope s_law_cell_at) .none kV_law_cell_at dc_law_cell_at pm_law_cell_at an_law_cell_at cd_law_cell_at ct_law_cell_at, F_law_cell_at := fun_mk (st := s_law_cell_at) l_law_cell_at q_law_cell_at k_law_cell_at,
    b_law_cell_at := (fun_mk (st := s_law_cell_at) l_law_cell_at q_law_cell_at k_law_cell_at).binds (ps := ["_law_script", "_law_k"]) fun _ _ _ _ _ _ us hl => match us, hl with | [_, _], _ => rfl,
    g_law_cell_at := PySem.W.mg_of X G a_law_cell_at,
    a_law_height_by := f_law_height_by, d_law_height_by := PySem.W.fnOf "_law_height_by" "_law_height_by" (defArgs s_law_height_by) (defBody s_law_height_by) (defScope s_law_height_by) .none kV_law_height_by dc_law_height_by pm_law_height_by an_law_height_by cd_law_height_by ct_law_height_by, F_law_height_by := fun_mk (st := s_law_height_by) l_law_height_by q_law_height_by k_law_height_by,
    b_law_height_by := (fun_mk (st := s_law_height_by) l_law_height_by q_law_height_by k_law_height_by).binds (ps := ["_law_cell", "_law_k", "_law_kind", "_law_tilt"]) fun _ _ _ _ _ _ us hl => match us, hl with | [_, _, _, _], _ => rfl,
    g_law_height_by := PySem.W.mg_of X G a_law_height_by,
    a_law_longer := f_law_longer, d_law_longer := PySem.W.fnOf "_law_longer" "_law_longer" (defArgs s_law_longer) (defBody s_law_longer) (defScope s_law_longer) .none kV_law_longer dc_law_longer pm_law_longer an_law_longer cd_law_longer ct_law_longer, F_law_longer := fun_mk (st := s_law_longer) l_law_longer q_law_longer k_law_longer,
    b_law_longer := (fun_mk (st := s_law_longer) l_law_longer q_law_longer k_law_longer).binds (ps := ["_law_script", "_law_land", "_law_most", "_law_many"]) fun _ _ _ _ _ _ us hl => match us, hl with | [_, _, _, _], _ => rfl,
    g_law_longer := PySem.W.mg_of X G a_law_longer,
    a_law_land_by := f_law_land_by, d_law_land_by := PySem.W.fnOf "_law_land_by" "_law_land_by" (defArgs s_law_land_by) (defBody s_law_land_by) (defScope s_law_land_by) .none kV_law_land_by dc_law_land_by pm_law_land_by an_law_land_by cd_law_land_by ct_law_land_by, F_law_land_by := fun_mk (st := s_law_land_by) l_law_land_by q_law_land_by k_law_land_by,
    b_law_land_by := (fun_mk (st := s_law_land_by) l_law_land_by q_law_land_by k_law_land_by).binds (ps := ["_law_script", "_law_most"]) fun _ _ _ _ _ _ us hl => match us, hl with | [_, _], _ => rfl,
    g_law_land_by := PySem.W.mg_of X G a_law_land_by,
    a_law_figures_by := f_law_figures_by, d_law_figures_by := PySem.W.fnOf "_law_figures_by" "_law_figures_by" (defArgs s_law_figures_by) (defBody s_law_figures_by) (defScope s_law_figures_by) .none kV_law_figures_by dc_law_figures_by pm_law_figures_by an_law_figures_by cd_law_figures_by ct_law_figures_by, F_law_figures_by := fun_mk (st := s_law_figures_by) l_law_figures_by q_law_figures_by k_law_figures_by,
    b_law_figures_by := (fun_mk (st := s_law_figures_by) l_law_figures_by q_law_figures_by k_law_figures_by).binds (ps := ["_law_height"]) fun _ _ _ _ _ _ us hl => match us, hl with | [_], _ => rfl,
    g_law_figures_by := PySem.W.mg_of X G a_law_figures_by,
    a_law_wrong_by := f_law_wrong_by, d_law_wrong_by := PySem.W.fnOf "_law_wrong_by" "_law_wrong_by" (defArgs s_law_wrong_by) (defBody s_law_wrong_by) (defScope s_law_wrong_by) .none kV_law_wrong_by dc_law_wrong_by pm_law_wrong_by an_law_wrong_by cd_law_wrong_by ct_law_wrong_by, F_law_wrong_by := fun_mk (st := s_law_wrong_by) l_law_wrong_by q_law_wrong_by k_law_wrong_by,
    b_law_wrong_by := (fun_mk (st := s_law_wrong_by) l_law_wrong_by q_law_wrong_by k_law_wrong_by).binds (ps := ["_law_words", "_law_cell"]) fun _ _ _ _ _ _ us hl => match us, hl with | [_, _], _ => rfl,
    g_law_wrong_by := PySem.W.mg_of X G a_law_wrong_by,
    a_law_refused := f_law_refused, d_law_refused := PySem.W.fnOf "_law_refused" "_law_refused" (defArgs s_law_refused) (defBody s_law_refused) (defScope s_law_refused) .none kV_law_refused dc_law_refused pm_law_refused an_law_refused cd_law_refused ct_law_refused, F_law_refused := fun_mk (st := s_law_refused) l_law_refused q_law_refused k_law_refused,
    b_law_refused := (fun_mk (st := s_law_refused) l_law_refused q_law_refused k_law_refused).binds (ps := ["_law_line"]) fun _ _ _ _ _ _ us hl => match us, hl with | [_], _ => rfl,
    g_law_refused := PySem.W.mg_of X G a_law_refused,
    a_law_height_of := f_law_height_of, d_law_height_of := PySem.W.fnOf "_law_height_of" "_law_height_of" (defArgs s_law_height_of) (defBody s_law_height_of) (defScope s_law_height_of) .none kV_law_height_of dc_law_height_of pm_law_height_of an_law_height_of cd_law_height_of ct_law_height_of, F_law_height_of := fun_mk (st := s_law_height_of) l_law_height_of q_law_height_of k_law_height_of,
    b_law_height_of := (fun_mk (st := s_law_height_of) l_law_height_of q_law_height_of k_law_height_of).binds (ps := ["_law_word"]) fun _ _ _ _ _ _ us hl => match us, hl with | [_], _ => rfl,
    g_law_height_of := PySem.W.mg_of X G a_law_height_of,
    a_law_read_alike := f_law_read_alike, d_law_read_alike := PySem.W.fnOf "_law_read_alike" "_law_read_alike" (defArgs s_law_read_alike) (defBody s_law_read_alike) (defScope s_law_read_alike) .none kV_law_read_alike dc_law_read_alike pm_law_read_alike an_law_read_alike cd_law_read_alike ct_law_read_alike, F_law_read_alike := fun_mk (st := s_law_read_alike) l_law_read_alike q_law_read_alike k_law_read_alike,
    b_law_read_alike := (fun_mk (st := s_law_read_alike) l_law_read_alike q_law_read_alike k_law_read_alike).binds (ps := ["_law_line"]) fun _ _ _ _ _ _ us hl => match us, hl with | [_], _ => rfl,
    g_law_read_alike := PySem.W.mg_of X G a_law_read_alike,
    a_law_changed := f_law_changed, d_law_changed := PySem.W.fnOf "_law_changed" "_law_changed" (defArgs s_law_changed) (defBody s_law_changed) (defScope s_law_changed) .none kV_law_changed dc_law_changed pm_law_changed an_law_changed cd_law_changed ct_law_changed, F_law_changed := fun_mk (st := s_law_changed) l_law_changed q_law_changed k_law_changed,
    b_law_changed := (fun_mk (st := s_law_changed) l_law_changed q_law_changed k_law_changed).binds (ps := ["_law_line", "_law_cell", "_law_more"]) fun _ _ _ _ _ _ us hl => match us, hl with | [_, _, _], _ => rfl,
    g_law_changed := PySem.W.mg_of X G a_law_changed,
    a_law := f_law, d_law := PySem.W.fnOf "law" "law" (defArgs s_law) (defBody s_law) (defScope s_law) .none kV_law dc_law pm_law an_law cd_law ct_law, F_law := fun_mk (st := s_law) l_law q_law k_law,
    b_law := (fun_mk (st := s_law) l_law q_law k_law).binds (ps := ["_law_script"]) fun _ _ _ _ _ _ us hl => match us, hl with | [_], _ => rfl,
    g_law := PySem.W.mg_of X G a_law,
    c_HillError := c_HillError, g_HillError := PySem.W.mg_of X G a_HillError, x_HillError := x_HillError, k_HillError := k_HillError, e_HillError := e_HillError, t_HillError := t_HillError, i_HillError := i_HillError,
    c_NoLand := c_NoLand, g_NoLand := PySem.W.mg_of X G a_NoLand, x_NoLand := x_NoLand, k_NoLand := k_NoLand, e_NoLand := e_NoLand, t_NoLand := t_NoLand, i_NoLand := i_NoLand,
    c_NoHill := c_NoHill, g_NoHill := PySem.W.mg_of X G a_NoHill, x_NoHill := x_NoHill, k_NoHill := k_NoHill, e_NoHill := e_NoHill, t_NoHill := t_NoHill, i_NoHill := i_NoHill,
    c_SameHill := c_SameHill, g_SameHill := PySem.W.mg_of X G a_SameHill, x_SameHill := x_SameHill, k_SameHill := k_SameHill, e_SameHill := e_SameHill, t_SameHill := t_SameHill, i_SameHill := i_SameHill,
    c_TooHigh := c_TooHigh, g_TooHigh := PySem.W.mg_of X G a_TooHigh, x_TooHigh := x_TooHigh, k_TooHigh := k_TooHigh, e_TooHigh := e_TooHigh, t_TooHigh := t_TooHigh, i_TooHigh := i_TooHigh,
    c_NothingDone := c_NothingDone, g_NothingDone := PySem.W.mg_of X G a_NothingDone, x_NothingDone := x_NothingDone, k_NothingDone := k_NothingDone, e_NothingDone := e_NothingDone, t_NothingDone := t_NothingDone, i_NothingDone := i_NothingDone,
    s_NoLand_NoLand := s_NoLand_NoLand,
    hn_obj := hn_obj,
    ht_obj := ht_obj,
    hg_NoLand := hg_NoLand,
    hk_NoLand := hk_NoLand,
    hd_NoLand := hd_NoLand,
    ha_NoLand := ha_NoLand,
    hm_NoLand := hm_NoLand,
    kv_NoLand := kv_NoLand,
    kt_NoLand_NoLand := kt_NoLand_NoLand,
    kt_NoLand_NoHill := kt_NoLand_NoHill,
    kt_NoLand_SameHill := kt_NoLand_SameHill,
    kt_NoLand_TooHigh := kt_NoLand_TooHigh,
    kt_NoLand_NothingDone := kt_NoLand_NothingDone,
    kt_NoLand_HillError := kt_NoLand_HillError,
    w_MOST_HILLS := w_MOST_HILLS, g_MOST_HILLS := PySem.W.mg_of X G a_MOST_HILLS,
    w_MOST_HEIGHT := w_MOST_HEIGHT, g_MOST_HEIGHT := PySem.W.mg_of X G a_MOST_HEIGHT,
    w_FIGURES := w_FIGURES, g_FIGURES := PySem.W.mg_of X G a_FIGURES,
    w_MOST_FIGURES := w_MOST_FIGURES, g_MOST_FIGURES := PySem.W.mg_of X G a_MOST_FIGURES,
    n_ValueError := PySem.W.mg_none_of X G n_ValueError,
    n_abs := PySem.W.mg_none_of X G n_abs,
    n_all := PySem.W.mg_none_of X G n_all,
    n_bool := PySem.W.mg_none_of X G n_bool,
    n_int := PySem.W.mg_none_of X G n_int,
    n_isinstance := PySem.W.mg_none_of X G n_isinstance,
    n_len := PySem.W.mg_none_of X G n_len,
    n_list := PySem.W.mg_none_of X G n_list,
    n_range := PySem.W.mg_none_of X G n_range,
    n_str := PySem.W.mg_none_of X G n_str }, rfl, rfl⟩
  obtain ⟨T, e1, e2⟩ := T
  refine ⟨PySem.W.fnOf "law" "law" (defArgs s_law) (defBody s_law) (defScope s_law) .none kV_law dc_law pm_law an_law cd_law ct_law, fun s v => .of_eq rfl, fun base _ _ => ?_⟩
  rw [← e1, ← e2]
  exact ok_law T
end Hs
open PySem PySem.W PyProof.Rows
set_option maxRecDepth 100000 in
set_option maxHeartbeats 0 in
theorem PySem.Challenge.cw_hillsight_k11_texts_holds : PySem.Challenge.rw_hillsight_k11_texts.Holds := by
  w_on; o_law; k_head; (case hw => w_witness2)
  k_fill
  refine L2.walk_ofK (l := PySem.Challenge.rw_hillsight_k11_texts) (n := 63) (k := 7) (x := "_law_script") (CX := L2.CX0) (sp := Hs.spLaw) rfl (by decide) rfl ⟨rfl, by decide, by decide⟩ (fun w h Y => PySem.W.kIn_of Y) ?F (fun _ _ a ns hl _ hS => ⟨a, ns, rfl, hS, hl, fun _ => rfl⟩) (fun _ _ _ _ h => h)
  case F =>
    intro w mg fa h KX G hmg
    refine' Hs.all_mk KX G hmg ?a_is_whole ?l_is_whole ?q_is_whole ?k_is_whole ?a_is_height ?l_is_height ?q_is_height ?k_is_height ?a_checked ?l_checked ?q_checked ?k_checked ?a_shown ?l_shown ?q_shown ?k_shown ?a_height_of ?l_height_of ?q_height_of ?k_height_of ?a_read ?l_read ?q_read ?k_read ?a_law_sole ?l_law_sole ?q_law_sole ?k_law_sole ?a_law_whole ?l_law_whole ?q_law_whole ?k_law_whole ?a_law_cell_at ?l_law_cell_at ?q_law_cell_at ?k_law_cell_at ?a_law_height_by ?l_law_height_by ?q_law_height_by ?k_law_height_by ?a_law_longer ?l_law_longer ?q_law_longer ?k_law_longer ?a_law_land_by ?l_law_land_by ?q_law_land_by ?k_law_land_by ?a_law_figures_by ?l_law_figures_by ?q_law_figures_by ?k_law_figures_by ?a_law_wrong_by ?l_law_wrong_by ?q_law_wrong_by ?k_law_wrong_by ?a_law_refused ?l_law_refused ?q_law_refused ?k_law_refused ?a_law_height_of ?l_law_height_of ?q_law_height_of ?k_law_height_of ?a_law_read_alike ?l_law_read_alike ?q_law_read_alike ?k_law_read_alike ?a_law_changed ?l_law_changed ?q_law_changed ?k_law_changed ?a_law ?l_law ?q_law ?k_law ?a_HillError ?x_HillError ?k_HillError ?e_HillError ?t_HillError ?i_HillError ?a_NoLand ?x_NoLand ?k_NoLand ?e_NoLand ?t_NoLand ?i_NoLand ?a_NoHill ?x_NoHill ?k_NoHill ?e_NoHill ?t_NoHill ?i_NoHill ?a_SameHill ?x_SameHill ?k_SameHill ?e_SameHill ?t_SameHill ?i_SameHill ?a_TooHigh ?x_TooHigh ?k_TooHigh ?e_TooHigh ?t_TooHigh ?i_TooHigh ?a_NothingDone ?x_NothingDone ?k_NothingDone ?e_NothingDone ?t_NothingDone ?i_NothingDone ?s_NoLand_NoLand ?hn_obj ?ht_obj ?hg_NoLand ?hk_NoLand ?hd_NoLand ?ha_NoLand ?hm_NoLand ?kv_NoLand ?kt_NoLand_NoLand ?kt_NoLand_NoHill ?kt_NoLand_SameHill ?kt_NoLand_TooHigh ?kt_NoLand_NothingDone ?kt_NoLand_HillError ?a_MOST_HILLS ?a_MOST_HEIGHT ?a_FIGURES ?a_MOST_FIGURES ?n_ValueError ?n_abs ?n_all ?n_bool ?n_int ?n_isinstance ?n_len ?n_list ?n_range ?n_str
    (case a_is_whole => first | k_is | rfl)
    (case l_is_whole => first | k_is | rfl)
    (case q_is_whole => first | k_is | rfl)
    (case k_is_whole => first | k_is | rfl)
    (case a_is_height => first | k_is | rfl)
    (case l_is_height => first | k_is | rfl)
    (case q_is_height => first | k_is | rfl)
    (case k_is_height => first | k_is | rfl)
    (case a_checked => first | k_is | rfl)
    (case l_checked => first | k_is | rfl)
    (case q_checked => first | k_is | rfl)
    (case k_checked => first | k_is | rfl)
    (case a_shown => first | k_is | rfl)
    (case l_shown => first | k_is | rfl)
    (case q_shown => first | k_is | rfl)
    (case k_shown => first | k_is | rfl)
    (case a_height_of => first | k_is | rfl)
    (case l_height_of => first | k_is | rfl)
    (case q_height_of => first | k_is | rfl)
    (case k_height_of => first | k_is | rfl)
    (case a_read => first | k_is | rfl)
    (case l_read => first | k_is | rfl)
    (case q_read => first | k_is | rfl)
    (case k_read => first | k_is | rfl)
    (case a_law_sole => first | k_is | rfl)
    (case l_law_sole => first | k_is | rfl)
    (case q_law_sole => first | k_is | rfl)
    (case k_law_sole => first | k_is | rfl)
    (case a_law_whole => first | k_is | rfl)
    (case l_law_whole => first | k_is | rfl)
    (case q_law_whole => first | k_is | rfl)
    (case k_law_whole => first | k_is | rfl)
    (case a_law_cell_at => first | k_is | rfl)
    (case l_law_cell_at => first | k_is | rfl)
    (case q_law_cell_at => first | k_is | rfl)
    (case k_law_cell_at => first | k_is | rfl)
    (case a_law_height_by => first | k_is | rfl)
    (case l_law_height_by => first | k_is | rfl)
    (case q_law_height_by => first | k_is | rfl)
    (case k_law_height_by => first | k_is | rfl)
    (case a_law_longer => first | k_is | rfl)
    (case l_law_longer => first | k_is | rfl)
    (case q_law_longer => first | k_is | rfl)
    (case k_law_longer => first | k_is | rfl)
    (case a_law_land_by => first | k_is | rfl)
    (case l_law_land_by => first | k_is | rfl)
    (case q_law_land_by => first | k_is | rfl)
    (case k_law_land_by => first | k_is | rfl)
    (case a_law_figures_by => first | k_is | rfl)
    (case l_law_figures_by => first | k_is | rfl)
    (case q_law_figures_by => first | k_is | rfl)
    (case k_law_figures_by => first | k_is | rfl)
    (case a_law_wrong_by => first | k_is | rfl)
    (case l_law_wrong_by => first | k_is | rfl)
    (case q_law_wrong_by => first | k_is | rfl)
    (case k_law_wrong_by => first | k_is | rfl)
    (case a_law_refused => first | k_is | rfl)
    (case l_law_refused => first | k_is | rfl)
    (case q_law_refused => first | k_is | rfl)
    (case k_law_refused => first | k_is | rfl)
    (case a_law_height_of => first | k_is | rfl)
    (case l_law_height_of => first | k_is | rfl)
    (case q_law_height_of => first | k_is | rfl)
    (case k_law_height_of => first | k_is | rfl)
    (case a_law_read_alike => first | k_is | rfl)
    (case l_law_read_alike => first | k_is | rfl)
    (case q_law_read_alike => first | k_is | rfl)
    (case k_law_read_alike => first | k_is | rfl)
    (case a_law_changed => first | k_is | rfl)
    (case l_law_changed => first | k_is | rfl)
    (case q_law_changed => first | k_is | rfl)
    (case k_law_changed => first | k_is | rfl)
    (case a_law => first | k_is | rfl)
    (case l_law => first | k_is | rfl)
    (case q_law => first | k_is | rfl)
    (case k_law => first | k_is | rfl)
    (case a_HillError => first | k_is | rfl)
    (case x_HillError => k_exc)
    (case k_HillError => first | k_is | rfl)
    (case e_HillError => first | k_is | rfl)
    (case t_HillError => first | k_is | rfl)
    (case i_HillError => first | k_is | rfl)
    (case a_NoLand => first | k_is | rfl)
    (case x_NoLand => k_exc)
    (case k_NoLand => first | k_is | rfl)
    (case e_NoLand => first | k_is | rfl)
    (case t_NoLand => first | k_is | rfl)
    (case i_NoLand => first | k_is | rfl)
    (case a_NoHill => first | k_is | rfl)
    (case x_NoHill => k_exc)
    (case k_NoHill => first | k_is | rfl)
    (case e_NoHill => first | k_is | rfl)
    (case t_NoHill => first | k_is | rfl)
    (case i_NoHill => first | k_is | rfl)
    (case a_SameHill => first | k_is | rfl)
    (case x_SameHill => k_exc)
    (case k_SameHill => first | k_is | rfl)
    (case e_SameHill => first | k_is | rfl)
    (case t_SameHill => first | k_is | rfl)
    (case i_SameHill => first | k_is | rfl)
    (case a_TooHigh => first | k_is | rfl)
    (case x_TooHigh => k_exc)
    (case k_TooHigh => first | k_is | rfl)
    (case e_TooHigh => first | k_is | rfl)
    (case t_TooHigh => first | k_is | rfl)
    (case i_TooHigh => first | k_is | rfl)
    (case a_NothingDone => first | k_is | rfl)
    (case x_NothingDone => k_exc)
    (case k_NothingDone => first | k_is | rfl)
    (case e_NothingDone => first | k_is | rfl)
    (case t_NothingDone => first | k_is | rfl)
    (case i_NothingDone => first | k_is | rfl)
    (case s_NoLand_NoLand => first | k_is | rfl)
    (case hn_obj => first | k_is | rfl)
    (case ht_obj => first | k_is | rfl)
    (case hg_NoLand => first | k_is | rfl)
    (case hk_NoLand => first | k_is | rfl)
    (case hd_NoLand => first | k_is | rfl)
    (case ha_NoLand => first | k_is | rfl)
    (case hm_NoLand => first | k_is | rfl)
    (case kv_NoLand => first | k_is | rfl)
    (case kt_NoLand_NoLand => first | k_is | rfl)
    (case kt_NoLand_NoHill => first | k_is | rfl)
    (case kt_NoLand_SameHill => first | k_is | rfl)
    (case kt_NoLand_TooHigh => first | k_is | rfl)
    (case kt_NoLand_NothingDone => first | k_is | rfl)
    (case kt_NoLand_HillError => first | k_is | rfl)
    (case a_MOST_HILLS => first | k_is | rfl)
    (case a_MOST_HEIGHT => first | k_is | rfl)
    (case a_FIGURES => first | k_is | rfl)
    (case a_MOST_FIGURES => first | k_is | rfl)
    (case n_ValueError => first | k_is | rfl)
    (case n_abs => first | k_is | rfl)
    (case n_all => first | k_is | rfl)
    (case n_bool => first | k_is | rfl)
    (case n_int => first | k_is | rfl)
    (case n_isinstance => first | k_is | rfl)
    (case n_len => first | k_is | rfl)
    (case n_list => first | k_is | rfl)
    (case n_range => first | k_is | rfl)
    (case n_str => first | k_is | rfl)
