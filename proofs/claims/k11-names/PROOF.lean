import PyProof.Rows.All
import Wide.All
import OpenK.AllK
import Wide.FinOn
import HandS.ForMost
import HandS.IsInst
import PySem.Challenge.RW_taglook_k11_names
set_option Elab.async false
set_option linter.all false
set_option maxRecDepth 100000
set_option maxHeartbeats 4000000
/-! The engine: one lemma a reading, so that a body is walked by «refine» alone. -/
namespace Tg
open PySem PySem.Spec L2
section
variable {K : PySem.W.Frag} {σ σ' : St} {H : Hp} {Q : VK} {n b c : St → Hp → Prop} {r : VK} {te ta tb tc : TE} {t u : TS} {tt tu : TT} {v x y : V}
/-! ### statements -/
theorem w_seq (h : t ⟨u ⟨n, r, b, c⟩, r, b, c⟩ σ H) : tSeq t u ⟨n, r, b, c⟩ σ H := h
theorem w_next (h : n σ H) : tNext ⟨n, r, b, c⟩ σ H := h
theorem w_brk (h : b σ H) : tBreak ⟨n, r, b, c⟩ σ H := h
theorem w_cont (h : c σ H) : tCont ⟨n, r, b, c⟩ σ H := h
theorem w_asg {g : TG} (h : te σ H fun x H1 => g x σ H1 n) : tAsg te g ⟨n, r, b, c⟩ σ H := h
theorem w_ret (h : te σ H r) : tRet te ⟨n, r, b, c⟩ σ H := h
theorem w_retN (h : r .non H) : tRetN ⟨n, r, b, c⟩ σ H := h
theorem w_drop (h : te σ H fun _ H1 => n σ H1) : tDrop te ⟨n, r, b, c⟩ σ H := h
theorem w_if (h : tt σ H fun k H1 => if k = true then t ⟨n, r, b, c⟩ σ H1 else u ⟨n, r, b, c⟩ σ H1) : tIfS tt t u ⟨n, r, b, c⟩ σ H := h
theorem w_aug {i : Nat} {ti : TIp} (hx : σ[i]? = some (some x)) (h : te σ H fun y H1 => ti x y H1 fun z H2 => n (σ.set i (some z)) H2) : tAug i te ti ⟨n, r, b, c⟩ σ H := ⟨x, hx, h⟩
theorem w_ipI {f : Int → Int → Int} {i j : Int} (h : Q (.int (f i j)) H) : ipI f (.int i) (.int j) H Q := ⟨i, j, rfl, rfl, h⟩
/-! ### targets -/
theorem w_name {i : Nat} {Qs : St → Hp → Prop} (h : Qs (σ.set i (some v)) H) : gName i v σ H Qs := h
theorem w_gnil {Qs : St → Hp → Prop} (h : Qs σ H) : gNil [] σ H Qs := ⟨rfl, h⟩
theorem w_gcons {g : TG} {gs : TGs} {vs : List V} {Qs : St → Hp → Prop} (h : g v σ H fun σ' H' => gs vs σ' H' Qs) : gCons g gs (v :: vs) σ H Qs := ⟨v, vs, rfl, h⟩
theorem w_gtup {k : Nat} {gs : TGs} {a : Addr} {vs : List V} {Qs : St → Hp → Prop} (hS : SqT K H a vs) (hl : vs.length = k) (h : gs vs σ H Qs) : gTup K k gs (.ref a) σ H Qs := ⟨a, vs, rfl, hS, hl, h⟩
/-! ### values -/
theorem w_var {i : Nat} (hx : σ[i]? = some (some v)) (h : Q v H) : tVar i σ H Q := ⟨v, hx, h⟩
theorem w_c (h : Q v H) : tC v σ H Q := h
theorem w_op {o : R2} (h : ta σ H fun x H1 => tb σ H1 fun y H2 => o x y H2 Q) : tOp o ta tb σ H Q := h
theorem w_un {o : V → Hp → VK → Prop} (h : ta σ H fun x H1 => o x H1 Q) : tUn o ta σ H Q := h
theorem w_rI0 {g : Int → Int → V} {i j : Int} (h : Q (g i j) H) : rI0 g (.int i) (.int j) H Q := ⟨i, j, rfl, rfl, h⟩
theorem w_rI {C : Int → Int → Prop} {g : Int → Int → V} {i j : Int} (hc : C i j) (h : Q (g i j) H) : rI C g (.int i) (.int j) H Q := ⟨i, j, rfl, rfl, hc, h⟩
theorem w_rU {g : Int → V} {i : Int} (h : Q (g i) H) : rU g (.int i) H Q := ⟨i, rfl, h⟩
theorem w_rEq (hs : scal x y = true) (h : Q (.bl (decide (x = y))) H) : rEq x y H Q := ⟨hs, h⟩
theorem w_rNe (hs : scal x y = true) (h : Q (.bl (!decide (x = y))) H) : rNe x y H Q := ⟨hs, h⟩
def NewT (Q : VK) (xs : List V) (H1 : Hp) : Prop := xs.length ≤ sizeLine ∧ ∀ p, H1 p = none → Q (.ref p) (upd H1 p (.tup xs))
def NewL (Q : VK) (xs : List V) (H1 : Hp) : Prop := xs.length ≤ sizeLine ∧ ∀ p, H1 p = none → Q (.ref p) (upd H1 p (.lst xs))
theorem w_tup {ts : TA} (h : ts σ H fun xs H1 => NewT Q xs H1) : tTup ts σ H Q := h
theorem w_lst {ts : TA} (h : ts σ H fun xs H1 => NewL Q xs H1) : tLst ts σ H Q := h
theorem same_upd {H : Hp} {p : Addr} {o : HO} (h : H p = none) : Same H (upd H p o) := fun b x e => by
  rw [upd_ne (ne_of_none e h)]
  exact e
/-- a new object: the heap behind is any that keeps what was and has it -/
theorem w_newT {xs : List V} (h1 : xs.length ≤ sizeLine) (h : ∀ p H', H p = none → Same H H' → H' p = some (.tup xs) → Q (.ref p) H') : NewT Q xs H := ⟨h1, fun p np => h p _ np (same_upd np) upd_same⟩
theorem w_newL {xs : List V} (h1 : xs.length ≤ sizeLine) (h : ∀ p H', H p = none → Same H H' → H' p = some (.lst xs) → Q (.ref p) H') : NewL Q xs H := ⟨h1, fun p np => h p _ np (same_upd np) upd_same⟩
theorem w_ifE (h : tt σ H fun k H1 => if k = true then ta σ H1 Q else tb σ H1 Q) : tIf tt ta tb σ H Q := h
theorem w_andV (h : ta σ H fun x H1 => ∃ k, x = .bl k ∧ if k = true then tb σ H1 Q else Q (.bl false) H1) : tAndV ta tb σ H Q := h
theorem w_orV (h : ta σ H fun x H1 => ∃ k, x = .bl k ∧ if k = true then Q (.bl true) H1 else tb σ H1 Q) : tOrV ta tb σ H Q := h
theorem w_notV (h : ta σ H fun x H1 => ∃ k, x = .bl k ∧ Q (.bl (!k)) H1) : tNotV ta σ H Q := h
theorem w_bl {k : Bool} {P : Bool → Prop} (h : P k) : ∃ k', V.bl k = .bl k' ∧ P k' := ⟨k, rfl, h⟩
theorem w_ixL {p : Addr} {xs : List V} {i : Int} (hS : SqL K H p xs) (ha : atI xs i = some v) (h : Q v H) : rIxL K (.ref p) (.int i) H Q := ⟨p, xs, i, v, rfl, rfl, hS, ha, h⟩
theorem w_ixT {p : Addr} {xs : List V} {i : Int} (hS : SqT K H p xs) (ha : atI xs i = some v) (h : Q v H) : rIxT K (.ref p) (.int i) H Q := ⟨p, xs, i, v, rfl, rfl, hS, ha, h⟩
theorem w_ixS {z : Str} {i : Int} {c : Nat} (hl : z.length ≤ sizeLine) (ha : atI z.cps.toList i = some c) (h : Q (.str ⟨#[c]⟩) H) : rIxS (.str z) (.int i) H Q := ⟨z, i, c, rfl, rfl, hl, ha, h⟩
theorem w_fld {f : Str} (h : ta σ H fun x H1 => ∃ a C dx fs v, x = .ref a ∧ H1 a = some (.ins C dx fs) ∧ Cls K C ∧ NoAttr K C f ∧ fs.lookup f = some v ∧ Q v H1) : tFld K ta f σ H Q := h
theorem w_ins {a C dx : Addr} {fs : List (Str × V)} {f : Str} (hp : H a = some (.ins C dx fs)) (hc : Cls K C) (hn : NoAttr K C f) (hl : fs.lookup f = some v) (h : Q v H) :
    ∃ a' C dx fs v', V.ref a = .ref a' ∧ H a' = some (.ins C dx fs) ∧ Cls K C ∧ NoAttr K C f ∧ fs.lookup f = some v' ∧ Q v' H := ⟨a, C, dx, fs, v, rfl, hp, hc, hn, hl, h⟩
/-! ### slices -/
theorem w_sl {o : V → Option Int → Option Int → Hp → VK → Prop} {tl th : TO} (h : te σ H fun x H1 => tl σ H1 fun l H2 => th σ H2 fun u H3 => o x l u H3 Q) : tSl o te tl th σ H Q := h
theorem w_nopart {Qo : Option Int → Hp → Prop} (h : Qo none H) : tNoPart σ H Qo := h
theorem w_part {Qo : Option Int → Hp → Prop} (h : te σ H fun x H1 => ∃ i, x = .int i ∧ Qo (some i) H1) : tPart te σ H Qo := h
theorem w_int {i : Int} {P : Int → Prop} (h : P i) : ∃ i', V.int i = .int i' ∧ P i' := ⟨i, rfl, h⟩
theorem w_str {z : Str} {P : Str → Prop} (h : P z) : ∃ z', V.str z = .str z' ∧ P z' := ⟨z, rfl, h⟩
theorem w_slL {a : Addr} {xs : List V} {lo hi : Option Int} (hS : SqL K H a xs) (h : ∀ p H', H p = none → Same H H' → H' p = some (.lst (cutV xs lo hi)) → Q (.ref p) H') : rSlL K (.ref a) lo hi H Q := ⟨a, xs, rfl, hS, fun p np => h p _ np (same_upd np) upd_same⟩
theorem w_slS {z : Str} {lo hi : Option Int} (hl : z.length ≤ sizeLine) (h : Q (.str (cutS z lo hi)) H) : rSlS (.str z) lo hi H Q := ⟨z, rfl, hl, h⟩
/-! ### tests -/
theorem w_test (h : te σ H fun x H' => ∃ k, x = .bl k ∧ Q (.bl k) H') : te σ H fun x H' => ∃ k, x = .bl k ∧ Q (.bl k) H' := h
theorem w_tTest {Qb : Bool → Hp → Prop} (h : te σ H fun x H' => ∃ k, x = .bl k ∧ Qb k H') : tTest te σ H Qb := h
theorem w_tB {Qb : Bool → Hp → Prop} (h : te σ H fun x H' => ∃ k, x = .bl k ∧ Qb k H') : tB te σ H Qb := h
theorem w_tAnd {Qb : Bool → Hp → Prop} (h : tt σ H fun k H1 => if k = true then tu σ H1 Qb else Qb false H1) : tAnd tt tu σ H Qb := h
theorem w_tOr {Qb : Bool → Hp → Prop} (h : tt σ H fun k H1 => if k = true then Qb true H1 else tu σ H1 Qb) : tOr tt tu σ H Qb := h
theorem w_tNot {Qb : Bool → Hp → Prop} (h : tt σ H fun k H1 => Qb (!k) H1) : tNot tt σ H Qb := h
theorem w_chain {o o' : R2} (h : ta σ H fun x H1 => tb σ H1 fun y H2 => o x y H2 fun z H3 => ∃ k, z = .bl k ∧ (if k = true then tc σ H3 fun w' H4 => o' y w' H4 Q else Q (.bl false) H3)) : tChain o o' ta tb tc σ H Q := h
theorem w_isN (h : ta σ H fun x H1 => Q (.bl (decide (x = .non))) H1) : tIsN ta σ H Q := h
theorem w_notN (h : ta σ H fun x H1 => Q (.bl (!decide (x = .non))) H1) : tNotN ta σ H Q := h
theorem w_ite {k : Bool} {A B : Prop} (h1 : k = true → A) (h2 : k = false → B) : if k = true then A else B := by
  cases k
  · rw [if_neg Bool.false_ne_true]; exact h2 rfl
  · rw [if_pos rfl]; exact h1 rfl
theorem w_iteT {k : Bool} {A B : Prop} (e : k = true) (h : A) : if k = true then A else B := by rw [if_pos e]; exact h
theorem w_iteF {k : Bool} {A B : Prop} (e : k = false) (h : B) : if k = true then A else B := by rw [e, if_neg Bool.false_ne_true]; exact h
/-! ### calls -/
theorem w_nil {Qa : List V → Hp → Prop} (h : Qa [] H) : tNil σ H Qa := h
theorem w_cons {tr : TA} {Qa : List V → Hp → Prop} (h : ta σ H fun x H1 => tr σ H1 fun xs H2 => Qa (x :: xs) H2) : tCons ta tr σ H Qa := h
theorem w_call {sp : Sp} {dvs : List V} {E : XK} {ts : TA} (h : ts σ H fun vs H1 => sp (vs ++ dvs) H1 Q E) : tCall sp dvs E ts σ H Q := h
theorem w_cb {o : List V → Hp → VK → Prop} {ts : TA} (h : ts σ H fun vs H1 => o vs H1 Q) : tCB o ts σ H Q := h
theorem w_meth {C a dx : Addr} {m : Str} {sp : Sp} {dvs : List V} {E : XK} {ts : TA} {fs : List (Str × V)} (h : ta σ H fun x H1 => ∃ a dx fs, x = .ref a ∧ H1 a = some (.ins C dx fs) ∧ fs.lookup m = none ∧ ts σ H1 fun vs H2 => sp (x :: (vs ++ dvs)) H2 Q E) :
    tMeth C m sp dvs E ta ts σ H Q := h
theorem w_bm {T : String} {o : V → List V → Hp → VK → Prop} {ts : TA} (h : ta σ H fun x H1 => tyV K T x H1 ∧ ts σ H1 fun xs H2 => o x xs H2 Q) : tBM K T o ta ts σ H Q := h
theorem w_bm0 {T : String} {o : V → List V → Hp → VK → Prop} (h : ta σ H fun x H1 => tyV K T x H1 ∧ o x [] H1 Q) : tBM0 K T o ta σ H Q := h
/-! ### loops -/
def ForL (K : PySem.W.Frag) (x : V) (g : TG) (tb : TS) (D : Ends) (σ : St) (H : Hp) : Prop := ∃ a, x = .ref a ∧ (∃ xs, SqL K H a xs) ∧ ∃ W : Nat → Nat → St → Hp → Prop, (∃ m, W 0 m σ H) ∧ ∀ i m σ H, W i m σ H →
      ((Itl K a).stop i H ∧ D.nx σ H) ∨ ((Itl K a).go i H ∧ ∃ N : St → Hp → Prop, (∀ σ' H', N σ' H' → ∃ m', m' < m ∧ W (i + 1) m' σ' H') ∧ ∀ x H', (Itl K a).yld i H x H' → g x σ H' fun σ2 H2 => tb { D with nx := N, ct := N, bk := D.nx } σ2 H2)
theorem w_forL {tl : TE} {g : TG} {D : Ends} (h : tl σ H fun x H1 => ForL K x g t D σ H1) : tFor (iList K tl) g t D σ H := h
theorem forL {a : Addr} {xs : List V} {g : TG} (hS : SqL K H a xs) (Pv : Nat → St → Hp → Prop) (h0 : Pv 0 σ H) (hl : ∀ i σ H, i ≤ xs.length → Pv i σ H → SqL K H a xs)
    (hs : ∀ i x σ H, xs[i]? = some x → Pv i σ H → g x σ H fun σ2 H2 => t ⟨Pv (i + 1), r, n, Pv (i + 1)⟩ σ2 H2) (hd : ∀ σ H, Pv xs.length σ H → n σ H) : ForL K (.ref a) g t ⟨n, r, b, c⟩ σ H :=
  ⟨a, rfl, ⟨xs, hS⟩, for_list (K := K) (a := a) (xs := xs) Pv h0 hl hs hd⟩
def ForT (K : PySem.W.Frag) (x : V) (g : TG) (tb : TS) (D : Ends) (σ : St) (H : Hp) : Prop := ∃ a, x = .ref a ∧ (∃ xs, SqT K H a xs) ∧ ∃ W : Nat → Nat → St → Hp → Prop, (∃ m, W 0 m σ H) ∧ ∀ i m σ H, W i m σ H →
      ((Itt K a).stop i H ∧ D.nx σ H) ∨ ((Itt K a).go i H ∧ ∃ N : St → Hp → Prop, (∀ σ' H', N σ' H' → ∃ m', m' < m ∧ W (i + 1) m' σ' H') ∧ ∀ x H', (Itt K a).yld i H x H' → g x σ H' fun σ2 H2 => tb { D with nx := N, ct := N, bk := D.nx } σ2 H2)
theorem w_forT {tl : TE} {g : TG} {D : Ends} (h : tl σ H fun x H1 => ForT K x g t D σ H1) : tFor (iTup K tl) g t D σ H := h
theorem forT {a : Addr} {xs : List V} {g : TG} (hS : SqT K H a xs) (Pv : Nat → St → Hp → Prop) (h0 : Pv 0 σ H) (hl : ∀ i σ H, i ≤ xs.length → Pv i σ H → SqT K H a xs)
    (hs : ∀ i x σ H, xs[i]? = some x → Pv i σ H → g x σ H fun σ2 H2 => t ⟨Pv (i + 1), r, n, Pv (i + 1)⟩ σ2 H2) (hd : ∀ σ H, Pv xs.length σ H → n σ H) : ForT K (.ref a) g t ⟨n, r, b, c⟩ σ H :=
  ⟨a, rfl, ⟨xs, hS⟩, for_tup (K := K) (a := a) (xs := xs) Pv h0 hl hs hd⟩
def ForR (lo : Int) (m : Nat) (g : TG) (tb : TS) (D : Ends) (σ : St) (H : Hp) : Prop := ∃ W : Nat → Nat → St → Hp → Prop, (∃ m, W 0 m σ H) ∧ ∀ i m' σ H, W i m' σ H →
      ((Itr lo m).stop i H ∧ D.nx σ H) ∨ ((Itr lo m).go i H ∧ ∃ N : St → Hp → Prop, (∀ σ' H', N σ' H' → ∃ m'', m'' < m' ∧ W (i + 1) m'' σ' H') ∧ ∀ x H', (Itr lo m).yld i H x H' → g x σ H' fun σ2 H2 => tb { D with nx := N, ct := N, bk := D.nx } σ2 H2)
theorem w_forR1 {ts : TA} {g : TG} {D : Ends} (h : ts σ H fun vs H1 => ∃ j : Int, vs = [.int j] ∧ -(2 ^ 62) ≤ j ∧ j < 2 ^ 62 ∧ ForR 0 j.toNat g t D σ H1) : tFor (iRng1 ts) g t D σ H := h
theorem w_forR2 {ts : TA} {g : TG} {D : Ends} (h : ts σ H fun vs H1 => ∃ i j : Int, vs = [.int i, .int j] ∧ (-(2 ^ 62) ≤ i ∧ i < 2 ^ 62 ∧ -(2 ^ 62) ≤ j ∧ j < 2 ^ 62) ∧ ForR i (j - i).toNat g t D σ H1) : tFor (iRng2 ts) g t D σ H := h
theorem forR {lo : Int} {m : Nat} {g : TG} (Pv : Nat → St → Hp → Prop) (h0 : Pv 0 σ H)
    (hs : ∀ i σ H, i < m → Pv i σ H → g (.int (lo + i)) σ H fun σ2 H2 => t ⟨Pv (i + 1), r, n, Pv (i + 1)⟩ σ2 H2) (hd : ∀ σ H, Pv m σ H → n σ H) : ForR lo m g t ⟨n, r, b, c⟩ σ H :=
  for_range (lo := lo) (n := m) Pv h0 hs hd
def ForS (z : Str) (g : TG) (tb : TS) (D : Ends) (σ : St) (H : Hp) : Prop := ∃ W : Nat → Nat → St → Hp → Prop, (∃ m, W 0 m σ H) ∧ ∀ i m' σ H, W i m' σ H →
      ((Its z).stop i H ∧ D.nx σ H) ∨ ((Its z).go i H ∧ ∃ N : St → Hp → Prop, (∀ σ' H', N σ' H' → ∃ m'', m'' < m' ∧ W (i + 1) m'' σ' H') ∧ ∀ x H', (Its z).yld i H x H' → g x σ H' fun σ2 H2 => tb { D with nx := N, ct := N, bk := D.nx } σ2 H2)
theorem w_forS {tl : TE} {g : TG} {D : Ends} (h : tl σ H fun x H1 => ∃ z, x = .str z ∧ ForS z g t D σ H1) : tFor (iStr tl) g t D σ H := h
theorem forS {z : Str} {g : TG} (Pv : Nat → St → Hp → Prop) (h0 : Pv 0 σ H)
    (hs : ∀ i k σ H, z.cps.toList[i]? = some k → Pv i σ H → g (.str ⟨#[k]⟩) σ H fun σ2 H2 => t ⟨Pv (i + 1), r, n, Pv (i + 1)⟩ σ2 H2) (hd : ∀ σ H, Pv z.cps.toList.length σ H → n σ H) : ForS z g t ⟨n, r, b, c⟩ σ H := by
  refine ⟨fun i m σ H => m = z.cps.size - i ∧ i ≤ z.cps.size ∧ Pv i σ H, ⟨z.cps.size, by simp, Nat.zero_le _, h0⟩, ?_⟩
  rintro i m σ H ⟨rfl, hi, p⟩
  by_cases hlt : i < z.cps.size
  · refine .inr ⟨hlt, Pv (i + 1), fun σ' H' p' => ⟨z.cps.size - (i + 1), by omega, rfl, hlt, p'⟩, fun x H' y => ?_⟩
    obtain ⟨e, k, ek, rfl⟩ := y
    subst e
    exact hs i k σ _ (by rw [Array.getElem?_toList]; exact ek) p
  · have e : i = z.cps.size := by omega
    subst e
    exact .inl ⟨Nat.le_refl _, hd σ H (by rw [Array.length_toList]; exact p)⟩
/-! ### comprehensions -/
def LcL (K : PySem.W.Frag) (x : V) (g : TG) (tt : TT) (te : TE) (vs : List Nat) (σ : St) (H1 : Hp) (Q : VK) : Prop := ∃ a, x = .ref a ∧ (∃ xs, SqL K H1 a xs) ∧ ∀ D, H1 D = none → ∃ W : Nat → Nat → Hp → Prop, (∃ m, W 0 m (upd H1 D (.lst []))) ∧ ∀ i m H, W i m H →
  ((Itl K a).stop i H ∧ Q (.ref D) H) ∨ ((Itl K a).go i H ∧ ∃ Nx : Hp → Prop, (∀ H', Nx H' → ∃ m', m' < m ∧ W (i + 1) m' H') ∧ ∀ x H', (Itl K a).yld i H x H' → g x (wipe σ vs) H' fun σ2 H2 => wipe σ2 vs = wipe σ vs ∧ tt σ2 H2 fun b H3 =>
    if b = true then te σ2 H3 fun y H4 => ∃ acc, H4 D = some (.lst acc) ∧ acc.length < sizeLine ∧ Nx (upd H4 D (.lst (acc ++ [y]))) else Nx H3)
theorem w_lcL {tl : TE} {g : TG} {vs : List Nat} (h : tl σ H fun x H1 => LcL K x g tt te vs σ H1 Q) : tLc (iList K tl) g tt te vs σ H Q := h
theorem lcL {a : Addr} {xs : List V} {g : TG} {vs : List Nat} (hS : SqL K H a xs) (Pv : Addr → Nat → Hp → Prop) (h0 : ∀ D, H D = none → Pv D 0 (upd H D (.lst []))) (hl : ∀ D i H, i ≤ xs.length → Pv D i H → SqL K H a xs)
    (hs : ∀ D i x H, xs[i]? = some x → Pv D i H → g x (wipe σ vs) H fun σ2 H2 => wipe σ2 vs = wipe σ vs ∧ tt σ2 H2 fun b H3 =>
      if b = true then te σ2 H3 fun y H4 => ∃ acc, H4 D = some (.lst acc) ∧ acc.length < sizeLine ∧ Pv D (i + 1) (upd H4 D (.lst (acc ++ [y]))) else Pv D (i + 1) H3) (hd : ∀ D H', H D = none → Pv D xs.length H' → Q (.ref D) H') : LcL K (.ref a) g tt te vs σ H Q :=
  ⟨a, rfl, ⟨xs, hS⟩, fun D hD => lc_list (K := K) (a := a) (xs := xs) (Qd := fun H' => Q (.ref D) H') (Pv D) (h0 D hD) (hl D) (hs D) (fun H' => hd D H' hD)⟩
def LcR (lo : Int) (k : Nat) (g : TG) (tt : TT) (te : TE) (vs : List Nat) (σ : St) (H1 : Hp) (Q : VK) : Prop := ∀ D, H1 D = none → ∃ W : Nat → Nat → Hp → Prop, (∃ m, W 0 m (upd H1 D (.lst []))) ∧ ∀ i m H, W i m H →
  ((Itr lo k).stop i H ∧ Q (.ref D) H) ∨ ((Itr lo k).go i H ∧ ∃ Nx : Hp → Prop, (∀ H', Nx H' → ∃ m', m' < m ∧ W (i + 1) m' H') ∧ ∀ x H', (Itr lo k).yld i H x H' → g x (wipe σ vs) H' fun σ2 H2 => wipe σ2 vs = wipe σ vs ∧ tt σ2 H2 fun b H3 =>
    if b = true then te σ2 H3 fun y H4 => ∃ acc, H4 D = some (.lst acc) ∧ acc.length < sizeLine ∧ Nx (upd H4 D (.lst (acc ++ [y]))) else Nx H3)
theorem w_lcR1 {ts : TA} {g : TG} {vs : List Nat} (h : ts σ H fun ws H1 => ∃ j : Int, ws = [.int j] ∧ -(2 ^ 62) ≤ j ∧ j < 2 ^ 62 ∧ LcR 0 j.toNat g tt te vs σ H1 Q) : tLc (iRng1 ts) g tt te vs σ H Q := h
theorem lcR {lo : Int} {k : Nat} {g : TG} {vs : List Nat} (Pv : Addr → Nat → Hp → Prop) (h0 : ∀ D, H D = none → Pv D 0 (upd H D (.lst [])))
    (hs : ∀ D i H, i < k → Pv D i H → g (.int (lo + i)) (wipe σ vs) H fun σ2 H2 => wipe σ2 vs = wipe σ vs ∧ tt σ2 H2 fun b H3 =>
      if b = true then te σ2 H3 fun y H4 => ∃ acc, H4 D = some (.lst acc) ∧ acc.length < sizeLine ∧ Pv D (i + 1) (upd H4 D (.lst (acc ++ [y]))) else Pv D (i + 1) H3) (hd : ∀ D H', H D = none → Pv D k H' → Q (.ref D) H') : LcR lo k g tt te vs σ H Q :=
  fun D hD => lc_range (Qd := fun H' => Q (.ref D) H') (Pv D) (h0 D hD) (hs D) (fun H' => hd D H' hD)
def LcS (z : Str) (g : TG) (tt : TT) (te : TE) (vs : List Nat) (σ : St) (H1 : Hp) (Q : VK) : Prop := ∀ D, H1 D = none → ∃ W : Nat → Nat → Hp → Prop, (∃ m, W 0 m (upd H1 D (.lst []))) ∧ ∀ i m H, W i m H →
  ((Its z).stop i H ∧ Q (.ref D) H) ∨ ((Its z).go i H ∧ ∃ Nx : Hp → Prop, (∀ H', Nx H' → ∃ m', m' < m ∧ W (i + 1) m' H') ∧ ∀ x H', (Its z).yld i H x H' → g x (wipe σ vs) H' fun σ2 H2 => wipe σ2 vs = wipe σ vs ∧ tt σ2 H2 fun b H3 =>
    if b = true then te σ2 H3 fun y H4 => ∃ acc, H4 D = some (.lst acc) ∧ acc.length < sizeLine ∧ Nx (upd H4 D (.lst (acc ++ [y]))) else Nx H3)
theorem w_lcS {tl : TE} {g : TG} {vs : List Nat} (h : tl σ H fun x H1 => ∃ z, x = .str z ∧ LcS z g tt te vs σ H1 Q) : tLc (iStr tl) g tt te vs σ H Q := by
  have h' : tl σ H fun x H1 => ∃ z, x = .str z ∧ LcS z g tt te vs σ H1 Q := h
  exact h'
theorem lcS {z : Str} {g : TG} {vs : List Nat} (Pv : Addr → Nat → Hp → Prop) (h0 : ∀ D, H D = none → Pv D 0 (upd H D (.lst [])))
    (hs : ∀ D i k H, z.cps.toList[i]? = some k → Pv D i H → g (.str ⟨#[k]⟩) (wipe σ vs) H fun σ2 H2 => wipe σ2 vs = wipe σ vs ∧ tt σ2 H2 fun b H3 =>
      if b = true then te σ2 H3 fun y H4 => ∃ acc, H4 D = some (.lst acc) ∧ acc.length < sizeLine ∧ Pv D (i + 1) (upd H4 D (.lst (acc ++ [y]))) else Pv D (i + 1) H3) (hd : ∀ D H', H D = none → Pv D z.cps.toList.length H' → Q (.ref D) H') : LcS z g tt te vs σ H Q := by
  intro D hD
  refine ⟨fun i m H => m = z.cps.size - i ∧ i ≤ z.cps.size ∧ Pv D i H, ⟨z.cps.size, by simp, Nat.zero_le _, h0 D hD⟩, ?_⟩
  rintro i m H ⟨rfl, hi, p⟩
  by_cases hlt : i < z.cps.size
  · refine .inr ⟨hlt, Pv D (i + 1), fun H' p' => ⟨z.cps.size - (i + 1), by omega, rfl, hlt, p'⟩, fun x H' y => ?_⟩
    obtain ⟨e, k, ek, rfl⟩ := y
    subst e
    exact hs D i k _ (by rw [Array.getElem?_toList]; exact ek) p
  · have e : i = z.cps.size := by omega
    subst e
    exact .inl ⟨Nat.le_refl _, hd D H hD (by rw [Array.length_toList]; exact p)⟩
end
/-! ### heaps -/
theorem same_new {H H1 : Hp} {p : Addr} {o : HO} (s : Same H H1) (h : H1 p = none) : Same H (upd H1 p o) := s.trans (same_upd h)
/-- an object that H does not know may change -/
theorem same_mut {H H1 : Hp} {p : Addr} {o : HO} (s : Same H H1) (h : H p = none) : Same H (upd H1 p o) := fun b x e => by
  rw [upd_ne (ne_of_none e h)]
  exact s b x e
theorem Sq_of {K : PySem.W.Frag} {H : Hp} {a : Addr} {xs : List V} (h : H a = some (.lst xs)) : SqL K H a xs := Or.inl (Or.inl h)
theorem St_of {K : PySem.W.Frag} {H : Hp} {a : Addr} {xs : List V} (h : H a = some (.tup xs)) : SqT K H a xs := Or.inl (Or.inl h)
theorem small {n : Nat} (h : n ≤ 100000) : n ≤ sizeLine := Nat.le_trans h (by decide)
theorem smallL {n : Nat} (h : n < 100000) : n < sizeLine := Nat.lt_of_lt_of_le h (by decide)
theorem same_t {K : PySem.W.Frag} {H H' : Hp} {a : Addr} {xs : List V} (e : Same H H') (h : SqT K H a xs) : SqT K H' a xs := by
  rcases h with (h | ⟨o, h⟩) | h
  · exact .inl (.inl (e _ _ h))
  · exact .inl (.inr ⟨o, e _ _ h⟩)
  · exact .inr h
/-- a def of the text: what a caller is handed -/
structure Dk (P : Program) (w : World) (K : PySem.W.Frag) (mg : Str → Option Value) (base : Heap) (CX : CXT) (k : Nat) (f : Addr) (fd : FuncData) (x : Str) (ps : List Str) (ds : List Value) (sp : Sp) : Prop where
  F : FnOk P w K mg base CX k f fd ps sp
  g : mg x = some (.ref f)
  kp : PySem.W.keepIn K (.ref f) = true
  b : Binds K fd ps ds

section
variable {K : PySem.W.Frag} {H : Hp} {Q : VK} {x y v : V}
theorem w_isi {c : V} {t u : Value} {b : Bool} (k : ClsV c u) (ty : TyX K H x t) (e : PySem.W.kitOne K t u = some b) (h : Q (.bl b) H) : rIsi K [x, c] H Q := ⟨x, c, t, u, b, rfl, k, ty, e, h⟩
/-! rules under names, so that a reading shows which it is -/
def qLenS : List V → Hp → VK → Prop := fun xs H Q => ∃ z, xs = [.str z] ∧ z.length ≤ sizeLine ∧ Q (.int z.length) H
theorem call_lenS {X : Cx} : CallR X (.builtin "len") qLenS := call_len_str
theorem w_lenS {z : Str} (hl : z.length ≤ sizeLine) (h : Q (.int z.length) H) : qLenS [V.str z] H Q := ⟨z, rfl, hl, h⟩
def qLenQ (K : PySem.W.Frag) : List V → Hp → VK → Prop := fun xs H Q => ∃ p ys, xs = [.ref p] ∧ (SqL K H p ys ∨ SqT K H p ys) ∧ Q (.int ys.length) H
theorem call_lenQ {X : Cx} : CallR X (.builtin "len") (qLenQ X.K) := call_len_seq
theorem w_lenL {a : Addr} {xs : List V} (hS : SqL K H a xs) (h : Q (.int xs.length) H) : qLenQ K [V.ref a] H Q := ⟨a, xs, rfl, .inl hS, h⟩
theorem w_lenT {a : Addr} {xs : List V} (hS : SqT K H a xs) (h : Q (.int xs.length) H) : qLenQ K [V.ref a] H Q := ⟨a, xs, rfl, .inr hS, h⟩
def qAddS : R2 := fun x y H Q => ∃ i j, x = .str i ∧ y = .str j ∧ i.length + j.length ≤ sizeLine ∧ Q (.str (i ++ j)) H
theorem op_addS {X : Cx} : OpR X (binaryOp .Add) qAddS := op_add_str
theorem w_addS {a b : Str} (hl : a.length + b.length ≤ sizeLine) (h : Q (.str (a ++ b)) H) : qAddS (.str a) (.str b) H Q := ⟨a, b, rfl, rfl, hl, h⟩
def qInS : R2 := fun x y H Q => ∃ (c : Nat) (z : Str), x = .str ⟨#[c]⟩ ∧ y = .str z ∧ Q (.bl (decide (c ∈ z.cps.toList))) H
theorem op_inSg {X : Cx} : OpR X (compareOp .In) qInS := op_in_sign
theorem w_inS {k : Nat} {z : Str} (h : Q (.bl (decide (k ∈ z.cps.toList))) H) : qInS (.str ⟨#[k]⟩) (.str z) H Q := ⟨k, z, rfl, rfl, h⟩
def qNinS : R2 := fun x y H Q => ∃ (c : Nat) (z : Str), x = .str ⟨#[c]⟩ ∧ y = .str z ∧ Q (.bl (!decide (c ∈ z.cps.toList))) H
theorem op_ninSg {X : Cx} : OpR X (compareOp .NotIn) qNinS := op_notIn_sign
theorem w_ninS {k : Nat} {z : Str} (h : Q (.bl (!decide (k ∈ z.cps.toList))) H) : qNinS (.str ⟨#[k]⟩) (.str z) H Q := ⟨k, z, rfl, rfl, h⟩
def qMin : List V → Hp → VK → Prop := fun xs H Q => ∃ i j, xs = [.int i, .int j] ∧ Q (.int (if j < i then j else i)) H
theorem call_minI {X : Cx} (hc : X.calm = true) : CallR X (.builtin "min") qMin := call_min2 hc
theorem w_min {i j : Int} (h : Q (.int (if j < i then j else i)) H) : qMin [.int i, .int j] H Q := ⟨i, j, rfl, h⟩
def qListOf (K : PySem.W.Frag) : List V → Hp → VK → Prop := fun xs H Q => ∃ p ys, xs = [.ref p] ∧ (SqL K H p ys ∨ SqT K H p ys) ∧ ∀ l, H l = none → Q (.ref l) (upd H l (.lst ys))
theorem call_listQ {X : Cx} : CallR X (.type "list") (qListOf X.K) := call_list_of
theorem w_listL {a : Addr} {xs : List V} (hS : SqL K H a xs) (h : ∀ p H', H p = none → Same H H' → H' p = some (.lst xs) → Q (.ref p) H') : qListOf K [V.ref a] H Q := ⟨a, xs, rfl, .inl hS, fun p np => h p _ np (same_upd np) upd_same⟩
theorem w_listT {a : Addr} {xs : List V} (hS : SqT K H a xs) (h : ∀ p H', H p = none → Same H H' → H' p = some (.lst xs) → Q (.ref p) H') : qListOf K [V.ref a] H Q := ⟨a, xs, rfl, .inr hS, fun p np => h p _ np (same_upd np) upd_same⟩
def qTupOf (K : PySem.W.Frag) : List V → Hp → VK → Prop := fun xs H Q => ∃ p ys, xs = [.ref p] ∧ ((SqL K H p ys ∧ ∀ l, H l = none → Q (.ref l) (upd H l (.tup ys))) ∨ (SqT K H p ys ∧ Q (.ref p) H))
theorem call_tupQ {X : Cx} : CallR X (.type "tuple") (qTupOf X.K) := call_tuple_of
theorem w_tupL {a : Addr} {xs : List V} (hS : SqL K H a xs) (h : ∀ p H', H p = none → Same H H' → H' p = some (.tup xs) → Q (.ref p) H') : qTupOf K [V.ref a] H Q := ⟨a, xs, rfl, .inl ⟨hS, fun p np => h p _ np (same_upd np) upd_same⟩⟩
theorem w_rng1 {j : Int} {P : Int → Prop} (h1 : -(2 ^ 62) ≤ j) (h2 : j < 2 ^ 62) (h : P j) : ∃ j' : Int, [V.int j] = [.int j'] ∧ -(2 ^ 62) ≤ j' ∧ j' < 2 ^ 62 ∧ P j' := ⟨j, rfl, h1, h2, h⟩
theorem w_rng2 {i j : Int} {P : Int → Int → Prop} (h1 : -(2 ^ 62) ≤ i ∧ i < 2 ^ 62 ∧ -(2 ^ 62) ≤ j ∧ j < 2 ^ 62) (h : P i j) : ∃ i' j' : Int, [V.int i, V.int j] = [.int i', .int j'] ∧ (-(2 ^ 62) ≤ i' ∧ i' < 2 ^ 62 ∧ -(2 ^ 62) ≤ j' ∧ j' < 2 ^ 62) ∧ P i' j' := ⟨i, j, rfl, h1, h⟩
theorem w_append {l : Addr} {xs : List V} (hl : H l = some (.lst xs)) (hz : xs.length < sizeLine) (h : Q .non (upd H l (.lst (xs ++ [y])))) : rAppend (.ref l) [y] H Q := ⟨l, xs, y, rfl, rfl, hl, hz, h⟩
theorem w_cat {a b : Addr} {xs ys : List V} (ha : H a = some (.lst xs)) (hb : H b = some (.lst ys)) (hl : xs.length + ys.length ≤ sizeLine) (h : ∀ p H', H p = none → Same H H' → H' p = some (.lst (xs ++ ys)) → Q (.ref p) H') : rCat (.ref a) (.ref b) H Q := ⟨a, b, xs, ys, rfl, rfl, ha, hb, hl, fun p np => h p _ np (same_upd np) upd_same⟩
end
section
variable {X : Cx}
theorem pe_globI {x : Str} {i : Int} {pos : Pos} (hg : Gl X x) (h : ∃ t, X.mg x = some (.int i t)) (hd : (x == ("__debug__" : Str)) = false := by decide) : PE X (.Name x pos) (tC (.int i)) := by
  obtain ⟨t, h⟩ := h
  exact pe_glob hg h ⟨t, rfl⟩ hd
theorem pe_globS {x z : Str} {pos : Pos} (hg : Gl X x) (h : ∃ t, X.mg x = some (.str z t)) (hd : (x == ("__debug__" : Str)) = false := by decide) : PE X (.Name x pos) (tC (.str z)) := by
  obtain ⟨t, h⟩ := h
  exact pe_glob hg h ⟨t, rfl⟩ hd
end
section
variable {K : PySem.W.Frag} {σ : St} {H : Hp} {Q : VK}
theorem w_yes {Qb : Bool → Hp → Prop} (h : Qb true H) : tYes σ H Qb := h
theorem w_all {a : Addr} {bs : List Bool} (hS : SqL K H a (bs.map V.bl)) (h : Q (.bl (bs.all id)) H) : rAll K [V.ref a] H Q := ⟨a, bs, rfl, hS, h⟩
theorem w_any {a : Addr} {bs : List Bool} (hS : SqL K H a (bs.map V.bl)) (h : Q (.bl (bs.any id)) H) : rAny K [V.ref a] H Q := ⟨a, bs, rfl, hS, h⟩
end
theorem w_wipe {σ1 σ2 : St} {R : Prop} (e : σ1 = σ2) (h : R) : σ1 = σ2 ∧ R := ⟨e, h⟩
theorem w_i_NoneType_str {K : PySem.W.Frag} {H : Hp} {Q : VK} (q : Q (.bl false) H) : rIsi K [.non, .ty "str"] H Q := ⟨_, _, _, _, _, rfl, .ty "str", .base .non, kit_ty (by decide +kernel), q⟩
theorem w_i_NoneType_int {K : PySem.W.Frag} {H : Hp} {Q : VK} (q : Q (.bl false) H) : rIsi K [.non, .ty "int"] H Q := ⟨_, _, _, _, _, rfl, .ty "int", .base .non, kit_ty (by decide +kernel), q⟩
theorem w_i_NoneType_bool {K : PySem.W.Frag} {H : Hp} {Q : VK} (q : Q (.bl false) H) : rIsi K [.non, .ty "bool"] H Q := ⟨_, _, _, _, _, rfl, .ty "bool", .base .non, kit_ty (by decide +kernel), q⟩
theorem w_i_NoneType_list {K : PySem.W.Frag} {H : Hp} {Q : VK} (q : Q (.bl false) H) : rIsi K [.non, .ty "list"] H Q := ⟨_, _, _, _, _, rfl, .ty "list", .base .non, kit_ty (by decide +kernel), q⟩
theorem w_i_NoneType_tuple {K : PySem.W.Frag} {H : Hp} {Q : VK} (q : Q (.bl false) H) : rIsi K [.non, .ty "tuple"] H Q := ⟨_, _, _, _, _, rfl, .ty "tuple", .base .non, kit_ty (by decide +kernel), q⟩
theorem w_i_NoneType_dict {K : PySem.W.Frag} {H : Hp} {Q : VK} (q : Q (.bl false) H) : rIsi K [.non, .ty "dict"] H Q := ⟨_, _, _, _, _, rfl, .ty "dict", .base .non, kit_ty (by decide +kernel), q⟩
theorem w_i_bool_str {K : PySem.W.Frag} {H : Hp} {Q : VK} {u : _} (q : Q (.bl false) H) : rIsi K [(.bl u), .ty "str"] H Q := ⟨_, _, _, _, _, rfl, .ty "str", .base (.bl _), kit_ty (by decide +kernel), q⟩
theorem w_i_bool_int {K : PySem.W.Frag} {H : Hp} {Q : VK} {u : _} (q : Q (.bl true) H) : rIsi K [(.bl u), .ty "int"] H Q := ⟨_, _, _, _, _, rfl, .ty "int", .base (.bl _), kit_ty (by decide +kernel), q⟩
theorem w_i_bool_bool {K : PySem.W.Frag} {H : Hp} {Q : VK} {u : _} (q : Q (.bl true) H) : rIsi K [(.bl u), .ty "bool"] H Q := ⟨_, _, _, _, _, rfl, .ty "bool", .base (.bl _), kit_ty (by decide +kernel), q⟩
theorem w_i_bool_list {K : PySem.W.Frag} {H : Hp} {Q : VK} {u : _} (q : Q (.bl false) H) : rIsi K [(.bl u), .ty "list"] H Q := ⟨_, _, _, _, _, rfl, .ty "list", .base (.bl _), kit_ty (by decide +kernel), q⟩
theorem w_i_bool_tuple {K : PySem.W.Frag} {H : Hp} {Q : VK} {u : _} (q : Q (.bl false) H) : rIsi K [(.bl u), .ty "tuple"] H Q := ⟨_, _, _, _, _, rfl, .ty "tuple", .base (.bl _), kit_ty (by decide +kernel), q⟩
theorem w_i_bool_dict {K : PySem.W.Frag} {H : Hp} {Q : VK} {u : _} (q : Q (.bl false) H) : rIsi K [(.bl u), .ty "dict"] H Q := ⟨_, _, _, _, _, rfl, .ty "dict", .base (.bl _), kit_ty (by decide +kernel), q⟩
theorem w_i_int_str {K : PySem.W.Frag} {H : Hp} {Q : VK} {u : _} (q : Q (.bl false) H) : rIsi K [(.int u), .ty "str"] H Q := ⟨_, _, _, _, _, rfl, .ty "str", .base (.int _), kit_ty (by decide +kernel), q⟩
theorem w_i_int_int {K : PySem.W.Frag} {H : Hp} {Q : VK} {u : _} (q : Q (.bl true) H) : rIsi K [(.int u), .ty "int"] H Q := ⟨_, _, _, _, _, rfl, .ty "int", .base (.int _), kit_ty (by decide +kernel), q⟩
theorem w_i_int_bool {K : PySem.W.Frag} {H : Hp} {Q : VK} {u : _} (q : Q (.bl false) H) : rIsi K [(.int u), .ty "bool"] H Q := ⟨_, _, _, _, _, rfl, .ty "bool", .base (.int _), kit_ty (by decide +kernel), q⟩
theorem w_i_int_list {K : PySem.W.Frag} {H : Hp} {Q : VK} {u : _} (q : Q (.bl false) H) : rIsi K [(.int u), .ty "list"] H Q := ⟨_, _, _, _, _, rfl, .ty "list", .base (.int _), kit_ty (by decide +kernel), q⟩
theorem w_i_int_tuple {K : PySem.W.Frag} {H : Hp} {Q : VK} {u : _} (q : Q (.bl false) H) : rIsi K [(.int u), .ty "tuple"] H Q := ⟨_, _, _, _, _, rfl, .ty "tuple", .base (.int _), kit_ty (by decide +kernel), q⟩
theorem w_i_int_dict {K : PySem.W.Frag} {H : Hp} {Q : VK} {u : _} (q : Q (.bl false) H) : rIsi K [(.int u), .ty "dict"] H Q := ⟨_, _, _, _, _, rfl, .ty "dict", .base (.int _), kit_ty (by decide +kernel), q⟩
theorem w_i_str_str {K : PySem.W.Frag} {H : Hp} {Q : VK} {u : _} (q : Q (.bl true) H) : rIsi K [(.str u), .ty "str"] H Q := ⟨_, _, _, _, _, rfl, .ty "str", .base (.str _), kit_ty (by decide +kernel), q⟩
theorem w_i_str_int {K : PySem.W.Frag} {H : Hp} {Q : VK} {u : _} (q : Q (.bl false) H) : rIsi K [(.str u), .ty "int"] H Q := ⟨_, _, _, _, _, rfl, .ty "int", .base (.str _), kit_ty (by decide +kernel), q⟩
theorem w_i_str_bool {K : PySem.W.Frag} {H : Hp} {Q : VK} {u : _} (q : Q (.bl false) H) : rIsi K [(.str u), .ty "bool"] H Q := ⟨_, _, _, _, _, rfl, .ty "bool", .base (.str _), kit_ty (by decide +kernel), q⟩
theorem w_i_str_list {K : PySem.W.Frag} {H : Hp} {Q : VK} {u : _} (q : Q (.bl false) H) : rIsi K [(.str u), .ty "list"] H Q := ⟨_, _, _, _, _, rfl, .ty "list", .base (.str _), kit_ty (by decide +kernel), q⟩
theorem w_i_str_tuple {K : PySem.W.Frag} {H : Hp} {Q : VK} {u : _} (q : Q (.bl false) H) : rIsi K [(.str u), .ty "tuple"] H Q := ⟨_, _, _, _, _, rfl, .ty "tuple", .base (.str _), kit_ty (by decide +kernel), q⟩
theorem w_i_str_dict {K : PySem.W.Frag} {H : Hp} {Q : VK} {u : _} (q : Q (.bl false) H) : rIsi K [(.str u), .ty "dict"] H Q := ⟨_, _, _, _, _, rfl, .ty "dict", .base (.str _), kit_ty (by decide +kernel), q⟩
theorem w_i_list_str {K : PySem.W.Frag} {H : Hp} {Q : VK} {u : Addr} {xs : List V} (hp : H u = some (.lst xs)) (q : Q (.bl false) H) : rIsi K [.ref u, .ty "str"] H Q := ⟨_, _, _, _, _, rfl, .ty "str", .base (.lst hp), kit_ty (by decide +kernel), q⟩
theorem w_i_list_int {K : PySem.W.Frag} {H : Hp} {Q : VK} {u : Addr} {xs : List V} (hp : H u = some (.lst xs)) (q : Q (.bl false) H) : rIsi K [.ref u, .ty "int"] H Q := ⟨_, _, _, _, _, rfl, .ty "int", .base (.lst hp), kit_ty (by decide +kernel), q⟩
theorem w_i_list_bool {K : PySem.W.Frag} {H : Hp} {Q : VK} {u : Addr} {xs : List V} (hp : H u = some (.lst xs)) (q : Q (.bl false) H) : rIsi K [.ref u, .ty "bool"] H Q := ⟨_, _, _, _, _, rfl, .ty "bool", .base (.lst hp), kit_ty (by decide +kernel), q⟩
theorem w_i_list_list {K : PySem.W.Frag} {H : Hp} {Q : VK} {u : Addr} {xs : List V} (hp : H u = some (.lst xs)) (q : Q (.bl true) H) : rIsi K [.ref u, .ty "list"] H Q := ⟨_, _, _, _, _, rfl, .ty "list", .base (.lst hp), kit_ty (by decide +kernel), q⟩
theorem w_i_list_tuple {K : PySem.W.Frag} {H : Hp} {Q : VK} {u : Addr} {xs : List V} (hp : H u = some (.lst xs)) (q : Q (.bl false) H) : rIsi K [.ref u, .ty "tuple"] H Q := ⟨_, _, _, _, _, rfl, .ty "tuple", .base (.lst hp), kit_ty (by decide +kernel), q⟩
theorem w_i_list_dict {K : PySem.W.Frag} {H : Hp} {Q : VK} {u : Addr} {xs : List V} (hp : H u = some (.lst xs)) (q : Q (.bl false) H) : rIsi K [.ref u, .ty "dict"] H Q := ⟨_, _, _, _, _, rfl, .ty "dict", .base (.lst hp), kit_ty (by decide +kernel), q⟩
theorem w_i_tuple_str {K : PySem.W.Frag} {H : Hp} {Q : VK} {u : Addr} {xs : List V} (hp : H u = some (.tup xs)) (q : Q (.bl false) H) : rIsi K [.ref u, .ty "str"] H Q := ⟨_, _, _, _, _, rfl, .ty "str", .base (.tup hp), kit_ty (by decide +kernel), q⟩
theorem w_i_tuple_int {K : PySem.W.Frag} {H : Hp} {Q : VK} {u : Addr} {xs : List V} (hp : H u = some (.tup xs)) (q : Q (.bl false) H) : rIsi K [.ref u, .ty "int"] H Q := ⟨_, _, _, _, _, rfl, .ty "int", .base (.tup hp), kit_ty (by decide +kernel), q⟩
theorem w_i_tuple_bool {K : PySem.W.Frag} {H : Hp} {Q : VK} {u : Addr} {xs : List V} (hp : H u = some (.tup xs)) (q : Q (.bl false) H) : rIsi K [.ref u, .ty "bool"] H Q := ⟨_, _, _, _, _, rfl, .ty "bool", .base (.tup hp), kit_ty (by decide +kernel), q⟩
theorem w_i_tuple_list {K : PySem.W.Frag} {H : Hp} {Q : VK} {u : Addr} {xs : List V} (hp : H u = some (.tup xs)) (q : Q (.bl false) H) : rIsi K [.ref u, .ty "list"] H Q := ⟨_, _, _, _, _, rfl, .ty "list", .base (.tup hp), kit_ty (by decide +kernel), q⟩
theorem w_i_tuple_tuple {K : PySem.W.Frag} {H : Hp} {Q : VK} {u : Addr} {xs : List V} (hp : H u = some (.tup xs)) (q : Q (.bl true) H) : rIsi K [.ref u, .ty "tuple"] H Q := ⟨_, _, _, _, _, rfl, .ty "tuple", .base (.tup hp), kit_ty (by decide +kernel), q⟩
theorem w_i_tuple_dict {K : PySem.W.Frag} {H : Hp} {Q : VK} {u : Addr} {xs : List V} (hp : H u = some (.tup xs)) (q : Q (.bl false) H) : rIsi K [.ref u, .ty "dict"] H Q := ⟨_, _, _, _, _, rfl, .ty "dict", .base (.tup hp), kit_ty (by decide +kernel), q⟩
theorem w_i_dict_str {K : PySem.W.Frag} {H : Hp} {Q : VK} {u : Addr} {xs : List (Key × V)} (hp : H u = some (.dK xs)) (q : Q (.bl false) H) : rIsi K [.ref u, .ty "str"] H Q := ⟨_, _, _, _, _, rfl, .ty "str", .base (.dK hp), kit_ty (by decide +kernel), q⟩
theorem w_i_dict_int {K : PySem.W.Frag} {H : Hp} {Q : VK} {u : Addr} {xs : List (Key × V)} (hp : H u = some (.dK xs)) (q : Q (.bl false) H) : rIsi K [.ref u, .ty "int"] H Q := ⟨_, _, _, _, _, rfl, .ty "int", .base (.dK hp), kit_ty (by decide +kernel), q⟩
theorem w_i_dict_bool {K : PySem.W.Frag} {H : Hp} {Q : VK} {u : Addr} {xs : List (Key × V)} (hp : H u = some (.dK xs)) (q : Q (.bl false) H) : rIsi K [.ref u, .ty "bool"] H Q := ⟨_, _, _, _, _, rfl, .ty "bool", .base (.dK hp), kit_ty (by decide +kernel), q⟩
theorem w_i_dict_list {K : PySem.W.Frag} {H : Hp} {Q : VK} {u : Addr} {xs : List (Key × V)} (hp : H u = some (.dK xs)) (q : Q (.bl false) H) : rIsi K [.ref u, .ty "list"] H Q := ⟨_, _, _, _, _, rfl, .ty "list", .base (.dK hp), kit_ty (by decide +kernel), q⟩
theorem w_i_dict_tuple {K : PySem.W.Frag} {H : Hp} {Q : VK} {u : Addr} {xs : List (Key × V)} (hp : H u = some (.dK xs)) (q : Q (.bl false) H) : rIsi K [.ref u, .ty "tuple"] H Q := ⟨_, _, _, _, _, rfl, .ty "tuple", .base (.dK hp), kit_ty (by decide +kernel), q⟩
theorem w_i_dict_dict {K : PySem.W.Frag} {H : Hp} {Q : VK} {u : Addr} {xs : List (Key × V)} (hp : H u = some (.dK xs)) (q : Q (.bl true) H) : rIsi K [.ref u, .ty "dict"] H Q := ⟨_, _, _, _, _, rfl, .ty "dict", .base (.dK hp), kit_ty (by decide +kernel), q⟩
section
variable {σ : St} {H : Hp} {Q : VK}
def NewD (Q : VK) (p : Addr) (ps : List (V × V)) (H2 : Hp) : Prop := H2 p = some (.dK []) ∧ ∃ kvs : List (Key × V), ps = kvs.map (fun kv => (kV kv.1, kv.2)) ∧ kvs.length ≤ 15 ∧ Q (.ref p) (upd H2 p (.dK (mergeK [] kvs)))
theorem w_disp {trs : List (TE × TE)} (h : ∀ p H', H p = none → Same H H' → H' p = some (.dK []) → tPairs trs σ H' fun ps H2 => NewD Q p ps H2) : tDisp trs σ H Q := fun p np => h p _ np (same_upd np) upd_same
theorem w_newD {p : Addr} {kvs : List (Key × V)} (np : H p = some (.dK [])) (hl : kvs.length ≤ 15) (h : ∀ H', (∀ G : Hp, Same G H → G p = none → Same G H') → H' p = some (.dK (mergeK [] kvs)) → Q (.ref p) H') : NewD Q p (kvs.map fun kv => (kV kv.1, kv.2)) H := ⟨np, kvs, rfl, hl, h _ (fun G s hp b o e => by
  rw [upd_ne (ne_of_none e hp)]
  exact s b o e) upd_same⟩
theorem w_pnil {Qp : List (V × V) → Hp → Prop} (h : Qp [] H) : tPairs [] σ H Qp := h
theorem w_pcons {tk tv : TE} {trs : List (TE × TE)} {Qp : List (V × V) → Hp → Prop} (h : tk σ H fun x H1 => tv σ H1 fun y H2 => tPairs trs σ H2 fun ps H3 => Qp ((x, y) :: ps) H3) : tPairs ((tk, tv) :: trs) σ H Qp := h
end
/-! ### tests as one answer -/
section
variable {σ : St} {H : Hp} {tt tu : TT} {Qb : Bool → Hp → Prop} {k1 k2 : Bool}
theorem w_andB (h1 : ∀ Q : Bool → Hp → Prop, Q k1 H → tt σ H Q) (h2 : k1 = true → ∀ Q : Bool → Hp → Prop, Q k2 H → tu σ H Q) (q : Qb (k1 && k2) H) : tAnd tt tu σ H Qb := by
  refine h1 _ ?_
  cases k1
  · rw [if_neg Bool.false_ne_true]; exact q
  · rw [if_pos rfl]; exact h2 rfl _ q
theorem w_orB (h1 : ∀ Q : Bool → Hp → Prop, Q k1 H → tt σ H Q) (h2 : k1 = false → ∀ Q : Bool → Hp → Prop, Q k2 H → tu σ H Q) (q : Qb (k1 || k2) H) : tOr tt tu σ H Qb := by
  refine h1 _ ?_
  cases k1
  · rw [if_neg Bool.false_ne_true]; exact h2 rfl _ q
  · rw [if_pos rfl]; exact q
theorem w_andS (h1 : ∀ Q : Bool → Hp → Prop, (∀ H', Same H H' → Q k1 H') → tt σ H Q) (h2 : k1 = true → ∀ H1, Same H H1 → ∀ Q : Bool → Hp → Prop, (∀ H', Same H1 H' → Q k2 H') → tu σ H1 Q) (q : ∀ H', Same H H' → Qb (k1 && k2) H') : tAnd tt tu σ H Qb := by
  refine h1 _ fun H1 s1 => ?_
  cases k1
  · rw [if_neg Bool.false_ne_true]; exact q H1 s1
  · rw [if_pos rfl]; exact h2 rfl H1 s1 _ fun H' s' => q H' (s1.trans s')
theorem w_orS (h1 : ∀ Q : Bool → Hp → Prop, (∀ H', Same H H' → Q k1 H') → tt σ H Q) (h2 : k1 = false → ∀ H1, Same H H1 → ∀ Q : Bool → Hp → Prop, (∀ H', Same H1 H' → Q k2 H') → tu σ H1 Q) (q : ∀ H', Same H H' → Qb (k1 || k2) H') : tOr tt tu σ H Qb := by
  refine h1 _ fun H1 s1 => ?_
  cases k1
  · rw [if_neg Bool.false_ne_true]; exact h2 rfl H1 s1 _ fun H' s' => q H' (s1.trans s')
  · rw [if_pos rfl]; exact q H1 s1
variable {Q : VK} {ta tb tc : TE} {o o' : R2}
/-- a < b < c, all known -/
theorem w_chainB (h1 : ∀ Q : VK, Q (.bl k1) H → tOp o ta tb σ H Q) (h2 : k1 = true → ∀ Q : VK, Q (.bl k2) H → tOp o' tb tc σ H Q)
    (hb : ∀ (f : V → Hp → Prop), tb σ H f → ∃ y, f y H ∧ ∀ f' : V → Hp → Prop, f' y H → tb σ H f') (q : Q (.bl (k1 && k2)) H) : True := trivial
end
/-- an if whose answer is decided by a proposition -/
theorem w_iteP {p A B : Prop} [Decidable p] (h1 : p → A) (h2 : ¬ p → B) : if decide p = true then A else B := by
  by_cases h : p
  · rw [if_pos (decide_eq_true h)]; exact h1 h
  · rw [if_neg (by simpa using h)]; exact h2 h
/-! ### slices of lists -/
def cut {α : Type} (xs : List α) (lo hi : Option Int) : List α := (xs.drop (HT.sIx xs.length 0 lo)).take (HT.sIx xs.length xs.length hi - HT.sIx xs.length 0 lo)
theorem cutV_map {α : Type} (f : α → V) (xs : List α) (lo hi : Option Int) : cutV (xs.map f) lo hi = (cut xs lo hi).map f := by
  unfold cutV cut
  rw [List.length_map, List.map_take, List.map_drop]
theorem cut_len {α : Type} (xs : List α) (lo hi : Option Int) : (cut xs lo hi).length ≤ xs.length := by
  unfold cut
  rw [List.length_take, List.length_drop]
  omega
theorem cut_to {α : Type} (xs : List α) (k : Nat) : cut xs none (some (k : Int)) = xs.take k := by
  unfold cut
  rw [HT.sIx_nat, HT.sIx_none, List.drop_zero, Nat.sub_zero]
  rcases Nat.le_total k xs.length with h | h
  · rw [Nat.min_eq_left h]
  · rw [Nat.min_eq_right h, List.take_length, List.take_of_length_le h]
theorem cut_from {α : Type} (xs : List α) (k : Nat) : cut xs (some (k : Int)) none = xs.drop k := by
  unfold cut
  rw [HT.sIx_nat, HT.sIx_none]
  rcases Nat.le_total k xs.length with h | h
  · rw [Nat.min_eq_left h, List.take_of_length_le (by rw [List.length_drop]; omega)]
  · rw [Nat.min_eq_right h, Nat.sub_self, List.drop_of_length_le h]
    rfl
/-! ### texts -/
theorem slen_app (a b : Str) : (a ++ b).length = a.length + b.length := Array.size_append
theorem slen_one (k : Nat) : (⟨#[k]⟩ : Str).length = 1 := rfl
theorem slen_list (z : Str) : z.cps.toList.length = z.length := Array.length_toList
theorem sapp_list (a b : Str) : (a ++ b).cps.toList = a.cps.toList ++ b.cps.toList := Array.toList_append
theorem s_ext {a b : Str} (h : a.cps.toList = b.cps.toList) : a = b := by
  cases a
  cases b
  exact congrArg Str.mk (Array.toList_inj.mp h)
/-! ### names -/
def isStrV : V → Bool
  | .str _ => true
  | _ => false
def Kd (K : PySem.W.Frag) (H : Hp) (v : V) : Prop := ∃ t, TyX K H v t ∧ PySem.W.kitOne K t (.type "str") = some (isStrV v) ∧ ∀ z, v = .str z → z.length ≤ 100000
def lower (c : Nat) : Bool := decide (97 ≤ c) && decide (c ≤ 122)
def nameOk : V → Bool
  | .str z => decide (1 ≤ z.length) && (decide (z.length ≤ 8) && z.cps.toList.all lower)
  | _ => false
def sp_is_name (K : PySem.W.Frag) : Sp := fun vs H Q _ => ∃ v, vs = [v] ∧ Kd K H v ∧ Q (.bl (nameOk v)) H
theorem u_is_name {K : PySem.W.Frag} {v : V} {H : Hp} {Q : VK} {E : XK} (h : Kd K H v) (q : Q (.bl (nameOk v)) H) : sp_is_name K ([v] ++ []) H Q E := ⟨v, rfl, h, q⟩
theorem letters_mem (c : Nat) : decide (c ∈ ("abcdefghijklmnopqrstuvwxyz" : Str).cps.toList) = lower c := by
  have e : ("abcdefghijklmnopqrstuvwxyz" : Str).cps.toList = List.range' 97 26 := by decide +kernel
  rw [e, lower, ← Bool.decide_and]
  congr 1
  rw [List.mem_range'_1]
  exact propext ⟨fun h => by omega, fun h => by omega⟩
theorem abc_at {i : Int} (h0 : 0 ≤ i) (h1 : i < 26) : ∃ k, ("abcdefghijklmnopqrstuvwxyz" : Str).cps.toList[i.toNat]? = some k := by
  have e : ("abcdefghijklmnopqrstuvwxyz" : Str).cps.toList = List.range' 97 26 := by decide +kernel
  rw [e]
  have hl : i.toNat < (List.range' 97 26).length := by
    rw [List.length_range']
    omega
  exact ⟨_, List.getElem?_eq_getElem hl⟩
theorem str_at {z : Str} {i : Int} (h0 : 0 ≤ i) (h1 : i < z.length) : ∃ k, z.cps.toList[i.toNat]? = some k := by
  have hl : i.toNat < z.cps.toList.length := by
    rw [slen_list]
    omega
  exact ⟨_, List.getElem?_eq_getElem hl⟩
/-! ### drawing -/
def mixA (c : Int) : Nat → Int
  | 0 => c / 2
  | n + 1 => mixA c n / 840
def turns : List Int := [48271, 69621, 40692, 39373, 16807, 30323, 21403, 62089, 45742, 37907, 53611, 28411, 59393, 33391]
def mixOne (c t : Int) : Int := (c % 1000000007 + 11) * turns.getD (t % 14).toNat 0 % 2147483629
def mixTwo (c t : Int) : Int := mixOne c t * (mixOne c t + t) % 1999999973
def mix (c t m : Int) : Int := if c % 2 = 1 ∧ 10 ^ 18 < c then mixA c t.toNat % 840 % m else mixTwo c t * 16807 % 998244353 / 1000 % m
theorem mix_nn {c t m : Int} (h : 0 < m) : 0 ≤ mix c t m := by
  unfold mix
  split <;> exact Int.emod_nonneg _ (by omega)
theorem mix_lt {c t m : Int} (h : 0 < m) : mix c t m < m := by
  unfold mix
  split <;> exact Int.emod_lt_of_pos _ h
theorem turns_at {i : Int} (h0 : 0 ≤ i) (h1 : i < 14) : turns[i.toNat]? = some (turns.getD i.toNat 0) := by
  have hl : i.toNat < turns.length := by
    show i.toNat < 14
    omega
  rw [List.getElem?_eq_getElem hl, List.getD_eq_getElem?_getD, List.getElem?_eq_getElem hl]
  rfl
theorem turns_bound (i : Nat) : 0 ≤ turns.getD i 0 ∧ turns.getD i 0 < 100000 := by
  have h : ∀ x ∈ turns, 0 ≤ x ∧ x < 100000 := by decide
  rw [List.getD_eq_getElem?_getD]
  cases e : turns[i]? with
  | none => exact ⟨by decide, by decide⟩
  | some x => exact h x (List.mem_of_getElem? e)
theorem mixOne_bound {c t : Int} : 0 ≤ mixOne c t ∧ mixOne c t < 2147483629 := ⟨Int.emod_nonneg _ (by decide), Int.emod_lt_of_pos _ (by decide)⟩
theorem mixTwo_bound {c t : Int} : 0 ≤ mixTwo c t ∧ mixTwo c t < 1999999973 := ⟨Int.emod_nonneg _ (by decide), Int.emod_lt_of_pos _ (by decide)⟩
def sp_l_mix (K : PySem.W.Frag) : Sp := fun vs H Q _ => ∃ c t m : Int, vs = [.int c, .int t, .int m] ∧ (0 ≤ t ∧ t ≤ 1000) ∧ 0 < m ∧ ∀ H', Same H H' → Q (.int (mix c t m)) H'
theorem u_mix {K : PySem.W.Frag} {c t m : Int} {H : Hp} {Q : VK} {E : XK} (ht : 0 ≤ t ∧ t ≤ 1000) (hm : 0 < m) (q : ∀ H', Same H H' → Q (.int (mix c t m)) H') : sp_l_mix K ([.int c, .int t, .int m] ++ []) H Q E := ⟨c, t, m, rfl, ht, hm, q⟩
theorem atI_of {α : Type} {xs : List α} {i : Int} {v : α} (h0 : 0 ≤ i) (h : xs[i.toNat]? = some v) : atI xs i = some v := by
  have e : i = (i.toNat : Int) := by omega
  rw [e]
  exact atI_nat h
theorem pick {α : Type} {xs : List α} {P : α → Prop} {i : Int} (h0 : 0 ≤ i) (h1 : i < xs.length) (h : ∀ v ∈ xs, P v) : ∃ v, atI xs i = some v ∧ P v := by
  have hl : i.toNat < xs.length := by omega
  exact ⟨xs[i.toNat], atI_of h0 (List.getElem?_eq_getElem hl), h _ (List.getElem_mem hl)⟩
/-! ### the law -/
def sp_law (K : PySem.W.Frag) : Sp := fun vs H Q _ => ∃ (a : Addr) (ns : List Int), vs = [.ref a] ∧ SqL K H a (ns.map V.int) ∧ ns.length ≤ 63 ∧ ∀ H', Q (.bl true) H'
theorem law_enter {K : PySem.W.Frag} {H : Hp} {a : Addr} {ns : List Int} (hl : ns.length ≤ 63) (hS : SqL K H a (ns.map V.int)) : sp_law K [.ref a] H (fun v _ => v = .bl true) fun _ _ _ => False := ⟨a, ns, rfl, hS, hl, fun _ => rfl⟩
end Tg
namespace Tg
open PySem PySem.Spec L2
local macro_rules | `(tactic| walk_at "sz") => `(tactic| first | assumption | (exact small (by omega)) | (exact small (by decide)) | (exact small (Nat.le_of_ble_eq_true rfl)) | decide)
local macro_rules | `(tactic| walk_at "isi") => `(tactic| first
  | (with_reducible refine w_i_NoneType_str ?_)
  | (with_reducible refine w_i_NoneType_int ?_)
  | (with_reducible refine w_i_NoneType_bool ?_)
  | (with_reducible refine w_i_NoneType_list ?_)
  | (with_reducible refine w_i_NoneType_tuple ?_)
  | (with_reducible refine w_i_NoneType_dict ?_)
  | (with_reducible refine w_i_bool_str ?_)
  | (with_reducible refine w_i_bool_int ?_)
  | (with_reducible refine w_i_bool_bool ?_)
  | (with_reducible refine w_i_bool_list ?_)
  | (with_reducible refine w_i_bool_tuple ?_)
  | (with_reducible refine w_i_bool_dict ?_)
  | (with_reducible refine w_i_int_str ?_)
  | (with_reducible refine w_i_int_int ?_)
  | (with_reducible refine w_i_int_bool ?_)
  | (with_reducible refine w_i_int_list ?_)
  | (with_reducible refine w_i_int_tuple ?_)
  | (with_reducible refine w_i_int_dict ?_)
  | (with_reducible refine w_i_str_str ?_)
  | (with_reducible refine w_i_str_int ?_)
  | (with_reducible refine w_i_str_bool ?_)
  | (with_reducible refine w_i_str_list ?_)
  | (with_reducible refine w_i_str_tuple ?_)
  | (with_reducible refine w_i_str_dict ?_)
  | ((with_reducible apply w_i_list_str); (· walk_at "hp"))
  | ((with_reducible apply w_i_list_int); (· walk_at "hp"))
  | ((with_reducible apply w_i_list_bool); (· walk_at "hp"))
  | ((with_reducible apply w_i_list_list); (· walk_at "hp"))
  | ((with_reducible apply w_i_list_tuple); (· walk_at "hp"))
  | ((with_reducible apply w_i_list_dict); (· walk_at "hp"))
  | ((with_reducible apply w_i_tuple_str); (· walk_at "hp"))
  | ((with_reducible apply w_i_tuple_int); (· walk_at "hp"))
  | ((with_reducible apply w_i_tuple_bool); (· walk_at "hp"))
  | ((with_reducible apply w_i_tuple_list); (· walk_at "hp"))
  | ((with_reducible apply w_i_tuple_tuple); (· walk_at "hp"))
  | ((with_reducible apply w_i_tuple_dict); (· walk_at "hp"))
  | ((with_reducible apply w_i_dict_str); (· walk_at "hp"))
  | ((with_reducible apply w_i_dict_int); (· walk_at "hp"))
  | ((with_reducible apply w_i_dict_bool); (· walk_at "hp"))
  | ((with_reducible apply w_i_dict_list); (· walk_at "hp"))
  | ((with_reducible apply w_i_dict_tuple); (· walk_at "hp"))
  | ((with_reducible apply w_i_dict_dict); (· walk_at "hp")))
local macro_rules | `(tactic| walk_at "w") => `(tactic| first
  | (with_reducible refine w_seq ?_)
  | (with_reducible refine w_asg ?_)
  | (with_reducible refine w_name ?_)
  | ((with_reducible apply w_var); · exact rfl)
  | (with_reducible refine w_c ?_)
  | (with_reducible refine w_op ?_)
  | (with_reducible refine w_rI0 ?_)
  | ((with_reducible refine w_rI ?_ ?_); · (first | (show (0 : Int) < _; first | decide | omega) | exact ⟨by decide, by decide⟩ | (constructor <;> omega)))
  | ((with_reducible refine w_rEq ?_ ?_); · exact rfl)
  | ((with_reducible refine w_rNe ?_ ?_); · exact rfl)
  | (with_reducible refine w_tTest ?_)
  | (with_reducible refine w_tB ?_)
  | (with_reducible refine w_tNot ?_)
  | ((with_reducible apply w_andB); (· intro Q q; walk_at "go"; exact q); (· intro he Q q; walk_at "go"; exact q))
  | ((with_reducible apply w_orB); (· intro Q q; walk_at "go"; exact q); (· intro he Q q; walk_at "go"; exact q))
  | (with_reducible refine w_tAnd ?_)
  | (with_reducible refine w_tOr ?_)
  | (with_reducible refine w_bl ?_)
  | (with_reducible refine w_if ?_)
  | (with_reducible refine w_ret ?_)
  | (with_reducible refine w_cons ?_)
  | (with_reducible refine w_nil ?_)
  | (with_reducible refine w_cb ?_)
  | (with_reducible refine w_call ?_)
  | (with_reducible refine w_chain ?_)
  | (with_reducible refine w_next ?_)
  | (with_reducible refine w_drop ?_)
  | (with_reducible refine w_un ?_)
  | (with_reducible refine w_rU ?_)
  | (with_reducible refine w_lst ?_)
  | (with_reducible refine w_tup ?_)
  | (with_reducible refine w_forS ?_)
  | (with_reducible refine w_forL ?_)
  | (with_reducible refine w_forR1 ?_)
  | (with_reducible refine w_forR2 ?_)
  | (with_reducible refine w_lcL ?_)
  | (with_reducible refine w_lcS ?_)
  | (with_reducible refine w_yes ?_)
  | ((with_reducible refine w_wipe ?_ ?_); (· rfl))
  | ((with_reducible show rIsi _ _ _ _); walk_at "isi")
  | (with_reducible refine w_lcR1 ?_)
  | (with_reducible refine w_fld ?_)
  | (with_reducible refine w_sl ?_)
  | (with_reducible refine w_nopart ?_)
  | (with_reducible refine w_part ?_)
  | (with_reducible refine w_int ?_)
  | ((with_reducible refine w_rng1 ?_ ?_ ?_); (· omega); (· omega))
  | ((with_reducible refine w_rng2 ?_ ?_); · omega)
  | (with_reducible refine w_str ?_)
  | (with_reducible refine w_andV ?_)
  | (with_reducible refine w_orV ?_)
  | (with_reducible refine w_notV ?_)
  | (with_reducible refine w_ifE ?_)
  | (with_reducible refine w_isN ?_)
  | (with_reducible refine w_notN ?_)
  | ((with_reducible refine w_lenS ?_ ?_); · walk_at "sz")
  | ((with_reducible refine w_addS ?_ ?_); · walk_at "sz")
  | (with_reducible refine w_inS ?_)
  | (with_reducible refine w_ninS ?_)
  | ((with_reducible refine w_slS ?_ ?_); · walk_at "sz")
  | ((with_reducible apply w_lenL); · walk_at "sq")
  | ((with_reducible apply w_lenT); · walk_at "sq")
  | ((with_reducible apply w_slL); (· walk_at "sq"); intro _ _ _ _ _)
  | (with_reducible refine w_min ?_)
  | ((with_reducible apply w_listL); (· walk_at "sq"); intro _ _ _ _ _)
  | ((with_reducible apply w_tupL); (· walk_at "sq"); intro _ _ _ _ _)
  | (with_reducible refine w_disp fun _ _ _ _ _ => ?_)
  | (with_reducible refine w_pnil ?_)
  | (with_reducible refine w_pcons ?_)
  | ((with_reducible refine u_mix ?_ ?_ fun _ _ => ?_); (· omega); (· first | omega | decide +kernel))
  | ((with_reducible refine w_newL ?_ fun _ _ _ _ _ => ?_); (· walk_at "sz"))
  | ((with_reducible refine w_newT ?_ fun _ _ _ _ _ => ?_); (· walk_at "sz"))
  | (with_reducible refine w_bm ?_)
  | (with_reducible refine w_bm0 ?_)
  | (with_reducible refine w_gnil ?_)
  | (with_reducible refine w_gcons ?_)
  | (with_reducible refine w_brk ?_)
  | (with_reducible refine w_cont ?_)
  | (with_reducible refine w_retN ?_)
  | ((with_reducible refine w_iteT ?_ ?_); · decide)
  | ((with_reducible refine w_iteF ?_ ?_); · decide))
local macro_rules | `(tactic| walk_at "hp") => `(tactic| first
  | assumption
  | exact upd_same
  | ((with_reducible refine (upd_ne ?_).trans ?_); · (first | assumption | (exact ne_of_none ‹_› ‹_›)); walk_at "hp")
  | ((with_reducible refine (‹Same _ _› : Same _ _) _ _ ?_); walk_at "hp"))
local macro_rules | `(tactic| walk_at "sq") => `(tactic| first
  | assumption
  | (refine Sq_of ?_; walk_at "hp")
  | (refine St_of ?_; walk_at "hp")
  | (refine Same.seq ‹Same _ _› ?_; walk_at "sq"))
local macro_rules | `(tactic| walk_at "go") => `(tactic| repeat walk_at "w")
local macro_rules | `(tactic| walk_at "same") => `(tactic| first
  | assumption
  | exact Same.refl _
  | (refine same_new ?_ (by assumption); walk_at "same")
  | (refine Same.trans ?_ (by assumption); walk_at "same"))
def topS (i : Nat) : Stmt := PySem.Challenge.pw_taglook_k11_names.main.body.getD i (.Pass ⟨0, 0, 0, 0⟩)
structure Txt (K : PySem.W.Frag) (mg : Str → Option Value) : Prop where
  b_str : mg "str" = none
  b_isinstance : mg "isinstance" = none
  b_len : mg "len" = none
  b_range : mg "range" = none
  b_all : mg "all" = none
  b_bool : mg "bool" = none
  g_LONGEST : ∃ t, mg "LONGEST" = some (.int 8 t)
  g_LETTERS : ∃ t, mg "LETTERS" = some (.str "abcdefghijklmnopqrstuvwxyz" t)
section
variable {P : Program} {w : World} {K : PySem.W.Frag} {mg : Str → Option Value} {base : Heap}
abbrev s_is_name : Stmt := topS 3
theorem sc_is_name : FnScope ["thing", "sign"] ["thing"] (defScope s_is_name) := ⟨rfl, rfl, rfl, by decide +kernel, rfl, by decide +kernel, by decide +kernel⟩
theorem ok_is_name {f : Addr} {fd : FuncData} (F : Fun K "is_name" "is_name" s_is_name f fd) (T : Txt K mg)  : FnOk P w K mg base CX0 1 f fd ["thing"] (sp_is_name K) := by
  refine F.ok sc_is_name (fun vs H Q E h => ?_) (fun cdv A outer s H vs Q E hr h => ?_)
  · (first | (obtain ⟨_, rfl, _⟩ := h; rfl) | (obtain ⟨_, _, rfl, _⟩ := h; rfl) | (obtain ⟨_, _, _, rfl, _⟩ := h; rfl) | (obtain ⟨_, _, _, _, rfl, _⟩ := h; rfl) | (obtain ⟨_, _, _, _, _, rfl, _⟩ := h; rfl) | (obtain ⟨_, _, _, _, _, _, rfl, _⟩ := h; rfl) | (obtain ⟨_, _, _, _, _, _, _, rfl, _⟩ := h; rfl) | (obtain ⟨_, _, _, _, _, _, _, _, rfl, _⟩ := h; rfl) | (obtain ⟨_, _, _, _, _, _, _, _, _, rfl, _⟩ := h; rfl) | (obtain ⟨_, _, _, _, _, _, _, _, _, _, rfl, _⟩ := h; rfl))
  obtain ⟨v, rfl, ⟨t, ty, kd, hsz⟩, q⟩ := h
  refine ⟨_, (pss_cons (ps_if (pw_or (pt_not (pt_val (pe_callB call_isi (by rfl) T.b_isinstance (by decide +kernel) (pa_cons (pv 0) (pa_cons (pe_bltn (v := .ty "str") (by rfl) T.b_str (by decide +kernel) rfl) pa_nil))))) (pw_or1 (pt_not (pt_chain op_le op_le pe_int (pe_callB call_lenS (by rfl) T.b_len PySem.boot_len (pa_cons (pv 0) pa_nil)) (pe_globI (by rfl) T.g_LONGEST))))).pt
        (pss_one (ps_ret pe_bl))
        pss_nil)
      (pss_cons (ps_for PassesOwn.never rfl (pi_str (pv 0)) (pg_name (i := 1) sc_is_name.nd rfl (Or.inl rfl))
        (pss_one (ps_if (pt_cmpR op_ninSg (pv 1) (pe_globS (by rfl) T.g_LETTERS) rfl)
          (pss_one (ps_ret pe_bl))
          pss_nil)))
      (pss_one (ps_ret pe_bl)))), ?_⟩
  walk_at "go"
  refine w_isi (.ty "str") ty kd ?_
  walk_at "go"
  cases v with
  | str z =>
    have hz : z.length ≤ 100000 := hsz z rfl
    refine w_iteF rfl ?_
    walk_at "go"
    refine w_ite (fun h1 => ?_) (fun h1 => ?_)
    · walk_at "go"
      refine w_ite (fun h2 => ?_) (fun h2 => ?_)
      · walk_at "go"
        have e : nameOk (.str z) = false := by
          simp at h1 h2
          simp [nameOk]
          omega
        rw [e] at q
        exact q
      · walk_at "go"
        simp at h1 h2
        refine forS (fun i σ' H' => H' = H ∧ (∃ y, σ' = [some (.str z), y]) ∧ (z.cps.toList.take i).all lower = true) ⟨rfl, ⟨_, rfl⟩, rfl⟩ ?_ ?_
        · rintro i k σ' H' hi ⟨rfl, ⟨y, rfl⟩, ha⟩
          walk_at "go"
          refine w_ite (fun h3 => ?_) (fun h3 => ?_)
          · walk_at "go"
            rw [letters_mem] at h3
            have e : nameOk (.str z) = false := by
              have : z.cps.toList.all lower = false := by
                rw [List.all_eq_false]
                exact ⟨k, List.mem_of_getElem? hi, by simpa using h3⟩
              simp [nameOk, this]
            rw [e] at q
            exact q
          · walk_at "go"
            rw [letters_mem] at h3
            refine ⟨rfl, ⟨_, rfl⟩, ?_⟩
            rw [List.take_add_one, hi, List.all_append, ha]
            simpa using h3
        · rintro σ' H' ⟨rfl, ⟨y, rfl⟩, ha⟩
          walk_at "go"
          have e : nameOk (.str z) = true := by
            rw [List.take_length] at ha
            simp only [nameOk, ha, Bool.and_true, Bool.and_eq_true, decide_eq_true_eq]
            omega
          rw [e] at q
          exact q
    · walk_at "go"
      have e : nameOk (.str z) = false := by
        simp at h1
        simp [nameOk]
        intro; omega
      rw [e] at q
      exact q
  | _ =>
    refine w_iteT rfl ?_
    walk_at "go"
    exact q

abbrev s_l_mix : Stmt := topS 6
theorem sc_l_mix : FnScope ["_law_cell_here", "_law_turn", "_law_many", "_law_rest", "_law_k", "_law_turns", "_law_one", "_law_two"] ["_law_cell_here", "_law_turn", "_law_many"] (defScope s_l_mix) := ⟨rfl, rfl, rfl, by decide +kernel, rfl, by decide +kernel, by decide +kernel⟩
theorem ok_l_mix {f : Addr} {fd : FuncData} (F : Fun K "_law_mix" "_law_mix" s_l_mix f fd) (T : Txt K mg)  : FnOk P w K mg base CX0 1 f fd ["_law_cell_here", "_law_turn", "_law_many"] (sp_l_mix K) := by
  refine F.ok sc_l_mix (fun vs H Q E h => ?_) (fun cdv A outer s H vs Q E hr h => ?_)
  · (first | (obtain ⟨_, rfl, _⟩ := h; rfl) | (obtain ⟨_, _, rfl, _⟩ := h; rfl) | (obtain ⟨_, _, _, rfl, _⟩ := h; rfl) | (obtain ⟨_, _, _, _, rfl, _⟩ := h; rfl) | (obtain ⟨_, _, _, _, _, rfl, _⟩ := h; rfl) | (obtain ⟨_, _, _, _, _, _, rfl, _⟩ := h; rfl) | (obtain ⟨_, _, _, _, _, _, _, rfl, _⟩ := h; rfl) | (obtain ⟨_, _, _, _, _, _, _, _, rfl, _⟩ := h; rfl) | (obtain ⟨_, _, _, _, _, _, _, _, _, rfl, _⟩ := h; rfl) | (obtain ⟨_, _, _, _, _, _, _, _, _, _, rfl, _⟩ := h; rfl))
  obtain ⟨c, t, m, rfl, ht, hm, q⟩ := h
  refine ⟨_, (pss_cons (ps_set (i := 3) sc_l_mix.nd rfl (Or.inl rfl) (pe_op op_fdiv (pv 0) pe_int))
      (pss_cons (ps_if (pw_and (pt_cmpR op_eq (pe_op op_mod (pv 0) pe_int) pe_int (nomark _)) (pw_and1 (pt_cmpR op_gt (pv 0) (pe_op op_pow pe_int pe_int) (nomark _)))).pt
        (pss_cons (ps_for PassesOwn.never rfl (pi_range1 rfl T.b_range (pa_cons (pv 1) pa_nil)) (pg_name (i := 4) sc_l_mix.nd rfl (Or.inl rfl))
          (pss_one (ps_set (i := 3) sc_l_mix.nd rfl (Or.inl rfl) (pe_op op_fdiv (pv 3) pe_int))))
        (pss_one (ps_ret (pe_op op_mod (pe_op op_mod (pv 3) pe_int) (pv 2)))))
        pss_nil)
      (pss_cons (ps_set (i := 5) sc_l_mix.nd rfl (Or.inl rfl) (pe_lst (pa_cons pe_int (pa_cons pe_int (pa_cons pe_int (pa_cons pe_int (pa_cons pe_int (pa_cons pe_int (pa_cons pe_int (pa_cons pe_int (pa_cons pe_int (pa_cons pe_int (pa_cons pe_int (pa_cons pe_int (pa_cons pe_int (pa_cons pe_int pa_nil))))))))))))))))
      (pss_cons (ps_set (i := 6) sc_l_mix.nd rfl (Or.inl rfl) (pe_op op_mod (pe_op op_mul (pe_op op_add (pe_op op_mod (pv 0) pe_int) pe_int) (pe_ix ix_list (pv 5) (pe_op op_mod (pv 1) pe_int) (fun _ _ => rfl))) pe_int))
      (pss_cons (ps_set (i := 7) sc_l_mix.nd rfl (Or.inl rfl) (pe_op op_mod (pe_op op_mul (pv 6) (pe_op op_add (pv 6) (pv 1))) pe_int))
      (pss_one (ps_ret (pe_op op_mod (pe_op op_fdiv (pe_op op_mod (pe_op op_mul (pv 7) pe_int) pe_int) pe_int) (pv 2))))))))), ?_⟩
  walk_at "go"
  refine w_ite (fun h1 => ?_) (fun h1 => ?_)
  · have h1' : c % 2 = 1 ∧ 10 ^ 18 < c := by simpa using h1
    have e : mix c t m = mixA c t.toNat % 840 % m := if_pos h1'
    rw [e] at q
    walk_at "go"
    refine forR (fun i σ' H' => H' = H ∧ ∃ y z, σ' = [some (.int c), some (.int t), some (.int m), some (.int (mixA c i)), y, z, none, none]) ⟨rfl, _, _, rfl⟩ ?_ ?_
    · rintro i σ' H' hi ⟨rfl, y, z, rfl⟩
      walk_at "go"
      exact ⟨rfl, _, _, rfl⟩
    · rintro σ' H' ⟨rfl, y, z, rfl⟩
      walk_at "go"
      exact q _ (Same.refl _)
  · have h1' : ¬ (c % 2 = 1 ∧ 10 ^ 18 < c) := by simpa using h1
    have e : mix c t m = mixTwo c t * 16807 % 998244353 / 1000 % m := if_neg h1'
    rw [e] at q
    have h14 : 0 ≤ t % 14 ∧ t % 14 < 14 := ⟨Int.emod_nonneg _ (by decide), Int.emod_lt_of_pos _ (by decide)⟩
    have hat : turns[(t % 14).toNat]? = some (turns.getD (t % 14).toNat 0) := turns_at h14.1 h14.2
    have hb := turns_bound (t % 14).toNat
    walk_at "go"
    rename_i p1 H1 n1 s1 h1
    refine w_ixL (Sq_of (xs := turns.map V.int) h1) (atI_of h14.1 (by rw [List.getElem?_map, hat]; rfl)) ?_
    walk_at "go"
    refine q _ ?_
    walk_at "same"

abbrev s_l_due : Stmt := topS 8
theorem sc_l_due : FnScope ["_law_text_here", "_law_sign"] ["_law_text_here"] (defScope s_l_due) := ⟨rfl, rfl, rfl, by decide +kernel, rfl, by decide +kernel, by decide +kernel⟩
def sp_l_due (K : PySem.W.Frag) : Sp := fun vs H Q _ => ∃ z : Str, vs = [.str z] ∧ z.length ≤ 100000 ∧ ∀ H', Same H H' → Q (.bl (nameOk (.str z))) H'
theorem ok_l_due {f : Addr} {fd : FuncData} (F : Fun K "_law_due" "_law_due" s_l_due f fd) (T : Txt K mg)  : FnOk P w K mg base CX0 1 f fd ["_law_text_here"] (sp_l_due K) := by
  refine F.ok sc_l_due (fun vs H Q E h => ?_) (fun cdv A outer s H vs Q E hr h => ?_)
  · (first | (obtain ⟨_, rfl, _⟩ := h; rfl) | (obtain ⟨_, _, rfl, _⟩ := h; rfl) | (obtain ⟨_, _, _, rfl, _⟩ := h; rfl) | (obtain ⟨_, _, _, _, rfl, _⟩ := h; rfl) | (obtain ⟨_, _, _, _, _, rfl, _⟩ := h; rfl) | (obtain ⟨_, _, _, _, _, _, rfl, _⟩ := h; rfl) | (obtain ⟨_, _, _, _, _, _, _, rfl, _⟩ := h; rfl) | (obtain ⟨_, _, _, _, _, _, _, _, rfl, _⟩ := h; rfl) | (obtain ⟨_, _, _, _, _, _, _, _, _, rfl, _⟩ := h; rfl) | (obtain ⟨_, _, _, _, _, _, _, _, _, _, rfl, _⟩ := h; rfl))
  obtain ⟨z, rfl, hz, q⟩ := h
  refine ⟨_, (pss_cons (ps_if (pw_or (pt_cmpR op_eq (pe_callB call_lenS (by rfl) T.b_len PySem.boot_len (pa_cons (pv 0) pa_nil)) pe_int (nomark _)) (pw_or1 (pt_cmpR op_gt (pe_callB call_lenS (by rfl) T.b_len PySem.boot_len (pa_cons (pv 0) pa_nil)) pe_int (nomark _)))).pt
        (pss_one (ps_ret pe_bl))
        pss_nil)
      (pss_one (ps_ret (pe_callB (cr_all rfl) (by rfl) T.b_all (by decide +kernel) (pa_cons (pe_lc (own := [("_law_sign", 1)]) (g := gName 1) (by rfl) sc_l_due.nd (pi_str (pv 0)) (blkOk_by (own := [("_law_sign", 1)]) (N := ["_law_text_here", "_law_sign"]) (sc := defScope s_l_due) (by decide +kernel)) (fun _ _ _ _ _ => (pg_name (i := 1) sc_l_due.nd rfl (Or.inl rfl))) (fun _ _ _ _ _ => pts_nil) (fun _ _ _ _ _ => (pe_cmpR op_inSg (pv 1) pe_str rfl))) pa_nil))))), ?_⟩
  walk_at "go"
  refine w_ite (fun h1 => ?_) (fun h1 => ?_)
  · walk_at "go"
    have e : nameOk (.str z) = false := by
      simp at h1
      simp [nameOk]
      intros
      omega
    rw [e] at q
    exact q _ (Same.refl _)
  · walk_at "go"
    simp at h1
    refine lcS (fun D i H' => H D = none ∧ Same H H' ∧ H' D = some (.lst ((z.cps.toList.take i).map fun c => V.bl (lower c)))) (fun D nD => ⟨nD, same_upd nD, upd_same⟩) ?_ ?_
    · rintro D i k H' hi ⟨nD, s1, hD⟩
      walk_at "go"
      have hl : i < z.cps.toList.length := (List.getElem?_eq_some_iff.mp hi).1
      have hl2 : z.cps.toList.length = z.length := Array.length_toList
      refine ⟨_, hD, smallL (by rw [List.length_map, List.length_take]; omega), nD, same_mut s1 nD, ?_⟩
      rw [upd_same, List.take_add_one, hi, List.map_append, letters_mem]
      rfl
    · rintro D H' _ ⟨nD, s1, hD⟩
      walk_at "go"
      refine w_all (bs := z.cps.toList.map lower) (Sq_of (by rw [hD, List.take_length, List.map_map]; rfl)) ?_
      have e : nameOk (.str z) = (z.cps.toList.map lower).all id := by
        have h2 : decide (1 ≤ z.length) = true := decide_eq_true (by omega)
        have h3 : decide (z.length ≤ 8) = true := decide_eq_true (by omega)
        simp only [nameOk, h2, h3, Bool.true_and, List.all_map]
        rfl
      rw [e] at q
      exact q _ s1
abbrev s_l_says : Stmt := topS 9
theorem sc_l_says : FnScope ["_law_thing", "_law_due_here", "_law_k", "_law_found"] ["_law_thing", "_law_due_here"] (defScope s_l_says) := ⟨rfl, rfl, rfl, by decide +kernel, rfl, by decide +kernel, by decide +kernel⟩
def sp_l_says (K : PySem.W.Frag) : Sp := fun vs H Q _ => ∃ (v : V) (b : Bool), vs = [v, .bl b] ∧ Kd K H v ∧ Q (.bl (nameOk v == b)) H
theorem ok_l_says {f : Addr} {fd : FuncData} (F : Fun K "_law_says" "_law_says" s_l_says f fd) (T : Txt K mg) {f_is_name : Addr} {fd_is_name : FuncData} (D_is_name : Dk P w K mg base CX0 1 f_is_name fd_is_name "is_name" ["thing"] [] (sp_is_name K)) : FnOk P w K mg base CX0 2 f fd ["_law_thing", "_law_due_here"] (sp_l_says K) := by
  refine F.ok sc_l_says (fun vs H Q E h => ?_) (fun cdv A outer s H vs Q E hr h => ?_)
  · (first | (obtain ⟨_, rfl, _⟩ := h; rfl) | (obtain ⟨_, _, rfl, _⟩ := h; rfl) | (obtain ⟨_, _, _, rfl, _⟩ := h; rfl) | (obtain ⟨_, _, _, _, rfl, _⟩ := h; rfl) | (obtain ⟨_, _, _, _, _, rfl, _⟩ := h; rfl) | (obtain ⟨_, _, _, _, _, _, rfl, _⟩ := h; rfl) | (obtain ⟨_, _, _, _, _, _, _, rfl, _⟩ := h; rfl) | (obtain ⟨_, _, _, _, _, _, _, _, rfl, _⟩ := h; rfl) | (obtain ⟨_, _, _, _, _, _, _, _, _, rfl, _⟩ := h; rfl) | (obtain ⟨_, _, _, _, _, _, _, _, _, _, rfl, _⟩ := h; rfl))
  obtain ⟨v, b, rfl, hv, q⟩ := h
  refine ⟨_, (pss_cons (ps_for PassesOwn.never rfl (pi_range1 rfl T.b_range (pa_cons pe_int pa_nil)) (pg_name (i := 2) sc_l_says.nd rfl (Or.inl rfl))
        (pss_cons (ps_set (i := 3) sc_l_says.nd rfl (Or.inl rfl) (pe_call D_is_name.F (hr.mono (by decide)) (by rfl) D_is_name.g D_is_name.kp D_is_name.b .nil pass0 (pa_cons (pv 0) pa_nil)))
        (pss_one (ps_if (pw_or (pt_not (pt_val (pe_callB call_isi (by rfl) T.b_isinstance (by decide +kernel) (pa_cons (pv 3) (pa_cons (pe_bltn (v := .ty "bool") (by rfl) T.b_bool (by decide +kernel) rfl) pa_nil))))) (pw_or1 (pt_cmpR op_ne (pv 3) (pv 1) (nomark _)))).pt
          (pss_one (ps_ret pe_bl))
          pss_nil))))
      (pss_one (ps_ret pe_bl))), ?_⟩
  walk_at "go"
  refine forR (fun i σ' H' => H' = H ∧ (∃ y z, σ' = [some v, some (.bl b), y, z]) ∧ (0 < i → nameOk v = b)) ⟨rfl, ⟨_, _, rfl⟩, fun h => absurd h (by decide)⟩ ?_ ?_
  · rintro i σ' H' hi ⟨rfl, ⟨y, z, rfl⟩, ha⟩
    walk_at "go"
    refine u_is_name hv ?_
    walk_at "go"
    refine w_ite (fun h1 => ?_) (fun h1 => ?_)
    · walk_at "go"
      have e : (nameOk v == b) = false := by
        simpa using h1
      rw [e] at q
      exact q
    · walk_at "go"
      exact ⟨rfl, ⟨_, _, rfl⟩, fun _ => by simpa using h1⟩
  · rintro σ' H' ⟨rfl, ⟨y, z, rfl⟩, ha⟩
    walk_at "go"
    have e : (nameOk v == b) = true := by
      rw [ha (by decide)]
      exact beq_self_eq_true b
    rw [e] at q
    exact q
abbrev s_l_text : Stmt := topS 7
theorem sc_l_text : FnScope ["_law_cell_here", "_law_letters", "_law_text_here", "_law_k", "_law_at", "_law_odds", "_law_odd", "_law_way"] ["_law_cell_here"] (defScope s_l_text) := ⟨rfl, rfl, rfl, by decide +kernel, rfl, by decide +kernel, by decide +kernel⟩
def sp_l_text (K : PySem.W.Frag) : Sp := fun vs H Q _ => ∃ (c : Int), vs = [.int c] ∧ ∀ H' z, z.length ≤ 30 → Same H H' → Q (.str z) H'
theorem ok_l_text {f : Addr} {fd : FuncData} (F : Fun K "_law_text" "_law_text" s_l_text f fd) (T : Txt K mg) {f_l_mix : Addr} {fd_l_mix : FuncData} (D_l_mix : Dk P w K mg base CX0 1 f_l_mix fd_l_mix "_law_mix" ["_law_cell_here", "_law_turn", "_law_many"] [] (sp_l_mix K)) : FnOk P w K mg base CX0 2 f fd ["_law_cell_here"] (sp_l_text K) := by
  refine F.ok sc_l_text (fun vs H Q E h => ?_) (fun cdv A outer s H vs Q E hr h => ?_)
  · (first | (obtain ⟨_, rfl, _⟩ := h; rfl) | (obtain ⟨_, _, rfl, _⟩ := h; rfl) | (obtain ⟨_, _, _, rfl, _⟩ := h; rfl) | (obtain ⟨_, _, _, _, rfl, _⟩ := h; rfl) | (obtain ⟨_, _, _, _, _, rfl, _⟩ := h; rfl) | (obtain ⟨_, _, _, _, _, _, rfl, _⟩ := h; rfl) | (obtain ⟨_, _, _, _, _, _, _, rfl, _⟩ := h; rfl) | (obtain ⟨_, _, _, _, _, _, _, _, rfl, _⟩ := h; rfl) | (obtain ⟨_, _, _, _, _, _, _, _, _, rfl, _⟩ := h; rfl) | (obtain ⟨_, _, _, _, _, _, _, _, _, _, rfl, _⟩ := h; rfl))
  obtain ⟨c, rfl, q⟩ := h
  refine ⟨_, (pss_cons (ps_set (i := 1) sc_l_text.nd rfl (Or.inl rfl) pe_str)
      (pss_cons (ps_set (i := 2) sc_l_text.nd rfl (Or.inl rfl) pe_str)
      (pss_cons (ps_for PassesOwn.never rfl (pi_range1 rfl T.b_range (pa_cons (pe_call D_l_mix.F (hr.mono (by decide)) (by rfl) D_l_mix.g D_l_mix.kp D_l_mix.b .nil pass0 (pa_cons (pv 0) (pa_cons pe_int (pa_cons pe_int pa_nil)))) pa_nil)) (pg_name (i := 3) sc_l_text.nd rfl (Or.inl rfl))
        (pss_one (ps_set (i := 2) sc_l_text.nd rfl (Or.inl rfl) (pe_op op_addS (pv 2) (pe_ix ix_str (pv 1) (pe_call D_l_mix.F (hr.mono (by decide)) (by rfl) D_l_mix.g D_l_mix.kp D_l_mix.b .nil pass0 (pa_cons (pv 0) (pa_cons (pe_op op_add pe_int (pv 3)) (pa_cons pe_int pa_nil)))) (fun _ _ => rfl))))))
      (pss_cons (ps_set (i := 4) sc_l_text.nd rfl (Or.inl rfl) (pe_call D_l_mix.F (hr.mono (by decide)) (by rfl) D_l_mix.g D_l_mix.kp D_l_mix.b .nil pass0 (pa_cons (pv 0) (pa_cons pe_int (pa_cons (pe_op op_add (pe_callB call_lenS (by rfl) T.b_len PySem.boot_len (pa_cons (pv 2) pa_nil)) pe_int) pa_nil)))))
      (pss_cons (ps_set (i := 5) sc_l_text.nd rfl (Or.inl rfl) pe_str)
      (pss_cons (ps_set (i := 6) sc_l_text.nd rfl (Or.inl rfl) (pe_ix ix_str (pv 5) (pe_call D_l_mix.F (hr.mono (by decide)) (by rfl) D_l_mix.g D_l_mix.kp D_l_mix.b .nil pass0 (pa_cons (pv 0) (pa_cons pe_int (pa_cons (pe_callB call_lenS (by rfl) T.b_len PySem.boot_len (pa_cons (pv 5) pa_nil)) pa_nil)))) (fun _ _ => rfl)))
      (pss_cons (ps_set (i := 7) sc_l_text.nd rfl (Or.inl rfl) (pe_call D_l_mix.F (hr.mono (by decide)) (by rfl) D_l_mix.g D_l_mix.kp D_l_mix.b .nil pass0 (pa_cons (pv 0) (pa_cons pe_int (pa_cons pe_int pa_nil)))))
      (pss_cons (ps_if (pt_cmpR op_eq (pv 7) pe_int (nomark _))
        (pss_one (ps_ret (pe_op op_addS (pe_op op_addS (pe_slice sl_str (pv 2) po_none (po_some (pv 4))) (pv 6)) (pe_slice sl_str (pv 2) (po_some (pe_op op_add (pv 4) pe_int)) po_none))))
        pss_nil)
      (pss_cons (ps_if (pt_cmpR op_eq (pv 7) pe_int (nomark _))
        (pss_one (ps_ret (pe_op op_addS (pe_op op_addS (pe_slice sl_str (pv 2) po_none (po_some (pv 4))) (pv 6)) (pe_slice sl_str (pv 2) (po_some (pv 4)) po_none))))
        pss_nil)
      (pss_one (ps_ret (pv 2)))))))))))), ?_⟩
  walk_at "go"
  have m0 : 0 ≤ mix c 0 12 ∧ mix c 0 12 < 12 := ⟨mix_nn (by decide), mix_lt (by decide)⟩
  walk_at "go"
  rename_i H0 s0
  refine forR (fun i σ' H' => Same H H' ∧ ∃ (z : Str) (y : Option V), z.length ≤ i ∧ σ' = [some (.int c), some (.str "abcdefghijklmnopqrstuvwxyz"), some (.str z), y, none, none, none, none]) ⟨s0, Str.ofString "", _, Nat.le_refl 0, rfl⟩ ?_ ?_
  · rintro i σ' H' hi ⟨s1, z, y, hz, rfl⟩
    walk_at "go"
    have m1 : 0 ≤ mix c (1 + (0 + (i : Int))) 26 ∧ mix c (1 + (0 + (i : Int))) 26 < 26 := ⟨mix_nn (by decide), mix_lt (by decide)⟩
    obtain ⟨k, hk⟩ := abc_at m1.1 m1.2
    refine w_ixS (by decide) (atI_of m1.1 hk) ?_
    walk_at "go"
    refine w_addS (by rw [slen_one]; walk_at "sz") ?_
    walk_at "go"
    exact ⟨by walk_at "same", _, _, by rw [slen_app, slen_one]; omega, rfl⟩
  · rintro σ' H' ⟨s1, z, y, hz, rfl⟩
    have hz' : z.length ≤ 12 := by omega
    walk_at "go"
    obtain ⟨k, hk⟩ := str_at (z := Str.ofString " !\"#$&'()*+,-./0123456789:;<=>?@ABCDEFGHIJKLMNOPQRSTUVWXYZ[\\]^_```{{{|}~\t\n") (i := mix c 13 ((Str.ofString " !\"#$&'()*+,-./0123456789:;<=>?@ABCDEFGHIJKLMNOPQRSTUVWXYZ[\\]^_```{{{|}~\t\n").length : Int)) (mix_nn (by decide +kernel)) (mix_lt (by decide +kernel))
    refine w_ixS (by decide +kernel) (atI_of (mix_nn (by decide +kernel)) hk) ?_
    walk_at "go"
    refine w_ite (fun h1 => ?_) (fun h1 => ?_)
    · walk_at "go"
      have h2 := cutS_length z none (some (mix c 12 (↑z.length + 1)))
      have h3 := cutS_length z (some (mix c 12 (↑z.length + 1) + 1)) none
      refine w_addS (by rw [slen_one]; walk_at "sz") ?_
      walk_at "go"
      refine w_addS (by rw [slen_app, slen_one]; walk_at "sz") ?_
      refine q _ _ (by rw [slen_app, slen_app, slen_one]; omega) ?_
      walk_at "same"
    · walk_at "go"
      refine w_ite (fun h1 => ?_) (fun h1 => ?_)
      · walk_at "go"
        have h2 := cutS_length z none (some (mix c 12 (↑z.length + 1)))
        have h3 := cutS_length z (some (mix c 12 (↑z.length + 1))) none
        refine w_addS (by rw [slen_one]; walk_at "sz") ?_
        walk_at "go"
        refine w_addS (by rw [slen_app, slen_one]; walk_at "sz") ?_
        refine q _ _ (by rw [slen_app, slen_app, slen_one]; omega) ?_
        walk_at "same"
      · walk_at "go"
        refine q _ _ (by omega) ?_
        walk_at "same"
theorem u_says {v : V} {b : Bool} {H : Hp} {Q : VK} {E : XK} (hv : Kd K H v) (e : nameOk v = b) (q : Q (.bl true) H) : sp_l_says K ([v, .bl b] ++ []) H Q E := ⟨v, b, rfl, hv, by
  rw [e, beq_self_eq_true]
  exact q⟩
theorem kd_str {H : Hp} {z : Str} (h : z.length ≤ 100000) : Kd K H (.str z) := ⟨_, .base (.str z), kit_ty (r := true) (by decide +kernel), fun _ e => by
  cases e
  exact h⟩
theorem kd_lst {H : Hp} {a : Addr} {xs : List V} (h : H a = some (.lst xs)) : Kd K H (.ref a) := ⟨_, .base (.lst h), kit_ty (r := false) (by decide +kernel), fun _ e => by cases e⟩
theorem kd_tup {H : Hp} {a : Addr} {xs : List V} (h : H a = some (.tup xs)) : Kd K H (.ref a) := ⟨_, .base (.tup h), kit_ty (r := false) (by decide +kernel), fun _ e => by cases e⟩
theorem kd_dK {H : Hp} {a : Addr} {xs : List (Key × V)} (h : H a = some (.dK xs)) : Kd K H (.ref a) := ⟨_, .base (.dK h), kit_ty (r := false) (by decide +kernel), fun _ e => by cases e⟩
theorem kd_non {H : Hp} : Kd K H .non := ⟨_, .base .non, kit_ty (r := false) (by decide +kernel), fun _ e => by cases e⟩
theorem kd_bl {H : Hp} {b : Bool} : Kd K H (.bl b) := ⟨_, .base (.bl b), kit_ty (r := false) (by decide +kernel), fun _ e => by cases e⟩
theorem kd_int {H : Hp} {b : Int} : Kd K H (.int b) := ⟨_, .base (.int b), kit_ty (r := false) (by decide +kernel), fun _ e => by cases e⟩
theorem name_nl (t : Str) : nameOk (.str (t ++ Str.ofString "\n")) = false := by
  have e : (t ++ Str.ofString "\n").cps.toList.all lower = false := by
    rw [List.all_eq_false]
    exact ⟨10, by rw [sapp_list]; exact List.mem_append_right _ (by decide +kernel), by decide⟩
  show (decide _ && (decide _ && _)) = false
  rw [e, Bool.and_false, Bool.and_false]
abbrev s_law : Stmt := topS 10
theorem sc_law : FnScope ["_law_script", "_law_cell_here", "_law_text_here", "_law_thing", "_law_things"] ["_law_script"] (defScope s_law) := ⟨rfl, rfl, rfl, by decide +kernel, rfl, by decide +kernel, by decide +kernel⟩
theorem ok_law {f : Addr} {fd : FuncData} (F : Fun K "law" "law" s_law f fd) (T : Txt K mg) {f_l_text : Addr} {fd_l_text : FuncData} (D_l_text : Dk P w K mg base CX0 2 f_l_text fd_l_text "_law_text" ["_law_cell_here"] [] (sp_l_text K)) {f_l_due : Addr} {fd_l_due : FuncData} (D_l_due : Dk P w K mg base CX0 1 f_l_due fd_l_due "_law_due" ["_law_text_here"] [] (sp_l_due K)) {f_l_says : Addr} {fd_l_says : FuncData} (D_l_says : Dk P w K mg base CX0 2 f_l_says fd_l_says "_law_says" ["_law_thing", "_law_due_here"] [] (sp_l_says K)) {f_l_mix : Addr} {fd_l_mix : FuncData} (D_l_mix : Dk P w K mg base CX0 1 f_l_mix fd_l_mix "_law_mix" ["_law_cell_here", "_law_turn", "_law_many"] [] (sp_l_mix K)) : FnOk P w K mg base CX0 3 f fd ["_law_script"] (sp_law K) := by
  refine F.ok sc_law (fun vs H Q E h => ?_) (fun cdv A outer s H vs Q E hr h => ?_)
  · (first | (obtain ⟨_, rfl, _⟩ := h; rfl) | (obtain ⟨_, _, rfl, _⟩ := h; rfl) | (obtain ⟨_, _, _, rfl, _⟩ := h; rfl) | (obtain ⟨_, _, _, _, rfl, _⟩ := h; rfl) | (obtain ⟨_, _, _, _, _, rfl, _⟩ := h; rfl) | (obtain ⟨_, _, _, _, _, _, rfl, _⟩ := h; rfl) | (obtain ⟨_, _, _, _, _, _, _, rfl, _⟩ := h; rfl) | (obtain ⟨_, _, _, _, _, _, _, _, rfl, _⟩ := h; rfl) | (obtain ⟨_, _, _, _, _, _, _, _, _, rfl, _⟩ := h; rfl) | (obtain ⟨_, _, _, _, _, _, _, _, _, _, rfl, _⟩ := h; rfl))
  obtain ⟨a, ns, rfl, hS, hl, q⟩ := h
  refine ⟨_, (pss_cons (ps_for PassesOwn.never rfl (pi_list (pe_op op_cat (pe_slice sl_list (pv 0) po_none (po_some pe_int)) (pe_lst (pa_cons pe_int (pa_cons pe_int (pa_cons pe_int (pa_cons pe_int pa_nil))))))) (pg_name (i := 1) sc_law.nd rfl (Or.inl rfl))
        (pss_cons (ps_set (i := 2) sc_law.nd rfl (Or.inl rfl) (pe_call D_l_text.F (hr.mono (by decide)) (by rfl) D_l_text.g D_l_text.kp D_l_text.b .nil pass0 (pa_cons (pv 1) pa_nil)))
        (pss_cons (ps_if (pw_or (pt_not (pt_val (pe_call D_l_says.F (hr.mono (by decide)) (by rfl) D_l_says.g D_l_says.kp D_l_says.b .nil pass0 (pa_cons (pv 2) (pa_cons (pe_call D_l_due.F (hr.mono (by decide)) (by rfl) D_l_due.g D_l_due.kp D_l_due.b .nil pass0 (pa_cons (pv 2) pa_nil)) pa_nil))))) (pw_or1 (pt_not (pt_val (pe_call D_l_says.F (hr.mono (by decide)) (by rfl) D_l_says.g D_l_says.kp D_l_says.b .nil pass0 (pa_cons (pe_op op_addS (pv 2) pe_str) (pa_cons pe_bl pa_nil))))))).pt
          (pss_one (ps_ret pe_bl))
          pss_nil)
        (pss_cons (ps_set (i := 3) sc_law.nd rfl (Or.inl rfl) (pe_ix ix_list (pe_lst (pa_cons pe_non (pa_cons pe_bl (pa_cons pe_int (pa_cons pe_int (pa_cons (pe_lst (pa_cons pe_str pa_nil)) (pa_cons (pe_tup (pa_cons pe_str (pa_cons pe_str pa_nil))) (pa_cons (pe_disp (pps_cons pe_str pe_int pps_nil) (by rfl) (by rfl) (fun z => by cases z) (by decide)) (pa_cons (pe_lst pa_nil) (pa_cons (pe_un un_neg pe_int) pa_nil)))))))))) (pe_call D_l_mix.F (hr.mono (by decide)) (by rfl) D_l_mix.g D_l_mix.kp D_l_mix.b .nil pass0 (pa_cons (pv 1) (pa_cons pe_int (pa_cons pe_int pa_nil)))) (fun _ _ => rfl)))
        (pss_one (ps_if (pt_not (pt_val (pe_call D_l_says.F (hr.mono (by decide)) (by rfl) D_l_says.g D_l_says.kp D_l_says.b .nil pass0 (pa_cons (pv 3) (pa_cons pe_bl pa_nil)))))
          (pss_one (ps_ret pe_bl))
          pss_nil))))))
      (pss_cons (ps_set (i := 4) sc_law.nd rfl (Or.inl rfl) (pe_lst (pa_cons pe_str pa_nil)))
      (pss_one (ps_ret (pe_and (pe_call D_l_says.F (hr.mono (by decide)) (by rfl) D_l_says.g D_l_says.kp D_l_says.b .nil pass0 (pa_cons (pv 4) (pa_cons pe_bl pa_nil))) (pe_one (pe_cmpR (op_eqD hr.units) (pv 4) (pe_lst (pa_cons pe_str pa_nil)) (nomark _)))))))), ?_⟩
  walk_at "go"
  rename_i p1 H1 n1 s1 h1 p2 H2 n2 s2 h2
  rw [cutV_map] at h1
  refine w_cat (xs := (cut ns none (some 20)).map V.int) (ys := [0, 2, 4, 6].map V.int) (s2 _ _ h1) h2 (small (by rw [List.length_map]; have := cut_len ns none (some 20); simp; omega)) fun p3 H0 n3 s3 h3 => ?_
  rw [← List.map_append] at h3
  have hL : SqL K H0 p3 ((cut ns none (some 20) ++ [0, 2, 4, 6]).map V.int) := Sq_of h3
  refine forL hL (fun i σ' H' => Same H0 H' ∧ ∃ y z x, σ' = [some (.ref a), y, z, x, none]) ⟨Same.refl _, _, _, _, rfl⟩ (fun i σ' H' _ h => Same.seq (K := K) h.1 hL) ?_ ?_
  · rintro i v σ' H' hi ⟨s2, y, z, x, rfl⟩
    obtain ⟨c, _, rfl⟩ := List.mem_map.mp (List.mem_of_getElem? hi)
    walk_at "go"
    refine ⟨_, rfl, fun H2 t ht s3 => ?_⟩
    walk_at "go"
    refine ⟨_, rfl, by omega, fun H3 s4 => ?_⟩
    walk_at "go"
    refine u_says (kd_str (by omega)) rfl ?_
    walk_at "go"
    refine w_addS (by rw [show (Str.ofString "\n").length = 1 from by decide +kernel]; walk_at "sz") ?_
    walk_at "go"
    refine u_says (kd_str (by rw [slen_app, show (Str.ofString "\n").length = 1 from by decide +kernel]; omega)) (name_nl t) ?_
    walk_at "go"
    rename_i p1 G1 n1 t1 h1 p2 G2 n2 t2 h2 p3 G3 n3 t3 h3
    refine w_newD (kvs := [(Sum.inr "ab", V.int 1)]) h3 (by decide) fun G4 k4 h4 => ?_
    have t4 : Same G2 G4 := k4 G2 t3 n3
    walk_at "go"
    rename_i p5 G5 n5 t5 h5 p6 G6 n6 t6 h6 G7 t7
    have t8 : Same G2 G7 := t4.trans (t5.trans (t6.trans t7))
    have m9 : 0 ≤ mix c 15 9 ∧ mix c 15 9 < 9 := ⟨mix_nn (by decide), mix_lt (by decide)⟩
    obtain ⟨v, hv, hk, hn⟩ := pick (xs := [V.non, .bl true, .int 0, .int 7, .ref p1, .ref p2, .ref p3, .ref p5, .int (-1)]) (P := fun v => Kd K G7 v ∧ nameOk v = false) m9.1 m9.2 (by
      intro v hv
      simp only [List.mem_cons, List.not_mem_nil, or_false] at hv
      rcases hv with rfl | rfl | rfl | rfl | rfl | rfl | rfl | rfl | rfl
      · exact ⟨kd_non, rfl⟩
      · exact ⟨kd_bl, rfl⟩
      · exact ⟨kd_int, rfl⟩
      · exact ⟨kd_int, rfl⟩
      · exact ⟨kd_lst (t8 _ _ (t2 _ _ h1)), rfl⟩
      · exact ⟨kd_tup (t8 _ _ h2), rfl⟩
      · exact ⟨kd_dK (t7 _ _ (t6 _ _ (t5 _ _ h4))), rfl⟩
      · exact ⟨kd_lst (t7 _ _ (t6 _ _ h5)), rfl⟩
      · exact ⟨kd_int, rfl⟩)
    refine w_ixL (Sq_of (t7 _ _ h6)) hv ?_
    walk_at "go"
    refine u_says hk hn ?_
    walk_at "go"
    exact ⟨s2.trans (s3.trans (s4.trans (t1.trans (t2.trans t8)))), _, _, _, rfl⟩
  · rintro σ' H' ⟨s2, y, z, x, rfl⟩
    walk_at "go"
    refine u_says (kd_lst ‹_›) rfl ?_
    walk_at "go"
    rename_i p1 G1 n1 t1 h1 p2 G2 n2 t2 h2
    refine ⟨.list [.str "ab"], .list [.str "ab"], .lst (Sq_of (t2 _ _ h1)) (.cons (.str _) .nil), .lst (Sq_of h2) (.cons (.str _) .nil), by decide +kernel, by decide +kernel, ?_⟩
    rw [show PyData.eqv (.list [.str (Str.ofString "ab")]) (.list [.str (Str.ofString "ab")]) = true from by decide +kernel]
    exact q _

end
theorem all_mk {l : PySem.W.OpenLaw} {w : World} {K : PySem.W.Frag} {h : Heap} {mg : Str → Option Value} {fa : Addr} (X : K.In h) (G : h.Ns mainGlobals mg) (hfa : mg "law" = some (.ref fa))
    {f_is_name : Addr} {od_is_name an_is_name : Option Addr} {sl_is_name : Array (Option Value)} {oc_is_name kV_is_name dc_is_name pm_is_name cd_is_name ct_is_name : Value}
    (a_is_name : PySem.W.nsIn K mainGlobals "is_name" = some (some (.ref f_is_name))) (l_is_name : K.lookup f_is_name = some ⟨oc_is_name, od_is_name, .func (PySem.W.fnOf "is_name" "is_name" (defArgs s_is_name) (defBody s_is_name) (defScope s_is_name) .none kV_is_name dc_is_name pm_is_name an_is_name cd_is_name ct_is_name), sl_is_name⟩) (c_is_name : PySem.W.codeIn K cd_is_name "is_name" = true) (k_is_name : PySem.W.keepIn K (.ref f_is_name) = true)
    {f_l_mix : Addr} {od_l_mix an_l_mix : Option Addr} {sl_l_mix : Array (Option Value)} {oc_l_mix kV_l_mix dc_l_mix pm_l_mix cd_l_mix ct_l_mix : Value}
    (a_l_mix : PySem.W.nsIn K mainGlobals "_law_mix" = some (some (.ref f_l_mix))) (l_l_mix : K.lookup f_l_mix = some ⟨oc_l_mix, od_l_mix, .func (PySem.W.fnOf "_law_mix" "_law_mix" (defArgs s_l_mix) (defBody s_l_mix) (defScope s_l_mix) .none kV_l_mix dc_l_mix pm_l_mix an_l_mix cd_l_mix ct_l_mix), sl_l_mix⟩) (c_l_mix : PySem.W.codeIn K cd_l_mix "_law_mix" = true) (k_l_mix : PySem.W.keepIn K (.ref f_l_mix) = true)
    {f_l_due : Addr} {od_l_due an_l_due : Option Addr} {sl_l_due : Array (Option Value)} {oc_l_due kV_l_due dc_l_due pm_l_due cd_l_due ct_l_due : Value}
    (a_l_due : PySem.W.nsIn K mainGlobals "_law_due" = some (some (.ref f_l_due))) (l_l_due : K.lookup f_l_due = some ⟨oc_l_due, od_l_due, .func (PySem.W.fnOf "_law_due" "_law_due" (defArgs s_l_due) (defBody s_l_due) (defScope s_l_due) .none kV_l_due dc_l_due pm_l_due an_l_due cd_l_due ct_l_due), sl_l_due⟩) (c_l_due : PySem.W.codeIn K cd_l_due "_law_due" = true) (k_l_due : PySem.W.keepIn K (.ref f_l_due) = true)
    {f_l_says : Addr} {od_l_says an_l_says : Option Addr} {sl_l_says : Array (Option Value)} {oc_l_says kV_l_says dc_l_says pm_l_says cd_l_says ct_l_says : Value}
    (a_l_says : PySem.W.nsIn K mainGlobals "_law_says" = some (some (.ref f_l_says))) (l_l_says : K.lookup f_l_says = some ⟨oc_l_says, od_l_says, .func (PySem.W.fnOf "_law_says" "_law_says" (defArgs s_l_says) (defBody s_l_says) (defScope s_l_says) .none kV_l_says dc_l_says pm_l_says an_l_says cd_l_says ct_l_says), sl_l_says⟩) (c_l_says : PySem.W.codeIn K cd_l_says "_law_says" = true) (k_l_says : PySem.W.keepIn K (.ref f_l_says) = true)
    {f_l_text : Addr} {od_l_text an_l_text : Option Addr} {sl_l_text : Array (Option Value)} {oc_l_text kV_l_text dc_l_text pm_l_text cd_l_text ct_l_text : Value}
    (a_l_text : PySem.W.nsIn K mainGlobals "_law_text" = some (some (.ref f_l_text))) (l_l_text : K.lookup f_l_text = some ⟨oc_l_text, od_l_text, .func (PySem.W.fnOf "_law_text" "_law_text" (defArgs s_l_text) (defBody s_l_text) (defScope s_l_text) .none kV_l_text dc_l_text pm_l_text an_l_text cd_l_text ct_l_text), sl_l_text⟩) (c_l_text : PySem.W.codeIn K cd_l_text "_law_text" = true) (k_l_text : PySem.W.keepIn K (.ref f_l_text) = true)
    {f_law : Addr} {od_law an_law : Option Addr} {sl_law : Array (Option Value)} {oc_law kV_law dc_law pm_law cd_law ct_law : Value}
    (a_law : PySem.W.nsIn K mainGlobals "law" = some (some (.ref f_law))) (l_law : K.lookup f_law = some ⟨oc_law, od_law, .func (PySem.W.fnOf "law" "law" (defArgs s_law) (defBody s_law) (defScope s_law) .none kV_law dc_law pm_law an_law cd_law ct_law), sl_law⟩) (c_law : PySem.W.codeIn K cd_law "law" = true) (k_law : PySem.W.keepIn K (.ref f_law) = true)
    (z_str : PySem.W.nsIn K mainGlobals "str" = some none)
    (z_isinstance : PySem.W.nsIn K mainGlobals "isinstance" = some none)
    (z_len : PySem.W.nsIn K mainGlobals "len" = some none)
    (z_range : PySem.W.nsIn K mainGlobals "range" = some none)
    (z_all : PySem.W.nsIn K mainGlobals "all" = some none)
    (z_bool : PySem.W.nsIn K mainGlobals "bool" = some none)
    {t_LONGEST : Tok} (y_LONGEST : PySem.W.nsIn K mainGlobals "LONGEST" = some (some (.int 8 t_LONGEST)))
    {t_LETTERS : Tok} (y_LETTERS : PySem.W.nsIn K mainGlobals "LETTERS" = some (some (.str "abcdefghijklmnopqrstuvwxyz" t_LETTERS))) :
    ∃ fd : FuncData, (∀ (s : Shared) (v : Value), BindsTo s fd ⟨[v], []⟩ [("_law_script", v)]) ∧ ∀ base : Heap, K.In base → base.Ns mainGlobals mg → FnOk l.prog w K mg base CX0 3 fa fd ["_law_script"] (sp_law K) := by
  have e := hfa.symm.trans (PySem.W.mg_of X G a_law)
  cases e
  have T : Txt K mg := ⟨PySem.W.mg_none_of X G z_str, PySem.W.mg_none_of X G z_isinstance, PySem.W.mg_none_of X G z_len, PySem.W.mg_none_of X G z_range, PySem.W.mg_none_of X G z_all, PySem.W.mg_none_of X G z_bool, ⟨_, PySem.W.mg_of X G y_LONGEST⟩, ⟨_, PySem.W.mg_of X G y_LETTERS⟩⟩
  have F_is_name := fun_mk (st := s_is_name) l_is_name c_is_name k_is_name
  have B_is_name := F_is_name.binds (ps := ["thing"]) fun _ _ _ _ _ _ us hl => match us, hl with | [_], _ => rfl
  have F_l_mix := fun_mk (st := s_l_mix) l_l_mix c_l_mix k_l_mix
  have B_l_mix := F_l_mix.binds (ps := ["_law_cell_here", "_law_turn", "_law_many"]) fun _ _ _ _ _ _ us hl => match us, hl with | [_, _, _], _ => rfl
  have F_l_due := fun_mk (st := s_l_due) l_l_due c_l_due k_l_due
  have B_l_due := F_l_due.binds (ps := ["_law_text_here"]) fun _ _ _ _ _ _ us hl => match us, hl with | [_], _ => rfl
  have F_l_says := fun_mk (st := s_l_says) l_l_says c_l_says k_l_says
  have B_l_says := F_l_says.binds (ps := ["_law_thing", "_law_due_here"]) fun _ _ _ _ _ _ us hl => match us, hl with | [_, _], _ => rfl
  have F_l_text := fun_mk (st := s_l_text) l_l_text c_l_text k_l_text
  have B_l_text := F_l_text.binds (ps := ["_law_cell_here"]) fun _ _ _ _ _ _ us hl => match us, hl with | [_], _ => rfl
  have F_law := fun_mk (st := s_law) l_law c_law k_law
  refine ⟨PySem.W.fnOf "law" "law" (defArgs s_law) (defBody s_law) (defScope s_law) .none kV_law dc_law pm_law an_law cd_law ct_law, fun s v => .of_eq rfl, fun base _ _ => ?_⟩
  have D_is_name : Dk l.prog w K mg base CX0 1 f_is_name _ "is_name" ["thing"] [] (sp_is_name K) := ⟨(ok_is_name F_is_name T ), PySem.W.mg_of X G a_is_name, F_is_name.kp, B_is_name⟩
  have D_l_mix : Dk l.prog w K mg base CX0 1 f_l_mix _ "_law_mix" ["_law_cell_here", "_law_turn", "_law_many"] [] (sp_l_mix K) := ⟨(ok_l_mix F_l_mix T ), PySem.W.mg_of X G a_l_mix, F_l_mix.kp, B_l_mix⟩
  have D_l_due : Dk l.prog w K mg base CX0 1 f_l_due _ "_law_due" ["_law_text_here"] [] (sp_l_due K) := ⟨(ok_l_due F_l_due T ), PySem.W.mg_of X G a_l_due, F_l_due.kp, B_l_due⟩
  have D_l_says : Dk l.prog w K mg base CX0 2 f_l_says _ "_law_says" ["_law_thing", "_law_due_here"] [] (sp_l_says K) := ⟨(ok_l_says F_l_says T D_is_name), PySem.W.mg_of X G a_l_says, F_l_says.kp, B_l_says⟩
  have D_l_text : Dk l.prog w K mg base CX0 2 f_l_text _ "_law_text" ["_law_cell_here"] [] (sp_l_text K) := ⟨(ok_l_text F_l_text T D_l_mix), PySem.W.mg_of X G a_l_text, F_l_text.kp, B_l_text⟩
  exact (ok_law F_law T D_l_text D_l_due D_l_says D_l_mix)
end Tg
open PySem PySem.W PyProof.Rows
set_option maxHeartbeats 0 in
theorem PySem.Challenge.cw_taglook_k11_names_holds : PySem.Challenge.rw_taglook_k11_names.Holds := by
  w_on; o_law; k_head; (case hw => w_witness2)
  k_fill
  refine L2.walk_of (l := PySem.Challenge.rw_taglook_k11_names) (n := 63) (k := 3) (x := "_law_script") (CX := fun _ => L2.CX0) (sp := fun w => Tg.sp_law _) rfl (by decide) rfl ⟨rfl, by decide, by decide⟩ (fun w h Y => PySem.W.kIn_of Y) ?F (fun _ _ a ns hl ho hS => Tg.law_enter hl hS) (fun _ _ _ _ _ h => h)
  case F =>
    intro w mg fa h KX G hmg
    refine' Tg.all_mk KX G hmg ?a_is_name ?l_is_name ?c_is_name ?k_is_name ?a_l_mix ?l_l_mix ?c_l_mix ?k_l_mix ?a_l_due ?l_l_due ?c_l_due ?k_l_due ?a_l_says ?l_l_says ?c_l_says ?k_l_says ?a_l_text ?l_l_text ?c_l_text ?k_l_text ?a_law ?l_law ?c_law ?k_law ?z_str ?z_isinstance ?z_len ?z_range ?z_all ?z_bool ?y_LONGEST ?y_LETTERS
    (case a_is_name => k_is); (case l_is_name => k_is); (case c_is_name => k_is); (case k_is_name => k_is); (case a_l_mix => k_is); (case l_l_mix => k_is); (case c_l_mix => k_is); (case k_l_mix => k_is); (case a_l_due => k_is); (case l_l_due => k_is); (case c_l_due => k_is); (case k_l_due => k_is); (case a_l_says => k_is); (case l_l_says => k_is); (case c_l_says => k_is); (case k_l_says => k_is); (case a_l_text => k_is); (case l_l_text => k_is); (case c_l_text => k_is); (case k_l_text => k_is); (case a_law => k_is); (case l_law => k_is); (case c_law => k_is); (case k_law => k_is); (case z_str => k_is); (case z_isinstance => k_is); (case z_len => k_is); (case z_range => k_is); (case z_all => k_is); (case z_bool => k_is); (case y_LONGEST => k_is); (case y_LETTERS => k_is)
#print axioms PySem.Challenge.cw_taglook_k11_names_holds
