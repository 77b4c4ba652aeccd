import PyProof.Rows.All
import Wide.All
import OpenK.AllK
import Wide.FinOn
import HandS.ForMost
import HandS.IsInst
import HandS.Style
import HandS.More
import HandS.Strs
import HandS.TupLen
import HandS.Walk
import HandS.Rev
import HandS.Exc
import HandS.TryOnly
import HandS.TryMany
import HandS.ExcInit
import HandS.ExcField
import HandS.ExcIs
import HandS.WordsExc
import HandS.CallSlots
import HandS.Deep
import PySem.Challenge.RW_taglook_k17_rings_looked_at
set_option Elab.async false
set_option linter.all false
set_option maxRecDepth 100000
set_option maxHeartbeats 4000000
/-! The engine: one lemma a reading, so that a body is walked by «refine» alone. -/
namespace Tg
open PySem PySem.Spec L2
section
variable {K : PySem.W.Frag} {σ σ' : St} {H : Hp} {Q : VK} {n b c : St → Hp → Prop} {r : VK} {te ta tb tc : TE} {t u : TS} {tt tu : TT} {v x y : V}
/-! ### statements -/
theorem w_seq (h : t ⟨u ⟨n, r, b, c⟩, r, b, c⟩ σ H) : tSeq t u ⟨n, r, b, c⟩ σ H := h
theorem w_next (h : n σ H) : tNext ⟨n, r, b, c⟩ σ H := h
theorem w_brk (h : b σ H) : tBreak ⟨n, r, b, c⟩ σ H := h
theorem w_cont (h : c σ H) : tCont ⟨n, r, b, c⟩ σ H := h
theorem w_asg {g : TG} (h : te σ H fun x H1 => g x σ H1 n) : tAsg te g ⟨n, r, b, c⟩ σ H := h
theorem w_ret (h : te σ H r) : tRet te ⟨n, r, b, c⟩ σ H := h
theorem w_retN (h : r .non H) : tRetN ⟨n, r, b, c⟩ σ H := h
theorem w_drop (h : te σ H fun _ H1 => n σ H1) : tDrop te ⟨n, r, b, c⟩ σ H := h
theorem w_if (h : tt σ H fun k H1 => if k = true then t ⟨n, r, b, c⟩ σ H1 else u ⟨n, r, b, c⟩ σ H1) : tIfS tt t u ⟨n, r, b, c⟩ σ H := h
theorem w_aug {i : Nat} {ti : TIp} (hx : σ[i]? = some (some x)) (h : te σ H fun y H1 => ti x y H1 fun z H2 => n (σ.set i (some z)) H2) : tAug i te ti ⟨n, r, b, c⟩ σ H := ⟨x, hx, h⟩
theorem w_ipI {f : Int → Int → Int} {i j : Int} (h : Q (.int (f i j)) H) : ipI f (.int i) (.int j) H Q := ⟨i, j, rfl, rfl, h⟩
/-! ### targets -/
theorem w_name {i : Nat} {Qs : St → Hp → Prop} (h : Qs (σ.set i (some v)) H) : gName i v σ H Qs := h
theorem w_gnil {Qs : St → Hp → Prop} (h : Qs σ H) : gNil [] σ H Qs := ⟨rfl, h⟩
theorem w_gcons {g : TG} {gs : TGs} {vs : List V} {Qs : St → Hp → Prop} (h : g v σ H fun σ' H' => gs vs σ' H' Qs) : gCons g gs (v :: vs) σ H Qs := ⟨v, vs, rfl, h⟩
theorem w_gtup {k : Nat} {gs : TGs} {a : Addr} {vs : List V} {Qs : St → Hp → Prop} (hS : SqT K H a vs) (hl : vs.length = k) (h : gs vs σ H Qs) : gTup K k gs (.ref a) σ H Qs := ⟨a, vs, rfl, hS, hl, h⟩
/-! ### values -/
theorem w_var {i : Nat} (hx : σ[i]? = some (some v)) (h : Q v H) : tVar i σ H Q := ⟨v, hx, h⟩
theorem w_c (h : Q v H) : tC v σ H Q := h
theorem w_op {o : R2} (h : ta σ H fun x H1 => tb σ H1 fun y H2 => o x y H2 Q) : tOp o ta tb σ H Q := h
theorem w_un {o : V → Hp → VK → Prop} (h : ta σ H fun x H1 => o x H1 Q) : tUn o ta σ H Q := h
theorem w_rI0 {g : Int → Int → V} {i j : Int} (h : Q (g i j) H) : rI0 g (.int i) (.int j) H Q := ⟨i, j, rfl, rfl, h⟩
theorem w_rI {C : Int → Int → Prop} {g : Int → Int → V} {i j : Int} (hc : C i j) (h : Q (g i j) H) : rI C g (.int i) (.int j) H Q := ⟨i, j, rfl, rfl, hc, h⟩
theorem w_rU {g : Int → V} {i : Int} (h : Q (g i) H) : rU g (.int i) H Q := ⟨i, rfl, h⟩
theorem w_rEq (hs : scal x y = true) (h : Q (.bl (decide (x = y))) H) : rEq x y H Q := ⟨hs, h⟩
theorem w_rNe (hs : scal x y = true) (h : Q (.bl (!decide (x = y))) H) : rNe x y H Q := ⟨hs, h⟩
def NewT (Q : VK) (xs : List V) (H1 : Hp) : Prop := xs.length ≤ sizeLine ∧ ∀ p, H1 p = none → Q (.ref p) (upd H1 p (.tup xs))
def NewL (Q : VK) (xs : List V) (H1 : Hp) : Prop := xs.length ≤ sizeLine ∧ ∀ p, H1 p = none → Q (.ref p) (upd H1 p (.lst xs))
theorem w_tup {ts : TA} (h : ts σ H fun xs H1 => NewT Q xs H1) : tTup ts σ H Q := h
theorem w_lst {ts : TA} (h : ts σ H fun xs H1 => NewL Q xs H1) : tLst ts σ H Q := h
theorem same_upd {H : Hp} {p : Addr} {o : HO} (h : H p = none) : Same H (upd H p o) := fun b x e => by
  rw [upd_ne (ne_of_none e h)]
  exact e
/-- a new object: the heap behind is any that keeps what was and has it -/
theorem w_newT {xs : List V} (h1 : xs.length ≤ sizeLine) (h : ∀ p H', H p = none → Same H H' → H' p = some (.tup xs) → Q (.ref p) H') : NewT Q xs H := ⟨h1, fun p np => h p _ np (same_upd np) upd_same⟩
theorem w_newL {xs : List V} (h1 : xs.length ≤ sizeLine) (h : ∀ p H', H p = none → Same H H' → H' p = some (.lst xs) → Q (.ref p) H') : NewL Q xs H := ⟨h1, fun p np => h p _ np (same_upd np) upd_same⟩
theorem w_ifE (h : tt σ H fun k H1 => if k = true then ta σ H1 Q else tb σ H1 Q) : tIf tt ta tb σ H Q := h
theorem w_andV (h : ta σ H fun x H1 => ∃ k, x = .bl k ∧ if k = true then tb σ H1 Q else Q (.bl false) H1) : tAndV ta tb σ H Q := h
theorem w_orV (h : ta σ H fun x H1 => ∃ k, x = .bl k ∧ if k = true then Q (.bl true) H1 else tb σ H1 Q) : tOrV ta tb σ H Q := h
theorem w_notV (h : ta σ H fun x H1 => ∃ k, x = .bl k ∧ Q (.bl (!k)) H1) : tNotV ta σ H Q := h
theorem w_bl {k : Bool} {P : Bool → Prop} (h : P k) : ∃ k', V.bl k = .bl k' ∧ P k' := ⟨k, rfl, h⟩
theorem w_ixL {p : Addr} {xs : List V} {i : Int} (hS : SqL K H p xs) (ha : atI xs i = some v) (h : Q v H) : rIxL K (.ref p) (.int i) H Q := ⟨p, xs, i, v, rfl, rfl, hS, ha, h⟩
theorem w_ixT {p : Addr} {xs : List V} {i : Int} (hS : SqT K H p xs) (ha : atI xs i = some v) (h : Q v H) : rIxT K (.ref p) (.int i) H Q := ⟨p, xs, i, v, rfl, rfl, hS, ha, h⟩
theorem w_ixS {z : Str} {i : Int} {c : Nat} (hl : z.length ≤ sizeLine) (ha : atI z.cps.toList i = some c) (h : Q (.str ⟨#[c]⟩) H) : rIxS (.str z) (.int i) H Q := ⟨z, i, c, rfl, rfl, hl, ha, h⟩
theorem w_fld {f : Str} (h : ta σ H fun x H1 => ∃ a C dx fs v, x = .ref a ∧ H1 a = some (.ins C dx fs) ∧ Cls K C ∧ NoAttr K C f ∧ fs.lookup f = some v ∧ Q v H1) : tFld K ta f σ H Q := h
theorem w_ins {a C dx : Addr} {fs : List (Str × V)} {f : Str} (hp : H a = some (.ins C dx fs)) (hc : Cls K C) (hn : NoAttr K C f) (hl : fs.lookup f = some v) (h : Q v H) :
    ∃ a' C dx fs v', V.ref a = .ref a' ∧ H a' = some (.ins C dx fs) ∧ Cls K C ∧ NoAttr K C f ∧ fs.lookup f = some v' ∧ Q v' H := ⟨a, C, dx, fs, v, rfl, hp, hc, hn, hl, h⟩
/-! ### slices -/
theorem w_sl {o : V → Option Int → Option Int → Hp → VK → Prop} {tl th : TO} (h : te σ H fun x H1 => tl σ H1 fun l H2 => th σ H2 fun u H3 => o x l u H3 Q) : tSl o te tl th σ H Q := h
theorem w_nopart {Qo : Option Int → Hp → Prop} (h : Qo none H) : tNoPart σ H Qo := h
theorem w_part {Qo : Option Int → Hp → Prop} (h : te σ H fun x H1 => ∃ i, x = .int i ∧ Qo (some i) H1) : tPart te σ H Qo := h
theorem w_int {i : Int} {P : Int → Prop} (h : P i) : ∃ i', V.int i = .int i' ∧ P i' := ⟨i, rfl, h⟩
theorem w_str {z : Str} {P : Str → Prop} (h : P z) : ∃ z', V.str z = .str z' ∧ P z' := ⟨z, rfl, h⟩
theorem w_slL {a : Addr} {xs : List V} {lo hi : Option Int} (hS : SqL K H a xs) (h : ∀ p H', H p = none → Same H H' → H' p = some (.lst (cutV xs lo hi)) → Q (.ref p) H') : rSlL K (.ref a) lo hi H Q := ⟨a, xs, rfl, hS, fun p np => h p _ np (same_upd np) upd_same⟩
theorem w_slS {z : Str} {lo hi : Option Int} (hl : z.length ≤ sizeLine) (h : Q (.str (cutS z lo hi)) H) : rSlS (.str z) lo hi H Q := ⟨z, rfl, hl, h⟩
/-! ### tests -/
theorem w_test (h : te σ H fun x H' => ∃ k, x = .bl k ∧ Q (.bl k) H') : te σ H fun x H' => ∃ k, x = .bl k ∧ Q (.bl k) H' := h
theorem w_tTest {Qb : Bool → Hp → Prop} (h : te σ H fun x H' => ∃ k, x = .bl k ∧ Qb k H') : tTest te σ H Qb := h
theorem w_tB {Qb : Bool → Hp → Prop} (h : te σ H fun x H' => ∃ k, x = .bl k ∧ Qb k H') : tB te σ H Qb := h
theorem w_tAnd {Qb : Bool → Hp → Prop} (h : tt σ H fun k H1 => if k = true then tu σ H1 Qb else Qb false H1) : tAnd tt tu σ H Qb := h
theorem w_tOr {Qb : Bool → Hp → Prop} (h : tt σ H fun k H1 => if k = true then Qb true H1 else tu σ H1 Qb) : tOr tt tu σ H Qb := h
theorem w_tNot {Qb : Bool → Hp → Prop} (h : tt σ H fun k H1 => Qb (!k) H1) : tNot tt σ H Qb := h
theorem w_chain {o o' : R2} (h : ta σ H fun x H1 => tb σ H1 fun y H2 => o x y H2 fun z H3 => ∃ k, z = .bl k ∧ (if k = true then tc σ H3 fun w' H4 => o' y w' H4 Q else Q (.bl false) H3)) : tChain o o' ta tb tc σ H Q := h
theorem w_isN (h : ta σ H fun x H1 => Q (.bl (decide (x = .non))) H1) : tIsN ta σ H Q := h
theorem w_notN (h : ta σ H fun x H1 => Q (.bl (!decide (x = .non))) H1) : tNotN ta σ H Q := h
theorem w_ite {k : Bool} {A B : Prop} (h1 : k = true → A) (h2 : k = false → B) : if k = true then A else B := by
  cases k
  · rw [if_neg Bool.false_ne_true]; exact h2 rfl
  · rw [if_pos rfl]; exact h1 rfl
theorem w_iteT {k : Bool} {A B : Prop} (e : k = true) (h : A) : if k = true then A else B := by rw [if_pos e]; exact h
theorem w_iteF {k : Bool} {A B : Prop} (e : k = false) (h : B) : if k = true then A else B := by rw [e, if_neg Bool.false_ne_true]; exact h
/-! ### calls -/
theorem w_nil {Qa : List V → Hp → Prop} (h : Qa [] H) : tNil σ H Qa := h
theorem w_cons {tr : TA} {Qa : List V → Hp → Prop} (h : ta σ H fun x H1 => tr σ H1 fun xs H2 => Qa (x :: xs) H2) : tCons ta tr σ H Qa := h
theorem w_call {sp : Sp} {dvs : List V} {E : XK} {ts : TA} (h : ts σ H fun vs H1 => sp (vs ++ dvs) H1 Q E) : tCall sp dvs E ts σ H Q := h
theorem w_cb {o : List V → Hp → VK → Prop} {ts : TA} (h : ts σ H fun vs H1 => o vs H1 Q) : tCB o ts σ H Q := h
theorem w_meth {C a dx : Addr} {m : Str} {sp : Sp} {dvs : List V} {E : XK} {ts : TA} {fs : List (Str × V)} (h : ta σ H fun x H1 => ∃ a dx fs, x = .ref a ∧ H1 a = some (.ins C dx fs) ∧ fs.lookup m = none ∧ ts σ H1 fun vs H2 => sp (x :: (vs ++ dvs)) H2 Q E) :
    tMeth C m sp dvs E ta ts σ H Q := h
theorem w_bm {T : String} {o : V → List V → Hp → VK → Prop} {ts : TA} (h : ta σ H fun x H1 => tyV K T x H1 ∧ ts σ H1 fun xs H2 => o x xs H2 Q) : tBM K T o ta ts σ H Q := h
theorem w_bm0 {T : String} {o : V → List V → Hp → VK → Prop} (h : ta σ H fun x H1 => tyV K T x H1 ∧ o x [] H1 Q) : tBM0 K T o ta σ H Q := h
/-! ### loops -/
def ForL (K : PySem.W.Frag) (x : V) (g : TG) (tb : TS) (D : Ends) (σ : St) (H : Hp) : Prop := ∃ a, x = .ref a ∧ (∃ xs, SqL K H a xs) ∧ ∃ W : Nat → Nat → St → Hp → Prop, (∃ m, W 0 m σ H) ∧ ∀ i m σ H, W i m σ H →
      ((Itl K a).stop i H ∧ D.nx σ H) ∨ ((Itl K a).go i H ∧ ∃ N : St → Hp → Prop, (∀ σ' H', N σ' H' → ∃ m', m' < m ∧ W (i + 1) m' σ' H') ∧ ∀ x H', (Itl K a).yld i H x H' → g x σ H' fun σ2 H2 => tb { D with nx := N, ct := N, bk := D.nx } σ2 H2)
theorem w_forL {tl : TE} {g : TG} {D : Ends} (h : tl σ H fun x H1 => ForL K x g t D σ H1) : tFor (iList K tl) g t D σ H := h
theorem forL {a : Addr} {xs : List V} {g : TG} (hS : SqL K H a xs) (Pv : Nat → St → Hp → Prop) (h0 : Pv 0 σ H) (hl : ∀ i σ H, i ≤ xs.length → Pv i σ H → SqL K H a xs)
    (hs : ∀ i x σ H, xs[i]? = some x → Pv i σ H → g x σ H fun σ2 H2 => t ⟨Pv (i + 1), r, n, Pv (i + 1)⟩ σ2 H2) (hd : ∀ σ H, Pv xs.length σ H → n σ H) : ForL K (.ref a) g t ⟨n, r, b, c⟩ σ H :=
  ⟨a, rfl, ⟨xs, hS⟩, for_list (K := K) (a := a) (xs := xs) Pv h0 hl hs hd⟩
def ForT (K : PySem.W.Frag) (x : V) (g : TG) (tb : TS) (D : Ends) (σ : St) (H : Hp) : Prop := ∃ a, x = .ref a ∧ (∃ xs, SqT K H a xs) ∧ ∃ W : Nat → Nat → St → Hp → Prop, (∃ m, W 0 m σ H) ∧ ∀ i m σ H, W i m σ H →
      ((Itt K a).stop i H ∧ D.nx σ H) ∨ ((Itt K a).go i H ∧ ∃ N : St → Hp → Prop, (∀ σ' H', N σ' H' → ∃ m', m' < m ∧ W (i + 1) m' σ' H') ∧ ∀ x H', (Itt K a).yld i H x H' → g x σ H' fun σ2 H2 => tb { D with nx := N, ct := N, bk := D.nx } σ2 H2)
theorem w_forT {tl : TE} {g : TG} {D : Ends} (h : tl σ H fun x H1 => ForT K x g t D σ H1) : tFor (iTup K tl) g t D σ H := h
theorem forT {a : Addr} {xs : List V} {g : TG} (hS : SqT K H a xs) (Pv : Nat → St → Hp → Prop) (h0 : Pv 0 σ H) (hl : ∀ i σ H, i ≤ xs.length → Pv i σ H → SqT K H a xs)
    (hs : ∀ i x σ H, xs[i]? = some x → Pv i σ H → g x σ H fun σ2 H2 => t ⟨Pv (i + 1), r, n, Pv (i + 1)⟩ σ2 H2) (hd : ∀ σ H, Pv xs.length σ H → n σ H) : ForT K (.ref a) g t ⟨n, r, b, c⟩ σ H :=
  ⟨a, rfl, ⟨xs, hS⟩, for_tup (K := K) (a := a) (xs := xs) Pv h0 hl hs hd⟩
def ForR (lo : Int) (m : Nat) (g : TG) (tb : TS) (D : Ends) (σ : St) (H : Hp) : Prop := ∃ W : Nat → Nat → St → Hp → Prop, (∃ m, W 0 m σ H) ∧ ∀ i m' σ H, W i m' σ H →
      ((Itr lo m).stop i H ∧ D.nx σ H) ∨ ((Itr lo m).go i H ∧ ∃ N : St → Hp → Prop, (∀ σ' H', N σ' H' → ∃ m'', m'' < m' ∧ W (i + 1) m'' σ' H') ∧ ∀ x H', (Itr lo m).yld i H x H' → g x σ H' fun σ2 H2 => tb { D with nx := N, ct := N, bk := D.nx } σ2 H2)
theorem w_forR1 {ts : TA} {g : TG} {D : Ends} (h : ts σ H fun vs H1 => ∃ j : Int, vs = [.int j] ∧ -(2 ^ 62) ≤ j ∧ j < 2 ^ 62 ∧ ForR 0 j.toNat g t D σ H1) : tFor (iRng1 ts) g t D σ H := h
theorem w_forR2 {ts : TA} {g : TG} {D : Ends} (h : ts σ H fun vs H1 => ∃ i j : Int, vs = [.int i, .int j] ∧ (-(2 ^ 62) ≤ i ∧ i < 2 ^ 62 ∧ -(2 ^ 62) ≤ j ∧ j < 2 ^ 62) ∧ ForR i (j - i).toNat g t D σ H1) : tFor (iRng2 ts) g t D σ H := h
theorem forR {lo : Int} {m : Nat} {g : TG} (Pv : Nat → St → Hp → Prop) (h0 : Pv 0 σ H)
    (hs : ∀ i σ H, i < m → Pv i σ H → g (.int (lo + i)) σ H fun σ2 H2 => t ⟨Pv (i + 1), r, n, Pv (i + 1)⟩ σ2 H2) (hd : ∀ σ H, Pv m σ H → n σ H) : ForR lo m g t ⟨n, r, b, c⟩ σ H :=
  for_range (lo := lo) (n := m) Pv h0 hs hd
def ForS (z : Str) (g : TG) (tb : TS) (D : Ends) (σ : St) (H : Hp) : Prop := ∃ W : Nat → Nat → St → Hp → Prop, (∃ m, W 0 m σ H) ∧ ∀ i m' σ H, W i m' σ H →
      ((Its z).stop i H ∧ D.nx σ H) ∨ ((Its z).go i H ∧ ∃ N : St → Hp → Prop, (∀ σ' H', N σ' H' → ∃ m'', m'' < m' ∧ W (i + 1) m'' σ' H') ∧ ∀ x H', (Its z).yld i H x H' → g x σ H' fun σ2 H2 => tb { D with nx := N, ct := N, bk := D.nx } σ2 H2)
theorem w_forS {tl : TE} {g : TG} {D : Ends} (h : tl σ H fun x H1 => ∃ z, x = .str z ∧ ForS z g t D σ H1) : tFor (iStr tl) g t D σ H := h
theorem forS {z : Str} {g : TG} (Pv : Nat → St → Hp → Prop) (h0 : Pv 0 σ H)
    (hs : ∀ i k σ H, z.cps.toList[i]? = some k → Pv i σ H → g (.str ⟨#[k]⟩) σ H fun σ2 H2 => t ⟨Pv (i + 1), r, n, Pv (i + 1)⟩ σ2 H2) (hd : ∀ σ H, Pv z.cps.toList.length σ H → n σ H) : ForS z g t ⟨n, r, b, c⟩ σ H := by
  refine ⟨fun i m σ H => m = z.cps.size - i ∧ i ≤ z.cps.size ∧ Pv i σ H, ⟨z.cps.size, by simp, Nat.zero_le _, h0⟩, ?_⟩
  rintro i m σ H ⟨rfl, hi, p⟩
  by_cases hlt : i < z.cps.size
  · refine .inr ⟨hlt, Pv (i + 1), fun σ' H' p' => ⟨z.cps.size - (i + 1), by omega, rfl, hlt, p'⟩, fun x H' y => ?_⟩
    obtain ⟨e, k, ek, rfl⟩ := y
    subst e
    exact hs i k σ _ (by rw [Array.getElem?_toList]; exact ek) p
  · have e : i = z.cps.size := by omega
    subst e
    exact .inl ⟨Nat.le_refl _, hd σ H (by rw [Array.length_toList]; exact p)⟩
/-! ### comprehensions -/
def LcL (K : PySem.W.Frag) (x : V) (g : TG) (tt : TT) (te : TE) (vs : List Nat) (σ : St) (H1 : Hp) (Q : VK) : Prop := ∃ a, x = .ref a ∧ (∃ xs, SqL K H1 a xs) ∧ ∀ D, H1 D = none → ∃ W : Nat → Nat → Hp → Prop, (∃ m, W 0 m (upd H1 D (.lst []))) ∧ ∀ i m H, W i m H →
  ((Itl K a).stop i H ∧ Q (.ref D) H) ∨ ((Itl K a).go i H ∧ ∃ Nx : Hp → Prop, (∀ H', Nx H' → ∃ m', m' < m ∧ W (i + 1) m' H') ∧ ∀ x H', (Itl K a).yld i H x H' → g x (wipe σ vs) H' fun σ2 H2 => wipe σ2 vs = wipe σ vs ∧ tt σ2 H2 fun b H3 =>
    if b = true then te σ2 H3 fun y H4 => ∃ acc, H4 D = some (.lst acc) ∧ acc.length < sizeLine ∧ Nx (upd H4 D (.lst (acc ++ [y]))) else Nx H3)
theorem w_lcL {tl : TE} {g : TG} {vs : List Nat} (h : tl σ H fun x H1 => LcL K x g tt te vs σ H1 Q) : tLc (iList K tl) g tt te vs σ H Q := h
theorem lcL {a : Addr} {xs : List V} {g : TG} {vs : List Nat} (hS : SqL K H a xs) (Pv : Addr → Nat → Hp → Prop) (h0 : ∀ D, H D = none → Pv D 0 (upd H D (.lst []))) (hl : ∀ D i H, i ≤ xs.length → Pv D i H → SqL K H a xs)
    (hs : ∀ D i x H, xs[i]? = some x → Pv D i H → g x (wipe σ vs) H fun σ2 H2 => wipe σ2 vs = wipe σ vs ∧ tt σ2 H2 fun b H3 =>
      if b = true then te σ2 H3 fun y H4 => ∃ acc, H4 D = some (.lst acc) ∧ acc.length < sizeLine ∧ Pv D (i + 1) (upd H4 D (.lst (acc ++ [y]))) else Pv D (i + 1) H3) (hd : ∀ D H', H D = none → Pv D xs.length H' → Q (.ref D) H') : LcL K (.ref a) g tt te vs σ H Q :=
  ⟨a, rfl, ⟨xs, hS⟩, fun D hD => lc_list (K := K) (a := a) (xs := xs) (Qd := fun H' => Q (.ref D) H') (Pv D) (h0 D hD) (hl D) (hs D) (fun H' => hd D H' hD)⟩
def LcR (lo : Int) (k : Nat) (g : TG) (tt : TT) (te : TE) (vs : List Nat) (σ : St) (H1 : Hp) (Q : VK) : Prop := ∀ D, H1 D = none → ∃ W : Nat → Nat → Hp → Prop, (∃ m, W 0 m (upd H1 D (.lst []))) ∧ ∀ i m H, W i m H →
  ((Itr lo k).stop i H ∧ Q (.ref D) H) ∨ ((Itr lo k).go i H ∧ ∃ Nx : Hp → Prop, (∀ H', Nx H' → ∃ m', m' < m ∧ W (i + 1) m' H') ∧ ∀ x H', (Itr lo k).yld i H x H' → g x (wipe σ vs) H' fun σ2 H2 => wipe σ2 vs = wipe σ vs ∧ tt σ2 H2 fun b H3 =>
    if b = true then te σ2 H3 fun y H4 => ∃ acc, H4 D = some (.lst acc) ∧ acc.length < sizeLine ∧ Nx (upd H4 D (.lst (acc ++ [y]))) else Nx H3)
theorem w_lcR1 {ts : TA} {g : TG} {vs : List Nat} (h : ts σ H fun ws H1 => ∃ j : Int, ws = [.int j] ∧ -(2 ^ 62) ≤ j ∧ j < 2 ^ 62 ∧ LcR 0 j.toNat g tt te vs σ H1 Q) : tLc (iRng1 ts) g tt te vs σ H Q := h
theorem lcR {lo : Int} {k : Nat} {g : TG} {vs : List Nat} (Pv : Addr → Nat → Hp → Prop) (h0 : ∀ D, H D = none → Pv D 0 (upd H D (.lst [])))
    (hs : ∀ D i H, i < k → Pv D i H → g (.int (lo + i)) (wipe σ vs) H fun σ2 H2 => wipe σ2 vs = wipe σ vs ∧ tt σ2 H2 fun b H3 =>
      if b = true then te σ2 H3 fun y H4 => ∃ acc, H4 D = some (.lst acc) ∧ acc.length < sizeLine ∧ Pv D (i + 1) (upd H4 D (.lst (acc ++ [y]))) else Pv D (i + 1) H3) (hd : ∀ D H', H D = none → Pv D k H' → Q (.ref D) H') : LcR lo k g tt te vs σ H Q :=
  fun D hD => lc_range (Qd := fun H' => Q (.ref D) H') (Pv D) (h0 D hD) (hs D) (fun H' => hd D H' hD)
def LcS (z : Str) (g : TG) (tt : TT) (te : TE) (vs : List Nat) (σ : St) (H1 : Hp) (Q : VK) : Prop := ∀ D, H1 D = none → ∃ W : Nat → Nat → Hp → Prop, (∃ m, W 0 m (upd H1 D (.lst []))) ∧ ∀ i m H, W i m H →
  ((Its z).stop i H ∧ Q (.ref D) H) ∨ ((Its z).go i H ∧ ∃ Nx : Hp → Prop, (∀ H', Nx H' → ∃ m', m' < m ∧ W (i + 1) m' H') ∧ ∀ x H', (Its z).yld i H x H' → g x (wipe σ vs) H' fun σ2 H2 => wipe σ2 vs = wipe σ vs ∧ tt σ2 H2 fun b H3 =>
    if b = true then te σ2 H3 fun y H4 => ∃ acc, H4 D = some (.lst acc) ∧ acc.length < sizeLine ∧ Nx (upd H4 D (.lst (acc ++ [y]))) else Nx H3)
theorem w_lcS {tl : TE} {g : TG} {vs : List Nat} (h : tl σ H fun x H1 => ∃ z, x = .str z ∧ LcS z g tt te vs σ H1 Q) : tLc (iStr tl) g tt te vs σ H Q := by
  have h' : tl σ H fun x H1 => ∃ z, x = .str z ∧ LcS z g tt te vs σ H1 Q := h
  exact h'
theorem lcS {z : Str} {g : TG} {vs : List Nat} (Pv : Addr → Nat → Hp → Prop) (h0 : ∀ D, H D = none → Pv D 0 (upd H D (.lst [])))
    (hs : ∀ D i k H, z.cps.toList[i]? = some k → Pv D i H → g (.str ⟨#[k]⟩) (wipe σ vs) H fun σ2 H2 => wipe σ2 vs = wipe σ vs ∧ tt σ2 H2 fun b H3 =>
      if b = true then te σ2 H3 fun y H4 => ∃ acc, H4 D = some (.lst acc) ∧ acc.length < sizeLine ∧ Pv D (i + 1) (upd H4 D (.lst (acc ++ [y]))) else Pv D (i + 1) H3) (hd : ∀ D H', H D = none → Pv D z.cps.toList.length H' → Q (.ref D) H') : LcS z g tt te vs σ H Q := by
  intro D hD
  refine ⟨fun i m H => m = z.cps.size - i ∧ i ≤ z.cps.size ∧ Pv D i H, ⟨z.cps.size, by simp, Nat.zero_le _, h0 D hD⟩, ?_⟩
  rintro i m H ⟨rfl, hi, p⟩
  by_cases hlt : i < z.cps.size
  · refine .inr ⟨hlt, Pv D (i + 1), fun H' p' => ⟨z.cps.size - (i + 1), by omega, rfl, hlt, p'⟩, fun x H' y => ?_⟩
    obtain ⟨e, k, ek, rfl⟩ := y
    subst e
    exact hs D i k _ (by rw [Array.getElem?_toList]; exact ek) p
  · have e : i = z.cps.size := by omega
    subst e
    exact .inl ⟨Nat.le_refl _, hd D H hD (by rw [Array.length_toList]; exact p)⟩
end
/-! ### heaps -/
theorem same_new {H H1 : Hp} {p : Addr} {o : HO} (s : Same H H1) (h : H1 p = none) : Same H (upd H1 p o) := s.trans (same_upd h)
/-- an object that H does not know may change -/
theorem same_mut {H H1 : Hp} {p : Addr} {o : HO} (s : Same H H1) (h : H p = none) : Same H (upd H1 p o) := fun b x e => by
  rw [upd_ne (ne_of_none e h)]
  exact s b x e
theorem Sq_of {K : PySem.W.Frag} {H : Hp} {a : Addr} {xs : List V} (h : H a = some (.lst xs)) : SqL K H a xs := Or.inl (Or.inl h)
theorem St_of {K : PySem.W.Frag} {H : Hp} {a : Addr} {xs : List V} (h : H a = some (.tup xs)) : SqT K H a xs := Or.inl (Or.inl h)
theorem small {n : Nat} (h : n ≤ 100000) : n ≤ sizeLine := Nat.le_trans h (by decide)
theorem smallL {n : Nat} (h : n < 100000) : n < sizeLine := Nat.lt_of_lt_of_le h (by decide)
theorem same_t {K : PySem.W.Frag} {H H' : Hp} {a : Addr} {xs : List V} (e : Same H H') (h : SqT K H a xs) : SqT K H' a xs := by
  rcases h with (h | ⟨o, h⟩) | h
  · exact .inl (.inl (e _ _ h))
  · exact .inl (.inr ⟨o, e _ _ h⟩)
  · exact .inr h
/-- a def of the text: what a caller is handed -/
structure Dk (P : Program) (w : World) (K : PySem.W.Frag) (mg : Str → Option Value) (base : Heap) (CX : CXT) (k : Nat) (f : Addr) (fd : FuncData) (x : Str) (ps : List Str) (ds : List Value) (sp : Sp) : Prop where
  F : FnOk P w K mg base CX k f fd ps sp
  g : mg x = some (.ref f)
  kp : PySem.W.keepIn K (.ref f) = true
  b : Binds K fd ps ds

section
variable {K : PySem.W.Frag} {H : Hp} {Q : VK} {x y v : V}
theorem w_isi {c : V} {t u : Value} {b : Bool} (k : ClsV c u) (ty : TyX K H x t) (e : PySem.W.kitOne K t u = some b) (h : Q (.bl b) H) : rIsi K [x, c] H Q := ⟨x, c, t, u, b, rfl, k, ty, e, h⟩
/-! rules under names, so that a reading shows which it is -/
def qLenS : List V → Hp → VK → Prop := fun xs H Q => ∃ z, xs = [.str z] ∧ z.length ≤ sizeLine ∧ Q (.int z.length) H
theorem call_lenS {X : Cx} : CallR X (.builtin "len") qLenS := call_len_str
theorem w_lenS {z : Str} (hl : z.length ≤ sizeLine) (h : Q (.int z.length) H) : qLenS [V.str z] H Q := ⟨z, rfl, hl, h⟩
def qLenQ (K : PySem.W.Frag) : List V → Hp → VK → Prop := fun xs H Q => ∃ p ys, xs = [.ref p] ∧ (SqL K H p ys ∨ SqT K H p ys) ∧ Q (.int ys.length) H
theorem call_lenQ {X : Cx} : CallR X (.builtin "len") (qLenQ X.K) := call_len_seq
theorem w_lenL {a : Addr} {xs : List V} (hS : SqL K H a xs) (h : Q (.int xs.length) H) : qLenQ K [V.ref a] H Q := ⟨a, xs, rfl, .inl hS, h⟩
theorem w_lenT {a : Addr} {xs : List V} (hS : SqT K H a xs) (h : Q (.int xs.length) H) : qLenQ K [V.ref a] H Q := ⟨a, xs, rfl, .inr hS, h⟩
def qAddS : R2 := fun x y H Q => ∃ i j, x = .str i ∧ y = .str j ∧ i.length + j.length ≤ sizeLine ∧ Q (.str (i ++ j)) H
theorem op_addS {X : Cx} : OpR X (binaryOp .Add) qAddS := op_add_str
theorem w_addS {a b : Str} (hl : a.length + b.length ≤ sizeLine) (h : Q (.str (a ++ b)) H) : qAddS (.str a) (.str b) H Q := ⟨a, b, rfl, rfl, hl, h⟩
def qInS : R2 := fun x y H Q => ∃ (c : Nat) (z : Str), x = .str ⟨#[c]⟩ ∧ y = .str z ∧ Q (.bl (decide (c ∈ z.cps.toList))) H
theorem op_inSg {X : Cx} : OpR X (compareOp .In) qInS := op_in_sign
theorem w_inS {k : Nat} {z : Str} (h : Q (.bl (decide (k ∈ z.cps.toList))) H) : qInS (.str ⟨#[k]⟩) (.str z) H Q := ⟨k, z, rfl, rfl, h⟩
def qNinS : R2 := fun x y H Q => ∃ (c : Nat) (z : Str), x = .str ⟨#[c]⟩ ∧ y = .str z ∧ Q (.bl (!decide (c ∈ z.cps.toList))) H
theorem op_ninSg {X : Cx} : OpR X (compareOp .NotIn) qNinS := op_notIn_sign
theorem w_ninS {k : Nat} {z : Str} (h : Q (.bl (!decide (k ∈ z.cps.toList))) H) : qNinS (.str ⟨#[k]⟩) (.str z) H Q := ⟨k, z, rfl, rfl, h⟩
def qMin : List V → Hp → VK → Prop := fun xs H Q => ∃ i j, xs = [.int i, .int j] ∧ Q (.int (if j < i then j else i)) H
theorem call_minI {X : Cx} (hc : X.calm = true) : CallR X (.builtin "min") qMin := call_min2 hc
theorem w_min {i j : Int} (h : Q (.int (if j < i then j else i)) H) : qMin [.int i, .int j] H Q := ⟨i, j, rfl, h⟩
def qIntB : List V → Hp → VK → Prop := fun xs H Q => (∃ i, xs = [.int i] ∧ Q (.int i) H) ∨ ∃ k, xs = [.bl k] ∧ Q (.int (if k then 1 else 0)) H
theorem call_intB {X : Cx} : CallR X (.type "int") qIntB := call_int1
theorem w_intB {k : Bool} (h : Q (.int (if k then 1 else 0)) H) : qIntB [.bl k] H Q := .inr ⟨k, rfl, h⟩
def qListOf (K : PySem.W.Frag) : List V → Hp → VK → Prop := fun xs H Q => ∃ p ys, xs = [.ref p] ∧ (SqL K H p ys ∨ SqT K H p ys) ∧ ∀ l, H l = none → Q (.ref l) (upd H l (.lst ys))
theorem call_listQ {X : Cx} : CallR X (.type "list") (qListOf X.K) := call_list_of
theorem w_listL {a : Addr} {xs : List V} (hS : SqL K H a xs) (h : ∀ p H', H p = none → Same H H' → H' p = some (.lst xs) → Q (.ref p) H') : qListOf K [V.ref a] H Q := ⟨a, xs, rfl, .inl hS, fun p np => h p _ np (same_upd np) upd_same⟩
theorem w_listT {a : Addr} {xs : List V} (hS : SqT K H a xs) (h : ∀ p H', H p = none → Same H H' → H' p = some (.lst xs) → Q (.ref p) H') : qListOf K [V.ref a] H Q := ⟨a, xs, rfl, .inr hS, fun p np => h p _ np (same_upd np) upd_same⟩
def qTupOf (K : PySem.W.Frag) : List V → Hp → VK → Prop := fun xs H Q => ∃ p ys, xs = [.ref p] ∧ ((SqL K H p ys ∧ ∀ l, H l = none → Q (.ref l) (upd H l (.tup ys))) ∨ (SqT K H p ys ∧ Q (.ref p) H))
theorem call_tupQ {X : Cx} : CallR X (.type "tuple") (qTupOf X.K) := call_tuple_of
theorem w_tupL {a : Addr} {xs : List V} (hS : SqL K H a xs) (h : ∀ p H', H p = none → Same H H' → H' p = some (.tup xs) → Q (.ref p) H') : qTupOf K [V.ref a] H Q := ⟨a, xs, rfl, .inl ⟨hS, fun p np => h p _ np (same_upd np) upd_same⟩⟩
theorem w_rng1 {j : Int} {P : Int → Prop} (h1 : -(2 ^ 62) ≤ j) (h2 : j < 2 ^ 62) (h : P j) : ∃ j' : Int, [V.int j] = [.int j'] ∧ -(2 ^ 62) ≤ j' ∧ j' < 2 ^ 62 ∧ P j' := ⟨j, rfl, h1, h2, h⟩
theorem w_rng2 {i j : Int} {P : Int → Int → Prop} (h1 : -(2 ^ 62) ≤ i ∧ i < 2 ^ 62 ∧ -(2 ^ 62) ≤ j ∧ j < 2 ^ 62) (h : P i j) : ∃ i' j' : Int, [V.int i, V.int j] = [.int i', .int j'] ∧ (-(2 ^ 62) ≤ i' ∧ i' < 2 ^ 62 ∧ -(2 ^ 62) ≤ j' ∧ j' < 2 ^ 62) ∧ P i' j' := ⟨i, j, rfl, h1, h⟩
theorem w_append {l : Addr} {xs : List V} (hl : H l = some (.lst xs)) (hz : xs.length < sizeLine) (h : Q .non (upd H l (.lst (xs ++ [y])))) : rAppend (.ref l) [y] H Q := ⟨l, xs, y, rfl, rfl, hl, hz, h⟩
theorem w_cat {a b : Addr} {xs ys : List V} (ha : H a = some (.lst xs)) (hb : H b = some (.lst ys)) (hl : xs.length + ys.length ≤ sizeLine) (h : ∀ p H', H p = none → Same H H' → H' p = some (.lst (xs ++ ys)) → Q (.ref p) H') : rCat (.ref a) (.ref b) H Q := ⟨a, b, xs, ys, rfl, rfl, ha, hb, hl, fun p np => h p _ np (same_upd np) upd_same⟩
end
/-! rules with the written part named: within a comprehension it may not be told by the block's own letters -/
section
variable {X : Cx} {K : PySem.W.Frag}
theorem ix_listK (hK : X.K = K) : IxR X (rIxL K) := by subst hK; exact ix_list
theorem ix_tupK (hK : X.K = K) : IxR X (rIxT K) := by subst hK; exact ix_tup
theorem sl_listK (hK : X.K = K) : SlR X (rSlL K) := by subst hK; exact sl_list
theorem op_inK (hK : X.K = K) : OpR X (compareOp .In) (rIn K false) := by subst hK; exact op_in_seq
theorem op_ninK (hK : X.K = K) : OpR X (compareOp .NotIn) (rIn K true) := by subst hK; exact op_notIn_seq
theorem op_eqDK (hK : X.K = K) (hu : X.A.units + 64 < cLine) : OpR X (compareOp .Eq) (rEqD K) := by subst hK; exact op_eqD hu
theorem op_neDK (hK : X.K = K) (hu : X.A.units + 64 < cLine) : OpR X (compareOp .NotEq) (rNeD K) := by subst hK; exact op_neD hu
theorem call_lenK (hK : X.K = K) : CallR X (.builtin "len") (qLenQ K) := by subst hK; exact call_lenQ
theorem call_listK (hK : X.K = K) : CallR X (.type "list") (qListOf K) := by subst hK; exact call_listQ
theorem call_tupK (hK : X.K = K) : CallR X (.type "tuple") (qTupOf K) := by subst hK; exact call_tupQ
theorem call_isiK' (hK : X.K = K) : CallR X (.builtin "isinstance") (rIsi K) := by subst hK; exact call_isi
theorem cr_allK (hK : X.K = K) (hc : X.calm = true) : CallR X (.builtin "all") (rAll K) := by subst hK; exact cr_all hc
theorem cr_anyK (hK : X.K = K) (hc : X.calm = true) : CallR X (.builtin "any") (rAny K) := by subst hK; exact cr_any hc
theorem cr_sortedK (hK : X.K = K) : CallR X (.builtin "sorted") (rSorted K) := by subst hK; exact cr_sorted
theorem cr_sortedSK (hK : X.K = K) : CallR X (.builtin "sorted") (rSortedS K) := by subst hK; exact cr_sortedS
theorem mt_indexK (hK : X.K = K) : MtR X "list.index" (rIndex K) := by subst hK; exact mt_index
variable {tg l e o : Expr} {es : List Expr} {tl te to : TE} {ta : TA} {pos apos cpos p tpos : Pos}
theorem pi_listK (hK : X.K = K) (hl : PE X l tl) : PI X tg l (iList K tl) := by subst hK; exact pi_list hl
theorem pi_tupK (hK : X.K = K) (hl : PE X l tl) : PI X tg l (iTup K tl) := by subst hK; exact pi_tup hl
theorem pe_fldK {f : Str} (hK : X.K = K) (he : PE X e te) (hb : attributeBase e f X.env (eval e X.env) = eval e X.env) : PE X (.Attribute e f pos) (tFld K te f) := by subst hK; exact pe_fld he hb
theorem pe_bmKK {T : String} {name : Str} {id : String} {r : V → List V → Hp → VK → Prop} (hK : X.K = K) (pa : PlainAttrs T) (slot : Slot T name id) (hty : typeOf (.builtin id) = pure (.type "method_descriptor")) (hm : MtR X id r) (ho : PE X o to) (ha : PA X (e :: es) ta)
    (hbase : attributeBase o name X.env (eval o X.env) = eval o X.env := by rfl)
    (hfew : ((backTo cpos (starEach (e :: es) X.env)).all (fun x => !x.1) && (backToKw cpos (keywordEach [] X.env)).all (fun x => x.1.isSome)
      && decide ((e :: es).length + ([] : List Keyword).length + (if ([] : List Keyword).isEmpty then 0 else 1) < 30)) = true := by rfl)
    (hline : (apos.endLine == cpos.line) = true := by rfl) (hs : starEach (e :: es) X.env = (false, eval e X.env) :: starEach es X.env := by rfl) (hplain : (backTo cpos (starEach es X.env)).any (·.1) = false := by rfl) :
    PE X (.Call (.Attribute o name apos) (e :: es) [] cpos) (tBM K T r to ta) := by subst hK; exact pe_bm pa slot hty hm ho ha hbase hfew hline hs hplain
theorem pe_bm0KK {T : String} {name : Str} {id : String} {r : V → List V → Hp → VK → Prop} (hK : X.K = K) (pa : PlainAttrs T) (slot : Slot T name id) (hty : typeOf (.builtin id) = pure (.type "method_descriptor")) (hm : MtR X id r) (ho : PE X o to)
    (hbase : attributeBase o name X.env (eval o X.env) = eval o X.env := by rfl) (hline : (apos.endLine == cpos.line) = true := by rfl) : PE X (.Call (.Attribute o name apos) [] [] cpos) (tBM0 K T r to) := by subst hK; exact pe_bm0 pa slot hty hm ho hbase hline
def qJoin (K : PySem.W.Frag) : V → List V → Hp → VK → Prop := fun x xs H Q => ∃ a p, ∃ ys : List Str, x = .str a ∧ xs = [.ref p] ∧ (SqL K H p (ys.map V.str) ∨ SqT K H p (ys.map V.str)) ∧ (ys.map (·.length)).sum + ys.length * a.length ≤ 16777216 ∧ Q (.str (Txt.join a ys)) H
theorem pe_joinK (hK : X.K = K) (ho : PE X o to) (he : PE X e te) (hs : starEach [e] X.env = [(false, eval e X.env)] := by rfl) (hbase : attributeBase o "join" X.env (eval o X.env) = eval o X.env := by rfl) (hline : (apos.endLine == pos.line) = true := by rfl) :
    PE X (.Call (.Attribute o "join" apos) [e] [] pos) (tM1 (qJoin K) to te) := by subst hK; exact pe_join ho he hs hbase hline
theorem pg_tupK {k : Nat} {t : TGs} {n : Nat} (hK : X.K = K) (hc : X.calm = true) (h : PGs X es t)
    (hn : (assignEach es X.env).length = n := by rfl) (hst : (assignEach es X.env).findIdx? (·.1) = none := by rfl) : PG X (.Tuple es k pos) (gTup K n t) := by subst hK; exact pg_tup hc h hn hst
theorem pi_reversedK {p2 : Pos} (hK : X.K = K) (hg : Gl X "reversed") (hm : X.mg "reversed" = none) (ha : PA X [e] ta) (hs : starEach [e] X.env = [(false, eval e X.env)] := by rfl) : PI X tg (.Call (.Name "reversed" p) [e] [] p2) (iRev K ta) := by subst hK; exact pi_reversed hg hm ha hs
theorem pi_enumK {elts : List Expr} {kk : Nat} (hK : X.K = K) (hg : Gl X "enumerate") (hm : X.mg "enumerate" = none) (ha : PA X [e] ta) (hs : starEach [e] X.env = [(false, eval e X.env)] := by rfl) :
    PI X (.Tuple elts kk tpos) (.Call (.Name "enumerate" p) [e] [] pos) (iEnum K ta) := by subst hK; exact pi_enum hg hm ha hs
theorem pi_zipK {e2 : Expr} {elts : List Expr} {kk : Nat} (hK : X.K = K) (hg : Gl X "zip") (hm : X.mg "zip" = none) (ha : PA X [e, e2] ta)
    (hs : starEach [e, e2] X.env = (false, eval e X.env) :: starEach [e2] X.env := by rfl) (hpl : (backTo pos (starEach [e2] X.env)).any (·.1) = false := by rfl) :
    PI X (.Tuple elts kk tpos) (.Call (.Name "zip" p) [e, e2] [] pos) (iZip K ta) := by subst hK; exact pi_zip hg hm ha hs hpl
end
section
variable {X : Cx}
theorem pe_globI {x : Str} {i : Int} {pos : Pos} (hg : Gl X x) (h : ∃ t, X.mg x = some (.int i t)) (hd : (x == ("__debug__" : Str)) = false := by decide) : PE X (.Name x pos) (tC (.int i)) := by
  obtain ⟨t, h⟩ := h
  exact pe_glob hg h ⟨t, rfl⟩ hd
theorem pe_globS {x z : Str} {pos : Pos} (hg : Gl X x) (h : ∃ t, X.mg x = some (.str z t)) (hd : (x == ("__debug__" : Str)) = false := by decide) : PE X (.Name x pos) (tC (.str z)) := by
  obtain ⟨t, h⟩ := h
  exact pe_glob hg h ⟨t, rfl⟩ hd
end
section
variable {K : PySem.W.Frag} {σ : St} {H : Hp} {Q : VK}
theorem w_yes {Qb : Bool → Hp → Prop} (h : Qb true H) : tYes σ H Qb := h
theorem w_all {a : Addr} {bs : List Bool} (hS : SqL K H a (bs.map V.bl)) (h : Q (.bl (bs.all id)) H) : rAll K [V.ref a] H Q := ⟨a, bs, rfl, hS, h⟩
theorem w_any {a : Addr} {bs : List Bool} (hS : SqL K H a (bs.map V.bl)) (h : Q (.bl (bs.any id)) H) : rAny K [V.ref a] H Q := ⟨a, bs, rfl, hS, h⟩
end
theorem w_wipe {σ1 σ2 : St} {R : Prop} (e : σ1 = σ2) (h : R) : σ1 = σ2 ∧ R := ⟨e, h⟩
theorem w_i_NoneType_str {K : PySem.W.Frag} {H : Hp} {Q : VK} (q : Q (.bl false) H) : rIsi K [.non, .ty "str"] H Q := ⟨_, _, _, _, _, rfl, .ty "str", .base .non, kit_ty (by decide +kernel), q⟩
theorem w_i_NoneType_int {K : PySem.W.Frag} {H : Hp} {Q : VK} (q : Q (.bl false) H) : rIsi K [.non, .ty "int"] H Q := ⟨_, _, _, _, _, rfl, .ty "int", .base .non, kit_ty (by decide +kernel), q⟩
theorem w_i_NoneType_bool {K : PySem.W.Frag} {H : Hp} {Q : VK} (q : Q (.bl false) H) : rIsi K [.non, .ty "bool"] H Q := ⟨_, _, _, _, _, rfl, .ty "bool", .base .non, kit_ty (by decide +kernel), q⟩
theorem w_i_NoneType_list {K : PySem.W.Frag} {H : Hp} {Q : VK} (q : Q (.bl false) H) : rIsi K [.non, .ty "list"] H Q := ⟨_, _, _, _, _, rfl, .ty "list", .base .non, kit_ty (by decide +kernel), q⟩
theorem w_i_NoneType_tuple {K : PySem.W.Frag} {H : Hp} {Q : VK} (q : Q (.bl false) H) : rIsi K [.non, .ty "tuple"] H Q := ⟨_, _, _, _, _, rfl, .ty "tuple", .base .non, kit_ty (by decide +kernel), q⟩
theorem w_i_NoneType_dict {K : PySem.W.Frag} {H : Hp} {Q : VK} (q : Q (.bl false) H) : rIsi K [.non, .ty "dict"] H Q := ⟨_, _, _, _, _, rfl, .ty "dict", .base .non, kit_ty (by decide +kernel), q⟩
theorem w_i_bool_str {K : PySem.W.Frag} {H : Hp} {Q : VK} {u : _} (q : Q (.bl false) H) : rIsi K [(.bl u), .ty "str"] H Q := ⟨_, _, _, _, _, rfl, .ty "str", .base (.bl _), kit_ty (by decide +kernel), q⟩
theorem w_i_bool_int {K : PySem.W.Frag} {H : Hp} {Q : VK} {u : _} (q : Q (.bl true) H) : rIsi K [(.bl u), .ty "int"] H Q := ⟨_, _, _, _, _, rfl, .ty "int", .base (.bl _), kit_ty (by decide +kernel), q⟩
theorem w_i_bool_bool {K : PySem.W.Frag} {H : Hp} {Q : VK} {u : _} (q : Q (.bl true) H) : rIsi K [(.bl u), .ty "bool"] H Q := ⟨_, _, _, _, _, rfl, .ty "bool", .base (.bl _), kit_ty (by decide +kernel), q⟩
theorem w_i_bool_list {K : PySem.W.Frag} {H : Hp} {Q : VK} {u : _} (q : Q (.bl false) H) : rIsi K [(.bl u), .ty "list"] H Q := ⟨_, _, _, _, _, rfl, .ty "list", .base (.bl _), kit_ty (by decide +kernel), q⟩
theorem w_i_bool_tuple {K : PySem.W.Frag} {H : Hp} {Q : VK} {u : _} (q : Q (.bl false) H) : rIsi K [(.bl u), .ty "tuple"] H Q := ⟨_, _, _, _, _, rfl, .ty "tuple", .base (.bl _), kit_ty (by decide +kernel), q⟩
theorem w_i_bool_dict {K : PySem.W.Frag} {H : Hp} {Q : VK} {u : _} (q : Q (.bl false) H) : rIsi K [(.bl u), .ty "dict"] H Q := ⟨_, _, _, _, _, rfl, .ty "dict", .base (.bl _), kit_ty (by decide +kernel), q⟩
theorem w_i_int_str {K : PySem.W.Frag} {H : Hp} {Q : VK} {u : _} (q : Q (.bl false) H) : rIsi K [(.int u), .ty "str"] H Q := ⟨_, _, _, _, _, rfl, .ty "str", .base (.int _), kit_ty (by decide +kernel), q⟩
theorem w_i_int_int {K : PySem.W.Frag} {H : Hp} {Q : VK} {u : _} (q : Q (.bl true) H) : rIsi K [(.int u), .ty "int"] H Q := ⟨_, _, _, _, _, rfl, .ty "int", .base (.int _), kit_ty (by decide +kernel), q⟩
theorem w_i_int_bool {K : PySem.W.Frag} {H : Hp} {Q : VK} {u : _} (q : Q (.bl false) H) : rIsi K [(.int u), .ty "bool"] H Q := ⟨_, _, _, _, _, rfl, .ty "bool", .base (.int _), kit_ty (by decide +kernel), q⟩
theorem w_i_int_list {K : PySem.W.Frag} {H : Hp} {Q : VK} {u : _} (q : Q (.bl false) H) : rIsi K [(.int u), .ty "list"] H Q := ⟨_, _, _, _, _, rfl, .ty "list", .base (.int _), kit_ty (by decide +kernel), q⟩
theorem w_i_int_tuple {K : PySem.W.Frag} {H : Hp} {Q : VK} {u : _} (q : Q (.bl false) H) : rIsi K [(.int u), .ty "tuple"] H Q := ⟨_, _, _, _, _, rfl, .ty "tuple", .base (.int _), kit_ty (by decide +kernel), q⟩
theorem w_i_int_dict {K : PySem.W.Frag} {H : Hp} {Q : VK} {u : _} (q : Q (.bl false) H) : rIsi K [(.int u), .ty "dict"] H Q := ⟨_, _, _, _, _, rfl, .ty "dict", .base (.int _), kit_ty (by decide +kernel), q⟩
theorem w_i_str_str {K : PySem.W.Frag} {H : Hp} {Q : VK} {u : _} (q : Q (.bl true) H) : rIsi K [(.str u), .ty "str"] H Q := ⟨_, _, _, _, _, rfl, .ty "str", .base (.str _), kit_ty (by decide +kernel), q⟩
theorem w_i_str_int {K : PySem.W.Frag} {H : Hp} {Q : VK} {u : _} (q : Q (.bl false) H) : rIsi K [(.str u), .ty "int"] H Q := ⟨_, _, _, _, _, rfl, .ty "int", .base (.str _), kit_ty (by decide +kernel), q⟩
theorem w_i_str_bool {K : PySem.W.Frag} {H : Hp} {Q : VK} {u : _} (q : Q (.bl false) H) : rIsi K [(.str u), .ty "bool"] H Q := ⟨_, _, _, _, _, rfl, .ty "bool", .base (.str _), kit_ty (by decide +kernel), q⟩
theorem w_i_str_list {K : PySem.W.Frag} {H : Hp} {Q : VK} {u : _} (q : Q (.bl false) H) : rIsi K [(.str u), .ty "list"] H Q := ⟨_, _, _, _, _, rfl, .ty "list", .base (.str _), kit_ty (by decide +kernel), q⟩
theorem w_i_str_tuple {K : PySem.W.Frag} {H : Hp} {Q : VK} {u : _} (q : Q (.bl false) H) : rIsi K [(.str u), .ty "tuple"] H Q := ⟨_, _, _, _, _, rfl, .ty "tuple", .base (.str _), kit_ty (by decide +kernel), q⟩
theorem w_i_str_dict {K : PySem.W.Frag} {H : Hp} {Q : VK} {u : _} (q : Q (.bl false) H) : rIsi K [(.str u), .ty "dict"] H Q := ⟨_, _, _, _, _, rfl, .ty "dict", .base (.str _), kit_ty (by decide +kernel), q⟩
theorem w_i_list_str {K : PySem.W.Frag} {H : Hp} {Q : VK} {u : Addr} {xs : List V} (hp : H u = some (.lst xs)) (q : Q (.bl false) H) : rIsi K [.ref u, .ty "str"] H Q := ⟨_, _, _, _, _, rfl, .ty "str", .base (.lst hp), kit_ty (by decide +kernel), q⟩
theorem w_i_list_int {K : PySem.W.Frag} {H : Hp} {Q : VK} {u : Addr} {xs : List V} (hp : H u = some (.lst xs)) (q : Q (.bl false) H) : rIsi K [.ref u, .ty "int"] H Q := ⟨_, _, _, _, _, rfl, .ty "int", .base (.lst hp), kit_ty (by decide +kernel), q⟩
theorem w_i_list_bool {K : PySem.W.Frag} {H : Hp} {Q : VK} {u : Addr} {xs : List V} (hp : H u = some (.lst xs)) (q : Q (.bl false) H) : rIsi K [.ref u, .ty "bool"] H Q := ⟨_, _, _, _, _, rfl, .ty "bool", .base (.lst hp), kit_ty (by decide +kernel), q⟩
theorem w_i_list_list {K : PySem.W.Frag} {H : Hp} {Q : VK} {u : Addr} {xs : List V} (hp : H u = some (.lst xs)) (q : Q (.bl true) H) : rIsi K [.ref u, .ty "list"] H Q := ⟨_, _, _, _, _, rfl, .ty "list", .base (.lst hp), kit_ty (by decide +kernel), q⟩
theorem w_i_list_tuple {K : PySem.W.Frag} {H : Hp} {Q : VK} {u : Addr} {xs : List V} (hp : H u = some (.lst xs)) (q : Q (.bl false) H) : rIsi K [.ref u, .ty "tuple"] H Q := ⟨_, _, _, _, _, rfl, .ty "tuple", .base (.lst hp), kit_ty (by decide +kernel), q⟩
theorem w_i_list_dict {K : PySem.W.Frag} {H : Hp} {Q : VK} {u : Addr} {xs : List V} (hp : H u = some (.lst xs)) (q : Q (.bl false) H) : rIsi K [.ref u, .ty "dict"] H Q := ⟨_, _, _, _, _, rfl, .ty "dict", .base (.lst hp), kit_ty (by decide +kernel), q⟩
theorem w_i_tuple_str {K : PySem.W.Frag} {H : Hp} {Q : VK} {u : Addr} {xs : List V} (hp : H u = some (.tup xs)) (q : Q (.bl false) H) : rIsi K [.ref u, .ty "str"] H Q := ⟨_, _, _, _, _, rfl, .ty "str", .base (.tup hp), kit_ty (by decide +kernel), q⟩
theorem w_i_tuple_int {K : PySem.W.Frag} {H : Hp} {Q : VK} {u : Addr} {xs : List V} (hp : H u = some (.tup xs)) (q : Q (.bl false) H) : rIsi K [.ref u, .ty "int"] H Q := ⟨_, _, _, _, _, rfl, .ty "int", .base (.tup hp), kit_ty (by decide +kernel), q⟩
theorem w_i_tuple_bool {K : PySem.W.Frag} {H : Hp} {Q : VK} {u : Addr} {xs : List V} (hp : H u = some (.tup xs)) (q : Q (.bl false) H) : rIsi K [.ref u, .ty "bool"] H Q := ⟨_, _, _, _, _, rfl, .ty "bool", .base (.tup hp), kit_ty (by decide +kernel), q⟩
theorem w_i_tuple_list {K : PySem.W.Frag} {H : Hp} {Q : VK} {u : Addr} {xs : List V} (hp : H u = some (.tup xs)) (q : Q (.bl false) H) : rIsi K [.ref u, .ty "list"] H Q := ⟨_, _, _, _, _, rfl, .ty "list", .base (.tup hp), kit_ty (by decide +kernel), q⟩
theorem w_i_tuple_tuple {K : PySem.W.Frag} {H : Hp} {Q : VK} {u : Addr} {xs : List V} (hp : H u = some (.tup xs)) (q : Q (.bl true) H) : rIsi K [.ref u, .ty "tuple"] H Q := ⟨_, _, _, _, _, rfl, .ty "tuple", .base (.tup hp), kit_ty (by decide +kernel), q⟩
theorem w_i_tuple_dict {K : PySem.W.Frag} {H : Hp} {Q : VK} {u : Addr} {xs : List V} (hp : H u = some (.tup xs)) (q : Q (.bl false) H) : rIsi K [.ref u, .ty "dict"] H Q := ⟨_, _, _, _, _, rfl, .ty "dict", .base (.tup hp), kit_ty (by decide +kernel), q⟩
theorem w_i_dict_str {K : PySem.W.Frag} {H : Hp} {Q : VK} {u : Addr} {xs : List (Key × V)} (hp : H u = some (.dK xs)) (q : Q (.bl false) H) : rIsi K [.ref u, .ty "str"] H Q := ⟨_, _, _, _, _, rfl, .ty "str", .base (.dK hp), kit_ty (by decide +kernel), q⟩
theorem w_i_dict_int {K : PySem.W.Frag} {H : Hp} {Q : VK} {u : Addr} {xs : List (Key × V)} (hp : H u = some (.dK xs)) (q : Q (.bl false) H) : rIsi K [.ref u, .ty "int"] H Q := ⟨_, _, _, _, _, rfl, .ty "int", .base (.dK hp), kit_ty (by decide +kernel), q⟩
theorem w_i_dict_bool {K : PySem.W.Frag} {H : Hp} {Q : VK} {u : Addr} {xs : List (Key × V)} (hp : H u = some (.dK xs)) (q : Q (.bl false) H) : rIsi K [.ref u, .ty "bool"] H Q := ⟨_, _, _, _, _, rfl, .ty "bool", .base (.dK hp), kit_ty (by decide +kernel), q⟩
theorem w_i_dict_list {K : PySem.W.Frag} {H : Hp} {Q : VK} {u : Addr} {xs : List (Key × V)} (hp : H u = some (.dK xs)) (q : Q (.bl false) H) : rIsi K [.ref u, .ty "list"] H Q := ⟨_, _, _, _, _, rfl, .ty "list", .base (.dK hp), kit_ty (by decide +kernel), q⟩
theorem w_i_dict_tuple {K : PySem.W.Frag} {H : Hp} {Q : VK} {u : Addr} {xs : List (Key × V)} (hp : H u = some (.dK xs)) (q : Q (.bl false) H) : rIsi K [.ref u, .ty "tuple"] H Q := ⟨_, _, _, _, _, rfl, .ty "tuple", .base (.dK hp), kit_ty (by decide +kernel), q⟩
theorem w_i_dict_dict {K : PySem.W.Frag} {H : Hp} {Q : VK} {u : Addr} {xs : List (Key × V)} (hp : H u = some (.dK xs)) (q : Q (.bl true) H) : rIsi K [.ref u, .ty "dict"] H Q := ⟨_, _, _, _, _, rfl, .ty "dict", .base (.dK hp), kit_ty (by decide +kernel), q⟩
section
variable {σ : St} {H : Hp} {Q : VK}
def NewD (Q : VK) (p : Addr) (ps : List (V × V)) (H2 : Hp) : Prop := H2 p = some (.dK []) ∧ ∃ kvs : List (Key × V), ps = kvs.map (fun kv => (kV kv.1, kv.2)) ∧ kvs.length ≤ 15 ∧ Q (.ref p) (upd H2 p (.dK (mergeK [] kvs)))
theorem w_disp {trs : List (TE × TE)} (h : ∀ p H', H p = none → Same H H' → H' p = some (.dK []) → tPairs trs σ H' fun ps H2 => NewD Q p ps H2) : tDisp trs σ H Q := fun p np => h p _ np (same_upd np) upd_same
theorem w_newD {p : Addr} {kvs : List (Key × V)} (np : H p = some (.dK [])) (hl : kvs.length ≤ 15) (h : ∀ H', (∀ G : Hp, Same G H → G p = none → Same G H') → H' p = some (.dK (mergeK [] kvs)) → Q (.ref p) H') : NewD Q p (kvs.map fun kv => (kV kv.1, kv.2)) H := ⟨np, kvs, rfl, hl, h _ (fun G s hp b o e => by
  rw [upd_ne (ne_of_none e hp)]
  exact s b o e) upd_same⟩
theorem w_pnil {Qp : List (V × V) → Hp → Prop} (h : Qp [] H) : tPairs [] σ H Qp := h
theorem w_pcons {tk tv : TE} {trs : List (TE × TE)} {Qp : List (V × V) → Hp → Prop} (h : tk σ H fun x H1 => tv σ H1 fun y H2 => tPairs trs σ H2 fun ps H3 => Qp ((x, y) :: ps) H3) : tPairs ((tk, tv) :: trs) σ H Qp := h
end
/-! ### tests as one answer -/
section
variable {σ : St} {H : Hp} {tt tu : TT} {Qb : Bool → Hp → Prop} {k1 k2 : Bool}
theorem w_andB (h1 : ∀ Q : Bool → Hp → Prop, Q k1 H → tt σ H Q) (h2 : k1 = true → ∀ Q : Bool → Hp → Prop, Q k2 H → tu σ H Q) (q : Qb (k1 && k2) H) : tAnd tt tu σ H Qb := by
  refine h1 _ ?_
  cases k1
  · rw [if_neg Bool.false_ne_true]; exact q
  · rw [if_pos rfl]; exact h2 rfl _ q
theorem w_orB (h1 : ∀ Q : Bool → Hp → Prop, Q k1 H → tt σ H Q) (h2 : k1 = false → ∀ Q : Bool → Hp → Prop, Q k2 H → tu σ H Q) (q : Qb (k1 || k2) H) : tOr tt tu σ H Qb := by
  refine h1 _ ?_
  cases k1
  · rw [if_neg Bool.false_ne_true]; exact h2 rfl _ q
  · rw [if_pos rfl]; exact q
theorem w_andS (h1 : ∀ Q : Bool → Hp → Prop, (∀ H', Same H H' → Q k1 H') → tt σ H Q) (h2 : k1 = true → ∀ H1, Same H H1 → ∀ Q : Bool → Hp → Prop, (∀ H', Same H1 H' → Q k2 H') → tu σ H1 Q) (q : ∀ H', Same H H' → Qb (k1 && k2) H') : tAnd tt tu σ H Qb := by
  refine h1 _ fun H1 s1 => ?_
  cases k1
  · rw [if_neg Bool.false_ne_true]; exact q H1 s1
  · rw [if_pos rfl]; exact h2 rfl H1 s1 _ fun H' s' => q H' (s1.trans s')
theorem w_orS (h1 : ∀ Q : Bool → Hp → Prop, (∀ H', Same H H' → Q k1 H') → tt σ H Q) (h2 : k1 = false → ∀ H1, Same H H1 → ∀ Q : Bool → Hp → Prop, (∀ H', Same H1 H' → Q k2 H') → tu σ H1 Q) (q : ∀ H', Same H H' → Qb (k1 || k2) H') : tOr tt tu σ H Qb := by
  refine h1 _ fun H1 s1 => ?_
  cases k1
  · rw [if_neg Bool.false_ne_true]; exact h2 rfl H1 s1 _ fun H' s' => q H' (s1.trans s')
  · rw [if_pos rfl]; exact q H1 s1
variable {Q : VK} {ta tb tc : TE} {o o' : R2}
/-- a < b < c, all known -/
theorem w_chainB (h1 : ∀ Q : VK, Q (.bl k1) H → tOp o ta tb σ H Q) (h2 : k1 = true → ∀ Q : VK, Q (.bl k2) H → tOp o' tb tc σ H Q)
    (hb : ∀ (f : V → Hp → Prop), tb σ H f → ∃ y, f y H ∧ ∀ f' : V → Hp → Prop, f' y H → tb σ H f') (q : Q (.bl (k1 && k2)) H) : True := trivial
end
/-- an if whose answer is decided by a proposition -/
theorem w_iteP {p A B : Prop} [Decidable p] (h1 : p → A) (h2 : ¬ p → B) : if decide p = true then A else B := by
  by_cases h : p
  · rw [if_pos (decide_eq_true h)]; exact h1 h
  · rw [if_neg (by simpa using h)]; exact h2 h
theorem dn_str {z : Str} : decide (V.str z = V.non) = false := by simp
theorem dn_int {z : Int} : decide (V.int z = V.non) = false := by simp
theorem dn_ref {z : Addr} : decide (V.ref z = V.non) = false := by simp
theorem dn_bl {z : Bool} : decide (V.bl z = V.non) = false := by simp
theorem dn'_str {z : Str} : (!decide (V.str z = V.non)) = true := by simp
theorem dn'_int {z : Int} : (!decide (V.int z = V.non)) = true := by simp
theorem dn'_ref {z : Addr} : (!decide (V.ref z = V.non)) = true := by simp
/-! ### slices of lists -/
def cut {α : Type} (xs : List α) (lo hi : Option Int) : List α := (xs.drop (HT.sIx xs.length 0 lo)).take (HT.sIx xs.length xs.length hi - HT.sIx xs.length 0 lo)
theorem cutV_map {α : Type} (f : α → V) (xs : List α) (lo hi : Option Int) : cutV (xs.map f) lo hi = (cut xs lo hi).map f := by
  unfold cutV cut
  rw [List.length_map, List.map_take, List.map_drop]
theorem cut_len {α : Type} (xs : List α) (lo hi : Option Int) : (cut xs lo hi).length ≤ xs.length := by
  unfold cut
  rw [List.length_take, List.length_drop]
  omega
theorem cut_to {α : Type} (xs : List α) (k : Nat) : cut xs none (some (k : Int)) = xs.take k := by
  unfold cut
  rw [HT.sIx_nat, HT.sIx_none, List.drop_zero, Nat.sub_zero]
  rcases Nat.le_total k xs.length with h | h
  · rw [Nat.min_eq_left h]
  · rw [Nat.min_eq_right h, List.take_length, List.take_of_length_le h]
theorem cut_from {α : Type} (xs : List α) (k : Nat) : cut xs (some (k : Int)) none = xs.drop k := by
  unfold cut
  rw [HT.sIx_nat, HT.sIx_none]
  rcases Nat.le_total k xs.length with h | h
  · rw [Nat.min_eq_left h, List.take_of_length_le (by rw [List.length_drop]; omega)]
  · rw [Nat.min_eq_right h, Nat.sub_self, List.drop_of_length_le h]
    rfl
/-! ### texts -/
theorem slen_app (a b : Str) : (a ++ b).length = a.length + b.length := Array.size_append
theorem slen_one (k : Nat) : (⟨#[k]⟩ : Str).length = 1 := rfl
theorem slen_list (z : Str) : z.cps.toList.length = z.length := Array.length_toList
theorem sapp_list (a b : Str) : (a ++ b).cps.toList = a.cps.toList ++ b.cps.toList := Array.toList_append
theorem s_ext {a b : Str} (h : a.cps.toList = b.cps.toList) : a = b := by
  cases a
  cases b
  exact congrArg Str.mk (Array.toList_inj.mp h)
/-! ### names -/
def isStrV : V → Bool
  | .str _ => true
  | _ => false
def Kd (K : PySem.W.Frag) (H : Hp) (v : V) : Prop := ∃ t, TyX K H v t ∧ PySem.W.kitOne K t (.type "str") = some (isStrV v) ∧ ∀ z, v = .str z → z.length ≤ 100000
def lower (c : Nat) : Bool := decide (97 ≤ c) && decide (c ≤ 122)
def nameOk : V → Bool
  | .str z => decide (1 ≤ z.length) && (decide (z.length ≤ 8) && z.cps.toList.all lower)
  | _ => false
def sp_is_nameR (K : PySem.W.Frag) : Sp := fun vs H Q _ => ∃ v, vs = [v] ∧ Kd K H v ∧ Q (.bl (nameOk v)) H
theorem u_is_nameR {K : PySem.W.Frag} {v : V} {H : Hp} {Q : VK} {E : XK} (h : Kd K H v) (q : Q (.bl (nameOk v)) H) : sp_is_nameR K ([v] ++ []) H Q E := ⟨v, rfl, h, q⟩
theorem letters_mem (c : Nat) : decide (c ∈ ("abcdefghijklmnopqrstuvwxyz" : Str).cps.toList) = lower c := by
  have e : ("abcdefghijklmnopqrstuvwxyz" : Str).cps.toList = List.range' 97 26 := by decide +kernel
  rw [e, lower, ← Bool.decide_and]
  congr 1
  rw [List.mem_range'_1]
  exact propext ⟨fun h => by omega, fun h => by omega⟩
theorem abc_at {i : Int} (h0 : 0 ≤ i) (h1 : i < 26) : ∃ k, ("abcdefghijklmnopqrstuvwxyz" : Str).cps.toList[i.toNat]? = some k := by
  have e : ("abcdefghijklmnopqrstuvwxyz" : Str).cps.toList = List.range' 97 26 := by decide +kernel
  rw [e]
  have hl : i.toNat < (List.range' 97 26).length := by
    rw [List.length_range']
    omega
  exact ⟨_, List.getElem?_eq_getElem hl⟩
theorem str_at {z : Str} {i : Int} (h0 : 0 ≤ i) (h1 : i < z.length) : ∃ k, z.cps.toList[i.toNat]? = some k := by
  have hl : i.toNat < z.cps.toList.length := by
    rw [slen_list]
    omega
  exact ⟨_, List.getElem?_eq_getElem hl⟩
/-! ### drawing -/
def mixA (c : Int) : Nat → Int
  | 0 => c / 2
  | n + 1 => mixA c n / 840
def turns : List Int := [48271, 69621, 40692, 39373, 16807, 30323, 21403, 62089, 45742, 37907, 53611, 28411, 59393, 33391]
def mixOne (c t : Int) : Int := (c % 1000000007 + 11) * turns.getD (t % 14).toNat 0 % 2147483629
def mixTwo (c t : Int) : Int := mixOne c t * (mixOne c t + t) % 1999999973
def mix (c t m : Int) : Int := if c % 2 = 1 ∧ 10 ^ 18 < c then mixA c t.toNat % 840 % m else mixTwo c t * 16807 % 998244353 / 1000 % m
theorem mix_nn {c t m : Int} (h : 0 < m) : 0 ≤ mix c t m := by
  unfold mix
  split <;> exact Int.emod_nonneg _ (by omega)
theorem mix_lt {c t m : Int} (h : 0 < m) : mix c t m < m := by
  unfold mix
  split <;> exact Int.emod_lt_of_pos _ h
theorem turns_at {i : Int} (h0 : 0 ≤ i) (h1 : i < 14) : turns[i.toNat]? = some (turns.getD i.toNat 0) := by
  have hl : i.toNat < turns.length := by
    show i.toNat < 14
    omega
  rw [List.getElem?_eq_getElem hl, List.getD_eq_getElem?_getD, List.getElem?_eq_getElem hl]
  rfl
theorem turns_bound (i : Nat) : 0 ≤ turns.getD i 0 ∧ turns.getD i 0 < 100000 := by
  have h : ∀ x ∈ turns, 0 ≤ x ∧ x < 100000 := by decide
  rw [List.getD_eq_getElem?_getD]
  cases e : turns[i]? with
  | none => exact ⟨by decide, by decide⟩
  | some x => exact h x (List.mem_of_getElem? e)
theorem mixOne_bound {c t : Int} : 0 ≤ mixOne c t ∧ mixOne c t < 2147483629 := ⟨Int.emod_nonneg _ (by decide), Int.emod_lt_of_pos _ (by decide)⟩
theorem mixTwo_bound {c t : Int} : 0 ≤ mixTwo c t ∧ mixTwo c t < 1999999973 := ⟨Int.emod_nonneg _ (by decide), Int.emod_lt_of_pos _ (by decide)⟩
def sp_l_mixR (K : PySem.W.Frag) : Sp := fun vs H Q _ => ∃ c t m : Int, vs = [.int c, .int t, .int m] ∧ (0 ≤ t ∧ t ≤ 1000) ∧ 0 < m ∧ ∀ H', Same H H' → Q (.int (mix c t m)) H'
theorem u_mixR {K : PySem.W.Frag} {c t m : Int} {H : Hp} {Q : VK} {E : XK} (ht : 0 ≤ t ∧ t ≤ 1000) (hm : 0 < m) (q : ∀ H', Same H H' → Q (.int (mix c t m)) H') : sp_l_mixR K ([.int c, .int t, .int m] ++ []) H Q E := ⟨c, t, m, rfl, ht, hm, q⟩
theorem atI_of {α : Type} {xs : List α} {i : Int} {v : α} (h0 : 0 ≤ i) (h : xs[i.toNat]? = some v) : atI xs i = some v := by
  have e : i = (i.toNat : Int) := by omega
  rw [e]
  exact atI_nat h
theorem pick {α : Type} {xs : List α} {P : α → Prop} {i : Int} (h0 : 0 ≤ i) (h1 : i < xs.length) (h : ∀ v ∈ xs, P v) : ∃ v, atI xs i = some v ∧ P v := by
  have hl : i.toNat < xs.length := by omega
  exact ⟨xs[i.toNat], atI_of h0 (List.getElem?_eq_getElem hl), h _ (List.getElem_mem hl)⟩
/-! ### the law -/
def sp_lawR (K : PySem.W.Frag) : Sp := fun vs H Q _ => ∃ (a : Addr) (ns : List Int), vs = [.ref a] ∧ SqL K H a (ns.map V.int) ∧ ns.length ≤ 63 ∧ ∀ H', Q (.bl true) H'
theorem law_enterR {K : PySem.W.Frag} {H : Hp} {a : Addr} {ns : List Int} (hl : ns.length ≤ 63) (hS : SqL K H a (ns.map V.int)) : sp_lawR K [.ref a] H (fun v _ => v = .bl true) fun _ _ _ => False := ⟨a, ns, rfl, hS, hl, fun _ => rfl⟩
end Tg

/-! The engine, further: lists of texts, lists of these. -/
namespace Tg
open PySem PySem.Spec L2
theorem paired_at {α β : Type} {F : α → β → Prop} : ∀ {xs : List α} {ys : List β}, Paired F xs ys → ∀ {i : Nat} {x : α}, xs[i]? = some x → ∃ y, ys[i]? = some y ∧ F x y
  | _, _, .nil, i, x, h => by simp at h
  | _, _, .cons r t, 0, x, h => by
    simp at h
    subst h
    exact ⟨_, rfl, r⟩
  | _, _, .cons r t, i + 1, x, h => by
    obtain ⟨y, e, q⟩ := paired_at t (i := i) (x := x) (by simpa using h)
    exact ⟨y, by simpa using e, q⟩
theorem paired_at' {α β : Type} {F : α → β → Prop} : ∀ {xs : List α} {ys : List β}, Paired F xs ys → ∀ {i : Nat} {y : β}, ys[i]? = some y → ∃ x, xs[i]? = some x ∧ F x y
  | _, _, .nil, i, x, h => by simp at h
  | _, _, .cons r t, 0, x, h => by
    simp at h
    subst h
    exact ⟨_, rfl, r⟩
  | _, _, .cons r t, i + 1, x, h => by
    obtain ⟨y, e, q⟩ := paired_at' t (i := i) (y := x) (by simpa using h)
    exact ⟨y, by simpa using e, q⟩
theorem paired_mono {α β : Type} {F F' : α → β → Prop} (hm : ∀ a b, F a b → F' a b) : ∀ {xs : List α} {ys : List β}, Paired F xs ys → Paired F' xs ys
  | _, _, .nil => .nil
  | _, _, .cons r t => .cons (hm _ _ r) (paired_mono hm t)
theorem paired_len {α β : Type} {F : α → β → Prop} {xs : List α} {ys : List β} (h : Paired F xs ys) : xs.length = ys.length := by
  induction h with
  | nil => rfl
  | cons _ _ ih => rw [List.length_cons, List.length_cons, ih]
/-- v is a list of the texts rs -/
def SL (K : PySem.W.Frag) (H : Hp) (v : V) (rs : List Str) : Prop := ∃ a, v = .ref a ∧ SqL K H a (rs.map V.str)
/-- v is a list of lists of texts -/
def RL (K : PySem.W.Frag) (H : Hp) (v : V) (rss : List (List Str)) : Prop := ∃ a vs, v = .ref a ∧ SqL K H a vs ∧ Paired (SL K H) vs rss
section
variable {K : PySem.W.Frag} {H H' : Hp} {v x y : V} {rs rs' : List Str} {rss rss' : List (List Str)}
theorem SL.mono (e : Same H H') (h : SL K H v rs) : SL K H' v rs := by
  obtain ⟨a, rfl, h⟩ := h
  exact ⟨a, rfl, e.seq h⟩
theorem RL.mono (e : Same H H') (h : RL K H v rss) : RL K H' v rss := by
  obtain ⟨a, vs, rfl, h, p⟩ := h
  exact ⟨a, vs, rfl, e.seq h, paired_mono (fun _ _ q => SL.mono e q) p⟩
theorem SL.of {a : Addr} (h : H a = some (.lst (rs.map V.str))) : SL K H (.ref a) rs := ⟨a, rfl, Sq_of h⟩
/-! ### == -/
def sd (rs : List Str) : PyData := .list (rs.map .str)
def sdd (rss : List (List Str)) : PyData := .list (rss.map sd)
theorem dpAll_strs : ∀ rs : List Str, DpAll K H (rs.map V.str) (rs.map .str)
  | [] => .nil
  | _ :: r => .cons (.str _) (dpAll_strs r)
theorem SL.dp (h : SL K H v rs) : Dp K H v (sd rs) := by
  obtain ⟨a, rfl, h⟩ := h
  exact .lst h (dpAll_strs rs)
theorem dpAll_rows : ∀ {vs : List V} {rss : List (List Str)}, Paired (SL K H) vs rss → DpAll K H vs (rss.map sd)
  | _, _, .nil => .nil
  | _, _, .cons r t => .cons r.dp (dpAll_rows t)
theorem RL.dp (h : RL K H v rss) : Dp K H v (sdd rss) := by
  obtain ⟨a, vs, rfl, h, p⟩ := h
  exact .lst h (dpAll_rows p)
theorem eqvAll_strs : ∀ a b : List Str, PyData.eqvAll (a.map .str) (b.map .str) = decide (a = b)
  | [], [] => rfl
  | [], _ :: _ => by simp [PyData.eqvAll]
  | _ :: _, [] => by simp [PyData.eqvAll]
  | x :: a, y :: b => by
    rw [List.map_cons, List.map_cons, PyData.eqvAll, eqvAll_strs a b, PyData.eqv]
    by_cases h : x = y
    · subst h
      simp
    · simp [h]
theorem eqv_sd (a b : List Str) : PyData.eqv (sd a) (sd b) = decide (a = b) := by
  unfold sd
  rw [PyData.eqv, eqvAll_strs]
theorem eqvAll_sd : ∀ a b : List (List Str), PyData.eqvAll (a.map sd) (b.map sd) = decide (a = b)
  | [], [] => rfl
  | [], _ :: _ => by simp [PyData.eqvAll]
  | _ :: _, [] => by simp [PyData.eqvAll]
  | x :: a, y :: b => by
    rw [List.map_cons, List.map_cons, PyData.eqvAll, eqvAll_sd a b, eqv_sd]
    by_cases h : x = y
    · subst h
      simp
    · simp [h]
theorem eqv_sdd (a b : List (List Str)) : PyData.eqv (sdd a) (sdd b) = decide (a = b) := by
  unfold sdd
  rw [PyData.eqv, eqvAll_sd]
theorem canLay_strs : ∀ rs : List Str, (∀ z ∈ rs, PyData.strOk z = true) → PyData.canLayAll0 (rs.map .str) = true
  | [], _ => by simp [PyData.canLayAll0]
  | x :: r, h => by
    rw [List.map_cons, PyData.canLayAll0, PyData.canLay0, h x List.mem_cons_self, canLay_strs r fun z hz => h z (List.mem_cons_of_mem _ hz)]
    rfl
theorem depth_strs : ∀ rs : List Str, PyData.depthAll (rs.map .str) = 0
  | [] => by simp [PyData.depthAll]
  | x :: r => by
    rw [List.map_cons, PyData.depthAll, PyData.depth, depth_strs r]
    rfl
theorem shaped_sd (h : ∀ z ∈ rs, PyData.strOk z = true) : SeqAt.shaped (sd rs) = true := by
  unfold SeqAt.shaped sd
  rw [PyData.canLay0, canLay_strs rs h, PyData.depth, depth_strs]
  rfl
theorem canLay_rows : ∀ rss : List (List Str), (∀ r ∈ rss, ∀ z ∈ r, PyData.strOk z = true) → PyData.canLayAll0 (rss.map sd) = true
  | [], _ => by simp [PyData.canLayAll0]
  | x :: r, h => by
    rw [List.map_cons, PyData.canLayAll0, canLay_rows r fun z hz => h z (List.mem_cons_of_mem _ hz)]
    unfold sd
    rw [PyData.canLay0, canLay_strs x (h x List.mem_cons_self)]
    rfl
theorem depth_rows : ∀ rss : List (List Str), PyData.depthAll (rss.map sd) ≤ 1
  | [] => by simp [PyData.depthAll]
  | x :: r => by
    rw [List.map_cons, PyData.depthAll]
    have h := depth_rows r
    unfold sd
    rw [PyData.depth, depth_strs]
    exact Nat.max_le.mpr ⟨Nat.le_refl 1, h⟩
theorem shaped_sdd (h : ∀ r ∈ rss, ∀ z ∈ r, PyData.strOk z = true) : SeqAt.shaped (sdd rss) = true := by
  unfold SeqAt.shaped sdd
  have d := depth_rows rss
  rw [PyData.canLay0, canLay_rows rss h, PyData.depth, Bool.true_and]
  exact decide_eq_true (by omega)
variable {Q : VK}
theorem w_eqSL (hx : SL K H x rs) (hy : SL K H y rs') (h1 : ∀ z ∈ rs, PyData.strOk z = true) (h2 : ∀ z ∈ rs', PyData.strOk z = true) (q : Q (.bl (decide (rs = rs'))) H) : rEqD K x y H Q :=
  ⟨_, _, hx.dp, hy.dp, shaped_sd h1, shaped_sd h2, by rw [eqv_sd]; exact q⟩
theorem w_neSL (hx : SL K H x rs) (hy : SL K H y rs') (h1 : ∀ z ∈ rs, PyData.strOk z = true) (h2 : ∀ z ∈ rs', PyData.strOk z = true) (q : Q (.bl (!decide (rs = rs'))) H) : rNeD K x y H Q :=
  ⟨_, _, hx.dp, hy.dp, shaped_sd h1, shaped_sd h2, by rw [eqv_sd]; exact q⟩
theorem w_eqRL (hx : RL K H x rss) (hy : RL K H y rss') (h1 : ∀ r ∈ rss, ∀ z ∈ r, PyData.strOk z = true) (h2 : ∀ r ∈ rss', ∀ z ∈ r, PyData.strOk z = true) (q : Q (.bl (decide (rss = rss'))) H) : rEqD K x y H Q :=
  ⟨_, _, hx.dp, hy.dp, shaped_sdd h1, shaped_sdd h2, by rw [eqv_sdd]; exact q⟩
theorem w_neRL (hx : RL K H x rss) (hy : RL K H y rss') (h1 : ∀ r ∈ rss, ∀ z ∈ r, PyData.strOk z = true) (h2 : ∀ r ∈ rss', ∀ z ∈ r, PyData.strOk z = true) (q : Q (.bl (!decide (rss = rss'))) H) : rNeD K x y H Q :=
  ⟨_, _, hx.dp, hy.dp, shaped_sdd h1, shaped_sdd h2, by rw [eqv_sdd]; exact q⟩
/-! ### in -/
theorem inV_strs (n : Str) (rs : List Str) : inV (.str n) (rs.map V.str) = decide (n ∈ rs) := by
  unfold inV
  induction rs with
  | nil => rfl
  | cons x r ih =>
    rw [List.map_cons, List.any_cons, ih]
    have e : eqV (V.str x) (V.str n) = decide (n = x) := by
      unfold eqV
      by_cases h : n = x
      · subst h
        simp
      · have h' : ¬ x = n := fun e => h e.symm
        simp [h, h']
    rw [e]
    by_cases h : n = x
    · simp [h]
    · simp [h]
theorem flat_strs (rs : List Str) : (rs.map V.str).all flatV = true := by
  induction rs with
  | nil => rfl
  | cons x r ih =>
    rw [List.map_cons, List.all_cons, ih]
    rfl
theorem w_inSL {n : Str} (hy : SL K H y rs) (q : Q (.bl (decide (n ∈ rs))) H) : rIn K false (.str n) y H Q := by
  obtain ⟨a, rfl, h⟩ := hy
  refine ⟨a, _, rfl, .inl h, rfl, flat_strs rs, ?_⟩
  rw [inV_strs]
  exact q
theorem w_ninSL {n : Str} (hy : SL K H y rs) (q : Q (.bl (!decide (n ∈ rs))) H) : rIn K true (.str n) y H Q := by
  obtain ⟨a, rfl, h⟩ := hy
  refine ⟨a, _, rfl, .inl h, rfl, flat_strs rs, ?_⟩
  rw [inV_strs]
  exact q
theorem w_lenSL (hy : SL K H y rs) (q : Q (.int rs.length) H) : qLenQ K [y] H Q := by
  obtain ⟨a, rfl, h⟩ := hy
  exact w_lenL h (by rw [List.length_map]; exact q)
theorem w_lenRL (hy : RL K H y rss) (q : Q (.int rss.length) H) : qLenQ K [y] H Q := by
  obtain ⟨a, vs, rfl, h, p⟩ := hy
  exact w_lenL h (by rw [paired_len p]; exact q)
theorem w_slSL {lo hi : Option Int} (hy : SL K H y rs) (h : ∀ p H', H p = none → Same H H' → H' p = some (.lst ((cut rs lo hi).map V.str)) → Q (.ref p) H') : rSlL K y lo hi H Q := by
  obtain ⟨a, rfl, hS⟩ := hy
  exact w_slL hS fun p H' n s e => h p H' n s (by rw [← cutV_map]; exact e)
theorem w_listSL (hy : SL K H y rs) (h : ∀ p H', H p = none → Same H H' → H' p = some (.lst (rs.map V.str)) → Q (.ref p) H') : qListOf K [y] H Q := by
  obtain ⟨a, rfl, hS⟩ := hy
  exact w_listL hS h
theorem w_ixSL {i : Int} {z : Str} (hy : SL K H y rs) (h0 : 0 ≤ i) (hz : rs[i.toNat]? = some z) (q : Q (.str z) H) : rIxL K y (.int i) H Q := by
  obtain ⟨a, rfl, hS⟩ := hy
  exact w_ixL hS (atI_of h0 (by rw [List.getElem?_map, hz]; rfl)) q
theorem w_ixRL {i : Int} {z : List Str} (hy : RL K H y rss) (h0 : 0 ≤ i) (hz : rss[i.toNat]? = some z) (q : ∀ v, SL K H v z → Q v H) : rIxL K y (.int i) H Q := by
  obtain ⟨a, vs, rfl, hS, p⟩ := hy
  obtain ⟨v, hv, sv⟩ := paired_at' p hz
  exact w_ixL hS (atI_of h0 hv) (q v sv)
end
/-! ### loops over such lists -/
section
variable {K : PySem.W.Frag} {σ : St} {H : Hp} {Q : VK} {n b c : L2.St → Hp → Prop} {r : VK} {t : TS} {x : V} {rs : List Str} {rss : List (List Str)} {g : TG} {tt : TT} {te : TE} {vs : List Nat}
theorem forSL (hR : SL K H x rs) (Pv : Nat → L2.St → Hp → Prop) (h0 : Pv 0 σ H) (hm : ∀ i σ' H', Pv i σ' H' → Same H H')
    (hs : ∀ i z σ' H', rs[i]? = some z → Pv i σ' H' → g (.str z) σ' H' fun σ2 H2 => t ⟨Pv (i + 1), r, n, Pv (i + 1)⟩ σ2 H2) (hd : ∀ σ' H', Pv rs.length σ' H' → n σ' H') : ForL K x g t ⟨n, r, b, c⟩ σ H := by
  obtain ⟨a, rfl, hS⟩ := hR
  refine forL hS Pv h0 (fun i σ' H' _ p => (hm i σ' H' p).seq hS) (fun i v σ' H' hi p => ?_) (fun σ' H' p => hd σ' H' (by rw [List.length_map] at p; exact p))
  rw [List.getElem?_map] at hi
  cases e : rs[i]? with
  | none => rw [e] at hi; cases hi
  | some z =>
    rw [e] at hi
    cases hi
    exact hs i z σ' H' e p
theorem forRL (hR : RL K H x rss) (Pv : Nat → L2.St → Hp → Prop) (h0 : Pv 0 σ H) (hm : ∀ i σ' H', Pv i σ' H' → Same H H')
    (hs : ∀ i v rs σ' H', rss[i]? = some rs → SL K H' v rs → Pv i σ' H' → g v σ' H' fun σ2 H2 => t ⟨Pv (i + 1), r, n, Pv (i + 1)⟩ σ2 H2) (hd : ∀ σ' H', Pv rss.length σ' H' → n σ' H') : ForL K x g t ⟨n, r, b, c⟩ σ H := by
  obtain ⟨a, ws, rfl, hS, p0⟩ := hR
  refine forL hS Pv h0 (fun i σ' H' _ p => (hm i σ' H' p).seq hS) (fun i v σ' H' hi p => ?_) (fun σ' H' p => hd σ' H' (by rw [paired_len p0] at p; exact p))
  obtain ⟨rs, e, q⟩ := paired_at p0 hi
  exact hs i v rs σ' H' e (SL.mono (hm i σ' H' p) q) p
/-- a comprehension that gives values, and makes nothing that is kept but its list -/
theorem lcVal {a : Addr} {xs : List V} {j : Nat} (hS : SqL K H a xs) (f : V → Bool) (y : V → V) (hz : xs.length < 100000)
    (hw : ∀ v, wipe ((wipe σ vs).set j (some v)) vs = wipe σ vs)
    (ht : ∀ (i : Nat) v H', xs[i]? = some v → Same H H' → ∀ Qb : Bool → Hp → Prop, (∀ H'', Same H' H'' → Qb (f v) H'') → tt ((wipe σ vs).set j (some v)) H' Qb)
    (he : ∀ (i : Nat) v H', xs[i]? = some v → f v = true → Same H H' → ∀ Qe : VK, (∀ H'', Same H' H'' → Qe (y v) H'') → te ((wipe σ vs).set j (some v)) H' Qe)
    (hd : ∀ D H', H D = none → Same H H' → H' D = some (.lst ((xs.filter f).map y)) → Q (.ref D) H') : LcL K (.ref a) (gName j) tt te vs σ H Q := by
  refine lcL hS (fun D i H' => H D = none ∧ Same H H' ∧ H' D = some (.lst (((xs.take i).filter f).map y))) (fun D nD => ⟨nD, same_upd nD, upd_same⟩) (fun D i H' _ h => h.2.1.seq hS) ?_ ?_
  · rintro D i v H' hi ⟨nD, s1, hD⟩
    have hlt : i < xs.length := (List.getElem?_eq_some_iff.mp hi).1
    refine ⟨hw v, ht i v H' hi s1 _ fun H1 s2 => ?_⟩
    have et : xs.take (i + 1) = xs.take i ++ [v] := by rw [List.take_add_one, hi]; rfl
    cases e : f v with
    | true =>
      rw [if_pos rfl]
      refine he i v H1 hi e (s1.trans s2) _ fun H2 s3 => ?_
      have hl : (((xs.take i).filter f).map y).length < 100000 := by
        rw [List.length_map]
        have h1 := List.length_filter_le f (xs.take i)
        rw [List.length_take] at h1
        omega
      refine ⟨_, s3 _ _ (s2 _ _ hD), smallL hl, nD, same_mut (s1.trans (s2.trans s3)) nD, ?_⟩
      rw [upd_same, et, List.filter_append, List.filter_cons_of_pos e, List.filter_nil, List.map_append]
      rfl
    | false =>
      rw [if_neg Bool.false_ne_true]
      refine ⟨nD, s1.trans s2, ?_⟩
      rw [et, List.filter_append, List.filter_cons_of_neg (by rw [e]; decide), List.filter_nil, List.append_nil]
      exact s2 _ _ hD
  · rintro D H' nD ⟨_, s1, hD⟩
    rw [List.take_length] at hD
    exact hd D H' nD s1 hD
/-- .. over a range -/
theorem lcValR {lo : Int} {k j : Nat} (f : Int → Bool) (y : Int → V) (hz : k < 100000)
    (hw : ∀ v, wipe ((wipe σ vs).set j (some v)) vs = wipe σ vs)
    (ht : ∀ (i : Nat) H', i < k → Same H H' → ∀ Qb : Bool → Hp → Prop, (∀ H'', Same H' H'' → Qb (f (lo + i)) H'') → tt ((wipe σ vs).set j (some (.int (lo + i)))) H' Qb)
    (he : ∀ (i : Nat) H', i < k → f (lo + i) = true → Same H H' → ∀ Qe : VK, (∀ H'', Same H' H'' → Qe (y (lo + i)) H'') → te ((wipe σ vs).set j (some (.int (lo + i)))) H' Qe)
    (hd : ∀ D H', H D = none → Same H H' → H' D = some (.lst ((((List.range k).map fun (i : Nat) => lo + (i : Int)).filter f).map y)) → Q (.ref D) H') : LcR lo k (gName j) tt te vs σ H Q := by
  refine lcR (fun D i H' => H D = none ∧ Same H H' ∧ H' D = some (.lst ((((List.range i).map fun (i : Nat) => lo + (i : Int)).filter f).map y))) (fun D nD => ⟨nD, same_upd nD, upd_same⟩) ?_ ?_
  · rintro D i H' hi ⟨nD, s1, hD⟩
    refine ⟨hw _, ht i H' hi s1 _ fun H1 s2 => ?_⟩
    have et : ((List.range (i + 1)).map fun (i : Nat) => lo + (i : Int)) = ((List.range i).map fun (i : Nat) => lo + (i : Int)) ++ [lo + (i : Int)] := by rw [List.range_succ, List.map_append]; rfl
    cases e : f (lo + i) with
    | true =>
      rw [if_pos rfl]
      refine he i H1 hi e (s1.trans s2) _ fun H2 s3 => ?_
      have hl : ((((List.range i).map fun (i : Nat) => lo + (i : Int)).filter f).map y).length < 100000 := by
        rw [List.length_map]
        have h1 := List.length_filter_le f ((List.range i).map fun (i : Nat) => lo + (i : Int))
        rw [List.length_map, List.length_range] at h1
        omega
      refine ⟨_, s3 _ _ (s2 _ _ hD), smallL hl, nD, same_mut (s1.trans (s2.trans s3)) nD, ?_⟩
      rw [upd_same, et, List.filter_append, List.filter_cons_of_pos e, List.filter_nil, List.map_append]
      rfl
    | false =>
      rw [if_neg Bool.false_ne_true]
      refine ⟨nD, s1.trans s2, ?_⟩
      rw [et, List.filter_append, List.filter_cons_of_neg (by rw [e]; decide), List.filter_nil, List.append_nil]
      exact s2 _ _ hD
  · rintro D H' nD ⟨_, s1, hD⟩
    exact hd D H' nD s1 hD
/-- a comprehension that gives for each item the value that stands there in ys -/
theorem lcMap {a : Addr} {xs ys : List V} {j : Nat} (hS : SqL K H a xs) (hl : ys.length = xs.length) (hz : xs.length < 100000)
    (hw : ∀ v, wipe ((wipe σ vs).set j (some v)) vs = wipe σ vs)
    (he : ∀ (i : Nat) v y H', xs[i]? = some v → ys[i]? = some y → Same H H' → ∀ Qe : VK, (∀ H'', Same H' H'' → Qe y H'') → te ((wipe σ vs).set j (some v)) H' Qe)
    (hd : ∀ D H', H D = none → Same H H' → H' D = some (.lst ys) → Q (.ref D) H') : LcL K (.ref a) (gName j) tYes te vs σ H Q := by
  refine lcL hS (fun D i H' => H D = none ∧ Same H H' ∧ H' D = some (.lst (ys.take i))) (fun D nD => ⟨nD, same_upd nD, upd_same⟩) (fun D i H' _ h => h.2.1.seq hS) ?_ ?_
  · rintro D i v H' hi ⟨nD, s1, hD⟩
    have hlt : i < xs.length := (List.getElem?_eq_some_iff.mp hi).1
    have hy : ys[i]? = some ys[i] := List.getElem?_eq_getElem (by omega)
    refine ⟨hw v, w_yes ?_⟩
    rw [if_pos rfl]
    refine he i v _ H' hi hy s1 _ fun H2 s2 => ⟨_, s2 _ _ hD, smallL (by rw [List.length_take]; omega), nD, same_mut (s1.trans s2) nD, ?_⟩
    rw [upd_same, List.take_add_one, hy]
    rfl
  · rintro D H' nD ⟨_, s1, hD⟩
    rw [List.take_of_length_le (by omega)] at hD
    exact hd D H' nD s1 hD
/-- [row != [] for row in rows] -/
theorem lcNe {x : V} {rss : List (List Str)} {j : Nat} (hR : RL K H x rss) (ok : ∀ r ∈ rss, ∀ z ∈ r, PyData.strOk z = true) (hz : rss.length < 100000) (hw : ∀ v, wipe ((wipe σ vs).set j (some v)) vs = wipe σ vs) (hj : ∀ v, ((wipe σ vs).set j (some v))[j]? = some (some v))
    (hd : ∀ D H', H D = none → Same H H' → H' D = some (.lst ((rss.map fun r => !decide (r = [])).map V.bl)) → Q (.ref D) H') : LcL K x (gName j) tYes (tOp (rNeD K) (tVar j) (tLst tNil)) vs σ H Q := by
  obtain ⟨a, ws, rfl, hS, p0⟩ := hR
  refine lcMap (ys := (rss.map fun r => !decide (r = [])).map V.bl) hS (by rw [List.length_map, List.length_map, paired_len p0]) (by rw [paired_len p0]; exact hz) hw ?_ hd
  intro i v y H' hi hy s1 Qe qe
  obtain ⟨rs, e, q⟩ := paired_at p0 hi
  refine w_op (w_var (hj v) (w_lst (w_nil (w_newL (small (Nat.zero_le _)) fun p H2 np s2 hp => ?_))))
  refine w_neSL (rs' := []) (SL.mono (s1.trans s2) q) (SL.of hp) (ok rs (List.mem_of_getElem? e)) (fun z hz => by cases hz) ?_
  rw [List.getElem?_map, List.getElem?_map, e] at hy
  cases hy
  exact qe _ s2
/-- a comprehension whose items are new lists -/
theorem lcNew {a : Addr} {xs : List V} {j : Nat} (hS : SqL K H a xs) (Rv : Nat → List V → Prop) (hz : xs.length < 100000)
    (hw : ∀ v, wipe ((wipe σ vs).set j (some v)) vs = wipe σ vs)
    (he : ∀ (i : Nat) v H', xs[i]? = some v → Same H H' → ∀ Qe : VK, (∀ p H'' ws, H' p = none → Same H' H'' → H'' p = some (.lst ws) → Rv i ws → Qe (.ref p) H'') → te ((wipe σ vs).set j (some v)) H' Qe)
    (hd : ∀ D H' (ps : List Addr), H D = none → Same H H' → H' D = some (.lst (ps.map V.ref)) → D ∉ ps → ps.Nodup → (∀ p ∈ ps, H p = none) → ps.length = xs.length → (∀ (i : Nat) p, ps[i]? = some p → ∃ ws, H' p = some (.lst ws) ∧ Rv i ws) → Q (.ref D) H') : LcL K (.ref a) (gName j) tYes te vs σ H Q := by
  refine lcL hS (fun D i H' => H D = none ∧ Same H H' ∧ ∃ ps : List Addr, H' D = some (.lst (ps.map V.ref)) ∧ ps.length = i ∧ D ∉ ps ∧ ps.Nodup ∧ (∀ p ∈ ps, H p = none) ∧ (∀ (k : Nat) p, ps[k]? = some p → ∃ ws, H' p = some (.lst ws) ∧ Rv k ws))
    (fun D nD => ⟨nD, same_upd nD, [], upd_same, rfl, by simp, List.nodup_nil, by simp, by simp⟩) (fun D i H' _ h => h.2.1.seq hS) ?_ ?_
  · rintro D i v H' hi ⟨nD, s1, ps, hD, hl, nDp, nd, hf, hp⟩
    have hlt : i < xs.length := (List.getElem?_eq_some_iff.mp hi).1
    refine ⟨hw v, w_yes ?_⟩
    rw [if_pos rfl]
    refine he i v H' hi s1 _ fun p H2 ws np s3 hws hr => ?_
    have npD : p ≠ D := (ne_of_none hD np).symm
    have np1 : H p = none := s1.free np
    have npp : p ∉ ps := fun m => by
      obtain ⟨i', hi'⟩ := List.getElem?_of_mem m
      obtain ⟨ws', h1, _⟩ := hp i' p hi'
      rw [np] at h1
      cases h1
    refine ⟨_, s3 _ _ hD, smallL (by rw [List.length_map]; omega), nD, same_mut (s1.trans s3) nD, ps ++ [p], ?_, by rw [List.length_append, hl]; rfl, ?_, ?_, ?_, ?_⟩
    · rw [upd_same, List.map_append]
      rfl
    · rw [List.mem_append]
      rintro (m | m)
      · exact nDp m
      · exact npD (List.mem_singleton.mp m).symm
    · rw [List.nodup_append]
      refine ⟨nd, List.nodup_cons.mpr ⟨by simp, List.nodup_nil⟩, fun x hx y hy e => ?_⟩
      rw [List.mem_singleton.mp hy] at e
      exact npp (e ▸ hx)
    · intro q hq
      rcases List.mem_append.mp hq with m | m
      · exact hf q m
      · rw [List.mem_singleton.mp m]
        exact np1
    · intro k q hk
      by_cases h : k < ps.length
      · rw [List.getElem?_append_left h] at hk
        obtain ⟨w1, h1, h2⟩ := hp k q hk
        exact ⟨w1, by rw [upd_ne (show q ≠ D from fun e => nDp (by rw [← e]; exact List.mem_of_getElem? hk))]; exact s3 _ _ h1, h2⟩
      · rw [List.getElem?_append_right (by omega)] at hk
        have e : k = i := by
          cases h0 : k - ps.length with
          | zero => omega
          | succ m =>
            rw [h0] at hk
            simp at hk
        subst e
        rw [hl, Nat.sub_self] at hk
        cases hk
        exact ⟨ws, by rw [upd_ne npD]; exact hws, hr⟩
  · rintro D H' nD ⟨_, s1, ps, hD, hl, nDp, nd, hf, hp⟩
    exact hd D H' ps nD s1 hD nDp nd hf hl hp
/-- [list(row) for row in rows]: new rows, unlike one another -/
theorem lcCopy {x : V} {rss : List (List Str)} {j : Nat} (hR : RL K H x rss) (hz : rss.length < 100000) (hw : ∀ v, wipe ((wipe σ vs).set j (some v)) vs = wipe σ vs) (hj : ∀ v, ((wipe σ vs).set j (some v))[j]? = some (some v))
    (hd : ∀ D H' (ps : List Addr), H D = none → Same H H' → H' D = some (.lst (ps.map V.ref)) → D ∉ ps → ps.Nodup → (∀ p ∈ ps, H p = none) → ps.length = rss.length → (∀ (i : Nat) p, ps[i]? = some p → ∃ rs, rss[i]? = some rs ∧ H' p = some (.lst (rs.map V.str))) → Q (.ref D) H') :
    LcL K x (gName j) tYes (tCB (qListOf K) (tCons (tVar j) tNil)) vs σ H Q := by
  obtain ⟨a, ws, rfl, hS, p0⟩ := hR
  refine lcNew hS (fun i ws => ∃ rs, rss[i]? = some rs ∧ ws = rs.map V.str) (by rw [paired_len p0]; exact hz) hw ?_ ?_
  · intro i v H' hi s1 Qe qe
    obtain ⟨rs, e, q⟩ := paired_at p0 hi
    refine w_cb (w_cons (w_var (hj v) (w_nil ?_)))
    exact w_listSL (SL.mono s1 q) fun p H2 np s2 hp => qe p H2 _ np s2 hp ⟨rs, e, rfl⟩
  · intro D H' ps nD s1 hD nDp nd hf hl hp
    refine hd D H' ps nD s1 hD nDp nd hf (by rw [hl, paired_len p0]) fun i p hi => ?_
    obtain ⟨ws', h1, rs, e, rfl⟩ := hp i p hi
    exact ⟨rs, e, h1⟩
end
theorem paired_of {α β : Type} {F : α → β → Prop} : ∀ {xs : List α} {ys : List β}, xs.length = ys.length → (∀ (i : Nat) x y, xs[i]? = some x → ys[i]? = some y → F x y) → Paired F xs ys
  | [], [], _, _ => .nil
  | [], _ :: _, h, _ => by cases h
  | _ :: _, [], h, _ => by cases h
  | x :: xs, y :: ys, h, hF => .cons (hF 0 x y rfl rfl) (paired_of (by simpa using h) fun i a b ha hb => hF (i + 1) a b (by simpa using ha) (by simpa using hb))
/-- rows at new addresses -/
theorem RL.of {K : PySem.W.Frag} {H : Hp} {D : Addr} {ps : List Addr} {rss : List (List Str)} (hD : H D = some (.lst (ps.map V.ref))) (hl : ps.length = rss.length)
    (hp : ∀ (i : Nat) p, ps[i]? = some p → ∃ rs, rss[i]? = some rs ∧ H p = some (.lst (rs.map V.str))) : RL K H (.ref D) rss := by
  refine ⟨D, _, rfl, Sq_of hD, paired_of (by rw [List.length_map, hl]) fun i v rs hv hr => ?_⟩
  rw [List.getElem?_map] at hv
  cases e : ps[i]? with
  | none => rw [e] at hv; cases hv
  | some p =>
    rw [e] at hv
    cases hv
    obtain ⟨rs', h1, h2⟩ := hp i p e
    rw [hr] at h1
    cases h1
    exact SL.of h2
/-- what is new in H' -/
def fresh (H H' : Hp) : Hp := fun b => match H b with
  | some _ => none
  | none => H' b
theorem fresh_at {H H' : Hp} {p : Addr} {o : HO} (n : H p = none) (e : H' p = some o) : fresh H H' p = some o := by
  unfold fresh
  rw [n]
  exact e
theorem fresh_old {H H' : Hp} {p : Addr} {o : HO} (n : H p = some o) : fresh H H' p = none := by
  unfold fresh
  rw [n]
theorem fresh_same {H H' : Hp} : Same (fresh H H') H' := fun b o e => by
  unfold fresh at e
  cases h : H b with
  | some u => rw [h] at e; cases e
  | none => rw [h] at e; exact e
def Wh (Pv : Nat → L2.St → Hp → Prop) (m : Nat) (t : TS) (r : VK) (n : L2.St → Hp → Prop) (σ : St) (H : Hp) : Prop := ∃ N : L2.St → Hp → Prop, (∀ σ' H', N σ' H' → ∃ m', m' < m ∧ Pv m' σ' H') ∧ t ⟨N, r, n, N⟩ σ H
theorem w_wh {Pv : Nat → L2.St → Hp → Prop} {m : Nat} {t : TS} {r : VK} {n : L2.St → Hp → Prop} {σ : St} {H : Hp} (h : t ⟨fun σ' H' => ∃ m', m' < m ∧ Pv m' σ' H', r, n, fun σ' H' => ∃ m', m' < m ∧ Pv m' σ' H'⟩ σ H) : Wh Pv m t r n σ H := ⟨_, fun _ _ h => h, h⟩
theorem wh_by {c : TT} {t : TS} {σ : St} {H : Hp} {n b' c' : L2.St → Hp → Prop} {r : VK} (Pv : Nat → L2.St → Hp → Prop) (m : Nat) (h0 : Pv m σ H)
    (hs : ∀ m σ H, Pv m σ H → c σ H fun b H1 => if b = true then Wh Pv m t r n σ H1 else n σ H1) : tWhile c t ⟨n, r, b', c'⟩ σ H :=
  ⟨Pv, ⟨m, h0⟩, fun m σ H p => hs m σ H p⟩
end Tg

/-! The engine: walks over data, the heap told once. -/
namespace Tg
open PySem PySem.Spec L2
/-- data: what a value is, all the way down -/
inductive D where
  | non | bl (b : Bool) | int (i : Int) | str (z : Str) | lst (xs : List D) | fls (xs : List D) | tup (xs : List D) | dk (kvs : List (Key × D)) | dt (kvs : List (List Key × D)) | op (v : V) | ex (v : V) (dd : Addr) (fs : List (Str × D)) | vd (v : V) (d : D)
def okS (z : Str) : Prop := z.length ≤ 10000 ∧ PyData.strOk z = true
mutual
inductive Dv (K : PySem.W.Frag) (B : Hp) : V → D → Prop
  | non : Dv K B .non .non
  | bl (b : Bool) : Dv K B (.bl b) (.bl b)
  | int (i : Int) : Dv K B (.int i) (.int i)
  | str (z : Str) : okS z → Dv K B (.str z) (.str z)
  | lst {a : Addr} {vs : List V} {ds : List D} : B a = some (.lst vs) → DvL K B vs ds → Dv K B (.ref a) (.lst ds)
  | fls {a : Addr} {vs : List V} {ds : List D} : SqL K B a vs → DvL K B vs ds → Dv K B (.ref a) (.fls ds)
  | tup {a : Addr} {vs : List V} {ds : List D} : B a = some (.tup vs) → DvL K B vs ds → Dv K B (.ref a) (.tup ds)
  | dk {a : Addr} {ks : List (Key × V)} {ds : List (Key × D)} : Rd B a (.dK ks) → DvK K B ks ds → Dv K B (.ref a) (.dk ds)
  | dt {a : Addr} {ks : List (List Key × V)} {ds : List (List Key × D)} : Rd B a (.dT ks) → DvT K B ks ds → Dv K B (.ref a) (.dt ds)
  | op (v : V) : Dv K B v (.op v)
  | ex {v : V} {dd : Addr} {vfs : List (Str × V)} {fs : List (Str × D)} : B dd = some (.xd vfs) → DvF K B vfs fs → Dv K B v (.ex v dd fs)
  | vd {v : V} {d : D} : Dv K B v d → Dv K B v (.vd v d)
inductive DvL (K : PySem.W.Frag) (B : Hp) : List V → List D → Prop
  | nil : DvL K B [] []
  | cons {v : V} {vs : List V} {d : D} {ds : List D} : Dv K B v d → DvL K B vs ds → DvL K B (v :: vs) (d :: ds)
inductive DvK (K : PySem.W.Frag) (B : Hp) : List (Key × V) → List (Key × D) → Prop
  | nil : DvK K B [] []
  | cons {k : Key} {v : V} {vs : List (Key × V)} {d : D} {ds : List (Key × D)} : Dv K B v d → DvK K B vs ds → DvK K B ((k, v) :: vs) ((k, d) :: ds)
inductive DvT (K : PySem.W.Frag) (B : Hp) : List (List Key × V) → List (List Key × D) → Prop
  | nil : DvT K B [] []
  | cons {k : List Key} {v : V} {vs : List (List Key × V)} {d : D} {ds : List (List Key × D)} : Dv K B v d → DvT K B vs ds → DvT K B ((k, v) :: vs) ((k, d) :: ds)
inductive DvF (K : PySem.W.Frag) (B : Hp) : List (Str × V) → List (Str × D) → Prop
  | nil : DvF K B [] []
  | cons {f : Str} {v : V} {vs : List (Str × V)} {d : D} {ds : List (Str × D)} : Dv K B v d → DvF K B vs ds → DvF K B ((f, v) :: vs) ((f, d) :: ds)
end
section
variable {K : PySem.W.Frag} {B B' H H' H1 H2 : Hp} {v : V} {d : D} {vs : List V} {ds : List D}
theorem rd_mono {a : Addr} {u : HO} (e : Same B B') (h : Rd B a u) : Rd B' a u := h.elim (fun h => .inl (e _ _ h)) fun ⟨o, h⟩ => .inr ⟨o, e _ _ h⟩
theorem Dv.mono (e : Same B B') (h : Dv K B v d) : Dv K B' v d := by
  refine Dv.rec (motive_1 := fun v d _ => Dv K B' v d) (motive_2 := fun v d _ => DvL K B' v d) (motive_3 := fun v d _ => DvK K B' v d) (motive_4 := fun v d _ => DvT K B' v d) (motive_5 := fun v d _ => DvF K B' v d) ?_ ?_ ?_ ?_ ?_ ?_ ?_ ?_ ?_ ?_ ?_ ?_ ?_ ?_ ?_ ?_ ?_ ?_ ?_ ?_ h
  · exact .non
  · exact .bl
  · exact .int
  · exact fun z h => .str z h
  · exact fun s _ ih => .lst (e _ _ s) ih
  · exact fun s _ ih => .fls (e.seq s) ih
  · exact fun s _ ih => .tup (e _ _ s) ih
  · exact fun s _ ih => .dk (rd_mono e s) ih
  · exact fun s _ ih => .dt (rd_mono e s) ih
  · exact fun v => .op v
  · exact fun s _ ih => .ex (e _ _ s) ih
  · exact fun _ ih => .vd ih
  · exact .nil
  · exact fun _ _ h t => .cons h t
  · exact .nil
  · exact fun _ _ h t => .cons h t
  · exact .nil
  · exact fun _ _ h t => .cons h t
  · exact .nil
  · exact fun _ _ h t => .cons h t
theorem DvL.mono (e : Same B B') : ∀ {vs : List V} {ds : List D}, DvL K B vs ds → DvL K B' vs ds
  | _, _, .nil => .nil
  | _, _, .cons h t => .cons (h.mono e) (DvL.mono e t)
theorem DvK.mono (e : Same B B') : ∀ {vs : List (Key × V)} {ds : List (Key × D)}, DvK K B vs ds → DvK K B' vs ds
  | _, _, .nil => .nil
  | _, _, .cons h t => .cons (h.mono e) (DvK.mono e t)
theorem DvT.mono (e : Same B B') : ∀ {vs : List (List Key × V)} {ds : List (List Key × D)}, DvT K B vs ds → DvT K B' vs ds
  | _, _, .nil => .nil
  | _, _, .cons h t => .cons (h.mono e) (DvT.mono e t)
theorem DvL.len : ∀ {vs : List V} {ds : List D}, DvL K B vs ds → vs.length = ds.length
  | _, _, .nil => rfl
  | _, _, .cons _ t => by rw [List.length_cons, List.length_cons, DvL.len t]
theorem DvL.at : ∀ {vs : List V} {ds : List D}, DvL K B vs ds → ∀ {i : Nat} {d : D}, ds[i]? = some d → ∃ v, vs[i]? = some v ∧ Dv K B v d
  | _, _, .nil, i, d, h => by simp at h
  | _, _, .cons h _, 0, d, e => by
    cases e
    exact ⟨_, rfl, h⟩
  | _, _, .cons _ t, i + 1, d, e => by
    obtain ⟨v, h1, h2⟩ := DvL.at t (i := i) (d := d) e
    exact ⟨v, h1, h2⟩
theorem DvL.at' : ∀ {vs : List V} {ds : List D}, DvL K B vs ds → ∀ {i : Nat} {v : V}, vs[i]? = some v → ∃ d, ds[i]? = some d ∧ Dv K B v d
  | _, _, .nil, i, d, h => by simp at h
  | _, _, .cons h _, 0, d, e => by
    cases e
    exact ⟨_, rfl, h⟩
  | _, _, .cons _ t, i + 1, v, e => by
    obtain ⟨d, h1, h2⟩ := DvL.at' t (i := i) (v := v) e
    exact ⟨d, h1, h2⟩
theorem DvL.append : ∀ {vs ws : List V} {ds es : List D}, DvL K B vs ds → DvL K B ws es → DvL K B (vs ++ ws) (ds ++ es)
  | _, _, _, _, .nil, h => h
  | _, _, _, _, .cons h t, q => .cons h (DvL.append t q)
theorem DvL.take : ∀ {vs : List V} {ds : List D} (n : Nat), DvL K B vs ds → DvL K B (vs.take n) (ds.take n)
  | _, _, 0, _ => .nil
  | _, _, _ + 1, .nil => .nil
  | _, _, n + 1, .cons h t => .cons h (DvL.take n t)
theorem DvL.drop : ∀ {vs : List V} {ds : List D} (n : Nat), DvL K B vs ds → DvL K B (vs.drop n) (ds.drop n)
  | _, _, 0, h => h
  | _, _, _ + 1, .nil => .nil
  | _, _, n + 1, .cons h t => DvL.drop n t
theorem DvL.set : ∀ {vs : List V} {ds : List D} (n : Nat), Dv K B v d → DvL K B vs ds → DvL K B (vs.set n v) (ds.set n d)
  | _, _, _, _, .nil => .nil
  | _, _, 0, q, .cons h t => .cons q t
  | _, _, n + 1, q, .cons h t => .cons h (DvL.set n q t)
theorem DvL.erase : ∀ {vs : List V} {ds : List D} (n : Nat), DvL K B vs ds → DvL K B (vs.eraseIdx n) (ds.eraseIdx n)
  | _, _, _, .nil => .nil
  | _, _, 0, .cons h t => t
  | _, _, n + 1, .cons h t => .cons h (DvL.erase n t)
theorem DvL.rev : ∀ {vs : List V} {ds : List D}, DvL K B vs ds → DvL K B vs.reverse ds.reverse
  | _, _, .nil => .nil
  | _, _, .cons h t => by
    rw [List.reverse_cons, List.reverse_cons]
    exact (DvL.rev t).append (.cons h .nil)
theorem DvL.cut {lo hi : Option Int} (h : DvL K B vs ds) : DvL K B (cutV vs lo hi) (cut ds lo hi) := by
  unfold cutV Tg.cut
  rw [h.len]
  exact (h.drop _).take _
/-! ### the heap's frozen part -/
def ext (B H H' : Hp) : Hp := fun b => match H b with
  | none => H' b
  | some _ => B b
def rem (B : Hp) (p : Addr) : Hp := fun b => if b = p then none else B b
theorem ext_new {b : Addr} (h : H b = none) : ext B H H' b = H' b := by unfold ext; rw [h]
theorem ext_old {b : Addr} (h : H b ≠ none) : ext B H H' b = B b := by
  unfold ext
  cases e : H b with
  | none => exact absurd e h
  | some o => rfl
theorem ne_none {b : Addr} {o : HO} (h : H b = some o) : H b ≠ none := by rw [h]; exact fun z => by cases z
theorem ext_l (s : Same B H) : Same B (ext B H H') := fun b o e => by
  rw [ext_old (ne_none (s b o e))]
  exact e
theorem ext_r (s : Same B H) (t : Same H H') : Same (ext B H H') H' := fun b o e => by
  cases h : H b with
  | none =>
    rw [ext_new h] at e
    exact e
  | some u =>
    rw [ext_old (ne_none h)] at e
    exact t b o (s b o e)
theorem ext_ext (t : Same H H1) (u : Same H1 H2) : ext (ext B H H1) H1 H2 = ext B H H2 := by
  funext b
  cases h1 : H1 b with
  | none => rw [ext_new h1, ext_new (t.free h1)]
  | some o =>
    rw [ext_old (ne_none h1)]
    cases h : H b with
    | none => rw [ext_new h, ext_new h, h1, u b o h1]
    | some o' => rw [ext_old (ne_none h), ext_old (ne_none h)]
theorem ext_self (s : Same B H) : ext B H H = B := by
  funext b
  cases h : H b with
  | none => rw [ext_new h, h, s.free h]
  | some o => rw [ext_old (ne_none h)]
theorem rem_same {p : Addr} : Same (rem B p) B := fun b o e => by
  unfold rem at e
  split at e
  · cases e
  · exact e
theorem same_rem {p : Addr} (s : Same B B') (h : B p = none) : Same B (rem B' p) := fun b o e => by
  unfold rem
  rw [if_neg (ne_of_none e h)]
  exact s b o e
/-! ### slots -/
inductive Sl where
  | un | sh (d : D) | own (d : D) | ow2 (dss : List (List D)) | bo (d : D)
def Cell (K : PySem.W.Frag) (B H : Hp) (a : Addr) : D → Prop
  | .lst ds => ∃ vs, H a = some (.lst vs) ∧ DvL K B vs ds
  | .dk ds => ∃ ks, H a = some (.dK ks) ∧ DvK K B ks ds
  | .dt ds => ∃ ks, H a = some (.dT ks) ∧ DvT K B ks ds
  | _ => False
theorem Cell.mono {a : Addr} (e : Same B B') (h : H' a = H a) (c : Cell K B H a d) : Cell K B' H' a d := by
  cases d <;> first | exact c | (obtain ⟨vs, h1, h2⟩ := c; exact ⟨vs, h.trans h1, h2.mono e⟩)
theorem Cell.there {a : Addr} (c : Cell K B H a d) : H a ≠ none := by
  cases d <;> first | exact False.elim c | (obtain ⟨vs, h1, h2⟩ := c; rw [h1]; exact fun z => by cases z)
theorem Cell.dv {a : Addr} (c : Cell K B H a d) (e : Same B B') (h : B' a = H a) : Dv K B' (.ref a) d := by
  cases d <;> first | exact False.elim c | skip
  · obtain ⟨vs, h1, h2⟩ := c
    exact .lst (h.trans h1) (h2.mono e)
  · obtain ⟨vs, h1, h2⟩ := c
    exact .dk (.inl (h.trans h1)) (h2.mono e)
  · obtain ⟨vs, h1, h2⟩ := c
    exact .dt (.inl (h.trans h1)) (h2.mono e)
/-- something stands there, and no tuple -/
def Hard (o : Option HO) : Prop := o ≠ none ∧ ∀ xs, o ≠ some (.tup xs)
theorem Hard.ne {o : Option HO} (h : Hard o) : o ≠ none := h.1
theorem hard_lst {o : Option HO} {xs : List V} (h : o = some (.lst xs)) : Hard o := by rw [h]; exact ⟨(fun z => by cases z), (fun _ z => by cases z)⟩
theorem Cell.hard {a : Addr} (c : Cell K B H a d) : Hard (H a) := by
  cases d <;> first | exact False.elim c | (obtain ⟨vs, h1, h2⟩ := c; rw [h1]; exact ⟨(fun z => by cases z), (fun _ z => by cases z)⟩)
theorem hard_up {a : Addr} (s : Same H H') (h : Hard (H a)) : Hard (H' a) := by
  cases e : H a with
  | none => exact absurd e h.1
  | some o =>
    rw [s a o e, ← e]
    exact h
/-- lists at ps -/
def Cells (K : PySem.W.Frag) (B H : Hp) (ps : List Addr) (dss : List (List D)) : Prop := Paired (fun p ds => Cell K B H p (.lst ds)) ps dss
theorem Cells.mono (e : Same B B') : ∀ {ps : List Addr} {dss : List (List D)}, (∀ p ∈ ps, H' p = H p) → Cells K B H ps dss → Cells K B' H' ps dss
  | _, _, _, .nil => .nil
  | _, _, h, .cons c t => .cons (c.mono e (h _ List.mem_cons_self)) (Cells.mono e (fun p m => h p (List.mem_cons_of_mem _ m)) t)
theorem Cells.there : ∀ {ps : List Addr} {dss : List (List D)}, Cells K B H ps dss → ∀ p ∈ ps, H p ≠ none
  | _, _, .nil, p, m => by cases m
  | _, _, .cons c t, p, m => (List.mem_cons.mp m).elim (fun e => e ▸ Cell.there c) (Cells.there t p)
theorem Cells.hard : ∀ {ps : List Addr} {dss : List (List D)}, Cells K B H ps dss → ∀ p ∈ ps, Hard (H p)
  | _, _, .nil, p, m => by cases m
  | _, _, .cons c t, p, m => (List.mem_cons.mp m).elim (fun e => e ▸ Cell.hard c) (Cells.hard t p)
theorem Cells.dv (e : Same B B') : ∀ {ps : List Addr} {dss : List (List D)}, (∀ p ∈ ps, B' p = H p) → Cells K B H ps dss → DvL K B' (ps.map V.ref) (dss.map .lst)
  | _, _, _, .nil => .nil
  | _, _, h, .cons c t => .cons (Cell.dv c e (h _ List.mem_cons_self)) (Cells.dv e (fun p m => h p (List.mem_cons_of_mem _ m)) t)
/-- what is readable of the slots -/
def EnvS (K : PySem.W.Frag) (B : Hp) (σ : L2.St) (ρ : List Sl) : Prop := ρ.length = σ.length ∧ ∀ (i : Nat) (d : D), ρ[i]? = some (Sl.sh d) → ∃ v, σ[i]? = some (some v) ∧ Dv K B v d
/-- own slots: their addresses are A -/
inductive EnvR (K : PySem.W.Frag) (B H : Hp) : L2.St → List Sl → List Addr → Prop
  | nil : EnvR K B H [] [] []
  | un {o : Option V} {σ : L2.St} {ρ : List Sl} {A : List Addr} : EnvR K B H σ ρ A → EnvR K B H (o :: σ) (.un :: ρ) A
  | sh {v : V} {d : D} {σ : L2.St} {ρ : List Sl} {A : List Addr} : Dv K B v d → EnvR K B H σ ρ A → EnvR K B H (some v :: σ) (.sh d :: ρ) A
  | own {a : Addr} {d : D} {σ : L2.St} {ρ : List Sl} {A : List Addr} : a ∉ A → B a = none → Cell K B H a d → EnvR K B H σ ρ A → EnvR K B H (some (.ref a) :: σ) (.own d :: ρ) (a :: A)
  | ow2 {a : Addr} {ps : List Addr} {dss : List (List D)} {σ : L2.St} {ρ : List Sl} {A : List Addr} : (∀ p ∈ a :: ps, p ∉ A) → (∀ p ∈ a :: ps, B p = none) → (a :: ps).Nodup → H a = some (.lst (ps.map V.ref)) → Cells K B H ps dss → EnvR K B H σ ρ A → EnvR K B H (some (.ref a) :: σ) (.ow2 dss :: ρ) ((a :: ps) ++ A)
def fz1 : Sl → Sl
  | .own d => .sh d
  | .ow2 dss => .sh (.lst (dss.map .lst))
  | s => s
def fz (ρ : List Sl) : List Sl := ρ.map fz1
variable {σ : L2.St} {ρ : List Sl} {A : List Addr}
theorem EnvR.mono (e : Same B B') : ∀ {σ : L2.St} {ρ : List Sl} {A : List Addr}, EnvR K B H σ ρ A → (∀ a ∈ A, B' a = none) → (∀ a ∈ A, H' a = H a) → EnvR K B' H' σ ρ A
  | _, _, _, .nil, _, _ => .nil
  | _, _, _, .un t, h1, h2 => .un (EnvR.mono e t h1 h2)
  | _, _, _, .sh h t, h1, h2 => .sh (h.mono e) (EnvR.mono e t h1 h2)
  | _, _, _, .own n b c t, h1, h2 => .own n (h1 _ List.mem_cons_self) (c.mono e (h2 _ List.mem_cons_self)) (EnvR.mono e t (fun a m => h1 a (List.mem_cons_of_mem _ m)) fun a m => h2 a (List.mem_cons_of_mem _ m))
  | _, _, _, .ow2 n b nd c cs t, h1, h2 => .ow2 n (fun p m => h1 p (List.mem_append_left _ m)) nd ((h2 _ (List.mem_append_left _ List.mem_cons_self)).trans c) (cs.mono e fun p m => h2 p (List.mem_append_left _ (List.mem_cons_of_mem _ m)))
    (EnvR.mono e t (fun a m => h1 a (List.mem_append_right _ m)) fun a m => h2 a (List.mem_append_right _ m))
theorem EnvR.len : ∀ {σ : L2.St} {ρ : List Sl} {A : List Addr}, EnvR K B H σ ρ A → ρ.length = σ.length
  | _, _, _, .nil => rfl
  | _, _, _, .un t => by rw [List.length_cons, List.length_cons, EnvR.len t]
  | _, _, _, .sh _ t => by rw [List.length_cons, List.length_cons, EnvR.len t]
  | _, _, _, .own _ _ _ t => by rw [List.length_cons, List.length_cons, EnvR.len t]
  | _, _, _, .ow2 _ _ _ _ _ t => by rw [List.length_cons, List.length_cons, EnvR.len t]
theorem EnvR.get : ∀ {σ : L2.St} {ρ : List Sl} {A : List Addr}, EnvR K B H σ ρ A → ∀ {i : Nat} {d : D}, ρ[i]? = some (.sh d) → ∃ v, σ[i]? = some (some v) ∧ Dv K B v d
  | _, _, _, .nil, i, d, h => by simp at h
  | _, _, _, .un t, 0, d, h => by simp at h
  | _, _, _, .sh q t, 0, d, h => by
    simp at h
    subst h
    exact ⟨_, rfl, q⟩
  | _, _, _, .own _ _ _ t, 0, d, h => by simp at h
  | _, _, _, .un t, i + 1, d, h => EnvR.get t (i := i) h
  | _, _, _, .sh _ t, i + 1, d, h => EnvR.get t (i := i) h
  | _, _, _, .own _ _ _ t, i + 1, d, h => EnvR.get t (i := i) h
  | _, _, _, .ow2 _ _ _ _ _ t, 0, d, h => by simp at h
  | _, _, _, .ow2 _ _ _ _ _ t, i + 1, d, h => EnvR.get t (i := i) h
theorem EnvR.envS (h : EnvR K B H σ ρ A) : EnvS K B σ ρ := ⟨h.len, fun _ _ e => h.get e⟩
theorem EnvR.there : ∀ {σ : L2.St} {ρ : List Sl} {A : List Addr}, EnvR K B H σ ρ A → ∀ a ∈ A, B a = none ∧ H a ≠ none
  | _, _, _, .nil, a, h => by cases h
  | _, _, _, .un t, a, h => EnvR.there t a h
  | _, _, _, .sh _ t, a, h => EnvR.there t a h
  | _, _, _, .own n b c t, a, h => by
    rcases List.mem_cons.mp h with rfl | h
    · exact ⟨b, c.there⟩
    · exact EnvR.there t a h
  | _, _, _, .ow2 n b nd c cs t, a, h => by
    rcases List.mem_append.mp h with h | h
    · refine ⟨b a h, ?_⟩
      rcases List.mem_cons.mp h with rfl | h
      · exact ne_none c
      · exact cs.there a h
    · exact EnvR.there t a h
theorem EnvR.hard : ∀ {σ : L2.St} {ρ : List Sl} {A : List Addr}, EnvR K B H σ ρ A → ∀ a ∈ A, Hard (H a)
  | _, _, _, .nil, a, h => by cases h
  | _, _, _, .un t, a, h => EnvR.hard t a h
  | _, _, _, .sh _ t, a, h => EnvR.hard t a h
  | _, _, _, .own n b c t, a, h => by
    rcases List.mem_cons.mp h with rfl | h
    · exact c.hard
    · exact EnvR.hard t a h
  | _, _, _, .ow2 n b nd c cs t, a, h => by
    rcases List.mem_append.mp h with h | h
    · rcases List.mem_cons.mp h with rfl | h
      · exact hard_lst c
      · exact cs.hard a h
    · exact EnvR.hard t a h
theorem EnvR.getOwn : ∀ {σ : L2.St} {ρ : List Sl} {A : List Addr}, EnvR K B H σ ρ A → ∀ {i : Nat} {d : D}, ρ[i]? = some (.own d) → ∃ a, σ[i]? = some (some (.ref a)) ∧ a ∈ A ∧ B a = none ∧ Cell K B H a d
  | _, _, _, .nil, i, d, h => by simp at h
  | _, _, _, .un t, 0, d, h => by simp at h
  | _, _, _, .sh q t, 0, d, h => by simp at h
  | _, _, _, .own n b c t, 0, d, h => by
    simp at h
    subst h
    exact ⟨_, rfl, List.mem_cons_self, b, c⟩
  | _, _, _, .un t, i + 1, d, h => EnvR.getOwn t (i := i) h
  | _, _, _, .sh _ t, i + 1, d, h => EnvR.getOwn t (i := i) h
  | _, _, _, .own _ _ _ t, i + 1, d, h => by
    obtain ⟨a, h1, h2, h3⟩ := EnvR.getOwn t (i := i) h
    exact ⟨a, h1, List.mem_cons_of_mem _ h2, h3⟩
  | _, _, _, .ow2 _ _ _ _ _ t, 0, d, h => by simp at h
  | _, _, _, .ow2 _ _ _ _ _ t, i + 1, d, h => by
    obtain ⟨a, h1, h2, h3⟩ := EnvR.getOwn t (i := i) h
    exact ⟨a, h1, List.mem_append_right _ h2, h3⟩
theorem EnvR.setSh {v : V} {d : D} (q : Dv K B v d) : ∀ {σ : L2.St} {ρ : List Sl} {A : List Addr}, EnvR K B H σ ρ A → ∀ i, ∃ A', (∀ a ∈ A', a ∈ A) ∧ EnvR K B H (σ.set i (some v)) (ρ.set i (.sh d)) A'
  | _, _, _, .nil, i => ⟨[], fun _ h => h, .nil⟩
  | _, _, _, .un t, 0 => ⟨_, fun _ h => h, .sh q t⟩
  | _, _, _, .sh _ t, 0 => ⟨_, fun _ h => h, .sh q t⟩
  | _, _, _, .own _ _ _ t, 0 => ⟨_, fun _ h => List.mem_cons_of_mem _ h, .sh q t⟩
  | _, _, _, .ow2 _ _ _ _ _ t, 0 => ⟨_, fun _ h => List.mem_append_right _ h, .sh q t⟩
  | _, _, _, .un t, i + 1 => by
    obtain ⟨A', h1, h2⟩ := EnvR.setSh q t i
    exact ⟨A', h1, .un h2⟩
  | _, _, _, .sh p t, i + 1 => by
    obtain ⟨A', h1, h2⟩ := EnvR.setSh q t i
    exact ⟨A', h1, .sh p h2⟩
  | _, _, _, .own (a := a) n b c t, i + 1 => by
    obtain ⟨A', h1, h2⟩ := EnvR.setSh q t i
    refine ⟨a :: A', fun x h => ?_, .own (fun m => n (h1 a m)) b c h2⟩
    rcases List.mem_cons.mp h with rfl | h
    · exact List.mem_cons_self
    · exact List.mem_cons_of_mem _ (h1 x h)
  | _, _, _, .ow2 n b nd c cs t, i + 1 => by
    obtain ⟨A', h1, h2⟩ := EnvR.setSh q t i
    refine ⟨_, fun x h => ?_, .ow2 (fun p m z => n p m (h1 p z)) b nd c cs h2⟩
    exact (List.mem_append.mp h).elim (List.mem_append_left _) fun m => List.mem_append_right _ (h1 x m)
theorem EnvR.setUn : ∀ {σ : L2.St} {ρ : List Sl} {A : List Addr}, EnvR K B H σ ρ A → ∀ i, ∃ A', (∀ a ∈ A', a ∈ A) ∧ EnvR K B H σ (ρ.set i .un) A'
  | _, _, _, .nil, i => ⟨[], fun _ h => h, .nil⟩
  | _, _, _, .un t, 0 => ⟨_, fun _ h => h, .un t⟩
  | _, _, _, .sh _ t, 0 => ⟨_, fun _ h => h, .un t⟩
  | _, _, _, .own _ _ _ t, 0 => ⟨_, fun _ h => List.mem_cons_of_mem _ h, .un t⟩
  | _, _, _, .ow2 _ _ _ _ _ t, 0 => ⟨_, fun _ h => List.mem_append_right _ h, .un t⟩
  | _, _, _, .un t, i + 1 => by
    obtain ⟨A', h1, h2⟩ := EnvR.setUn t i
    exact ⟨A', h1, .un h2⟩
  | _, _, _, .sh p t, i + 1 => by
    obtain ⟨A', h1, h2⟩ := EnvR.setUn t i
    exact ⟨A', h1, .sh p h2⟩
  | _, _, _, .own (a := a) n b c t, i + 1 => by
    obtain ⟨A', h1, h2⟩ := EnvR.setUn t i
    refine ⟨a :: A', fun x h => ?_, .own (fun m => n (h1 a m)) b c h2⟩
    rcases List.mem_cons.mp h with rfl | h
    · exact List.mem_cons_self
    · exact List.mem_cons_of_mem _ (h1 x h)
  | _, _, _, .ow2 n b nd c cs t, i + 1 => by
    obtain ⟨A', h1, h2⟩ := EnvR.setUn t i
    refine ⟨_, fun x h => ?_, .ow2 (fun p m z => n p m (h1 p z)) b nd c cs h2⟩
    exact (List.mem_append.mp h).elim (List.mem_append_left _) fun m => List.mem_append_right _ (h1 x m)
theorem EnvR.setNone : ∀ {σ : L2.St} {ρ : List Sl} {A : List Addr}, EnvR K B H σ ρ A → ∀ i, ∃ A', (∀ a ∈ A', a ∈ A) ∧ EnvR K B H (σ.set i none) (ρ.set i .un) A'
  | _, _, _, .nil, i => ⟨[], fun _ h => h, .nil⟩
  | _, _, _, .un t, 0 => ⟨_, fun _ h => h, .un t⟩
  | _, _, _, .sh _ t, 0 => ⟨_, fun _ h => h, .un t⟩
  | _, _, _, .own _ _ _ t, 0 => ⟨_, fun _ h => List.mem_cons_of_mem _ h, .un t⟩
  | _, _, _, .ow2 _ _ _ _ _ t, 0 => ⟨_, fun _ h => List.mem_append_right _ h, .un t⟩
  | _, _, _, .un t, i + 1 => by
    obtain ⟨A', h1, h2⟩ := EnvR.setNone t i
    exact ⟨A', h1, .un h2⟩
  | _, _, _, .sh p t, i + 1 => by
    obtain ⟨A', h1, h2⟩ := EnvR.setNone t i
    exact ⟨A', h1, .sh p h2⟩
  | _, _, _, .own (a := a) n b c t, i + 1 => by
    obtain ⟨A', h1, h2⟩ := EnvR.setNone t i
    refine ⟨a :: A', fun x h => ?_, .own (fun m => n (h1 a m)) b c h2⟩
    rcases List.mem_cons.mp h with rfl | h
    · exact List.mem_cons_self
    · exact List.mem_cons_of_mem _ (h1 x h)
  | _, _, _, .ow2 n b nd c cs t, i + 1 => by
    obtain ⟨A', h1, h2⟩ := EnvR.setNone t i
    refine ⟨_, fun x h => ?_, .ow2 (fun p m z => n p m (h1 p z)) b nd c cs h2⟩
    exact (List.mem_append.mp h).elim (List.mem_append_left _) fun m => List.mem_append_right _ (h1 x m)
theorem EnvR.setOwn {p : Addr} {d : D} (np : B p = none) (q : Cell K B H p d) : ∀ {σ : L2.St} {ρ : List Sl} {A : List Addr}, EnvR K B H σ ρ A → p ∉ A → ∀ i, ∃ A', (∀ a ∈ A', a = p ∨ a ∈ A) ∧ EnvR K B H (σ.set i (some (.ref p))) (ρ.set i (.own d)) A'
  | _, _, _, .nil, _, i => ⟨[], (fun _ h => by cases h), EnvR.nil⟩
  | _, _, _, .un t, n, 0 => ⟨_, fun _ h => List.mem_cons.mp h, .own n np q t⟩
  | _, _, _, .sh _ t, n, 0 => ⟨_, fun _ h => List.mem_cons.mp h, .own n np q t⟩
  | _, _, _, .own _ _ _ t, n, 0 => ⟨_, fun _ h => (List.mem_cons.mp h).imp id (List.mem_cons_of_mem _), .own (fun m => n (List.mem_cons_of_mem _ m)) np q t⟩
  | _, _, _, .ow2 _ _ _ _ _ t, n, 0 => ⟨_, fun _ h => (List.mem_cons.mp h).imp id (List.mem_append_right _), .own (fun m => n (List.mem_append_right _ m)) np q t⟩
  | _, _, _, .un t, n, i + 1 => by
    obtain ⟨A', h1, h2⟩ := EnvR.setOwn np q t n i
    exact ⟨A', h1, .un h2⟩
  | _, _, _, .sh p t, n, i + 1 => by
    obtain ⟨A', h1, h2⟩ := EnvR.setOwn np q t n i
    exact ⟨A', h1, .sh p h2⟩
  | _, _, _, .own (a := a) n' b c t, n, i + 1 => by
    obtain ⟨A', h1, h2⟩ := EnvR.setOwn np q t (fun m => n (List.mem_cons_of_mem _ m)) i
    refine ⟨a :: A', fun x h => ?_, .own (fun m => ?_) b c h2⟩
    · rcases List.mem_cons.mp h with rfl | h
      · exact .inr List.mem_cons_self
      · exact (h1 x h).imp id (List.mem_cons_of_mem _)
    · rcases h1 a m with e | m'
      · exact n (e ▸ List.mem_cons_self)
      · exact n' m'
  | _, _, _, .ow2 n' b nd c cs t, n, i + 1 => by
    obtain ⟨A', h1, h2⟩ := EnvR.setOwn np q t (fun m => n (List.mem_append_right _ m)) i
    refine ⟨_, fun x h => ?_, .ow2 (fun p m z => ?_) b nd c cs h2⟩
    · exact (List.mem_append.mp h).elim (fun m => .inr (List.mem_append_left _ m)) fun m => (h1 x m).imp id (List.mem_append_right _)
    · rcases h1 p z with e | m'
      · exact n (e ▸ List.mem_append_left _ m)
      · exact n' p m m'
/-- the cell of an own slot changes -/
theorem EnvR.mut {d d' : D} : ∀ {σ : L2.St} {ρ : List Sl} {A : List Addr}, EnvR K B H σ ρ A → ∀ {i : Nat} {a : Addr}, ρ[i]? = some (.own d) → σ[i]? = some (some (.ref a)) → (∀ b ∈ A, b ≠ a → H' b = H b) → Cell K B H' a d' → EnvR K B H' σ (ρ.set i (.own d')) A
  | _, _, _, .nil, i, a, h, _, _, _ => by simp at h
  | _, _, _, .un t, 0, a, h, _, _, _ => by simp at h
  | _, _, _, .sh q t, 0, a, h, _, _, _ => by simp at h
  | _, _, _, .own n b c t, 0, a, h, e, k, q => by
    simp at e
    subst e
    exact .own n b q (t.mono (Same.refl _) (fun x m => (t.there x m).1) fun x m => k x (List.mem_cons_of_mem _ m) fun z => n (z ▸ m))
  | _, _, _, .un t, i + 1, a, h, e, k, q => .un (EnvR.mut t (i := i) h e k q)
  | _, _, _, .sh p t, i + 1, a, h, e, k, q => .sh p (EnvR.mut t (i := i) h e k q)
  | _, _, _, .own (a := a') n b c t, i + 1, a, h, e, k, q => by
    obtain ⟨a2, h1, h2, _⟩ := t.getOwn (i := i) h
    have e' : a2 = a := by
      have e2 : _ = some (some (V.ref a)) := e
      simp only [List.getElem?_cons_succ] at e2
      rw [h1] at e2
      simpa using e2
    subst e'
    have ne : a' ≠ a2 := fun z => n (z ▸ h2)
    exact .own n b (c.mono (Same.refl _) (k a' List.mem_cons_self ne)) (EnvR.mut t (i := i) h e (fun x m => k x (List.mem_cons_of_mem _ m)) q)
  | _, _, _, .ow2 _ _ _ _ _ t, 0, a, h, _, _, _ => by simp at h
  | _, _, _, .ow2 n b nd c cs t, i + 1, a, h, e, k, q => by
    obtain ⟨a2, h1, h2, _⟩ := t.getOwn (i := i) h
    have e' : a2 = a := by
      have e2 : _ = some (some (V.ref a)) := e
      simp only [List.getElem?_cons_succ] at e2
      rw [h1] at e2
      simpa using e2
    subst e'
    have kk : ∀ p ∈ _, H' p = H p := fun p m => k p (List.mem_append_left _ m) fun z => n p m (z ▸ h2)
    exact .ow2 n b nd ((kk _ List.mem_cons_self).trans c) (cs.mono (Same.refl _) fun p m => kk p (List.mem_cons_of_mem _ m)) (EnvR.mut t (i := i) h e (fun x m => k x (List.mem_append_right _ m)) q)
theorem EnvR.own_at : ∀ {σ : L2.St} {ρ : List Sl} {A : List Addr}, EnvR K B H σ ρ A → ∀ {i : Nat} {d : D} {a : Addr}, ρ[i]? = some (.own d) → σ[i]? = some (some (.ref a)) → a ∈ A := fun h i d a e e' => by
  obtain ⟨a', h1, h2, _⟩ := h.getOwn e
  rw [e'] at h1
  cases h1
  exact h2
theorem EnvR.own_ne : ∀ {σ : L2.St} {ρ : List Sl} {A : List Addr}, EnvR K B H σ ρ A → ∀ {i j : Nat} {d e : D} {a b : Addr}, ρ[i]? = some (.own d) → ρ[j]? = some (.own e) → σ[i]? = some (some (.ref a)) → σ[j]? = some (some (.ref b)) → i ≠ j → a ≠ b
  | _, _, _, .nil, i, j, d, e, a, b, h, _, _, _, _ => by simp at h
  | _, _, _, .un t, 0, j, d, e, a, b, h, _, _, _, _ => by simp at h
  | _, _, _, .sh _ t, 0, j, d, e, a, b, h, _, _, _, _ => by simp at h
  | _, _, _, .un t, _, 0, d, e, a, b, _, h, _, _, _ => by simp at h
  | _, _, _, .sh _ t, _, 0, d, e, a, b, _, h, _, _, _ => by simp at h
  | _, _, _, .own _ _ _ t, 0, 0, d, e, a, b, _, _, _, _, n => absurd rfl n
  | _, _, _, .own n _ _ t, 0, j + 1, d, e, a, b, _, h2, h3, h4, _ => fun z => by
    simp at h3
    subst h3
    subst z
    exact n (t.own_at (i := j) h2 h4)
  | _, _, _, .own n _ _ t, i + 1, 0, d, e, a, b, h1, _, h3, h4, _ => fun z => by
    simp at h4
    subst h4
    subst z
    exact n (t.own_at (i := i) h1 h3)
  | _, _, _, .un t, i + 1, j + 1, d, e, a, b, h1, h2, h3, h4, n => EnvR.own_ne t (i := i) (j := j) h1 h2 h3 h4 fun z => n (by rw [z])
  | _, _, _, .sh _ t, i + 1, j + 1, d, e, a, b, h1, h2, h3, h4, n => EnvR.own_ne t (i := i) (j := j) h1 h2 h3 h4 fun z => n (by rw [z])
  | _, _, _, .ow2 _ _ _ _ _ t, 0, j, d, e, a, b, h, _, _, _, _ => by simp at h
  | _, _, _, .ow2 _ _ _ _ _ t, _, 0, d, e, a, b, _, h, _, _, _ => by simp at h
  | _, _, _, .ow2 _ _ _ _ _ t, i + 1, j + 1, d, e, a, b, h1, h2, h3, h4, n => EnvR.own_ne t (i := i) (j := j) h1 h2 h3 h4 fun z => n (by rw [z])
  | _, _, _, .own _ _ _ t, i + 1, j + 1, d, e, a, b, h1, h2, h3, h4, n => EnvR.own_ne t (i := i) (j := j) h1 h2 h3 h4 fun z => n (by rw [z])
/-- all own slots frozen -/
def fzB (B H : Hp) (A : List Addr) : Hp := fun b => if b ∈ A then H b else B b
theorem fzB_l (h : ∀ a ∈ A, B a = none) : Same B (fzB B H A) := fun b o e => by
  unfold fzB
  rw [if_neg fun m => by rw [h b m] at e; cases e]
  exact e
theorem fzB_r (s : Same B H) : Same (fzB B H A) H := fun b o e => by
  unfold fzB at e
  split at e
  · exact e
  · exact s b o e
theorem EnvR.fzS : ∀ {σ : L2.St} {ρ : List Sl} {A : List Addr}, EnvR K B H σ ρ A → Same B B' → (∀ a ∈ A, B' a = H a) → EnvR K B' H σ (fz ρ) []
  | _, _, _, .nil, _, _ => .nil
  | _, _, _, .un t, e, h => .un (EnvR.fzS t e h)
  | _, _, _, .sh q t, e, h => .sh (q.mono e) (EnvR.fzS t e h)
  | _, _, _, .own n b c t, e, h => .sh (c.dv e (h _ List.mem_cons_self)) (EnvR.fzS t e fun a m => h a (List.mem_cons_of_mem _ m))
  | _, _, _, .ow2 n b nd c cs t, e, h => .sh (.lst ((h _ (List.mem_append_left _ List.mem_cons_self)).trans c) (cs.dv e fun p m => h p (List.mem_append_left _ (List.mem_cons_of_mem _ m)))) (EnvR.fzS t e fun a m => h a (List.mem_append_right _ m))
theorem EnvR.fz (h : EnvR K B H σ ρ A) : EnvR K (fzB B H A) H σ (fz ρ) [] := h.fzS (fzB_l fun a m => (h.there a m).1) fun a m => by
  unfold fzB
  rw [if_pos m]
/-- one own slot frozen -/
theorem EnvR.fz1 {d : D} : ∀ {σ : L2.St} {ρ : List Sl} {A : List Addr}, EnvR K B H σ ρ A → ∀ {i : Nat}, ρ[i]? = some (.own d) → ∃ a A', σ[i]? = some (some (.ref a)) ∧ a ∈ A ∧ (∀ b ∈ A', b ∈ A ∧ b ≠ a) ∧ ∀ B', Same B B' → B' a = H a → (∀ b ∈ A', B' b = none) → EnvR K B' H σ (ρ.set i (.sh d)) A'
  | _, _, _, .nil, i, h => by simp at h
  | _, _, _, .un t, 0, h => by simp at h
  | _, _, _, .sh q t, 0, h => by simp at h
  | _, _, _, .own (a := a) (A := A) n b c t, 0, h => by
    simp at h
    subst h
    exact ⟨a, A, rfl, List.mem_cons_self, fun x m => ⟨List.mem_cons_of_mem _ m, fun z => n (z ▸ m)⟩, fun B' s e1 e2 => .sh (c.dv s e1) (t.mono s e2 fun _ _ => rfl)⟩
  | _, _, _, .un t, i + 1, h => by
    obtain ⟨a, A', h1, h2, h3, h4⟩ := EnvR.fz1 t (i := i) h
    exact ⟨a, A', h1, h2, h3, fun B' s e1 e2 => .un (h4 B' s e1 e2)⟩
  | _, _, _, .sh q t, i + 1, h => by
    obtain ⟨a, A', h1, h2, h3, h4⟩ := EnvR.fz1 t (i := i) h
    exact ⟨a, A', h1, h2, h3, fun B' s e1 e2 => .sh (q.mono s) (h4 B' s e1 e2)⟩
  | _, _, _, .own (a := a0) n b c t, i + 1, h => by
    obtain ⟨a, A', h1, h2, h3, h4⟩ := EnvR.fz1 t (i := i) h
    have ne : a0 ≠ a := fun z => n (z ▸ h2)
    refine ⟨a, a0 :: A', h1, List.mem_cons_of_mem _ h2, fun x m => ?_, fun B' s e1 e2 => .own (fun m => n (h3 a0 m).1) (e2 a0 List.mem_cons_self) (c.mono s rfl) (h4 B' s e1 fun b m => e2 b (List.mem_cons_of_mem _ m))⟩
    rcases List.mem_cons.mp m with rfl | m
    · exact ⟨List.mem_cons_self, ne⟩
    · exact ⟨List.mem_cons_of_mem _ (h3 x m).1, (h3 x m).2⟩
  | _, _, _, .ow2 _ _ _ _ _ t, 0, h => by simp at h
  | _, _, _, .ow2 (a := a0) (ps := ps) n b nd c cs t, i + 1, h => by
    obtain ⟨a, A', h1, h2, h3, h4⟩ := EnvR.fz1 t (i := i) h
    refine ⟨a, (a0 :: ps) ++ A', h1, List.mem_append_right _ h2, fun x m => ?_, fun B' s e1 e2 => .ow2 (fun p m z => n p m (h3 p z).1) (fun p m => e2 p (List.mem_append_left _ m)) nd c (cs.mono s fun _ _ => rfl) (h4 B' s e1 fun b m => e2 b (List.mem_append_right _ m))⟩
    rcases List.mem_append.mp m with m | m
    · exact ⟨List.mem_append_left _ m, fun z => n x m (z ▸ h2)⟩
    · exact ⟨List.mem_append_right _ (h3 x m).1, (h3 x m).2⟩
end
/-! ### expressions -/
/-- what an expression asks: q of its data -/
def AE (K : PySem.W.Frag) (te : TE) (ρ : List Sl) (q : D → Prop) : Prop := ∀ (B H : Hp) (σ : L2.St), Same B H → EnvS K B σ ρ → ∀ Q : VK, (∀ d v H', q d → Same H H' → Dv K (ext B H H') v d → Q v H') → te σ H Q
def AA (K : PySem.W.Frag) (ta : TA) (ρ : List Sl) (q : List D → Prop) : Prop := ∀ (B H : Hp) (σ : L2.St), Same B H → EnvS K B σ ρ → ∀ Q : List V → Hp → Prop, (∀ d v H', q d → Same H H' → DvL K (ext B H H') v d → Q v H') → ta σ H Q
def AT (tt : TT) (K : PySem.W.Frag) (ρ : List Sl) (q : Bool → Prop) : Prop := ∀ (B H : Hp) (σ : L2.St), Same B H → EnvS K B σ ρ → ∀ Q : Bool → Hp → Prop, (∀ b H', q b → Same H H' → Q b H') → tt σ H Q
/-- the parts of a new object at p -/
def NewC (K : PySem.W.Frag) (B H : Hp) (p : Addr) (d : D) : Prop := Cell K (rem B p) H p d
/-- .. that it is a new list, or dict -/
def AN (K : PySem.W.Frag) (te : TE) (ρ : List Sl) (q : D → Prop) : Prop := ∀ (B H : Hp) (σ : L2.St), Same B H → EnvS K B σ ρ → ∀ Q : VK, (∀ d p H', q d → H p = none → Same H H' → NewC K (ext B H H') H' p d → Q (.ref p) H') → te σ H Q
/-- two values -/
def A2 (K : PySem.W.Frag) (r : R2) (a b : D) (q : D → Prop) : Prop := ∀ (B H : Hp) (x y : V), Same B H → Dv K B x a → Dv K B y b → ∀ Q : VK, (∀ d v H', q d → Same H H' → Dv K (ext B H H') v d → Q v H') → r x y H Q
def A1 (K : PySem.W.Frag) (r : V → Hp → VK → Prop) (a : D) (q : D → Prop) : Prop := ∀ (B H : Hp) (x : V), Same B H → Dv K B x a → ∀ Q : VK, (∀ d v H', q d → Same H H' → Dv K (ext B H H') v d → Q v H') → r x H Q
/-- an argument list's values -/
def AL (K : PySem.W.Frag) (r : List V → Hp → VK → Prop) (ds : List D) (q : D → Prop) : Prop := ∀ (B H : Hp) (vs : List V), Same B H → DvL K B vs ds → ∀ Q : VK, (∀ d v H', q d → Same H H' → Dv K (ext B H H') v d → Q v H') → r vs H Q
def A2N (K : PySem.W.Frag) (r : R2) (a b : D) (q : D → Prop) : Prop := ∀ (B H : Hp) (x y : V), Same B H → Dv K B x a → Dv K B y b → ∀ Q : VK, (∀ d p H', q d → H p = none → Same H H' → NewC K (ext B H H') H' p d → Q (.ref p) H') → r x y H Q
def ALN (K : PySem.W.Frag) (r : List V → Hp → VK → Prop) (ds : List D) (q : D → Prop) : Prop := ∀ (B H : Hp) (vs : List V), Same B H → DvL K B vs ds → ∀ Q : VK, (∀ d p H', q d → H p = none → Same H H' → NewC K (ext B H H') H' p d → Q (.ref p) H') → r vs H Q
section
variable {K : PySem.W.Frag} {B B' H H' H1 H2 : Hp} {v : V} {d : D} {vs : List V} {ds : List D} {σ : L2.St} {ρ : List Sl} {A : List Addr} {te ta tb tc : TE} {tl : TA} {tt tu : TT} {q : D → Prop} {i : Nat}
theorem EnvS.mono (e : Same B B') (h : EnvS K B σ ρ) : EnvS K B' σ ρ := ⟨h.1, fun i d x => by
  obtain ⟨v, h1, h2⟩ := h.2 i d x
  exact ⟨v, h1, h2.mono e⟩⟩
theorem EnvS.set (h : EnvS K B σ ρ) (q : Dv K B v d) : EnvS K B (σ.set i (some v)) (ρ.set i (.sh d)) := ⟨by rw [List.length_set, List.length_set]; exact h.1, fun j e x => by
  by_cases c : i = j
  · subst c
    have hl : i < ρ.length := by
      have := (List.getElem?_eq_some_iff.mp x).1
      rwa [List.length_set] at this
    rw [List.getElem?_set_self hl] at x
    cases x
    exact ⟨v, List.getElem?_set_self (h.1 ▸ hl), q⟩
  · rw [List.getElem?_set_ne c] at x
    rw [List.getElem?_set_ne c]
    exact h.2 j e x⟩
theorem newC_dv {p : Addr} (c : NewC K B H p d) (e : B p = H p) : Dv K B (.ref p) d := Cell.dv c rem_same e
theorem ae_var (h : ρ[i]? = some (.sh d)) (hq : q d) : AE K (tVar i) ρ q := fun B H σ s E Q k => by
  obtain ⟨v, h1, h2⟩ := E.2 i d h
  exact ⟨v, h1, k d v H hq (Same.refl _) (by rw [ext_self s]; exact h2)⟩
/-- a slot whose value is known, too -/
theorem ae_varD {v : V} (h : ρ[i]? = some (.sh (.vd v d))) (hq : q d) : AE K (tVar i) ρ q := fun B H σ s E Q k => by
  obtain ⟨u, h1, h2⟩ := E.2 i _ h
  cases h2 with
  | vd h3 => exact ⟨v, h1, k _ _ H hq (Same.refl _) (h3.mono (ext_l s))⟩
theorem ae_c (hq : q .non) : AE K (tC .non) ρ q := fun B H σ s E Q k => k _ _ H hq (Same.refl _) .non
theorem ae_int {n : Int} (hq : q (.int n)) : AE K (tC (.int n)) ρ q := fun B H σ s E Q k => k _ _ H hq (Same.refl _) (.int _)
theorem ae_bl {n : Bool} (hq : q (.bl n)) : AE K (tC (.bl n)) ρ q := fun B H σ s E Q k => k _ _ H hq (Same.refl _) (.bl _)
theorem ae_str {z : Str} (ok : okS z) (hq : q (.str z)) : AE K (tC (.str z)) ρ q := fun B H σ s E Q k => k _ _ H hq (Same.refl _) (.str _ ok)
theorem ae_ty {z : String} (hq : q (.op (.ty z))) : AE K (tC (.ty z)) ρ q := fun B H σ s E Q k => k _ _ H hq (Same.refl _) (.op _)
/-- an expression, then something by its value -/
theorem ae_bind {r : V → Hp → VK → Prop} {t : TE} (ht : ∀ σ H Q, ta σ H (fun x H1 => r x H1 Q) → t σ H Q) (h : AE K ta ρ fun a => A1 K r a q) : AE K t ρ q := fun B H σ s E Q k => ht _ _ _ (h B H σ s E _ fun a x H1 h1 s1 dx =>
  h1 (ext B H H1) H1 x (ext_r s s1) dx Q fun d v H' hq s2 dv => k d v H' hq (s1.trans s2) (by rw [ext_ext s1 s2] at dv; exact dv))
theorem ae_un {r : V → Hp → VK → Prop} (h : AE K ta ρ fun a => A1 K r a q) : AE K (tUn r ta) ρ q := ae_bind (r := r) (fun _ _ _ h => h) h
theorem ae_op {r : R2} (h : AE K ta ρ fun a => AE K tb ρ fun b => A2 K r a b q) : AE K (tOp r ta tb) ρ q := fun B H σ s E Q k => h B H σ s E _ fun a x H1 h1 s1 dx =>
  h1 (ext B H H1) H1 σ (ext_r s s1) (E.mono (ext_l s)) _ fun b y H2 h2 s2 dy => by
    rw [ext_ext s1 s2] at dy
    have s12 := s1.trans s2
    have dx' : Dv K (ext B H H2) x a := dx.mono (by rw [← ext_ext s1 s2]; exact ext_l (ext_r s s1))
    exact h2 (ext B H H2) H2 x y (ext_r s s12) dx' dy Q fun d v H' hq s3 dv => k d v H' hq (s12.trans s3) (by rw [ext_ext s12 s3] at dv; exact dv)
theorem an_op {r : R2} (h : AE K ta ρ fun a => AE K tb ρ fun b => A2N K r a b q) : AN K (tOp r ta tb) ρ q := fun B H σ s E Q k => h B H σ s E _ fun a x H1 h1 s1 dx =>
  h1 (ext B H H1) H1 σ (ext_r s s1) (E.mono (ext_l s)) _ fun b y H2 h2 s2 dy => by
    rw [ext_ext s1 s2] at dy
    have s12 := s1.trans s2
    have dx' : Dv K (ext B H H2) x a := dx.mono (by rw [← ext_ext s1 s2]; exact ext_l (ext_r s s1))
    exact h2 (ext B H H2) H2 x y (ext_r s s12) dx' dy Q fun d p H' hq np s3 dv => k d p H' hq (s12.free np) (s12.trans s3) (by rw [ext_ext s12 s3] at dv; exact dv)
theorem ae_of_an (h : AN K te ρ q) : AE K te ρ q := fun B H σ s E Q k => h B H σ s E Q fun d p H' hq np s1 c => k d _ H' hq s1 (newC_dv c (ext_new np))
theorem ae_mono {q' : D → Prop} (h : AE K te ρ q) (hq : ∀ d, q d → q' d) : AE K te ρ q' := fun B H σ s E Q k => h B H σ s E Q fun d v H' z => k d v H' (hq d z)
/-! arguments -/
theorem aa_nil {q : List D → Prop} (h : q []) : AA K tNil ρ q := fun B H σ s E Q k => k _ _ H h (Same.refl _) .nil
theorem aa_cons {q : List D → Prop} (h : AE K ta ρ fun a => AA K tl ρ fun ds => q (a :: ds)) : AA K (tCons ta tl) ρ q := fun B H σ s E Q k => h B H σ s E _ fun a x H1 h1 s1 dx =>
  h1 (ext B H H1) H1 σ (ext_r s s1) (E.mono (ext_l s)) _ fun ds vs H2 h2 s2 dy => by
    rw [ext_ext s1 s2] at dy
    have dx' : Dv K (ext B H H2) x a := dx.mono (by rw [← ext_ext s1 s2]; exact ext_l (ext_r s s1))
    exact k _ _ H2 h2 (s1.trans s2) (.cons dx' dy)
theorem ae_cb {r : List V → Hp → VK → Prop} (h : AA K tl ρ fun ds => AL K r ds q) : AE K (tCB r tl) ρ q := fun B H σ s E Q k => h B H σ s E _ fun ds vs H1 h1 s1 dx =>
  h1 (ext B H H1) H1 vs (ext_r s s1) dx Q fun d v H' hq s2 dv => k d v H' hq (s1.trans s2) (by rw [ext_ext s1 s2] at dv; exact dv)
theorem an_cb {r : List V → Hp → VK → Prop} (h : AA K tl ρ fun ds => ALN K r ds q) : AN K (tCB r tl) ρ q := fun B H σ s E Q k => h B H σ s E _ fun ds vs H1 h1 s1 dx =>
  h1 (ext B H H1) H1 vs (ext_r s s1) dx Q fun d v H' hq np s2 dv => k d v H' hq (s1.free np) (s1.trans s2) (by rw [ext_ext s1 s2] at dv; exact dv)
/-- the promise of a def that changes nothing: T asks by the data -/
def pfn (K : PySem.W.Frag) (T : List D → (D → Prop) → Prop) : Sp := fun vs H Q _ => ∃ (B : Hp) (ds : List D) (q : D → Prop), Same B H ∧ DvL K B vs ds ∧ T ds q ∧ ∀ d v H', q d → Same H H' → Dv K (ext B H H') v d → Q v H'
/-- .. and tells a new list or dict -/
def pfnN (K : PySem.W.Frag) (T : List D → (D → Prop) → Prop) : Sp := fun vs H Q _ => ∃ (B : Hp) (ds : List D) (q : D → Prop), Same B H ∧ DvL K B vs ds ∧ T ds q ∧ ∀ d p H', q d → H p = none → Same H H' → NewC K (ext B H H') H' p d → Q (.ref p) H'
theorem ae_call {T : List D → (D → Prop) → Prop} {E' : XK} (h : AA K tl ρ fun ds => T ds q) : AE K (tCall (pfn K T) [] E' tl) ρ q := fun B H σ s E Q k => h B H σ s E _ fun ds vs H1 h1 s1 dx => by
  refine ⟨ext B H H1, ds, q, ext_r s s1, by rw [List.append_nil]; exact dx, h1, fun d v H' hq s2 dv => ?_⟩
  rw [ext_ext s1 s2] at dv
  exact k d v H' hq (s1.trans s2) dv
theorem an_call {T : List D → (D → Prop) → Prop} {E' : XK} (h : AA K tl ρ fun ds => T ds q) : AN K (tCall (pfnN K T) [] E' tl) ρ q := fun B H σ s E Q k => h B H σ s E _ fun ds vs H1 h1 s1 dx => by
  refine ⟨ext B H H1, ds, q, ext_r s s1, by rw [List.append_nil]; exact dx, h1, fun d p H' hq np s2 dv => ?_⟩
  rw [ext_ext s1 s2] at dv
  exact k d p H' hq (s1.free np) (s1.trans s2) dv
/-! displays -/
theorem ae_tup (h : AA K tl ρ fun ds => ds.length ≤ 100000 ∧ q (.tup ds)) : AE K (tTup tl) ρ q := fun B H σ s E Q k => h B H σ s E _ fun ds vs H1 ⟨hl, h1⟩ s1 dx => by
  refine ⟨small (by rw [dx.len]; exact hl), fun p np => k _ _ _ h1 (s1.trans (same_upd np)) ?_⟩
  have s2 : Same H1 (upd H1 p (.tup vs)) := same_upd np
  refine .tup (by rw [ext_new (s1.free np), upd_same]) ?_
  rw [← ext_ext s1 s2]
  exact dx.mono (ext_l (ext_r s s1))
theorem same_remx {p : Addr} (s : Same B H) (np : H p = none) : Same B (rem (ext B H H') p) := same_rem (ext_l s) (s.free np)
theorem an_lst (h : AA K tl ρ fun ds => ds.length ≤ 100000 ∧ q (.lst ds)) : AN K (tLst tl) ρ q := fun B H σ s E Q k => h B H σ s E _ fun ds vs H1 ⟨hl, h1⟩ s1 dx => by
  refine ⟨small (by rw [dx.len]; exact hl), fun p np => k _ _ _ h1 (s1.free np) (s1.trans (same_upd np)) ?_⟩
  have s2 : Same H1 (upd H1 p (.lst vs)) := same_upd np
  refine ⟨vs, upd_same, ?_⟩
  rw [← ext_ext s1 s2]
  exact dx.mono (same_remx (ext_r s s1) np)
theorem an_dnew (hq : q (.dk [])) : AN K tDNewK ρ q := fun B H σ s E Q k p np => k _ _ _ hq np (same_upd np) ⟨[], upd_same, .nil⟩
/-! tests -/
theorem at_b {q : Bool → Prop} (h : AE K te ρ fun d => ∃ b, d = .bl b ∧ q b) : AT (tB te) K ρ q := fun B H σ s E Q k => h B H σ s E _ fun d v H' ⟨b, e, hb⟩ s1 dv => by
  subst e
  cases dv
  exact ⟨b, rfl, k b H' hb s1⟩
theorem at_test {q : Bool → Prop} (h : AE K te ρ fun d => ∃ b, d = .bl b ∧ q b) : AT (tTest te) K ρ q := fun B H σ s E Q k => h B H σ s E _ fun d v H' ⟨b, e, hb⟩ s1 dv => by
  subst e
  cases dv
  exact ⟨b, rfl, k b H' hb s1⟩
theorem at_not {q : Bool → Prop} (h : AT tt K ρ fun b => q (!b)) : AT (tNot tt) K ρ q := fun B H σ s E Q k => h B H σ s E _ fun b H' hb s1 => k _ H' hb s1
theorem at_and {q : Bool → Prop} (h : AT tt K ρ fun b => (b = true → AT tu K ρ q) ∧ (b = false → q false)) : AT (tAnd tt tu) K ρ q := fun B H σ s E Q k => h B H σ s E _ fun b H1 ⟨ht, hf⟩ s1 => by
  cases b with
  | true =>
    rw [if_pos rfl]
    exact ht rfl (ext B H H1) H1 σ (ext_r s s1) (E.mono (ext_l s)) Q fun b H' hb s2 => k b H' hb (s1.trans s2)
  | false =>
    rw [if_neg Bool.false_ne_true]
    exact k false H1 (hf rfl) s1
theorem at_or {q : Bool → Prop} (h : AT tt K ρ fun b => (b = false → AT tu K ρ q) ∧ (b = true → q true)) : AT (tOr tt tu) K ρ q := fun B H σ s E Q k => h B H σ s E _ fun b H1 ⟨hf, ht⟩ s1 => by
  cases b with
  | false =>
    rw [if_neg Bool.false_ne_true]
    exact hf rfl (ext B H H1) H1 σ (ext_r s s1) (E.mono (ext_l s)) Q fun b H' hb s2 => k b H' hb (s1.trans s2)
  | true =>
    rw [if_pos rfl]
    exact k true H1 (ht rfl) s1
/-- with the answers told as one -/
theorem at_andB {k1 k2 : Bool} {q : Bool → Prop} (h1 : ∀ q : Bool → Prop, q k1 → AT tt K ρ q) (h2 : k1 = true → ∀ q : Bool → Prop, q k2 → AT tu K ρ q) (hq : q (k1 && k2)) : AT (tAnd tt tu) K ρ q := at_and (h1 _ ⟨fun e => h2 e _ (by rw [e, Bool.true_and] at hq; exact hq), fun e => by rw [e, Bool.false_and] at hq; exact hq⟩)
theorem at_orB {k1 k2 : Bool} {q : Bool → Prop} (h1 : ∀ q : Bool → Prop, q k1 → AT tt K ρ q) (h2 : k1 = false → ∀ q : Bool → Prop, q k2 → AT tu K ρ q) (hq : q (k1 || k2)) : AT (tOr tt tu) K ρ q := at_or (h1 _ ⟨fun e => h2 e _ (by rw [e, Bool.false_or] at hq; exact hq), fun e => by rw [e, Bool.true_or] at hq; exact hq⟩)
theorem ae_andV (h : AE K ta ρ fun a => ∃ b, a = .bl b ∧ (b = true → AE K tb ρ q) ∧ (b = false → q (.bl false))) : AE K (tAndV ta tb) ρ q := fun B H σ s E Q k => h B H σ s E _ fun a x H1 ⟨b, e, ht, hf⟩ s1 dx => by
  subst e
  cases dx
  refine ⟨b, rfl, ?_⟩
  cases b with
  | true =>
    rw [if_pos rfl]
    exact ht rfl (ext B H H1) H1 σ (ext_r s s1) (E.mono (ext_l s)) Q fun d v H' hq s2 dv => k d v H' hq (s1.trans s2) (by rw [ext_ext s1 s2] at dv; exact dv)
  | false =>
    rw [if_neg Bool.false_ne_true]
    exact k _ _ H1 (hf rfl) s1 (.bl _)
theorem ae_orV (h : AE K ta ρ fun a => ∃ b, a = .bl b ∧ (b = false → AE K tb ρ q) ∧ (b = true → q (.bl true))) : AE K (tOrV ta tb) ρ q := fun B H σ s E Q k => h B H σ s E _ fun a x H1 ⟨b, e, ht, hf⟩ s1 dx => by
  subst e
  cases dx
  refine ⟨b, rfl, ?_⟩
  cases b with
  | false =>
    rw [if_neg Bool.false_ne_true]
    exact ht rfl (ext B H H1) H1 σ (ext_r s s1) (E.mono (ext_l s)) Q fun d v H' hq s2 dv => k d v H' hq (s1.trans s2) (by rw [ext_ext s1 s2] at dv; exact dv)
  | true =>
    rw [if_pos rfl]
    exact k _ _ H1 (hf rfl) s1 (.bl _)
theorem ae_andVB {k1 k2 : Bool} (h1 : ∀ q : D → Prop, q (.bl k1) → AE K ta ρ q) (h2 : k1 = true → ∀ q : D → Prop, q (.bl k2) → AE K tb ρ q) (hq : q (.bl (k1 && k2))) : AE K (tAndV ta tb) ρ q := ae_andV (h1 _ ⟨k1, rfl, fun e => h2 e _ (by rw [e, Bool.true_and] at hq; exact hq), fun e => by rw [e, Bool.false_and] at hq; exact hq⟩)
theorem ae_orVB {k1 k2 : Bool} (h1 : ∀ q : D → Prop, q (.bl k1) → AE K ta ρ q) (h2 : k1 = false → ∀ q : D → Prop, q (.bl k2) → AE K tb ρ q) (hq : q (.bl (k1 || k2))) : AE K (tOrV ta tb) ρ q := ae_orV (h1 _ ⟨k1, rfl, fun e => h2 e _ (by rw [e, Bool.false_or] at hq; exact hq), fun e => by rw [e, Bool.true_or] at hq; exact hq⟩)
theorem ae_notV (h : AE K ta ρ fun a => ∃ b, a = .bl b ∧ q (.bl (!b))) : AE K (tNotV ta) ρ q := fun B H σ s E Q k => h B H σ s E _ fun a x H1 ⟨b, e, hq⟩ s1 dx => by
  subst e
  cases dx
  exact ⟨b, rfl, k _ _ H1 hq s1 (.bl _)⟩
theorem ae_ifE (h : AT tt K ρ fun b => (b = true → AE K ta ρ q) ∧ (b = false → AE K tb ρ q)) : AE K (tIf tt ta tb) ρ q := fun B H σ s E Q k => h B H σ s E _ fun b H1 ⟨ht, hf⟩ s1 => by
  cases b with
  | true =>
    rw [if_pos rfl]
    exact ht rfl (ext B H H1) H1 σ (ext_r s s1) (E.mono (ext_l s)) Q fun d v H' hq s2 dv => k d v H' hq (s1.trans s2) (by rw [ext_ext s1 s2] at dv; exact dv)
  | false =>
    rw [if_neg Bool.false_ne_true]
    exact hf rfl (ext B H H1) H1 σ (ext_r s s1) (E.mono (ext_l s)) Q fun d v H' hq s2 dv => k d v H' hq (s1.trans s2) (by rw [ext_ext s1 s2] at dv; exact dv)
def isNon : D → Bool
  | .non => true
  | _ => false
def noOp : D → Bool
  | .op _ | .ex _ _ _ | .vd _ _ => false
  | _ => true
theorem dv_non {x : V} {a : D} (h : Dv K B x a) (n : noOp a = true) : decide (x = V.non) = isNon a := by
  cases h <;> first | rfl | (cases n; done) | skip
  all_goals simp [isNon]
theorem ae_isN (h : AE K ta ρ fun a => noOp a = true ∧ q (.bl (isNon a))) : AE K (tIsN ta) ρ q := fun B H σ s E Q k => h B H σ s E _ fun a x H1 ⟨n, hq⟩ s1 dx => by
  rw [dv_non dx n]
  exact k _ _ H1 hq s1 (.bl _)
theorem ae_notN (h : AE K ta ρ fun a => noOp a = true ∧ q (.bl (!isNon a))) : AE K (tNotN ta) ρ q := fun B H σ s E Q k => h B H σ s E _ fun a x H1 ⟨n, hq⟩ s1 dx => by
  rw [dv_non dx n]
  exact k _ _ H1 hq s1 (.bl _)
/-- a < b < c -/
theorem ae_chain {o o' : R2} (h : AE K ta ρ fun a => AE K tb ρ fun b => A2 K o a b fun z => ∃ k, z = .bl k ∧ (k = true → AE K tc ρ fun c => A2 K o' b c q) ∧ (k = false → q (.bl false))) : AE K (tChain o o' ta tb tc) ρ q := fun B H σ s E Q k => h B H σ s E _ fun a x H1 h1 s1 dx =>
  h1 (ext B H H1) H1 σ (ext_r s s1) (E.mono (ext_l s)) _ fun b y H2 h2 s2 dy => by
    rw [ext_ext s1 s2] at dy
    have s12 := s1.trans s2
    have dx' : Dv K (ext B H H2) x a := dx.mono (by rw [← ext_ext s1 s2]; exact ext_l (ext_r s s1))
    refine h2 (ext B H H2) H2 x y (ext_r s s12) dx' dy _ fun d v H3 hd s3 dv => ?_
    obtain ⟨kk, e, ht, hf⟩ := hd
    subst e
    cases dv
    refine ⟨kk, rfl, ?_⟩
    have s13 := s12.trans s3
    cases kk with
    | false =>
      rw [if_neg Bool.false_ne_true]
      exact k _ _ H3 (hf rfl) s13 (.bl _)
    | true =>
      rw [if_pos rfl]
      refine ht rfl (ext B H H3) H3 σ (ext_r s s13) (E.mono (ext_l s)) _ fun c w H4 h4 s4 dw => ?_
      rw [ext_ext s13 s4] at dw
      have s14 := s13.trans s4
      have dy' : Dv K (ext B H H4) y b := dy.mono (by rw [← ext_ext s12 (s3.trans s4)]; exact ext_l (ext_r s s12))
      exact h4 (ext B H H4) H4 y w (ext_r s s14) dy' dw Q fun d v H' hq s5 dv => k d v H' hq (s14.trans s5) (by rw [ext_ext s14 s5] at dv; exact dv)
/-! slices' parts, methods -/
theorem ae_sl0 {o : V → Option Int → Option Int → Hp → VK → Prop} (h : AE K te ρ fun a => A1 K (fun x => o x none none) a q) : AE K (tSl o te tNoPart tNoPart) ρ q := ae_bind (r := fun x => o x none none) (fun _ _ _ h => h) h
theorem an_bind {r : V → Hp → VK → Prop} {t : TE} (ht : ∀ σ H Q, ta σ H (fun x H1 => r x H1 Q) → t σ H Q) (h : AE K ta ρ fun a => ∀ (B H : Hp) (x : V), Same B H → Dv K B x a → ∀ Q : VK, (∀ d p H', q d → H p = none → Same H H' → NewC K (ext B H H') H' p d → Q (.ref p) H') → r x H Q) : AN K t ρ q := fun B H σ s E Q k => ht _ _ _ (h B H σ s E _ fun a x H1 h1 s1 dx =>
  h1 (ext B H H1) H1 x (ext_r s s1) dx Q fun d p H' hq np s2 dv => k d p H' hq (s1.free np) (s1.trans s2) (by rw [ext_ext s1 s2] at dv; exact dv))
end
/-! ### what is held beside the slots; statements -/
structure Res where
  P : Hp → Hp → List Addr → Prop
  frame : ∀ {B H B' H' : Hp} {fp : List Addr}, P B H fp → Same B B' → (∀ a ∈ fp, H' a = H a) → P B' H' fp
inductive WR (B H : Hp) : List Res → List Addr → Prop
  | nil : WR B H [] []
  | cons {r : Res} {W : List Res} {fp G : List Addr} : r.P B H fp → (∀ a ∈ fp, a ∉ G) → (∀ a ∈ fp, B a = none ∧ Hard (H a)) → WR B H W G → WR B H (r :: W) (fp ++ G)
theorem WR.mono {B B' H H' : Hp} (e : Same B B') : ∀ {W : List Res} {G : List Addr}, WR B H W G → (∀ a ∈ G, B' a = none) → (∀ a ∈ G, H' a = H a) → WR B' H' W G
  | _, _, .nil, _, _ => .nil
  | _, _, .cons p d n t, h1, h2 => .cons (Res.frame _ p e fun a m => h2 a (List.mem_append_left _ m)) d (fun a m => ⟨h1 a (List.mem_append_left _ m), by rw [h2 a (List.mem_append_left _ m)]; exact (n a m).2⟩)
    (WR.mono e t (fun a m => h1 a (List.mem_append_right _ m)) fun a m => h2 a (List.mem_append_right _ m))
theorem WR.there {B H : Hp} : ∀ {W : List Res} {G : List Addr}, WR B H W G → ∀ a ∈ G, B a = none ∧ H a ≠ none
  | _, _, .nil, a, h => by cases h
  | _, _, .cons p d n t, a, h => (List.mem_append.mp h).elim (fun m => ⟨(n a m).1, (n a m).2.1⟩) (WR.there t a)
theorem WR.hard {B H : Hp} : ∀ {W : List Res} {G : List Addr}, WR B H W G → ∀ a ∈ G, Hard (H a)
  | _, _, .nil, a, h => by cases h
  | _, _, .cons p d n t, a, h => (List.mem_append.mp h).elim (fun m => (n a m).2) (WR.hard t a)
/-- where a def stands: the heap at its entry (what is frozen of it, all of it), what it may change of it -/
structure Zc where
  K : PySem.W.Frag
  B0 : Hp
  H0 : Hp
  F0 : List Addr
structure Rel (Z : Zc) (B H : Hp) (σ : L2.St) (ρ : List Sl) (W : List Res) (A G : List Addr) : Prop where
  b0 : Same Z.B0 B
  bh : Same B H
  hh : ∀ a o, Z.H0 a = some o → a ∉ Z.F0 → H a = some o
  dom : ∀ a, Z.H0 a ≠ none → H a ≠ none
  old : ∀ a, Z.H0 a ≠ none → B a = Z.B0 a
  env : EnvR Z.K B H σ ρ A
  res : WR B H W G
  nd : ∀ a ∈ A, a ∉ G
  na : ∀ a ∈ A, Z.H0 a = none
  ng : ∀ a ∈ G, a ∈ Z.F0 ∨ Z.H0 a = none
structure AEnds where
  nx : List Sl → List Res → Prop
  rt : D → List Res → Prop
  rn : D → List Res → Prop
  bk : List Sl → List Res → Prop
  ct : List Sl → List Res → Prop
structure EOk (Z : Zc) (F : Hp) (P : AEnds) (R : Ends) : Prop where
  nx : ∀ {B H σ ρ W A G}, P.nx ρ W → Same F B → Rel Z B H σ ρ W A G → R.nx σ H
  bk : ∀ {B H σ ρ W A G}, P.bk ρ W → Same F B → Rel Z B H σ ρ W A G → R.bk σ H
  ct : ∀ {B H σ ρ W A G}, P.ct ρ W → Same F B → Rel Z B H σ ρ W A G → R.ct σ H
  rt : ∀ {B H d v W G}, P.rt d W → Rel Z B H [] [] W [] G → Dv Z.K B v d → R.rt v H
  rn : ∀ {B H d p W G}, P.rn d W → Rel Z B H [] [] W [] G → Z.H0 p = none → B p = none → Cell Z.K B H p d → R.rt (.ref p) H
def AW (Z : Zc) (t : TS) (ρ : List Sl) (W : List Res) (P : AEnds) : Prop := ∀ (F : Hp) (R : Ends), EOk Z F P R → ∀ (B H : Hp) (σ : L2.St) (A G : List Addr), Same F B → Rel Z B H σ ρ W A G → t R σ H
section
variable {Z : Zc} {B B' H H' F : Hp} {σ : L2.St} {ρ : List Sl} {W : List Res} {A G : List Addr} {P : AEnds} {t u : TS} {te ti : TE} {tt : TT} {i j : Nat} {d : D}
theorem Rel.step (r : Rel Z B H σ ρ W A G) (s : Same H H') : Rel Z (ext B H H') H' σ ρ W A G where
  b0 := r.b0.trans (ext_l r.bh)
  bh := ext_r r.bh s
  hh := fun a o e n => s a o (r.hh a o e n)
  dom := fun a e z => r.dom a e (s.free z)
  old := fun a e => by rw [ext_old (r.dom a e)]; exact r.old a e
  env := r.env.mono (ext_l r.bh) (fun a m => by rw [ext_old (r.env.there a m).2]; exact (r.env.there a m).1) fun a m => by
    cases e : H a with
    | none => exact absurd e (r.env.there a m).2
    | some o => exact s a o e
  res := r.res.mono (ext_l r.bh) (fun a m => by rw [ext_old (r.res.there a m).2]; exact (r.res.there a m).1) fun a m => by
    cases e : H a with
    | none => exact absurd e (r.res.there a m).2
    | some o => exact s a o e
  nd := r.nd
  na := r.na
  ng := r.ng
/-- the slots changed, the heap as it is -/
theorem Rel.slots {σ' : L2.St} {ρ' : List Sl} {A' : List Addr} (r : Rel Z B H σ ρ W A G) (e : EnvR Z.K B H σ' ρ' A') (h : ∀ a ∈ A', a ∈ A) : Rel Z B H σ' ρ' W A' G := { r with env := e, nd := fun a m => r.nd a (h a m), na := fun a m => r.na a (h a m) }
theorem Rel.setSh {v : V} (r : Rel Z B H σ ρ W A G) (q : Dv Z.K B v d) (i : Nat) : ∃ A', Rel Z B H (σ.set i (some v)) (ρ.set i (.sh d)) W A' G := by
  obtain ⟨A', h1, h2⟩ := r.env.setSh q i
  exact ⟨A', r.slots h2 h1⟩
theorem Rel.noSlots (r : Rel Z B H σ ρ W A G) : Rel Z B H [] [] W [] G := r.slots .nil fun a m => by cases m
/-- a new object at p becomes an own slot's -/
theorem Rel.setOwn {p : Addr} (r : Rel Z B H σ ρ W A G) (np : H p = none) (s : Same H H') (c : NewC Z.K (ext B H H') H' p d) (i : Nat) : ∃ A', Rel Z (rem (ext B H H') p) H' (σ.set i (some (.ref p))) (ρ.set i (.own d)) W A' G := by
  have r1 := r.step s
  have bp : B p = none := r.bh.free np
  have s1 : Same B (rem (ext B H H') p) := same_remx r.bh np
  have off : ∀ a, H a ≠ none → rem (ext B H H') p a = B a := fun a h => by
    unfold rem
    rw [if_neg fun (z : a = p) => h (z ▸ np), ext_old h]
  have keep : ∀ a, H a ≠ none → H' a = H a := fun a h => by
    cases e : H a with
    | none => exact absurd e h
    | some o => exact s a o e
  have e1 : EnvR Z.K (rem (ext B H H') p) H' σ ρ A := r.env.mono s1 (fun a m => by rw [off a (r.env.there a m).2]; exact (r.env.there a m).1) fun a m => keep a (r.env.there a m).2
  have npA : p ∉ A := fun m => (r.env.there p m).2 np
  have np0 : Z.H0 p = none := by
    cases e : Z.H0 p with
    | none => rfl
    | some o => exact absurd np (r.dom p (ne_none e))
  obtain ⟨A', h1, h2⟩ := e1.setOwn (p := p) (by unfold rem; rw [if_pos rfl]) c npA i
  have nd : ∀ a ∈ A', a ∉ G := fun a m => (h1 a m).elim (fun z g => (r.res.there a g).2 (z ▸ np)) (r.nd a)
  have na : ∀ a ∈ A', Z.H0 a = none := fun a m => (h1 a m).elim (fun z => z ▸ np0) (r.na a)
  have res : WR (rem (ext B H H') p) H' W G := r.res.mono s1 (fun a m => (off a (r.res.there a m).2).trans (r.res.there a m).1) fun a m => keep a (r.res.there a m).2
  exact ⟨A', r.b0.trans s1, rem_same.trans (ext_r r.bh s), r1.hh, r1.dom, fun a e => (off a (r.dom a e)).trans (r.old a e), h2, res, nd, na, r.ng⟩
/-- the cell of an own slot changes -/
theorem Rel.mut {d' : D} {a : Addr} {o : HO} (r : Rel Z B H σ ρ W A G) (h : ρ[i]? = some (.own d)) (hs : σ[i]? = some (some (.ref a))) (ha : a ∈ A) (c : Cell Z.K B (upd H a o) a d') : Rel Z B (upd H a o) σ (ρ.set i (.own d')) W A G := by
  have ne : ∀ b, Z.H0 b ≠ none → b ≠ a := fun b n z => n (z ▸ r.na a ha)
  have nb : ∀ b o, B b = some o → b ≠ a := fun b o e z => by rw [z, (r.env.there a ha).1] at e; cases e
  exact { b0 := r.b0, bh := fun b o' e => by rw [upd_ne (nb b o' e)]; exact r.bh b o' e, hh := fun b o' e n => by rw [upd_ne (ne b (ne_none e))]; exact r.hh b o' e n,
          dom := fun b n => by rw [upd_ne (ne b n)]; exact r.dom b n, old := r.old, env := r.env.mut h hs (fun b m n => upd_ne n) c,
          res := r.res.mono (Same.refl _) (fun b m => (r.res.there b m).1) (fun b m => upd_ne fun z => r.nd a ha (z ▸ m)), nd := r.nd, na := r.na, ng := r.ng }
/-- all own slots frozen -/
theorem Rel.fz (r : Rel Z B H σ ρ W A G) : Rel Z (fzB B H A) H σ (fz ρ) W [] G where
  b0 := r.b0.trans (fzB_l fun a m => (r.env.there a m).1)
  bh := fzB_r r.bh
  hh := r.hh
  dom := r.dom
  old := fun a n => by
    unfold fzB
    rw [if_neg fun m => n (r.na a m)]
    exact r.old a n
  env := r.env.fz
  res := r.res.mono (fzB_l fun a m => (r.env.there a m).1) (fun a m => by
    unfold fzB
    rw [if_neg fun m' => r.nd a m' m]
    exact (r.res.there a m).1) fun _ _ => rfl
  nd := fun a m => by cases m
  na := fun a m => by cases m
  ng := r.ng
theorem Rel.fz1 (r : Rel Z B H σ ρ W A G) (h : ρ[i]? = some (.own d)) : ∃ B' A', Same B B' ∧ Rel Z B' H σ (ρ.set i (.sh d)) W A' G := by
  obtain ⟨a, A', h1, h2, h3, h4⟩ := r.env.fz1 h
  have ba := (r.env.there a h2).1
  have s1 : Same B (fun b => if b = a then H a else B b) := fun b o e => (if_neg fun (z : b = a) => by rw [z, ba] at e; cases e).trans e
  have res : WR (fun b => if b = a then H a else B b) H W G := r.res.mono s1 (fun b m => (if_neg fun (z : b = a) => r.nd a h2 (z ▸ m)).trans (r.res.there b m).1) fun _ _ => rfl
  have old : ∀ b, Z.H0 b ≠ none → (fun b => if b = a then H a else B b) b = Z.B0 b := fun b n => (if_neg fun (z : b = a) => n (z ▸ r.na a h2)).trans (r.old b n)
  have bh : Same (fun b => if b = a then H a else B b) H := fun b o e => by
    by_cases c : b = a
    · have e' : (if b = a then H a else B b) = some o := e
      rw [if_pos c] at e'
      rw [c]
      exact e'
    · have e' : (if b = a then H a else B b) = some o := e
      rw [if_neg c] at e'
      exact r.bh b o e'
  exact ⟨_, A', s1, r.b0.trans s1, bh, r.hh, r.dom, old, h4 _ s1 (if_pos rfl) (fun b m => (if_neg (h3 b m).2).trans (r.env.there b (h3 b m).1).1), res, fun b m => r.nd b (h3 b m).1, fun b m => r.na b (h3 b m).1, r.ng⟩
def scalD : D → Bool
  | .non | .bl _ | .int _ | .str _ | .op _ => true
  | _ => false
theorem dv_scal {K : PySem.W.Frag} {v : V} (h : Dv K B v d) (s : scalD d = true) : Dv K B' v d := by
  cases h <;> first | exact .non | exact .bl _ | exact .int _ | exact .op _ | (exact .str _ (by assumption)) | cases s
theorem dvl_scal {K : PySem.W.Frag} : ∀ {vs : List V} {ds : List D}, DvL K B vs ds → ds.all scalD = true → DvL K B' vs ds
  | _, _, .nil, _ => .nil
  | _, _, .cons h t, s => by
    rw [List.all_cons, Bool.and_eq_true] at s
    exact .cons (dv_scal h s.1) (dvl_scal t s.2)
def flatD : D → Bool
  | .lst ds => ds.all scalD
  | .dk ds => ds.isEmpty
  | _ => false
theorem newC_flat {K : PySem.W.Frag} {p : Addr} (h : NewC K B H p d) (s : flatD d = true) : NewC K B' H p d := by
  cases d <;> first | exact False.elim h | skip
  · obtain ⟨vs, h1, h2⟩ := h
    exact ⟨vs, h1, dvl_scal h2 s⟩
  · obtain ⟨ks, h1, h2⟩ := h
    cases h2 with
    | nil => exact ⟨[], h1, .nil⟩
    | cons _ _ => cases s
  · cases s
theorem aw_seq (h : AW Z t ρ W ⟨fun ρ W => AW Z u ρ W P, P.rt, P.rn, P.bk, P.ct⟩) : AW Z (tSeq t u) ρ W P := fun F R ok B H σ A G s r =>
  h F { R with nx := u R } ⟨fun hn s' r' => hn F R ok _ _ _ _ _ s' r', ok.bk, ok.ct, ok.rt, ok.rn⟩ B H σ A G s r
theorem aw_next (h : P.nx ρ W) : AW Z tNext ρ W P := fun F R ok B H σ A G s r => ok.nx h s r
theorem aw_brk (h : P.bk ρ W) : AW Z tBreak ρ W P := fun F R ok B H σ A G s r => ok.bk h s r
theorem aw_cont (h : P.ct ρ W) : AW Z tCont ρ W P := fun F R ok B H σ A G s r => ok.ct h s r
theorem aw_asgH (h : AE Z.K te ρ fun d => P.nx (ρ.set i (.sh d)) W) : AW Z (tAsg te (gName i)) ρ W P := fun F R ok B H σ A G s r =>
  h B H σ r.bh r.env.envS _ fun d v H' hq s1 dv => by
    obtain ⟨A', r'⟩ := (r.step s1).setSh dv i
    exact ok.nx hq (s.trans (ext_l r.bh)) r'
theorem aw_asgS (h : AE Z.K te (fz ρ) fun d => scalD d = true ∧ P.nx (ρ.set i (.sh d)) W) : AW Z (tAsg te (gName i)) ρ W P := fun F R ok B H σ A G s r =>
  h _ H σ r.fz.bh r.fz.env.envS _ fun d v H' hq s1 dv => by
    obtain ⟨A', r'⟩ := (r.step s1).setSh (dv_scal dv hq.1) i
    exact ok.nx hq.2 (s.trans (ext_l r.bh)) r'
theorem aw_asgN (h : AN Z.K te ρ fun d => P.nx (ρ.set i (.own d)) W) : AW Z (tAsg te (gName i)) ρ W P := fun F R ok B H σ A G s r =>
  h B H σ r.bh r.env.envS _ fun d p H' hq np s1 c => by
    obtain ⟨A', r'⟩ := r.setOwn np s1 c i
    exact ok.nx hq (s.trans (same_remx r.bh np)) r'
theorem aw_asgNF (h : AN Z.K te (fz ρ) fun d => flatD d = true ∧ P.nx (ρ.set i (.own d)) W) : AW Z (tAsg te (gName i)) ρ W P := fun F R ok B H σ A G s r =>
  h _ H σ r.fz.bh r.fz.env.envS _ fun d p H' hq np s1 c => by
    obtain ⟨A', r'⟩ := r.setOwn np s1 (newC_flat c hq.1) i
    exact ok.nx hq.2 (s.trans (same_remx r.bh np)) r'
theorem aw_asgE (h : AN Z.K te (fz ρ) fun d => flatD d = true ∧ P.nx (ρ.set i (.sh d)) W) : AW Z (tAsg te (gName i)) ρ W P := fun F R ok B H σ A G s r =>
  h _ H σ r.fz.bh r.fz.env.envS _ fun d p H' hq np s1 c => by
    have dv : Dv Z.K (ext B H H') (.ref p) d := newC_dv (newC_flat c hq.1) (ext_new np)
    obtain ⟨A', r'⟩ := (r.step s1).setSh dv i
    exact ok.nx hq.2 (s.trans (ext_l r.bh)) r'
theorem aw_frz (i : Nat) (e : ρ[i]? = some (.own d)) (h : AW Z t (ρ.set i (.sh d)) W P) : AW Z t ρ W P := fun F R ok B H σ A G s r => by
  obtain ⟨B', A', s', r'⟩ := r.fz1 e
  exact h F R ok B' H σ A' G (s.trans s') r'
theorem aw_ret (h : AE Z.K te (fz ρ) fun d => P.rt d W) : AW Z (tRet te) ρ W P := fun F R ok B H σ A G s r =>
  h _ H σ r.fz.bh r.fz.env.envS _ fun d v H' hq s1 dv => ok.rt hq (r.fz.step s1).noSlots dv
theorem aw_retNew (h : AN Z.K te ρ fun d => P.rn d W) : AW Z (tRet te) ρ W P := fun F R ok B H σ A G s r =>
  h B H σ r.bh r.env.envS _ fun d p H' hq np s1 c => by
    obtain ⟨A', r'⟩ := r.setOwn np s1 c 0
    have n0 : Z.H0 p = none := by
      cases e : Z.H0 p with
      | none => rfl
      | some o => exact absurd np (r.dom p (ne_none e))
    exact ok.rn hq r'.noSlots n0 (if_pos rfl) c
theorem aw_retOwn (e : ρ[i]? = some (.own d)) (h : P.rn d W) : AW Z (tRet (tVar i)) ρ W P := fun F R ok B H σ A G s r => by
  obtain ⟨a, h1, h2, h3, c⟩ := r.env.getOwn e
  exact ⟨_, h1, ok.rn h r.noSlots (r.na a h2) h3 c⟩
theorem aw_retN (h : P.rt .non W) : AW Z tRetN ρ W P := fun F R ok B H σ A G s r => ok.rt h r.noSlots .non
theorem aw_if (h : AT tt Z.K (fz ρ) fun b => (b = true → AW Z t ρ W P) ∧ (b = false → AW Z u ρ W P)) : AW Z (tIfS tt t u) ρ W P := fun F R ok B H σ A G s r =>
  h _ H σ r.fz.bh r.fz.env.envS _ fun b H' hq s1 => by
    cases b with
    | true =>
      rw [if_pos rfl]
      exact hq.1 rfl F R ok _ H' σ A G (s.trans (ext_l r.bh)) (r.step s1)
    | false =>
      rw [if_neg Bool.false_ne_true]
      exact hq.2 rfl F R ok _ H' σ A G (s.trans (ext_l r.bh)) (r.step s1)
theorem aw_drop (h : AE Z.K te (fz ρ) fun _ => P.nx ρ W) : AW Z (tDrop te) ρ W P := fun F R ok B H σ A G s r =>
  h _ H σ r.fz.bh r.fz.env.envS _ fun b v H' hq s1 dv => ok.nx hq (s.trans (ext_l r.bh)) (r.step s1)
/-! own lists changed -/
theorem aw_append {ds : List D} (e : ρ[i]? = some (.own (.lst ds))) (h : AE Z.K te ρ fun d => ds.length < 100000 ∧ P.nx (ρ.set i (.own (.lst (ds ++ [d])))) W) : AW Z (tDrop (tBM Z.K "list" rAppend (tVar i) (tCons te tNil))) ρ W P := fun F R ok B H σ A G s r => by
  obtain ⟨a, h1, h2, h3, vs, h4, h5⟩ := r.env.getOwn e
  refine ⟨_, h1, .inl ⟨rfl, _, Sq_of h4⟩, ?_⟩
  refine h B H σ r.bh r.env.envS _ fun d v H' hq s1 dv => ?_
  have r1 := r.step s1
  refine ⟨a, vs, v, rfl, rfl, s1 _ _ h4, smallL (by rw [h5.len]; exact hq.1), ok.nx hq.2 (s.trans (ext_l r.bh)) (r1.mut e h1 h2 ⟨_, upd_same, (h5.mono (ext_l r.bh)).append (.cons dv .nil)⟩)⟩
theorem aw_appendS {ds : List D} (e : ρ[i]? = some (.own (.lst ds))) (h : AE Z.K te (fz ρ) fun d => scalD d = true ∧ ds.length < 100000 ∧ P.nx (ρ.set i (.own (.lst (ds ++ [d])))) W) : AW Z (tDrop (tBM Z.K "list" rAppend (tVar i) (tCons te tNil))) ρ W P := fun F R ok B H σ A G s r => by
  obtain ⟨a, h1, h2, h3, vs, h4, h5⟩ := r.env.getOwn e
  refine ⟨_, h1, .inl ⟨rfl, _, Sq_of h4⟩, ?_⟩
  refine h _ H σ r.fz.bh r.fz.env.envS _ fun d v H' hq s1 dv => ?_
  have r1 := r.step s1
  refine ⟨a, vs, v, rfl, rfl, s1 _ _ h4, smallL (by rw [h5.len]; exact hq.2.1), ok.nx hq.2.2 (s.trans (ext_l r.bh)) (r1.mut e h1 h2 ⟨_, upd_same, (h5.mono (ext_l r.bh)).append (.cons (dv_scal dv hq.1) .nil)⟩)⟩
theorem aw_reverse {ds : List D} (e : ρ[i]? = some (.own (.lst ds))) (h : P.nx (ρ.set i (.own (.lst ds.reverse))) W) : AW Z (tDrop (tBM0 Z.K "list" rReverse (tVar i))) ρ W P := fun F R ok B H σ A G s r => by
  obtain ⟨a, h1, h2, h3, vs, h4, h5⟩ := r.env.getOwn e
  exact ⟨_, h1, .inl ⟨rfl, _, Sq_of h4⟩, a, vs, rfl, rfl, h4, ok.nx h s (r.mut e h1 h2 ⟨_, upd_same, h5.rev⟩)⟩
theorem aw_clear {ds : List D} (e : ρ[i]? = some (.own (.lst ds))) (h : P.nx (ρ.set i (.own (.lst []))) W) : AW Z (tDrop (tBM0 Z.K "list" rClear (tVar i))) ρ W P := fun F R ok B H σ A G s r => by
  obtain ⟨a, h1, h2, h3, vs, h4, h5⟩ := r.env.getOwn e
  exact ⟨_, h1, .inl ⟨rfl, _, Sq_of h4⟩, a, vs, rfl, rfl, h4, ok.nx h s (r.mut e h1 h2 ⟨_, upd_same, .nil⟩)⟩
theorem seq_nat {k n : Nat} (h : k < n) : seqIndex? (k : Int) n = some k := by
  unfold seqIndex?
  have h1 : ¬ ((k : Int) < 0) := by omega
  have h2 : (k : Int) < (n : Int) := by omega
  simp [h1, h]
/-- found.append(pool.pop(k)) -/
theorem aw_appendPop {ds es : List D} (e : ρ[i]? = some (.own (.lst ds))) (e2 : ρ[j]? = some (.own (.lst es))) (hij : i ≠ j)
    (h : AE Z.K te (fz ρ) fun d => ∃ k : Nat, ∃ x, d = .int k ∧ es[k]? = some x ∧ k < 1000000 ∧ ds.length < 100000 ∧ P.nx ((ρ.set j (.own (.lst (es.eraseIdx k)))).set i (.own (.lst (ds ++ [x])))) W) :
    AW Z (tDrop (tBM Z.K "list" rAppend (tVar i) (tCons (tBM Z.K "list" rPopAt (tVar j) (tCons te tNil)) tNil))) ρ W P := fun F R ok B H σ A G s r => by
  obtain ⟨a, h1, h2, h3, vs, h4, h5⟩ := r.env.getOwn e
  obtain ⟨b, g1, g2, g3, ws, g4, g5⟩ := r.env.getOwn e2
  refine ⟨_, h1, .inl ⟨rfl, _, Sq_of h4⟩, ⟨_, g1, .inl ⟨rfl, _, Sq_of g4⟩, ?_⟩⟩
  refine h _ H σ r.fz.bh r.fz.env.envS _ fun d v H' ⟨k, x, ek, ex, hk, hl, hn⟩ s1 dv => ?_
  subst ek
  cases dv
  obtain ⟨y, hy, dy⟩ := g5.at ex
  have hkl : k < ws.length := (List.getElem?_eq_some_iff.mp hy).1
  have r1 := r.step s1
  have r2 := r1.mut (d' := .lst (es.eraseIdx k)) (o := .lst (ws.eraseIdx k)) e2 g1 g2 ⟨_, upd_same, (g5.mono (ext_l r.bh)).erase k⟩
  have ab : a ≠ b := r.env.own_ne e e2 h1 g1 hij
  have hy' : ws[k]? = some y := hy
  refine ⟨b, ws, _, k, y, rfl, rfl, s1 _ _ g4, by omega, by omega, seq_nat hkl, hy, ?_⟩
  have e1 : (ρ.set j (.own (.lst (es.eraseIdx k))))[i]? = some (.own (.lst ds)) := by rw [List.getElem?_set_ne (Ne.symm hij)]; exact e
  have sh4 : upd H' b (.lst (ws.eraseIdx k)) a = some (.lst vs) := by rw [upd_ne ab]; exact s1 _ _ h4
  refine ⟨a, vs, y, rfl, rfl, sh4, smallL (by rw [h5.len]; exact hl), ok.nx hn (s.trans (ext_l r.bh)) (r2.mut e1 h1 h2 ⟨_, upd_same, (h5.mono (ext_l r.bh)).append (.cons (dy.mono (ext_l r.bh)) .nil)⟩)⟩
/-! slots let go -/
def Wk : List Sl → List Sl → Prop
  | [], [] => True
  | s :: ρ, s' :: ρ' => (s' = .un ∨ s' = s) ∧ Wk ρ ρ'
  | _, _ => False
theorem wk_nil : Wk [] [] := trivial
theorem wk_cons {s s' : Sl} {ρ ρ' : List Sl} (h : s' = .un ∨ s' = s) (t : Wk ρ ρ') : Wk (s :: ρ) (s' :: ρ') := ⟨h, t⟩
theorem wk_refl : ∀ ρ : List Sl, Wk ρ ρ
  | [] => trivial
  | _ :: ρ => ⟨.inr rfl, wk_refl ρ⟩
theorem EnvR.wk {K : PySem.W.Frag} {B H : Hp} : ∀ {σ : L2.St} {ρ : List Sl} {A : List Addr}, EnvR K B H σ ρ A → ∀ {ρ' : List Sl}, Wk ρ ρ' → ∃ A', (∀ a ∈ A', a ∈ A) ∧ EnvR K B H σ ρ' A'
  | _, _, _, .nil, [], _ => ⟨[], fun _ h => h, .nil⟩
  | _, _, _, .un t, s :: ρ', ⟨h, w⟩ => by
    obtain ⟨A', h1, h2⟩ := EnvR.wk t w
    rcases h with rfl | rfl <;> exact ⟨A', h1, .un h2⟩
  | _, _, _, .sh q t, s :: ρ', ⟨h, w⟩ => by
    obtain ⟨A', h1, h2⟩ := EnvR.wk t w
    rcases h with rfl | rfl
    · exact ⟨A', h1, .un h2⟩
    · exact ⟨A', h1, .sh q h2⟩
  | _, _, _, .own (a := a) n b c t, s :: ρ', ⟨h, w⟩ => by
    obtain ⟨A', h1, h2⟩ := EnvR.wk t w
    rcases h with rfl | rfl
    · exact ⟨A', fun x m => List.mem_cons_of_mem _ (h1 x m), .un h2⟩
    · refine ⟨a :: A', fun x m => ?_, .own (fun m => n (h1 a m)) b c h2⟩
      rcases List.mem_cons.mp m with rfl | m
      · exact List.mem_cons_self
      · exact List.mem_cons_of_mem _ (h1 x m)
  | _, _, _, .ow2 (a := a) (ps := ps) n b nd c cs t, s :: ρ', ⟨h, w⟩ => by
    obtain ⟨A', h1, h2⟩ := EnvR.wk t w
    rcases h with rfl | rfl
    · exact ⟨A', fun x m => List.mem_append_right _ (h1 x m), .un h2⟩
    · exact ⟨(a :: ps) ++ A', fun x m => (List.mem_append.mp m).elim (List.mem_append_left _) fun m => List.mem_append_right _ (h1 x m), .ow2 (fun p m z => n p m (h1 p z)) b nd c cs h2⟩
theorem Rel.wk {ρ' : List Sl} (r : Rel Z B H σ ρ W A G) (w : Wk ρ ρ') : ∃ A', Rel Z B H σ ρ' W A' G := by
  obtain ⟨A', h1, h2⟩ := r.env.wk w
  exact ⟨A', r.slots h2 h1⟩
theorem aw_wk {ρ' : List Sl} (w : Wk ρ ρ') (h : AW Z t ρ' W P) : AW Z t ρ W P := fun F R ok B H σ A G s r => by
  obtain ⟨A', r'⟩ := r.wk w
  exact h F R ok B H σ A' G s r'
/-- the slots behind a statement, told ahead -/
theorem aw_cut (ρ' : List Sl) (h : AW Z t ρ W ⟨fun ρ3 W3 => Wk ρ3 ρ' ∧ W3 = W, P.rt, P.rn, P.bk, P.ct⟩) (hn : P.nx ρ' W) : AW Z t ρ W P := fun F R ok B H σ A G s r =>
  h F R ⟨fun hw s' r' => by
    obtain ⟨w, e⟩ := hw
    subst e
    obtain ⟨A', r2⟩ := r'.wk w
    exact ok.nx hn s' r2, ok.bk, ok.ct, ok.rt, ok.rn⟩ B H σ A G s r
/-! loops -/
def AG (Z : Zc) (g : TG) (x : D) (ρ : List Sl) (W : List Res) (n : List Sl → List Res → Prop) : Prop := ∀ (B H : Hp) (σ : L2.St) (A G : List Addr) (v : V), Rel Z B H σ ρ W A G → Dv Z.K B v x → ∀ Qs : L2.St → Hp → Prop, (∀ ρ' W' B' H' σ' A' G', n ρ' W' → Same B B' → Rel Z B' H' σ' ρ' W' A' G' → Qs σ' H') → g v σ H Qs
def AGs (Z : Zc) (g : TGs) (xs : List D) (ρ : List Sl) (W : List Res) (n : List Sl → List Res → Prop) : Prop := ∀ (B H : Hp) (σ : L2.St) (A G : List Addr) (vs : List V), Rel Z B H σ ρ W A G → DvL Z.K B vs xs → ∀ Qs : L2.St → Hp → Prop, (∀ ρ' W' B' H' σ' A' G', n ρ' W' → Same B B' → Rel Z B' H' σ' ρ' W' A' G' → Qs σ' H') → g vs σ H Qs
theorem ag_name {x : D} {n : List Sl → List Res → Prop} (h : n (ρ.set j (.sh x)) W) : AG Z (gName j) x ρ W n := fun B H σ A G v r dv Qs k => by
  obtain ⟨A', r'⟩ := r.setSh dv j
  exact k _ _ _ _ _ _ _ h (Same.refl _) r'
theorem ags_nil {n : List Sl → List Res → Prop} (h : n ρ W) : AGs Z gNil [] ρ W n := fun B H σ A G v r dv Qs k => by
  cases dv
  exact ⟨rfl, k _ _ _ _ _ _ _ h (Same.refl _) r⟩
theorem ags_cons {g : TG} {gs : TGs} {x : D} {xs : List D} {n : List Sl → List Res → Prop} (h : AG Z g x ρ W fun ρ1 W1 => AGs Z gs xs ρ1 W1 n) : AGs Z (gCons g gs) (x :: xs) ρ W n := fun B H σ A G v r dv Qs k => by
  cases dv with
  | cons dx dxs => exact ⟨_, _, rfl, h B H σ A G _ r dx _ fun ρ' W' B' H' σ' A' G' h' s' r' => h' B' H' σ' A' G' _ r' (dxs.mono s') Qs fun ρ2 W2 B2 H2 σ2 A2 G2 h2 s2 r2 => k _ _ _ _ _ _ _ h2 (s'.trans s2) r2⟩
theorem ag_tup {k : Nat} {gs : TGs} {xs : List D} {n : List Sl → List Res → Prop} (hl : xs.length = k) (h : AGs Z gs xs ρ W n) : AG Z (gTup Z.K k gs) (.tup xs) ρ W n := fun B H σ A G v r dv Qs kk => by
  cases dv with
  | tup hs hv => exact ⟨_, _, rfl, St_of (r.bh _ _ hs), by rw [hv.len]; exact hl, h B H σ A G _ r hv Qs kk⟩
/-- where a loop stands -/
def LPv (Z : Zc) (F : Hp) (Iv : List Sl → List Res → Prop) (σ' : L2.St) (H' : Hp) : Prop := ∃ ρ' W' B' A' G', Iv ρ' W' ∧ Same F B' ∧ Rel Z B' H' σ' ρ' W' A' G'
theorem EOk.loop {Iv : List Sl → List Res → Prop} {F F' : Hp} {R : Ends} (ok : EOk Z F P R) (s : Same F F') : EOk Z F' ⟨Iv, P.rt, P.rn, P.nx, Iv⟩ ⟨LPv Z F' Iv, R.rt, R.nx, LPv Z F' Iv⟩ :=
  ⟨fun hn sn rn => ⟨_, _, _, _, _, hn, sn, rn⟩, fun hn sn rn => ok.nx hn (s.trans sn) rn, fun hn sn rn => ⟨_, _, _, _, _, hn, sn, rn⟩, ok.rt, ok.rn⟩
theorem lpv_wk {Iv : List Sl → List Res → Prop} {ρ' : List Sl} (h : ∃ ρ', Wk ρ ρ' ∧ Iv ρ' W) (s : Same F B) (r : Rel Z B H σ ρ W A G) : LPv Z F Iv σ H := by
  obtain ⟨ρ', w, hI⟩ := h
  obtain ⟨A', r'⟩ := r.wk w
  exact ⟨ρ', W, B, A', G, hI, s, r'⟩
theorem EOk.loopW {Iv : List Sl → List Res → Prop} {F F' : Hp} {R : Ends} (ok : EOk Z F P R) (s : Same F F') : EOk Z F' ⟨fun ρ W => ∃ ρ', Wk ρ ρ' ∧ Iv ρ' W, P.rt, P.rn, P.nx, fun ρ W => ∃ ρ', Wk ρ ρ' ∧ Iv ρ' W⟩ ⟨LPv Z F' Iv, R.rt, R.nx, LPv Z F' Iv⟩ :=
  ⟨fun hn sn rn => lpv_wk (ρ' := []) hn sn rn, fun hn sn rn => ok.nx hn (s.trans sn) rn, fun hn sn rn => lpv_wk (ρ' := []) hn sn rn, ok.rt, ok.rn⟩
def AFor (Z : Zc) (xs : List D) (g : TG) (tb : TS) (ρ : List Sl) (W : List Res) (P : AEnds) : Prop := ∃ Iv : Nat → List Sl → List Res → Prop, (∃ ρ', Wk ρ ρ' ∧ Iv 0 ρ' W) ∧
  (∀ i x ρ' W', xs[i]? = some x → Iv i ρ' W' → AG Z g x ρ' W' fun ρ2 W2 => AW Z tb ρ2 W2 ⟨fun ρ W => ∃ ρ', Wk ρ ρ' ∧ Iv (i + 1) ρ' W, P.rt, P.rn, P.nx, fun ρ W => ∃ ρ', Wk ρ ρ' ∧ Iv (i + 1) ρ' W⟩) ∧ ∀ ρ' W', Iv xs.length ρ' W' → P.nx ρ' W'
theorem dv_seq {K : PySem.W.Frag} {a : Addr} {xs : List D} (h : Dv K B (.ref a) (.lst xs) ∨ Dv K B (.ref a) (.fls xs)) : ∃ vs, SqL K B a vs ∧ DvL K B vs xs := by
  rcases h with h | h
  · cases h with
    | lst h1 h2 => exact ⟨_, Sq_of h1, h2⟩
  · cases h with
    | fls h1 h2 => exact ⟨_, h1, h2⟩
theorem dv_ref {K : PySem.W.Frag} {v : V} {xs : List D} (h : Dv K B v (.lst xs) ∨ Dv K B v (.fls xs)) : ∃ a, v = .ref a := by
  rcases h with h | h <;> cases h <;> exact ⟨_, rfl⟩
theorem aw_forL {tl : TE} {g : TG} {tb : TS} (h : AE Z.K tl ρ fun d => ∃ xs, (d = .lst xs ∨ d = .fls xs) ∧ AFor Z xs g tb ρ W P) : AW Z (tFor (iList Z.K tl) g tb) ρ W P := fun F R ok B H σ A G s r => by
  refine w_forL (h B H σ r.bh r.env.envS _ fun d v H1 ⟨xs, ed, Iv, h0, hs, hd⟩ s1 dv => ?_)
  have r1 := r.step s1
  have dv' : Dv Z.K (ext B H H1) v (.lst xs) ∨ Dv Z.K (ext B H H1) v (.fls xs) := ed.imp (fun (e : d = .lst xs) => e ▸ dv) fun (e : d = .fls xs) => e ▸ dv
  obtain ⟨a, rfl⟩ := dv_ref dv'
  obtain ⟨vs, h1, h2⟩ := dv_seq dv'
  have sF : Same F (ext B H H1) := s.trans (ext_l r.bh)
  refine forL (K := Z.K) (r1.bh.seq h1) (fun i => LPv Z (ext B H H1) (Iv i)) (lpv_wk (ρ' := []) h0 (Same.refl _) r1) (fun i σ' H' _ ⟨ρ', W', B', A', G', _, s', r'⟩ => (s'.trans r'.bh).seq h1) ?_ ?_
  · rintro i x σ' H' hi ⟨ρ', W', B', A', G', hI, s', r'⟩
    obtain ⟨dx, e1, e2⟩ := h2.at' hi
    refine hs i dx ρ' W' e1 hI B' H' σ' A' G' x r' (e2.mono s') _ fun ρ2 W2 B2 H2 σ2 A2 G2 h2 s2 r2 => ?_
    exact h2 (ext B H H1) ⟨LPv Z (ext B H H1) (Iv (i + 1)), R.rt, R.nx, LPv Z (ext B H H1) (Iv (i + 1))⟩ (ok.loopW sF) B2 H2 σ2 A2 G2 (s'.trans s2) r2
  · rintro σ' H' ⟨ρ', W', B', A', G', hI, s', r'⟩
    rw [h2.len] at hI
    exact ok.nx (hd _ _ hI) (sF.trans s') r'
def AForR (Z : Zc) (lo : Int) (m : Nat) (g : TG) (tb : TS) (ρ : List Sl) (W : List Res) (P : AEnds) : Prop := ∃ Iv : Nat → List Sl → List Res → Prop, (∃ ρ', Wk ρ ρ' ∧ Iv 0 ρ' W) ∧
  (∀ i ρ' W', i < m → Iv i ρ' W' → AG Z g (.int (lo + i)) ρ' W' fun ρ2 W2 => AW Z tb ρ2 W2 ⟨fun ρ W => ∃ ρ', Wk ρ ρ' ∧ Iv (i + 1) ρ' W, P.rt, P.rn, P.nx, fun ρ W => ∃ ρ', Wk ρ ρ' ∧ Iv (i + 1) ρ' W⟩) ∧ ∀ ρ' W', Iv m ρ' W' → P.nx ρ' W'
theorem forR_of {g : TG} {tb : TS} {lo : Int} {m : Nat} {R : Ends} (ok : EOk Z F P R) (s : Same F B) (r : Rel Z B H σ ρ W A G) (h : AForR Z lo m g tb ρ W P) : ForR lo m g tb R σ H := by
  obtain ⟨Iv, h0, hs, hd⟩ := h
  refine forR (fun i => LPv Z F (Iv i)) (lpv_wk (ρ' := []) h0 s r) ?_ ?_
  · rintro i σ' H' hi ⟨ρ', W', B', A', G', hI, s', r'⟩
    refine hs i ρ' W' hi hI B' H' σ' A' G' _ r' (.int _) _ fun ρ2 W2 B2 H2 σ2 A2 G2 h2 s2 r2 => ?_
    exact h2 F ⟨LPv Z F (Iv (i + 1)), R.rt, R.nx, LPv Z F (Iv (i + 1))⟩ (ok.loopW (Same.refl F)) B2 H2 σ2 A2 G2 (s'.trans s2) r2
  · rintro σ' H' ⟨ρ', W', B', A', G', hI, s', r'⟩
    exact ok.nx (hd _ _ hI) s' r'
theorem dvl_int {K : PySem.W.Frag} {vs : List V} {j : Int} (h : DvL K B vs [.int j]) : vs = [.int j] := by
  cases h with
  | cons a b =>
    cases a
    cases b
    rfl
theorem dvl_int2 {K : PySem.W.Frag} {vs : List V} {i j : Int} (h : DvL K B vs [.int i, .int j]) : vs = [.int i, .int j] := by
  cases h with
  | cons a b =>
    cases a
    rw [dvl_int b]
theorem aw_forR1 {tl : TA} {g : TG} {tb : TS} (h : AA Z.K tl (fz ρ) fun ds => ∃ j : Int, ds = [.int j] ∧ (-(2 ^ 62) ≤ j ∧ j < 2 ^ 62) ∧ AForR Z 0 j.toNat g tb ρ W P) : AW Z (tFor (iRng1 tl) g tb) ρ W P := fun F R ok B H σ A G s r =>
  w_forR1 (h _ H σ r.fz.bh r.fz.env.envS _ fun ds vs H1 ⟨j, e, hb, hf⟩ s1 dv => by
    subst e
    exact ⟨j, dvl_int dv, hb.1, hb.2, forR_of ok (s.trans (ext_l r.bh)) (r.step s1) hf⟩)
theorem aw_forR2 {tl : TA} {g : TG} {tb : TS} (h : AA Z.K tl (fz ρ) fun ds => ∃ i j : Int, ds = [.int i, .int j] ∧ (-(2 ^ 62) ≤ i ∧ i < 2 ^ 62 ∧ -(2 ^ 62) ≤ j ∧ j < 2 ^ 62) ∧ AForR Z i (j - i).toNat g tb ρ W P) : AW Z (tFor (iRng2 tl) g tb) ρ W P := fun F R ok B H σ A G s r =>
  w_forR2 (h _ H σ r.fz.bh r.fz.env.envS _ fun ds vs H1 ⟨i, j, e, hb, hf⟩ s1 dv => by
    subst e
    exact ⟨i, j, dvl_int2 dv, hb, forR_of ok (s.trans (ext_l r.bh)) (r.step s1) hf⟩)
theorem aw_while {c : TT} {tb : TS} (Pv : Nat → List Sl → List Res → Prop) (m : Nat) (h0 : ∃ ρ', Wk ρ ρ' ∧ Pv m ρ' W)
    (hs : ∀ m ρ W, Pv m ρ W → AT c Z.K (fz ρ) fun b => (b = true → AW Z tb ρ W ⟨fun ρ W => ∃ ρ', Wk ρ ρ' ∧ ∃ m', m' < m ∧ Pv m' ρ' W, P.rt, P.rn, P.nx, fun ρ W => ∃ ρ', Wk ρ ρ' ∧ ∃ m', m' < m ∧ Pv m' ρ' W⟩) ∧ (b = false → P.nx ρ W)) : AW Z (tWhile c tb) ρ W P := fun F R ok B H σ A G s r => by
  refine ⟨fun m => LPv Z F (Pv m), ⟨m, lpv_wk (ρ' := []) h0 s r⟩, ?_⟩
  rintro m σ' H' ⟨ρ', W', B', A', G', hP, s', r'⟩
  refine hs m ρ' W' hP _ H' σ' r'.fz.bh r'.fz.env.envS _ fun b H1 hb s1 => ?_
  have r1 := r'.step s1
  have sF := s'.trans (ext_l (H := H') (H' := H1) r'.bh)
  cases b with
  | false =>
    rw [if_neg Bool.false_ne_true]
    exact ok.nx (hb.2 rfl) sF r1
  | true =>
    rw [if_pos rfl]
    refine ⟨LPv Z F fun ρ' W' => ∃ m', m' < m ∧ Pv m' ρ' W', fun σ' H' ⟨ρ', W', B', A', G', ⟨m', l, hp⟩, s', r'⟩ => ⟨m', l, ρ', W', B', A', G', hp, s', r'⟩, ?_⟩
    exact hb.1 rfl F ⟨_, R.rt, R.nx, _⟩ (ok.loopW (Same.refl F)) _ H1 σ' A' G' sF r1
/-! comprehensions -/
def ALc (K : PySem.W.Frag) (xs : List D) (j : Nat) (tt : TT) (te : TE) (ρ : List Sl) (q : D → Prop) : Prop := ∃ Iv : Nat → List D → Prop, Iv 0 [] ∧
  (∀ i x acc, xs[i]? = some x → Iv i acc → AT tt K (ρ.set j (.sh x)) fun b => (b = true → AE K te (ρ.set j (.sh x)) fun y => acc.length < 100000 ∧ Iv (i + 1) (acc ++ [y])) ∧ (b = false → Iv (i + 1) acc)) ∧ ∀ ys, Iv xs.length ys → q (.lst ys)
theorem EnvS.wipe {K : PySem.W.Frag} (h : EnvS K B σ ρ) (j : Nat) : EnvS K B (L2.wipe σ [j]) (ρ.set j .un) := ⟨by rw [wipe_length, List.length_set]; exact h.1, fun k d e => by
  by_cases c : j = k
  · subst c
    have hl : j < ρ.length := by
      have := (List.getElem?_eq_some_iff.mp e).1
      rwa [List.length_set] at this
    rw [List.getElem?_set_self hl] at e
    cases e
  · rw [List.getElem?_set_ne c] at e
    show ∃ v, (σ.set j none)[k]? = _ ∧ _
    rw [List.getElem?_set_ne c]
    exact h.2 k d e⟩
theorem wipe_one (σ : L2.St) (j : Nat) (v : V) : L2.wipe ((L2.wipe σ [j]).set j (some v)) [j] = L2.wipe σ [j] := by
  show ((σ.set j none).set j (some v)).set j none = σ.set j none
  rw [List.set_set, List.set_set]
theorem lc_step {K : PySem.W.Frag} {H1 H' H4 : Hp} {D0 : Addr} (bh : Same B H1) (nD : H1 D0 = none) (s1 : Same H1 H') (s2 : Same H' H4) (hD : H' D0 ≠ none) : Same (ext (rem (ext B H1 H') D0) H' H4) (rem (ext B H1 H4) D0) := fun b o e => by
  cases h : H' b with
  | none =>
    rw [ext_new h] at e
    have nb : b ≠ D0 := fun z => hD (z ▸ h)
    unfold rem
    rw [if_neg nb, ext_new (s1.free h)]
    exact e
  | some u =>
    rw [ext_old (ne_none h)] at e
    unfold rem at e ⊢
    by_cases c : b = D0
    · rw [if_pos c] at e
      cases e
    · rw [if_neg c] at e ⊢
      cases h1 : H1 b with
      | none =>
        rw [ext_new h1] at e ⊢
        exact s2 b o e
      | some w =>
        rw [ext_old (ne_none h1)] at e ⊢
        exact e
theorem lc_of {K : PySem.W.Frag} {xs : List D} {vs : List V} {a : Addr} {tt : TT} {te : TE} {q : D → Prop} {Q : VK} (bh : Same B H) (E : EnvS K B σ ρ) (hS : SqL K B a vs) (hv : DvL K B vs xs) (h : ALc K xs j tt te ρ q)
    (k : ∀ d p H', q d → H p = none → Same H H' → NewC K (ext B H H') H' p d → Q (.ref p) H') : LcL K (.ref a) (gName j) tt te [j] σ H Q := by
  obtain ⟨Iv, h0, hs, hd⟩ := h
  refine lcL (K := K) (bh.seq hS) (fun D0 i H' => H D0 = none ∧ Same H H' ∧ ∃ acc ws, Iv i acc ∧ H' D0 = some (.lst ws) ∧ DvL K (rem (ext B H H') D0) ws acc) (fun D0 nD => ⟨nD, same_upd nD, [], [], h0, upd_same, .nil⟩) (fun D0 i H' _ p => p.2.1.seq (bh.seq hS)) ?_ ?_
  · rintro D0 i x H' hi ⟨nD, s1, acc, ws, hI, hw, hdv⟩
    obtain ⟨dx, e1, e2⟩ := hv.at' hi
    have sB : Same B (rem (ext B H H') D0) := same_remx bh nD
    have sE : Same (rem (ext B H H') D0) H' := rem_same.trans (ext_r bh s1)
    have E1 : EnvS K (rem (ext B H H') D0) ((L2.wipe σ [j]).set j (some x)) (ρ.set j (.sh dx)) := by
      have := ((E.mono sB).wipe j).set (i := j) (e2.mono sB)
      rwa [List.set_set] at this
    refine ⟨wipe_one σ j x, hs i dx acc e1 hI _ H' _ sE E1 _ fun b H3 hb s3 => ?_⟩
    have hDn : H' D0 ≠ none := ne_none hw
    cases b with
    | false =>
      rw [if_neg Bool.false_ne_true]
      exact ⟨nD, s1.trans s3, acc, ws, hb.2 rfl, s3 _ _ hw, hdv.mono ((ext_l sE).trans (lc_step (K := K) bh nD s1 s3 hDn))⟩
    | true =>
      rw [if_pos rfl]
      refine hb.1 rfl (ext (rem (ext B H H') D0) H' H3) H3 _ (ext_r sE s3) (E1.mono (ext_l sE)) _ fun y v H4 ⟨hl, hy⟩ s4 dy => ?_
      rw [ext_ext s3 s4] at dy
      have s34 := s3.trans s4
      have st := lc_step (K := K) bh nD s1 s34 hDn
      have er : ∀ o, rem (ext B H (upd H4 D0 o)) D0 = rem (ext B H H4) D0 := fun o => by
        funext b
        unfold rem
        by_cases c : b = D0
        · rw [if_pos c, if_pos c]
        · rw [if_neg c, if_neg c]
          unfold ext
          cases H b with
          | none => exact upd_ne c
          | some _ => rfl
      have dw : DvL K (rem (ext B H H4) D0) ws acc := hdv.mono ((ext_l sE).trans st)
      refine ⟨ws, s34 _ _ hw, smallL (by rw [hdv.len]; exact hl), nD, same_mut (s1.trans s34) nD, acc ++ [y], _, hy, upd_same, ?_⟩
      rw [er]
      exact dw.append (.cons (dy.mono st) .nil)
  · rintro D0 H' nD ⟨_, s1, acc, ws, hI, hw, hdv⟩
    rw [hv.len] at hI
    exact k _ D0 H' (hd _ hI) nD s1 ⟨ws, hw, hdv⟩
theorem an_lcL {K : PySem.W.Frag} {tl te : TE} {tt : TT} {q : D → Prop} {vs : List Nat} (hv : vs = [j]) (h : AE K tl ρ fun d => ∃ xs, (d = .lst xs ∨ d = .fls xs) ∧ ALc K xs j tt te ρ q) : AN K (tLc (iList K tl) (gName j) tt te vs) ρ q := by
  subst hv
  exact fun B H σ s E Q k =>
  w_lcL (h B H σ s E _ fun d v H1 ⟨xs, ed, hc⟩ s1 dv => by
    have dv' : Dv K (ext B H H1) v (.lst xs) ∨ Dv K (ext B H H1) v (.fls xs) := ed.imp (fun (e : d = .lst xs) => e ▸ dv) fun (e : d = .fls xs) => e ▸ dv
    obtain ⟨a, rfl⟩ := dv_ref dv'
    obtain ⟨vs, h1, h2⟩ := dv_seq dv'
    exact lc_of (ext_r s s1) (E.mono (ext_l s)) h1 h2 hc fun d p H' hq np s2 c => k d p H' hq (s1.free np) (s1.trans s2) (by rw [ext_ext s1 s2] at c; exact c))
theorem lc_ofR {K : PySem.W.Frag} {lo : Int} {m : Nat} {tt : TT} {te : TE} {q : D → Prop} {Q : VK} (bh : Same B H) (E : EnvS K B σ ρ) (h : ALc K ((List.range m).map fun (i : Nat) => D.int (lo + (i : Int))) j tt te ρ q)
    (k : ∀ d p H', q d → H p = none → Same H H' → NewC K (ext B H H') H' p d → Q (.ref p) H') : LcR lo m (gName j) tt te [j] σ H Q := by
  obtain ⟨Iv, h0, hs, hd⟩ := h
  refine lcR (fun D0 i H' => H D0 = none ∧ Same H H' ∧ ∃ acc ws, Iv i acc ∧ H' D0 = some (.lst ws) ∧ DvL K (rem (ext B H H') D0) ws acc) (fun D0 nD => ⟨nD, same_upd nD, [], [], h0, upd_same, .nil⟩) ?_ ?_
  · rintro D0 i H' hi ⟨nD, s1, acc, ws, hI, hw, hdv⟩
    have e1 : ((List.range m).map fun (i : Nat) => D.int (lo + (i : Int)))[i]? = some (.int (lo + (i : Int))) := by rw [List.getElem?_map, List.getElem?_range hi]; rfl
    have e2 : Dv K B (.int (lo + (i : Int))) (.int (lo + (i : Int))) := .int _
    have sB : Same B (rem (ext B H H') D0) := same_remx bh nD
    have sE : Same (rem (ext B H H') D0) H' := rem_same.trans (ext_r bh s1)
    have E1 : EnvS K (rem (ext B H H') D0) ((L2.wipe σ [j]).set j (some (.int (lo + (i : Int))))) (ρ.set j (.sh (.int (lo + (i : Int))))) := by
      have := ((E.mono sB).wipe j).set (i := j) (e2.mono sB)
      rwa [List.set_set] at this
    refine ⟨wipe_one σ j _, hs i _ acc e1 hI _ H' _ sE E1 _ fun b H3 hb s3 => ?_⟩
    have hDn : H' D0 ≠ none := ne_none hw
    cases b with
    | false =>
      rw [if_neg Bool.false_ne_true]
      exact ⟨nD, s1.trans s3, acc, ws, hb.2 rfl, s3 _ _ hw, hdv.mono ((ext_l sE).trans (lc_step (K := K) bh nD s1 s3 hDn))⟩
    | true =>
      rw [if_pos rfl]
      refine hb.1 rfl (ext (rem (ext B H H') D0) H' H3) H3 _ (ext_r sE s3) (E1.mono (ext_l sE)) _ fun y v H4 ⟨hl, hy⟩ s4 dy => ?_
      rw [ext_ext s3 s4] at dy
      have s34 := s3.trans s4
      have st := lc_step (K := K) bh nD s1 s34 hDn
      have er : ∀ o, rem (ext B H (upd H4 D0 o)) D0 = rem (ext B H H4) D0 := fun o => by
        funext b
        unfold rem
        by_cases c : b = D0
        · rw [if_pos c, if_pos c]
        · rw [if_neg c, if_neg c]
          unfold ext
          cases H b with
          | none => exact upd_ne c
          | some _ => rfl
      have dw : DvL K (rem (ext B H H4) D0) ws acc := hdv.mono ((ext_l sE).trans st)
      refine ⟨ws, s34 _ _ hw, smallL (by rw [hdv.len]; exact hl), nD, same_mut (s1.trans s34) nD, acc ++ [y], _, hy, upd_same, ?_⟩
      rw [er]
      exact dw.append (.cons (dy.mono st) .nil)
  · rintro D0 H' nD ⟨_, s1, acc, ws, hI, hw, hdv⟩
    exact k _ D0 H' (hd _ (by rw [List.length_map, List.length_range]; exact hI)) nD s1 ⟨ws, hw, hdv⟩
theorem an_lcR1 {K : PySem.W.Frag} {tl : TA} {te : TE} {tt : TT} {q : D → Prop} {vs : List Nat} (hv : vs = [j]) (h : AA K tl ρ fun ds => ∃ n : Int, ds = [.int n] ∧ (-(2 ^ 62) ≤ n ∧ n < 2 ^ 62) ∧ ALc K ((List.range n.toNat).map fun (i : Nat) => D.int (i : Int)) j tt te ρ q) : AN K (tLc (iRng1 tl) (gName j) tt te vs) ρ q := by
  subst hv
  exact fun B H σ s E Q k =>
  w_lcR1 (h B H σ s E _ fun ds vs H1 ⟨n, ed, hb, hc⟩ s1 dv => by
    subst ed
    exact ⟨n, dvl_int dv, hb.1, hb.2, lc_ofR (ext_r s s1) (E.mono (ext_l s)) (by simp only [Int.zero_add]; exact hc) fun d p H' hq np s2 c => k d p H' hq (s1.free np) (s1.trans s2) (by rw [ext_ext s1 s2] at c; exact c)⟩)
end
/-! ### == -/
mutual
def PP : D → PyData
  | .non => .none
  | .bl b => .bool b
  | .int i => .int i
  | .str z => .str z
  | .lst xs => .list (PPs xs)
  | .fls xs => .list (PPs xs)
  | .tup xs => .tuple (PPs xs)
  | .dk _ => .dict []
  | .dt _ => .dict []
  | .op _ | .ex _ _ _ | .vd _ _ => .dict []
def PPs : List D → List PyData
  | [] => []
  | x :: xs => PP x :: PPs xs
end
mutual
def pln : D → Bool
  | .non | .bl _ | .int _ | .str _ => true
  | .lst xs | .fls xs | .tup xs => plns xs
  | .dk _ | .dt _ | .op _ | .ex _ _ _ | .vd _ _ => false
def plns : List D → Bool
  | [] => true
  | x :: xs => pln x && plns xs
end
mutual
/-- nothing in it that is == to something else -/
def cln : D → Bool
  | .non | .int _ | .str _ => true
  | .lst xs | .tup xs => clns xs
  | .bl _ | .fls _ | .dk _ | .dt _ | .op _ | .ex _ _ _ | .vd _ _ => false
def clns : List D → Bool
  | [] => true
  | x :: xs => cln x && clns xs
end
section
variable {K : PySem.W.Frag} {B : Hp}
mutual
theorem Dv.dp : ∀ (d : D) (v : V), pln d = true → Dv K B v d → Dp K B v (PP d) ∧ PyData.canLay0 (PP d) = true
  | .non, v, _, h => by
    cases h
    exact ⟨.non, rfl⟩
  | .bl b, v, _, h => by
    cases h
    exact ⟨.bl _, rfl⟩
  | .int i, v, _, h => by
    cases h
    exact ⟨.int _, rfl⟩
  | .str z, v, _, h => by
    cases h with
    | str _ ok => exact ⟨.str _, by rw [PP, PyData.canLay0]; exact ok.2⟩
  | .lst xs, v, p, h => by
    cases h with
    | lst h1 h2 =>
      have q := DvL.dp xs _ (by simpa [pln] using p) h2
      exact ⟨.lst (Sq_of h1) q.1, by rw [PP, PyData.canLay0]; exact q.2⟩
  | .fls xs, v, p, h => by
    cases h with
    | fls h1 h2 =>
      have q := DvL.dp xs _ (by simpa [pln] using p) h2
      exact ⟨.lst h1 q.1, by rw [PP, PyData.canLay0]; exact q.2⟩
  | .tup xs, v, p, h => by
    cases h with
    | tup h1 h2 =>
      have q := DvL.dp xs _ (by simpa [pln] using p) h2
      exact ⟨.tup (St_of h1) q.1, by rw [PP, PyData.canLay0]; exact q.2⟩
  | .dk _, v, p, h => by simp [pln] at p
  | .dt _, v, p, h => by simp [pln] at p
  | .op _, v, p, h => by simp [pln] at p
  | .ex _ _ _, v, p, h => by simp [pln] at p
  | .vd _ _, v, p, h => by simp [pln] at p
theorem DvL.dp : ∀ (ds : List D) (vs : List V), plns ds = true → DvL K B vs ds → DpAll K B vs (PPs ds) ∧ PyData.canLayAll0 (PPs ds) = true
  | [], vs, _, h => by
    cases h
    exact ⟨.nil, rfl⟩
  | d :: ds, vs, p, h => by
    rw [plns, Bool.and_eq_true] at p
    cases h with
    | cons h1 h2 =>
      have q1 := Dv.dp d _ p.1 h1
      have q2 := DvL.dp ds _ p.2 h2
      exact ⟨.cons q1.1 q2.1, by rw [PPs, PyData.canLayAll0, q1.2, q2.2]; rfl⟩
end
end
def deq (a b : D) : Bool := PyData.eqv (PP a) (PP b)
mutual
theorem deq_clean : ∀ (a b : D), cln a = true → cln b = true → (PyData.eqv (PP a) (PP b) = true ↔ a = b)
  | .non, b, _, h => by cases b <;> simp [cln] at h <;> simp [PP, PyData.eqv]
  | .int i, b, _, h => by cases b <;> simp [cln] at h <;> simp [PP, PyData.eqv]
  | .str i, b, _, h => by cases b <;> simp [cln] at h <;> simp [PP, PyData.eqv]
  | .lst xs, b, ha, h => by
    cases b with
    | lst ys =>
      rw [PP, PP, PyData.eqv, deqs_clean xs ys (by simpa [cln] using ha) (by simpa [cln] using h)]
      simp
    | _ => simp [cln] at h <;> simp [PP, PyData.eqv]
  | .tup xs, b, ha, h => by
    cases b with
    | tup ys =>
      rw [PP, PP, PyData.eqv, deqs_clean xs ys (by simpa [cln] using ha) (by simpa [cln] using h)]
      simp
    | _ => simp [cln] at h <;> simp [PP, PyData.eqv]
  | .bl _, b, ha, _ => by simp [cln] at ha
  | .fls _, b, ha, _ => by simp [cln] at ha
  | .dk _, b, ha, _ => by simp [cln] at ha
  | .dt _, b, ha, _ => by simp [cln] at ha
  | .op _, b, ha, _ => by simp [cln] at ha
  | .ex _ _ _, b, ha, _ => by simp [cln] at ha
  | .vd _ _, b, ha, _ => by simp [cln] at ha
theorem deqs_clean : ∀ (a b : List D), clns a = true → clns b = true → (PyData.eqvAll (PPs a) (PPs b) = true ↔ a = b)
  | [], [], _, _ => by simp [PPs, PyData.eqvAll]
  | [], _ :: _, _, _ => by simp [PPs, PyData.eqvAll]
  | _ :: _, [], _, _ => by simp [PPs, PyData.eqvAll]
  | x :: xs, y :: ys, ha, hb => by
    rw [clns, Bool.and_eq_true] at ha hb
    rw [PPs, PPs, PyData.eqvAll, Bool.and_eq_true, deq_clean x y ha.1 hb.1, deqs_clean xs ys ha.2 hb.2]
    simp
end
mutual
theorem pln_of_cln : ∀ a : D, cln a = true → pln a = true
  | .non, _ => rfl
  | .int _, _ => rfl
  | .str _, _ => rfl
  | .lst xs, h => by
    rw [pln]
    exact plns_of_clns xs (by simpa [cln] using h)
  | .tup xs, h => by
    rw [pln]
    exact plns_of_clns xs (by simpa [cln] using h)
  | .bl _, ha => by simp [cln] at ha
  | .fls _, ha => by simp [cln] at ha
  | .dk _, ha => by simp [cln] at ha
  | .dt _, ha => by simp [cln] at ha
  | .op _, ha => by simp [cln] at ha
  | .ex _ _ _, ha => by simp [cln] at ha
  | .vd _ _, ha => by simp [cln] at ha
theorem plns_of_clns : ∀ a : List D, clns a = true → plns a = true
  | [], _ => rfl
  | x :: xs, h => by
    rw [clns, Bool.and_eq_true] at h
    rw [plns, pln_of_cln x h.1, plns_of_clns xs h.2]
    rfl
end
theorem deq_enc {α : Type} [DecidableEq α] (f : α → D) (inj : ∀ a b, f a = f b → a = b) {x y : α} (hx : cln (f x) = true) (hy : cln (f y) = true) : deq (f x) (f y) = decide (x = y) := by
  have h := deq_clean (f x) (f y) hx hy
  unfold deq
  by_cases e : x = y
  · subst e
    rw [decide_eq_true rfl]
    exact h.mpr rfl
  · rw [decide_eq_false e]
    cases c : PyData.eqv (PP (f x)) (PP (f y)) with
    | false => rfl
    | true => exact absurd (inj _ _ (h.mp c)) e
def dep (d : D) : Nat := PyData.depth (PP d)
/-! data by type -/
def eO : Option Str → D
  | none => .non
  | some n => .str n
theorem eO_some (n : Str) : eO (some n) = .str n := rfl
theorem eO_none : eO none = .non := rfl
abbrev eNs (ns : List Str) : D := .lst (ns.map .str)
abbrev eIs (ns : List Int) : D := .lst (ns.map .int)
abbrev eRs (rs : List (List Str)) : D := .lst (rs.map fun r => .lst (r.map .str))
theorem flatD_eNs (a : List Str) : flatD (eNs a) = true := by
  show (a.map D.str).all scalD = true
  rw [List.all_map, List.all_eq_true]
  exact fun _ _ => rfl
theorem flatD_eIs (a : List Int) : flatD (eIs a) = true := by
  show (a.map D.int).all scalD = true
  rw [List.all_map, List.all_eq_true]
  exact fun _ _ => rfl
theorem eNs_snoc (a : List Str) (x : Str) : D.lst (a.map .str ++ [.str x]) = eNs (a ++ [x]) := by
  show _ = D.lst _
  rw [List.map_append]
  rfl
theorem clns_map {α : Type} {f : α → D} : ∀ xs : List α, (∀ x ∈ xs, cln (f x) = true) → clns (xs.map f) = true
  | [], _ => rfl
  | x :: xs, h => by rw [List.map_cons, clns, h x List.mem_cons_self, clns_map xs fun y m => h y (List.mem_cons_of_mem _ m)]; rfl
theorem map_inj {α : Type} {f : α → D} (inj : ∀ a b, f a = f b → a = b) : ∀ {xs ys : List α}, xs.map f = ys.map f → xs = ys
  | [], [], _ => rfl
  | [], _ :: _, h => by cases h
  | _ :: _, [], h => by cases h
  | x :: xs, y :: ys, h => by
    rw [List.map_cons, List.map_cons, List.cons.injEq] at h
    rw [inj _ _ h.1, map_inj inj h.2]
theorem cln_eNs (a : List Str) : cln (eNs a) = true := by
  show cln (.lst _) = true
  rw [cln]
  exact clns_map a fun _ _ => rfl
theorem cln_eIs (a : List Int) : cln (eIs a) = true := by
  show cln (.lst _) = true
  rw [cln]
  exact clns_map a fun _ _ => rfl
theorem cln_eRs (a : List (List Str)) : cln (eRs a) = true := by
  show cln (.lst _) = true
  rw [cln]
  exact clns_map a fun _ _ => cln_eNs _
theorem inj_str (a b : Str) (h : D.str a = D.str b) : a = b := by cases h; rfl
theorem inj_int (a b : Int) (h : D.int a = D.int b) : a = b := by cases h; rfl
theorem inj_eNs (a b : List Str) (h : eNs a = eNs b) : a = b := by
  injection h with h
  exact map_inj inj_str h
theorem inj_eIs (a b : List Int) (h : eIs a = eIs b) : a = b := by
  injection h with h
  exact map_inj inj_int h
theorem inj_eRs (a b : List (List Str)) (h : eRs a = eRs b) : a = b := by
  injection h with h
  exact map_inj inj_eNs h
theorem deq_eNs (a b : List Str) : deq (eNs a) (eNs b) = decide (a = b) := deq_enc eNs inj_eNs (cln_eNs a) (cln_eNs b)
theorem deq_eIs (a b : List Int) : deq (eIs a) (eIs b) = decide (a = b) := deq_enc eIs inj_eIs (cln_eIs a) (cln_eIs b)
theorem deq_eRs (a b : List (List Str)) : deq (eRs a) (eRs b) = decide (a = b) := deq_enc eRs inj_eRs (cln_eRs a) (cln_eRs b)
theorem deq_nil (a : List Str) : deq (.lst (a.map .str)) (.lst []) = decide (a = []) := deq_eNs a []
theorem deq_eN1 (a : List Str) (n : Str) : deq (.lst (a.map .str)) (.lst [.str n]) = decide (a = [n]) := deq_eNs a [n]
theorem eRs_map {α : Type} (f : α → List Str) (L : List α) : D.lst (L.map fun r => .lst ((f r).map .str)) = eRs (L.map f) := by
  show _ = D.lst _
  rw [List.map_map]
  rfl
theorem deq_nilR (a : List (List Str)) : deq (eRs a) (.lst []) = decide (a = []) := deq_eRs a []
theorem depAll_map {α : Type} {f : α → D} {n : Nat} : ∀ xs : List α, (∀ x ∈ xs, dep (f x) ≤ n) → PyData.depthAll (PPs (xs.map f)) ≤ n
  | [], _ => Nat.zero_le _
  | x :: xs, h => by
    rw [List.map_cons, PPs, PyData.depthAll]
    exact Nat.max_le.mpr ⟨h x List.mem_cons_self, depAll_map xs fun y m => h y (List.mem_cons_of_mem _ m)⟩
theorem dep_lst {α : Type} {f : α → D} {n : Nat} (xs : List α) (h : ∀ x ∈ xs, dep (f x) ≤ n) : dep (.lst (xs.map f)) ≤ n + 1 := by
  unfold dep
  rw [PP, PyData.depth]
  exact Nat.succ_le_succ (depAll_map xs h)
theorem dep_eNs (a : List Str) : dep (eNs a) ≤ 1 := dep_lst (n := 0) a fun _ _ => Nat.le_refl 0
theorem dep_eIs (a : List Int) : dep (eIs a) ≤ 1 := dep_lst (n := 0) a fun _ _ => Nat.le_refl 0
theorem dep_eRs (a : List (List Str)) : dep (eRs a) ≤ 2 := dep_lst (n := 1) a fun _ _ => dep_eNs _
/-! ### operators -/
section
variable {K : PySem.W.Frag} {a b d : D} {q : D → Prop} {i j : Int} {x y : D} {ds es : List D} {z w : Str}
theorem a2_I0 {g : Int → Int → V} {e : D} (hv : ∀ B, Dv K B (g i j) e) (hq : q e) : A2 K (rI0 g) (.int i) (.int j) q := fun B H u v s h1 h2 Q k => by
  cases h1
  cases h2
  exact ⟨i, j, rfl, rfl, k e _ H hq (Same.refl _) (hv _)⟩
theorem a2_I {C : Int → Int → Prop} {g : Int → Int → V} {e : D} (hv : ∀ B, Dv K B (g i j) e) (hc : C i j) (hq : q e) : A2 K (rI C g) (.int i) (.int j) q := fun B H u v s h1 h2 Q k => by
  cases h1
  cases h2
  exact ⟨i, j, rfl, rfl, hc, k e _ H hq (Same.refl _) (hv _)⟩
theorem a1_U {g : Int → V} {e : D} (hv : ∀ B, Dv K B (g i) e) (hq : q e) : A1 K (rU g) (.int i) q := fun B H u s h1 Q k => by
  cases h1
  exact ⟨i, rfl, k e _ H hq (Same.refl _) (hv _)⟩
theorem a2_eqI (hq : q (.bl (decide (i = j)))) : A2 K rEq (.int i) (.int j) q := fun B H u v s h1 h2 Q k => by
  cases h1
  cases h2
  refine ⟨rfl, k _ _ H hq (Same.refl _) ?_⟩
  rw [show decide (V.int i = V.int j) = decide (i = j) by simp]
  exact .bl _
theorem a2_neI (hq : q (.bl (!decide (i = j)))) : A2 K rNe (.int i) (.int j) q := fun B H u v s h1 h2 Q k => by
  cases h1
  cases h2
  refine ⟨rfl, k _ _ H hq (Same.refl _) ?_⟩
  rw [show decide (V.int i = V.int j) = decide (i = j) by simp]
  exact .bl _
theorem a2_eqS (hq : q (.bl (decide (z = w)))) : A2 K rEq (.str z) (.str w) q := fun B H u v s h1 h2 Q k => by
  cases h1
  cases h2
  refine ⟨rfl, k _ _ H hq (Same.refl _) ?_⟩
  rw [show decide (V.str z = V.str w) = decide (z = w) by simp]
  exact .bl _
theorem a2_neS (hq : q (.bl (!decide (z = w)))) : A2 K rNe (.str z) (.str w) q := fun B H u v s h1 h2 Q k => by
  cases h1
  cases h2
  refine ⟨rfl, k _ _ H hq (Same.refl _) ?_⟩
  rw [show decide (V.str z = V.str w) = decide (z = w) by simp]
  exact .bl _
theorem a2_eqB {m n : Bool} (hq : q (.bl (m == n))) : A2 K rEq (.bl m) (.bl n) q := fun B H u v s h1 h2 Q k => by
  cases h1
  cases h2
  refine ⟨rfl, k _ _ H hq (Same.refl _) ?_⟩
  rw [show decide (V.bl m = V.bl n) = (m == n) by cases m <;> cases n <;> rfl]
  exact .bl _
theorem a2_neB {m n : Bool} (hq : q (.bl (!(m == n)))) : A2 K rNe (.bl m) (.bl n) q := fun B H u v s h1 h2 Q k => by
  cases h1
  cases h2
  refine ⟨rfl, k _ _ H hq (Same.refl _) ?_⟩
  rw [show decide (V.bl m = V.bl n) = (m == n) by cases m <;> cases n <;> rfl]
  exact .bl _
theorem a2_notB {m n : Bool} (hq : q (.bl (!(m == n)))) : A2 K rNotB (.bl m) (.bl n) q := fun B H u v s h1 h2 Q k => by
  cases h1
  cases h2
  refine ⟨m, n, rfl, rfl, k _ _ H hq (Same.refl _) ?_⟩
  first | exact .bl _ | (cases m <;> cases n <;> exact .bl _)
theorem a2_isB {m n : Bool} (hq : q (.bl (m == n))) : A2 K rIsB (.bl m) (.bl n) q := fun B H u v s h1 h2 Q k => by
  cases h1
  cases h2
  refine ⟨m, n, rfl, rfl, k _ _ H hq (Same.refl _) ?_⟩
  first | exact .bl _ | (cases m <;> cases n <;> exact .bl _)
theorem a2_neNS (hq : q (.bl true)) : A2 K rNe .non (.str w) q := fun B H u v s h1 h2 Q k => by
  cases h1
  cases h2
  exact ⟨rfl, k _ _ H hq (Same.refl _) (by rw [show (!decide (V.non = V.str w)) = true by simp]; exact .bl _)⟩
theorem a2_eqNS (hq : q (.bl false)) : A2 K rEq .non (.str w) q := fun B H u v s h1 h2 Q k => by
  cases h1
  cases h2
  exact ⟨rfl, k _ _ H hq (Same.refl _) (by rw [show decide (V.non = V.str w) = false by simp]; exact .bl _)⟩
theorem a2_eqNI (hq : q (.bl false)) : A2 K rEq .non (.int i) q := fun B H u v s h1 h2 Q k => by
  cases h1
  cases h2
  exact ⟨rfl, k _ _ H hq (Same.refl _) (by rw [show decide (V.non = V.int i) = false by simp]; exact .bl _)⟩
theorem a2_neNI (hq : q (.bl true)) : A2 K rNe .non (.int i) q := fun B H u v s h1 h2 Q k => by
  cases h1
  cases h2
  exact ⟨rfl, k _ _ H hq (Same.refl _) (by rw [show (!decide (V.non = V.int i)) = true by simp]; exact .bl _)⟩
theorem sh_of {K : PySem.W.Frag} {B : Hp} {v : V} (h : Dv K B v d) (p : pln d = true) (z : dep d ≤ 64) : Dp K B v (PP d) ∧ SeqAt.shaped (PP d) = true := by
  have q := Dv.dp d v p h
  refine ⟨q.1, ?_⟩
  unfold SeqAt.shaped
  have z' : (PP d).depth ≤ 64 := z
  rw [q.2, decide_eq_true z']
  rfl
theorem dp_up {B H : Hp} {v : V} {d : PyData} (e : Same B H) : Dp K B v d → Dp K H v d := by
  intro h
  refine Dp.rec (motive_1 := fun v d _ => Dp K H v d) (motive_2 := fun vs ds _ => DpAll K H vs ds) .non .bl .int .str (fun s _ ih => .lst (e.seq s) ih) (fun s _ ih => .tup (same_t e s) ih) .nil (fun _ _ h t => .cons h t) h
theorem a2_eqD (pa : pln a = true) (pb : pln b = true) (za : dep a ≤ 64) (zb : dep b ≤ 64) (hq : q (.bl (deq a b))) : A2 K (rEqD K) a b q := fun B H u v s h1 h2 Q k => by
  have e1 := sh_of h1 pa za
  have e2 := sh_of h2 pb zb
  exact ⟨_, _, dp_up s e1.1, dp_up s e2.1, e1.2, e2.2, k _ _ H hq (Same.refl _) (.bl _)⟩
theorem a2_neD (pa : pln a = true) (pb : pln b = true) (za : dep a ≤ 64) (zb : dep b ≤ 64) (hq : q (.bl (!deq a b))) : A2 K (rNeD K) a b q := fun B H u v s h1 h2 Q k => by
  have e1 := sh_of h1 pa za
  have e2 := sh_of h2 pb zb
  exact ⟨_, _, dp_up s e1.1, dp_up s e2.1, e1.2, e2.2, k _ _ H hq (Same.refl _) (.bl _)⟩
theorem a2_ixL (h : atI ds i = some d) (hq : q d) : A2 K (rIxL K) (.lst ds) (.int i) q := fun B H u v s h1 h2 Q k => by
  cases h2
  cases h1 with
  | lst hs hv =>
    obtain ⟨j, e1, e2, e3, e4, e5⟩ := atI_get h
    obtain ⟨v, e6, dv⟩ := hv.at e2
    refine ⟨_, _, i, v, rfl, rfl, s.seq (Sq_of hs), ?_, k d v H hq (Same.refl _) (by rw [ext_self s]; exact dv)⟩
    unfold atI at h ⊢
    rw [hv.len]
    cases e : ixN ds.length i with
    | none => rw [e] at h; cases h
    | some j' =>
      have q1 := ixN_seq e
      rw [e1] at q1
      cases q1.1
      exact e6
theorem a2_ixP (h0 : 0 ≤ i) (h : ds[i.toNat]? = some d) (hq : q d) : A2 K (rIxL K) (.lst ds) (.int i) q := a2_ixL (atI_of h0 h) hq
theorem a2_ixM {α : Type} {f : α → D} {xs : List α} {x : α} (h0 : 0 ≤ i) (h : xs[i.toNat]? = some x) (hq : q (f x)) : A2 K (rIxL K) (.lst (xs.map f)) (.int i) q := a2_ixL (atI_of h0 (by rw [List.getElem?_map, h]; rfl)) hq
theorem a2_ixN {α : Type} {f : α → D} {xs : List α} {x : α} {n : Nat} (h : xs[n]? = some x) (hq : q (f x)) : A2 K (rIxL K) (.lst (xs.map f)) (.int (n : Int)) q := a2_ixM (Int.natCast_nonneg n) (by rw [Int.toNat_natCast]; exact h) hq
theorem a2_ixF (h : atI ds i = some d) (hq : q d) : A2 K (rIxL K) (.fls ds) (.int i) q := fun B H u v s h1 h2 Q k => by
  cases h2
  cases h1 with
  | fls hs hv =>
    obtain ⟨j, e1, e2, e3, e4, e5⟩ := atI_get h
    obtain ⟨v, e6, dv⟩ := hv.at e2
    refine ⟨_, _, i, v, rfl, rfl, s.seq hs, ?_, k d v H hq (Same.refl _) (by rw [ext_self s]; exact dv)⟩
    unfold atI at h ⊢
    rw [hv.len]
    cases e : ixN ds.length i with
    | none => rw [e] at h; cases h
    | some j' =>
      have q1 := ixN_seq e
      rw [e1] at q1
      cases q1.1
      exact e6
theorem a2_ixT (h : atI ds i = some d) (hq : q d) : A2 K (rIxT K) (.tup ds) (.int i) q := fun B H u v s h1 h2 Q k => by
  cases h2
  cases h1 with
  | tup hs hv =>
    obtain ⟨j, e1, e2, e3, e4, e5⟩ := atI_get h
    obtain ⟨v, e6, dv⟩ := hv.at e2
    refine ⟨_, _, i, v, rfl, rfl, St_of (s _ _ hs), ?_, k d v H hq (Same.refl _) (by rw [ext_self s]; exact dv)⟩
    unfold atI at h ⊢
    rw [hv.len]
    cases e : ixN ds.length i with
    | none => rw [e] at h; cases h
    | some j' =>
      have q1 := ixN_seq e
      rw [e1] at q1
      cases q1.1
      exact e6
theorem a2_ixFM {α : Type} {f : α → D} {xs : List α} {x : α} (h0 : 0 ≤ i) (h : xs[i.toNat]? = some x) (hq : q (f x)) : A2 K (rIxL K) (.fls (xs.map f)) (.int i) q := a2_ixF (atI_of h0 (by rw [List.getElem?_map, h]; rfl)) hq
theorem a2_ixTP (h0 : 0 ≤ i) (h : ds[i.toNat]? = some d) (hq : q d) : A2 K (rIxT K) (.tup ds) (.int i) q := a2_ixT (atI_of h0 h) hq
theorem okS_len {z : Str} (h : okS z) : z.length ≤ sizeLine := small (Nat.le_trans h.1 (by decide))
theorem strOk_iff {z : Str} : PyData.strOk z = true ↔ ∀ c ∈ z.cps.toList, c < 0x110000 := by
  unfold PyData.strOk
  rw [← Array.all_toList, List.all_eq_true]
  exact ⟨fun h c m => by simpa using h c m, fun h c m => by simpa using h c m⟩
theorem okS_of {z : Str} (h1 : z.length ≤ 10000) (h2 : ∀ c ∈ z.cps.toList, c < 0x110000) : okS z := ⟨h1, strOk_iff.mpr h2⟩
theorem okS_app {z w : Str} (h : okS z) (g : okS w) (l : z.length + w.length ≤ 10000) : okS (z ++ w) := okS_of (by rw [slen_app]; exact l) fun c m => by
  rw [sapp_list] at m
  exact (List.mem_append.mp m).elim (strOk_iff.mp h.2 c) (strOk_iff.mp g.2 c)
theorem okS_cut {z : Str} {lo hi : Option Int} (h : okS z) : okS (cutS z lo hi) := okS_of (Nat.le_trans (cutS_length z lo hi) h.1) fun c m => strOk_iff.mp h.2 c (by
  have e : (cutS z lo hi).cps.toList = (z.cps.toList.drop (HT.sIx z.length 0 lo)).take (HT.sIx z.length z.length hi - HT.sIx z.length 0 lo) := rfl
  rw [e] at m
  exact List.mem_of_mem_drop (List.mem_of_mem_take m))
theorem a2_ixS {c : Nat} (h : atI z.cps.toList i = some c) (hq : q (.str ⟨#[c]⟩)) : A2 K rIxS (.str z) (.int i) q := fun B H u v s h1 h2 Q k => by
  cases h2
  cases h1 with
  | str _ ok =>
    obtain ⟨j, _, e2, _⟩ := atI_get h
    exact ⟨z, i, c, rfl, rfl, okS_len ok, h, k _ _ H hq (Same.refl _) (.str _ (okS_of (by show 1 ≤ 10000; decide) fun c' m => by
      have e : c' = c := by simpa using m
      subst e
      exact strOk_iff.mp ok.2 _ (List.mem_of_getElem? e2)))⟩
theorem a2_addS (h : okS z → okS w → z.length + w.length ≤ 10000) (hq : q (.str (z ++ w))) : A2 K qAddS (.str z) (.str w) q := fun B H u v s h1 h2 Q k => by
  cases h1 with
  | str _ o1 =>
    cases h2 with
    | str _ o2 =>
      have hl := h o1 o2
      exact ⟨z, w, rfl, rfl, small (Nat.le_trans hl (by decide)), k _ _ H hq (Same.refl _) (.str _ (okS_app o1 o2 hl))⟩
theorem a2_inSg {c : Nat} (hq : q (.bl (decide (c ∈ z.cps.toList)))) : A2 K qInS (.str ⟨#[c]⟩) (.str z) q := fun B H u v s h1 h2 Q k => by
  cases h1
  cases h2
  exact ⟨c, z, rfl, rfl, k _ _ H hq (Same.refl _) (.bl _)⟩
theorem a2_ninSg {c : Nat} (hq : q (.bl (!decide (c ∈ z.cps.toList)))) : A2 K qNinS (.str ⟨#[c]⟩) (.str z) q := fun B H u v s h1 h2 Q k => by
  cases h1
  cases h2
  exact ⟨c, z, rfl, rfl, k _ _ H hq (Same.refl _) (.bl _)⟩
def fltD : D → Bool
  | .non | .bl _ | .int _ | .str _ => true
  | _ => false
theorem flat_dv {B : Hp} {v : V} (h : Dv K B v d) (f : fltD d = true) : flatV v = true := by
  cases h <;> first | rfl | cases f
theorem eqV_dv {B : Hp} {v u : V} {e : D} (h : Dv K B v d) (g : Dv K B u e) (f : fltD d = true) (f' : fltD e = true) : eqV v u = deq d e := by
  cases h <;> first | (cases f; done) | (cases g <;> first | (cases f'; done) | simp [eqV, deq, PP, PyData.eqv])
theorem flats_dv {B : Hp} : ∀ {vs : List V} {ds : List D}, DvL K B vs ds → ds.all fltD = true → vs.all flatV = true
  | _, _, .nil, _ => rfl
  | _, _, .cons h t, f => by
    rw [List.all_cons, Bool.and_eq_true] at f
    rw [List.all_cons, flat_dv h f.1, flats_dv t f.2]
    rfl
def inD (x : D) (ds : List D) : Bool := ds.any fun y => deq y x
theorem inV_dv {B : Hp} {v : V} (h : Dv K B v x) (f : fltD x = true) : ∀ {vs : List V} {ds : List D}, DvL K B vs ds → ds.all fltD = true → inV v vs = inD x ds
  | _, _, .nil, _ => rfl
  | _, _, .cons g t, f' => by
    rw [List.all_cons, Bool.and_eq_true] at f'
    unfold inV inD
    rw [List.any_cons, List.any_cons, eqV_dv g h f'.1 f]
    congr 1
    exact inV_dv h f t f'.2
theorem a2_inL (f : fltD x = true) (fs : ds.all fltD = true) (hq : q (.bl (inD x ds))) : A2 K (rIn K false) x (.lst ds) q := fun B H u v s h1 h2 Q k => by
  cases h2 with
  | lst hs hv =>
    refine ⟨_, _, rfl, .inl (s.seq (Sq_of hs)), flat_dv h1 f, flats_dv hv fs, ?_⟩
    rw [if_neg Bool.false_ne_true, inV_dv h1 f hv fs]
    exact k _ _ H hq (Same.refl _) (.bl _)
theorem a2_ninL (f : fltD x = true) (fs : ds.all fltD = true) (hq : q (.bl (!inD x ds))) : A2 K (rIn K true) x (.lst ds) q := fun B H u v s h1 h2 Q k => by
  cases h2 with
  | lst hs hv =>
    refine ⟨_, _, rfl, .inl (s.seq (Sq_of hs)), flat_dv h1 f, flats_dv hv fs, ?_⟩
    rw [if_pos rfl, inV_dv h1 f hv fs]
    exact k _ _ H hq (Same.refl _) (.bl _)
theorem a2_inT (f : fltD x = true) (fs : ds.all fltD = true) (hq : q (.bl (inD x ds))) : A2 K (rIn K false) x (.tup ds) q := fun B H u v s h1 h2 Q k => by
  cases h2 with
  | tup hs hv =>
    refine ⟨_, _, rfl, .inr (St_of (s _ _ hs)), flat_dv h1 f, flats_dv hv fs, ?_⟩
    rw [if_neg Bool.false_ne_true, inV_dv h1 f hv fs]
    exact k _ _ H hq (Same.refl _) (.bl _)
theorem a2_ninT (f : fltD x = true) (fs : ds.all fltD = true) (hq : q (.bl (!inD x ds))) : A2 K (rIn K true) x (.tup ds) q := fun B H u v s h1 h2 Q k => by
  cases h2 with
  | tup hs hv =>
    refine ⟨_, _, rfl, .inr (St_of (s _ _ hs)), flat_dv h1 f, flats_dv hv fs, ?_⟩
    rw [if_pos rfl, inV_dv h1 f hv fs]
    exact k _ _ H hq (Same.refl _) (.bl _)
theorem inD_str (n : Str) (ns : List Str) : inD (.str n) (ns.map .str) = decide (n ∈ ns) := by
  unfold inD
  rw [List.any_map]
  induction ns with
  | nil => rfl
  | cons m ns ih =>
    rw [List.any_cons, ih]
    show ((deq (.str m) (.str n)) || _) = _
    rw [show deq (.str m) (.str n) = decide (m = n) from deq_enc D.str inj_str rfl rfl, ← Bool.decide_or]
    congr 1
    rw [List.mem_cons]
    exact propext ⟨fun h => h.imp Eq.symm id, fun h => h.imp Eq.symm id⟩
theorem inD_int (n : Int) (ns : List Int) : inD (.int n) (ns.map .int) = decide (n ∈ ns) := by
  unfold inD
  rw [List.any_map]
  induction ns with
  | nil => rfl
  | cons m ns ih =>
    rw [List.any_cons, ih]
    show ((deq (.int m) (.int n)) || _) = _
    rw [show deq (.int m) (.int n) = decide (m = n) from deq_enc D.int inj_int rfl rfl, ← Bool.decide_or]
    congr 1
    rw [List.mem_cons]
    exact propext ⟨fun h => h.imp Eq.symm id, fun h => h.imp Eq.symm id⟩
theorem flts_map {α : Type} {f : α → D} (h : ∀ x, fltD (f x) = true) (xs : List α) : (xs.map f).all fltD = true := by
  rw [List.all_map, List.all_eq_true]
  exact fun x _ => h x
theorem a2_inNs {n : Str} {ns : List Str} (hq : q (.bl (decide (n ∈ ns)))) : A2 K (rIn K false) (.str n) (eNs ns) q := a2_inL rfl (flts_map (fun _ => rfl) ns) (by rw [inD_str]; exact hq)
theorem a2_ninNs {n : Str} {ns : List Str} (hq : q (.bl (!decide (n ∈ ns)))) : A2 K (rIn K true) (.str n) (eNs ns) q := a2_ninL rfl (flts_map (fun _ => rfl) ns) (by rw [inD_str]; exact hq)
theorem a2_inIs {n : Int} {ns : List Int} (hq : q (.bl (decide (n ∈ ns)))) : A2 K (rIn K false) (.int n) (eIs ns) q := a2_inL rfl (flts_map (fun _ => rfl) ns) (by rw [inD_int]; exact hq)
theorem a2n_cat (hl : ds.length + es.length ≤ 100000) (hq : q (.lst (ds ++ es))) : A2N K rCat (.lst ds) (.lst es) q := fun B H u v s h1 h2 Q k => by
  cases h1 with
  | lst hs hv =>
    cases h2 with
    | lst gs gv =>
      refine ⟨_, _, _, _, rfl, rfl, s _ _ hs, s _ _ gs, by rw [hv.len, gv.len]; exact small hl, fun p np => ?_⟩
      exact k _ p _ hq np (same_upd np) ⟨_, upd_same, (hv.append gv).mono (same_remx s np)⟩
/-! built-in functions -/
theorem dvl_one {K : PySem.W.Frag} {B : Hp} {vs : List V} (h : DvL K B vs [d]) : ∃ v, vs = [v] ∧ Dv K B v d := by
  cases h with
  | cons a b =>
    cases b
    exact ⟨_, rfl, a⟩
theorem dvl_two {K : PySem.W.Frag} {B : Hp} {vs : List V} (h : DvL K B vs [x, y]) : ∃ u v, vs = [u, v] ∧ Dv K B u x ∧ Dv K B v y := by
  cases h with
  | cons a b =>
    obtain ⟨v, rfl, h2⟩ := dvl_one b
    exact ⟨_, _, rfl, a, h2⟩
theorem al_lenL (hq : q (.int ds.length)) : AL K (qLenQ K) [.lst ds] q := fun B H vs s h Q k => by
  obtain ⟨v, rfl, h'⟩ := dvl_one h
  cases h' with
  | lst hs hv => exact ⟨_, _, rfl, .inl (s.seq (Sq_of hs)), by rw [hv.len]; exact k _ _ H hq (Same.refl _) (.int _)⟩
theorem al_lenF (hq : q (.int ds.length)) : AL K (qLenQ K) [.fls ds] q := fun B H vs s h Q k => by
  obtain ⟨v, rfl, h'⟩ := dvl_one h
  cases h' with
  | fls hs hv => exact ⟨_, _, rfl, .inl (s.seq hs), by rw [hv.len]; exact k _ _ H hq (Same.refl _) (.int _)⟩
theorem al_lenT (hq : q (.int ds.length)) : AL K (qLenQ K) [.tup ds] q := fun B H vs s h Q k => by
  obtain ⟨v, rfl, h'⟩ := dvl_one h
  cases h' with
  | tup hs hv => exact ⟨_, _, rfl, .inr (St_of (s _ _ hs)), by rw [hv.len]; exact k _ _ H hq (Same.refl _) (.int _)⟩
theorem al_lenS (hq : q (.int z.length)) : AL K qLenS [.str z] q := fun B H vs s h Q k => by
  obtain ⟨v, rfl, h'⟩ := dvl_one h
  cases h' with
  | str _ ok => exact ⟨_, rfl, okS_len ok, k _ _ H hq (Same.refl _) (.int _)⟩
theorem al_min (hq : q (.int (if j < i then j else i))) : AL K qMin [.int i, .int j] q := fun B H vs s h Q k => by
  obtain ⟨u, v, rfl, h1, h2⟩ := dvl_two h
  cases h1
  cases h2
  exact ⟨i, j, rfl, k _ _ H hq (Same.refl _) (.int _)⟩
theorem al_intB {m : Bool} (hq : q (.int (if m then 1 else 0))) : AL K qIntB [.bl m] q := fun B H vs s h Q k => by
  obtain ⟨v, rfl, h'⟩ := dvl_one h
  cases h'
  exact .inr ⟨m, rfl, k _ _ H hq (Same.refl _) (.int _)⟩
theorem aln_listL (hq : q (.lst ds)) : ALN K (qListOf K) [.lst ds] q := fun B H vs s h Q k => by
  obtain ⟨v, rfl, h'⟩ := dvl_one h
  cases h' with
  | lst hs hv => exact ⟨_, _, rfl, .inl (s.seq (Sq_of hs)), fun p np => k _ p _ hq np (same_upd np) ⟨_, upd_same, hv.mono (same_remx s np)⟩⟩
theorem aln_listT (hq : q (.lst ds)) : ALN K (qListOf K) [.tup ds] q := fun B H vs s h Q k => by
  obtain ⟨v, rfl, h'⟩ := dvl_one h
  cases h' with
  | tup hs hv => exact ⟨_, _, rfl, .inr (St_of (s _ _ hs)), fun p np => k _ p _ hq np (same_upd np) ⟨_, upd_same, hv.mono (same_remx s np)⟩⟩
theorem al_tupL (hq : q (.tup ds)) : AL K (qTupOf K) [.lst ds] q := fun B H vs s h Q k => by
  obtain ⟨v, rfl, h'⟩ := dvl_one h
  cases h' with
  | lst hs hv => exact ⟨_, _, rfl, .inl ⟨s.seq (Sq_of hs), fun p np => k _ _ _ hq (same_upd np) (.tup (by rw [ext_new np, upd_same]) (hv.mono (ext_l s)))⟩⟩
theorem bls_of {K : PySem.W.Frag} {B : Hp} : ∀ {vs : List V} {bs : List Bool}, DvL K B vs (bs.map .bl) → vs = bs.map V.bl
  | _, [], h => by
    cases h
    rfl
  | _, b :: bs, h => by
    cases h with
    | cons h1 h2 =>
      cases h1
      rw [bls_of h2]
      rfl
theorem al_all {bs : List Bool} (hq : q (.bl (bs.all id))) : AL K (rAll K) [.lst (bs.map .bl)] q := fun B H vs s h Q k => by
  obtain ⟨v, rfl, h'⟩ := dvl_one h
  cases h' with
  | lst hs hv => exact ⟨_, bs, rfl, by rw [← bls_of hv]; exact s.seq (Sq_of hs), k _ _ H hq (Same.refl _) (.bl _)⟩
theorem al_any {bs : List Bool} (hq : q (.bl (bs.any id))) : AL K (rAny K) [.lst (bs.map .bl)] q := fun B H vs s h Q k => by
  obtain ⟨v, rfl, h'⟩ := dvl_one h
  cases h' with
  | lst hs hv => exact ⟨_, bs, rfl, by rw [← bls_of hv]; exact s.seq (Sq_of hs), k _ _ H hq (Same.refl _) (.bl _)⟩
theorem al_allM {α : Type} {f : α → Bool} {xs : List α} (hq : q (.bl (xs.all f))) : AL K (rAll K) [.lst (xs.map fun x => .bl (f x))] q := by
  have e : (xs.map fun x => D.bl (f x)) = (xs.map f).map .bl := by rw [List.map_map]; rfl
  rw [e]
  exact al_all (by rw [List.all_map]; exact hq)
theorem al_anyM {α : Type} {f : α → Bool} {xs : List α} (hq : q (.bl (xs.any f))) : AL K (rAny K) [.lst (xs.map fun x => .bl (f x))] q := by
  have e : (xs.map fun x => D.bl (f x)) = (xs.map f).map .bl := by rw [List.map_map]; rfl
  rw [e]
  exact al_any (by rw [List.any_map]; exact hq)
/-- isinstance -/
def isiD : D → String → Option Bool
  | .non, t => some (t == "NoneType")
  | .bl _, t => if t == "bool" || t == "int" then some true else if t == "str" || t == "list" || t == "tuple" || t == "dict" then some false else none
  | .int _, t => if t == "int" then some true else if t == "str" || t == "list" || t == "tuple" || t == "dict" || t == "bool" then some false else none
  | .str _, t => if t == "str" then some true else if t == "int" || t == "list" || t == "tuple" || t == "dict" || t == "bool" then some false else none
  | .lst _, t => if t == "list" then some true else if t == "int" || t == "str" || t == "tuple" || t == "dict" || t == "bool" then some false else none
  | .tup _, t => if t == "tuple" then some true else if t == "int" || t == "str" || t == "list" || t == "dict" || t == "bool" then some false else none
  | .dk _, t => if t == "dict" then some true else if t == "int" || t == "str" || t == "list" || t == "tuple" || t == "bool" then some false else none
  | .dt _, t => if t == "dict" then some true else if t == "int" || t == "str" || t == "list" || t == "tuple" || t == "bool" then some false else none
  | _, _ => none
def tyN : D → Option String
  | .non => some "NoneType"
  | .bl _ => some "bool"
  | .int _ => some "int"
  | .str _ => some "str"
  | .lst _ => some "list"
  | .tup _ => some "tuple"
  | .dk _ => some "dict"
  | .dt _ => none
  | _ => none
theorem ty_dv {B H : Hp} {v : V} {t : String} (s : Same B H) (h : Dv K B v d) (e : tyN d = some t) : TyX K H v (.type t) := by
  cases h with
  | non => cases e; exact .base .non
  | bl => cases e; exact .base (.bl _)
  | int => cases e; exact .base (.int _)
  | str => cases e; exact .base (.str _)
  | lst h _ => cases e; exact .base (.lst (s _ _ h))
  | fls _ _ => cases e
  | tup h _ =>
    cases e
    exact .base (.tup (s _ _ h))
  | dk h _ =>
    cases e
    rcases rd_mono s h with h | ⟨o, h⟩
    · exact .base (.dK h)
    · exact .fDict h
  | dt h _ => cases e
  | op => cases e
  | ex _ _ => cases e
  | vd _ => cases e
theorem al_isi {t u : String} {r : Bool} (e : tyN d = some t) (kk : PySem.W.kitOne K (.type t) (.type u) = some r) (hq : q (.bl r)) : AL K (rIsi K) [d, .op (.ty u)] q := fun B H vs s h Q k => by
  obtain ⟨v, w, rfl, h1, h2⟩ := dvl_two h
  cases h2
  exact ⟨v, _, _, _, r, rfl, .ty u, ty_dv s h1 e, kk, k _ _ H hq (Same.refl _) (.bl _)⟩
theorem strs_of {B : Hp} : ∀ {vs : List V} {ys : List Str}, DvL K B vs (ys.map .str) → vs = ys.map V.str
  | _, [], h => by
    cases h
    rfl
  | _, y :: ys, h => by
    cases h with
    | cons h1 h2 =>
      cases h1
      rw [strs_of h2]
      rfl
/-- sep.join(texts) -/
theorem ae_join {ρ : List Sl} {to te : TE} (h : AE K to ρ fun a => ∃ z, a = .str z ∧ AE K te ρ fun b => ∃ ys : List Str, b = eNs ys ∧ (ys.map (·.length)).sum + ys.length * z.length ≤ 10000 ∧ okS (Txt.join z ys) ∧ q (.str (Txt.join z ys))) : AE K (tM1 (qJoin K) to te) ρ q := fun B H σ s E Q k => h B H σ s E _ fun a v H1 ⟨z, ez, h1⟩ s1 dv => by
  subst ez
  cases dv
  refine ⟨⟨z, rfl⟩, h1 (ext B H H1) H1 σ (ext_r s s1) (E.mono (ext_l s)) _ fun b w H2 ⟨ys, eb, hl, hok, hq⟩ s2 dw => ?_⟩
  subst eb
  cases dw with
  | lst hs hv =>
    have e' := strs_of hv
    subst e'
    exact ⟨z, _, ys, rfl, rfl, .inl (Sq_of ((ext_r (ext_r s s1) s2) _ _ hs)), Nat.le_trans hl (by decide), k _ _ H2 hq (s1.trans s2) (.str _ hok)⟩
/-! sorted, index -/
theorem perm_sorted {α : Type} {r : α → α → Prop} (anti : ∀ a b, r a b → r b a → a = b) : ∀ {xs ys : List α}, xs.Pairwise r → ys.Pairwise r → xs.Perm ys → xs = ys
  | [], ys, _, _, p => (List.nil_perm.mp p).symm ▸ rfl
  | x :: xs, [], _, _, p => by simp at p
  | x :: xs, y :: ys, h1, h2, p => by
    have e : x = y := by
      rw [List.pairwise_cons] at h1 h2
      rcases List.mem_cons.mp (p.subset List.mem_cons_self) with e | m
      · exact e
      · rcases List.mem_cons.mp (p.symm.subset List.mem_cons_self) with e | m'
        · exact e.symm
        · exact anti _ _ (h1.1 _ m') (h2.1 _ m)
    subst e
    rw [perm_sorted anti (List.pairwise_cons.mp h1).2 (List.pairwise_cons.mp h2).2 (List.Perm.cons_inv p)]
def leS (a b : Str) : Prop := a.cps.toList ≤ b.cps.toList
theorem rising_pw : ∀ (p : Str) (l : List Str), PyProof.Rows.risingS p l = true → (p :: l).Pairwise leS
  | p, [], _ => by simp
  | p, x :: r, h => by
    unfold PyProof.Rows.risingS at h
    rw [Bool.and_eq_true, PyProof.Rows.ltCps_eq] at h
    have ih := rising_pw x r h.2
    have h1 : leS p x := by
      have : ¬ x.cps.toList < p.cps.toList := by simpa using h.1
      exact this
    rw [List.pairwise_cons]
    refine ⟨fun y m => ?_, ih⟩
    rcases List.mem_cons.mp m with rfl | m
    · exact h1
    · exact List.le_trans h1 ((List.pairwise_cons.mp ih).1 y m)
theorem sortedS_pw {l : List Str} (h : PyProof.Rows.sortedS l = true) : l.Pairwise leS := by
  cases l with
  | nil => exact .nil
  | cons x r => exact rising_pw x r h
theorem leS_anti (a b : Str) (h : leS a b) (g : leS b a) : a = b := s_ext (List.le_antisymm h g)
theorem sortedS_one {a b xs ys : List Str} (ha : PyProof.Rows.sortedS a = true) (hb : PyProof.Rows.sortedS b = true) (pa : a.Perm xs) (pb : b.Perm ys) (p : xs.Perm ys) : a = b :=
  perm_sorted leS_anti (sortedS_pw ha) (sortedS_pw hb) (pa.trans (p.trans pb.symm))
theorem ints_of {B : Hp} : ∀ {vs : List V} {ys : List Int}, DvL K B vs (ys.map .int) → vs = ys.map V.int
  | _, [], h => by
    cases h
    rfl
  | _, y :: ys, h => by
    cases h with
    | cons h1 h2 =>
      cases h1
      rw [ints_of h2]
      rfl
theorem dvl_ints {B : Hp} : ∀ ys : List Int, DvL K B (ys.map V.int) (ys.map .int)
  | [] => .nil
  | _ :: ys => .cons (.int _) (dvl_ints ys)
theorem okS_all {B : Hp} : ∀ {vs : List V} {ys : List Str}, DvL K B vs (ys.map .str) → ∀ z ∈ ys, okS z
  | _, [], _, z, m => by cases m
  | _, y :: ys, h, z, m => by
    cases h with
    | cons h1 h2 =>
      cases h1 with
      | str _ ok => exact (List.mem_cons.mp m).elim (fun e => e ▸ ok) (okS_all h2 z)
theorem dvl_strs {B : Hp} : ∀ {ys : List Str}, (∀ z ∈ ys, okS z) → DvL K B (ys.map V.str) (ys.map .str)
  | [], _ => .nil
  | y :: ys, h => .cons (.str _ (h y List.mem_cons_self)) (dvl_strs fun z m => h z (List.mem_cons_of_mem _ m))
theorem aln_sortedS {xs : List Str} (hl : xs.length < 64) (hq : ∀ ys : List Str, ys.Perm xs → PyProof.Rows.sortedS ys = true → q (eNs ys)) : ALN K (rSortedS K) [eNs xs] q := fun B H vs s h Q k => by
  obtain ⟨v, rfl, h'⟩ := dvl_one h
  cases h' with
  | lst hs hv =>
    have e := strs_of hv
    subst e
    have ok := okS_all hv
    exact ⟨_, xs, rfl, s.seq (Sq_of hs), hl, fun ys p pm so np => k _ p _ (hq ys pm so) np (same_upd np) ⟨_, upd_same, dvl_strs fun z m => ok z (pm.subset m)⟩⟩
theorem aln_sortedI {xs : List Int} (hl : xs.length < 64) (hq : ∀ ys : List Int, ys.Perm xs → ys.Pairwise (· ≤ ·) → q (eIs ys)) : ALN K (rSorted K) [eIs xs] q := fun B H vs s h Q k => by
  obtain ⟨v, rfl, h'⟩ := dvl_one h
  cases h' with
  | lst hs hv =>
    have e := ints_of hv
    subst e
    exact ⟨_, xs, rfl, s.seq (Sq_of hs), hl, fun ys p pm so np => k _ p _ (hq ys pm so) np (same_upd np) ⟨_, upd_same, dvl_ints ys⟩⟩
/-- a list's method of one argument -/
def AM (K : PySem.W.Frag) (r : V → List V → Hp → VK → Prop) (a b : D) (q : D → Prop) : Prop := A2 K (fun x y H Q => r x [y] H Q) a b q
theorem ae_bmL {r : V → List V → Hp → VK → Prop} {ρ : List Sl} {to te : TE} (h : AE K to ρ fun a => ∃ ds, a = .lst ds ∧ AE K te ρ fun b => AM K r a b q) : AE K (tBM K "list" r to (tCons te tNil)) ρ q := fun B H σ s E Q k => h B H σ s E _ fun a v H1 ⟨ds, ea, h1⟩ s1 dv => by
  subst ea
  obtain ⟨p, rfl⟩ := dv_ref (.inl dv)
  obtain ⟨vs, g1, g2⟩ := dv_seq (.inl dv)
  refine ⟨.inl ⟨rfl, vs, (ext_r s s1).seq g1⟩, h1 (ext B H H1) H1 σ (ext_r s s1) (E.mono (ext_l s)) _ fun b w H2 h2 s2 dw => ?_⟩
  rw [ext_ext s1 s2] at dw
  have s12 := s1.trans s2
  have dv' : Dv K (ext B H H2) (.ref p) (.lst ds) := dv.mono (by rw [← ext_ext s1 s2]; exact ext_l (ext_r s s1))
  exact h2 (ext B H H2) H2 _ w (ext_r s s12) dv' dw Q fun d v H' hq s3 dv => k d v H' hq (s12.trans s3) (by rw [ext_ext s12 s3] at dv; exact dv)
theorem am_indexS {n : Str} {ns : List Str} (hm : n ∈ ns) (hq : q (.int (ns.idxOf n))) : AM K (rIndex K) (eNs ns) (.str n) q := fun B H u v s h1 h2 Q k => by
  cases h2
  cases h1 with
  | lst hs hv =>
    have e := strs_of hv
    subst e
    have hlt : ns.idxOf n < ns.length := List.idxOf_lt_length_iff.mpr hm
    refine ⟨_, _, _, ns.idxOf n, .str ns[ns.idxOf n], rfl, rfl, s.seq (Sq_of hs), rfl, ?_, by rw [List.getElem?_map, List.getElem?_eq_getElem hlt]; rfl, ?_, ?_, k _ _ H hq (Same.refl _) (.int _)⟩
    · rw [List.all_map, List.all_eq_true]
      exact fun _ _ => rfl
    · have := List.getElem_idxOf hlt
      simp [eqV, this]
    · intro m z hm' hz
      rw [List.getElem?_map] at hz
      cases e : ns[m]? with
      | none => rw [e] at hz; cases hz
      | some w =>
        rw [e] at hz
        cases hz
        have hml : m < ns.length := by omega
        have e2 : ns[m] = w := by
          rw [List.getElem?_eq_getElem hml] at e
          cases e
          rfl
        have := List.not_of_lt_findIdx (p := (· == n)) (xs := ns) (i := m) (by simpa [List.idxOf] using hm')
        simp only [e2] at this
        simpa [eqV] using this
theorem al_allT {α : Type} {xs : List α} (hq : q (.bl true)) : AL K (rAll K) [.lst (xs.map fun _ => .bl true)] q := al_allM (f := fun _ => true) (by rw [show (xs.all fun _ => true) = true by simp]; exact hq)
/-! slices -/
def AO (K : PySem.W.Frag) (t : TO) (ρ : List Sl) (q : Option Int → Prop) : Prop := ∀ (B H : Hp) (σ : L2.St), Same B H → EnvS K B σ ρ → ∀ Q : Option Int → Hp → Prop, (∀ o H', q o → Same H H' → Q o H') → t σ H Q
theorem ao_no {ρ : List Sl} {q : Option Int → Prop} (hq : q none) : AO K tNoPart ρ q := fun B H σ s E Q k => k _ H hq (Same.refl _)
theorem ao_some {ρ : List Sl} {te : TE} {q : Option Int → Prop} (h : AE K te ρ fun d => ∃ i, d = .int i ∧ q (some i)) : AO K (tPart te) ρ q := fun B H σ s E Q k => h B H σ s E _ fun d v H' ⟨i, e, hq⟩ s1 dv => by
  subst e
  cases dv
  exact ⟨i, rfl, k _ H' hq s1⟩
theorem an_slL {ρ : List Sl} {te : TE} {tl th : TO} (h : AE K te ρ fun d => AO K tl ρ fun lo => AO K th ρ fun hi => ∃ ds, (d = .lst ds ∨ d = .fls ds) ∧ q (.lst (cut ds lo hi))) : AN K (tSl (rSlL K) te tl th) ρ q := fun B H σ s E Q k => h B H σ s E _ fun d v H1 h1 s1 dv =>
  h1 _ H1 σ (ext_r s s1) (E.mono (ext_l s)) _ fun lo H2 h2 s2 => h2 (ext B H H2) H2 σ (ext_r s (s1.trans s2)) (E.mono (ext_l s)) _ fun hi H3 ⟨ds, ed, hq⟩ s3 => by
    have s13 := s1.trans (s2.trans s3)
    have dv' : Dv K (ext B H H3) v d := dv.mono (by rw [← ext_ext s1 (s2.trans s3)]; exact ext_l (ext_r s s1))
    have dv2 : Dv K (ext B H H3) v (.lst ds) ∨ Dv K (ext B H H3) v (.fls ds) := ed.imp (fun (e : d = .lst ds) => e ▸ dv') fun (e : d = .fls ds) => e ▸ dv'
    obtain ⟨a, rfl⟩ := dv_ref dv2
    obtain ⟨vs, g1, g2⟩ := dv_seq dv2
    refine ⟨a, vs, rfl, (ext_r s s13).seq g1, fun p np => k _ p _ hq (s13.free np) (s13.trans (same_upd np)) ⟨_, upd_same, ?_⟩⟩
    rw [← ext_ext s13 (same_upd np)]
    exact g2.cut.mono (same_remx (ext_r s s13) np)
theorem ae_slS {ρ : List Sl} {te : TE} {tl th : TO} (h : AE K te ρ fun d => AO K tl ρ fun lo => AO K th ρ fun hi => ∃ z, d = .str z ∧ q (.str (cutS z lo hi))) : AE K (tSl rSlS te tl th) ρ q := fun B H σ s E Q k => h B H σ s E _ fun d v H1 h1 s1 dv =>
  h1 _ H1 σ (ext_r s s1) (E.mono (ext_l s)) _ fun lo H2 h2 s2 => h2 (ext B H H2) H2 σ (ext_r s (s1.trans s2)) (E.mono (ext_l s)) _ fun hi H3 ⟨z, ed, hq⟩ s3 => by
    subst ed
    cases dv with
    | str _ ok => exact ⟨z, rfl, okS_len ok, k _ _ H3 hq (s1.trans (s2.trans s3)) (.str _ (okS_cut ok))⟩
end
theorem cut_map {α β : Type} (f : α → β) (xs : List α) (lo hi : Option Int) : cut (xs.map f) lo hi = (cut xs lo hi).map f := by
  unfold cut
  rw [List.length_map, List.map_take, List.map_drop]
theorem cut1 {α : Type} (xs : List α) : cut xs (some 1) none = xs.drop 1 := cut_from xs 1
theorem cutP {α : Type} (xs : List α) {i : Int} (h : 0 ≤ i) : cut xs (some i) none = xs.drop i.toNat := by
  have e : i = (i.toNat : Int) := by omega
  rw [e]
  exact cut_from xs _
theorem cutQ {α : Type} (xs : List α) {i : Int} (h : 0 ≤ i) : cut xs none (some i) = xs.take i.toNat := by
  have e : i = (i.toNat : Int) := by omega
  rw [e]
  exact cut_to xs _
/-- a test told whole -/
theorem ite_ok {p A B : Prop} [Decidable p] (h1 : p → A) (h2 : ¬ p → B) : (decide p = true → A) ∧ (decide p = false → B) := ⟨fun h => h1 (of_decide_eq_true h), fun h => h2 (of_decide_eq_false h)⟩
theorem ite_no {p A B : Prop} [Decidable p] (h1 : ¬ p → A) (h2 : p → B) : ((!decide p) = true → A) ∧ ((!decide p) = false → B) := ⟨fun h => h1 (by simpa using h), fun h => h2 (by simpa using h)⟩
theorem ite_b {p : Bool} {A B : Prop} (h1 : p = true → A) (h2 : p = false → B) : (p = true → A) ∧ (p = false → B) := ⟨h1, h2⟩
theorem ite_t {A B : Prop} (h : A) : (true = true → A) ∧ (true = false → B) := ⟨fun _ => h, fun z => Bool.noConfusion z⟩
theorem ite_f {A B : Prop} (h : B) : (false = true → A) ∧ (false = false → B) := ⟨fun z => Bool.noConfusion z, fun _ => h⟩
/-! ### the ends of a def -/
theorem envR_start {K : PySem.W.Frag} {B H : Hp} : ∀ {vs : List V} {ds : List D}, DvL K B vs ds → ∀ n, EnvR K B H (vs.map some ++ List.replicate n none) (ds.map .sh ++ List.replicate n .un) []
  | _, _, .nil, 0 => .nil
  | _, _, .nil, n + 1 => by
    rw [List.replicate_succ, List.replicate_succ]
    exact .un (envR_start (vs := []) (ds := []) .nil n)
  | _, _, .cons h t, n => .sh h (envR_start t n)
def ρ0 (N : List Str) (ds : List D) : List Sl := ds.map .sh ++ List.replicate (N.length - ds.length) .un
theorem rel_start {K : PySem.W.Frag} {B H : Hp} {vs : List V} {ds : List D} {N : List Str} (s : Same B H) (h : DvL K B vs ds) : Rel ⟨K, B, H, []⟩ B H (L2.start N vs) (ρ0 N ds) [] [] [] where
  b0 := Same.refl _
  bh := s
  hh := fun _ _ e _ => e
  dom := fun _ e => e
  old := fun _ _ => rfl
  env := by
    unfold L2.start ρ0
    rw [h.len]
    exact envR_start h _
  res := .nil
  nd := fun a m => by cases m
  na := fun a m => by cases m
  ng := fun a m => by cases m
theorem rel_back {K : PySem.W.Frag} {B0 H0 B H : Hp} {W : List Res} {G : List Addr} (r : Rel ⟨K, B0, H0, []⟩ B H [] [] W [] G) : Same H0 H ∧ Same B (ext B0 H0 H) := ⟨fun a o e => r.hh a o e (by simp), fun a o e => by
  cases h : H0 a with
  | none =>
    rw [ext_new h]
    exact r.bh a o e
  | some u =>
    rw [ext_old (ne_none h)]
    exact (r.old a (ne_none h)).symm.trans e⟩
theorem pfn_enter {K : PySem.W.Frag} {T : List D → (D → Prop) → Prop} {N : List Str} {vs : List V} {H : Hp} {Q : VK} {E : XK} {t : TS} (h : pfn K T vs H Q E)
    (hb : ∀ ds q B0 H0, T ds q → AW ⟨K, B0, H0, []⟩ t (ρ0 N ds) [] ⟨fun _ _ => q .non, fun d _ => q d, fun d _ => q d, fun _ _ => False, fun _ _ => False⟩) : t { nx := fun _ H' => Q .non H', rt := Q } (L2.start N vs) H := by
  obtain ⟨B, ds, q, s, dv, hT, k⟩ := h
  refine hb ds q B H hT B _ ⟨fun hq _ r => ?_, fun hq _ _ => False.elim hq, fun hq _ _ => False.elim hq, fun hq r dv => ?_, fun {B H d p W G} hq r n0 np c => ?_⟩ B H (L2.start N vs) [] [] (Same.refl _) (rel_start s dv)
  · exact k _ _ _ hq (rel_back r.noSlots).1 .non
  · exact k _ _ _ hq (rel_back r).1 (dv.mono (rel_back r).2)
  · refine k _ _ _ hq (rel_back r).1 (c.dv (rel_back r).2 (ext_new n0))
theorem pfnN_enter {K : PySem.W.Frag} {T : List D → (D → Prop) → Prop} {N : List Str} {vs : List V} {H : Hp} {Q : VK} {E : XK} {t : TS} (h : pfnN K T vs H Q E)
    (hb : ∀ ds q B0 H0, T ds q → AW ⟨K, B0, H0, []⟩ t (ρ0 N ds) [] ⟨fun _ _ => False, fun d _ => False, fun d _ => q d, fun _ _ => False, fun _ _ => False⟩) : t { nx := fun _ H' => Q .non H', rt := Q } (L2.start N vs) H := by
  obtain ⟨B, ds, q, s, dv, hT, k⟩ := h
  refine hb ds q B H hT B _ ⟨fun hq _ r => False.elim hq, fun hq _ _ => False.elim hq, fun hq _ _ => False.elim hq, fun hq r dv => False.elim hq, fun {B' H' d p W G} hq r n0 np c => ?_⟩ B H (L2.start N vs) [] [] (Same.refl _) (rel_start s dv)
  have rb := rel_back r
  exact k _ p H' hq n0 rb.1 (c.mono (same_rem rb.2 np) rfl)
/-! xs.insert(i, y) -/
def rInsertQ : V → List V → Hp → VK → Prop := fun x vs H Q => ∃ (l : Addr) (xs : List V) (i : Int) (y : V), x = .ref l ∧ vs = [.int i, y] ∧ H l = some (.lst xs) ∧ xs.length < sizeLine ∧ 0 ≤ i ∧ i < 2 ^ 63 ∧ Q .non (upd H l (.lst (xs.take i.toNat ++ [y] ++ xs.drop i.toNat)))
theorem mt_insertQ {X : Cx} : MtR X "list.insert" rInsertQ := mt_insert
def tInsH (K : PySem.W.Frag) (i : Nat) (ti te : TE) : TS := tDrop (tBM K "list" rInsertQ (tVar i) (tCons ti (tCons te tNil)))
theorem ps_inH {X : Cx} {st : Stmt} {ti te : TE} {i : Nat} {K : PySem.W.Frag} (h : PS X st (tDrop (tBM K "list" rInsertQ (tVar i) (tCons ti (tCons te tNil))))) : PS X st (tInsH K i ti te) := h
section
variable {Z : Zc} {ρ : List Sl} {W : List Res} {P : AEnds} {te ti : TE} {i : Nat} {d : D}
theorem aw_insert {ds : List D} (e : ρ[i]? = some (.own (.lst ds))) (h : AE Z.K ti (fz ρ) fun k => ∃ m : Int, k = .int m ∧ 0 ≤ m ∧ m < 2 ^ 63 ∧ AE Z.K te ρ fun d => ds.length < 100000 ∧ P.nx (ρ.set i (.own (.lst (ds.take m.toNat ++ [d] ++ ds.drop m.toNat)))) W) : AW Z (tInsH Z.K i ti te) ρ W P := fun F R ok B H σ A G s r => by
  obtain ⟨a, h1, h2, h3, vs, h4, h5⟩ := r.env.getOwn e
  refine ⟨_, h1, .inl ⟨rfl, _, Sq_of h4⟩, ?_⟩
  refine h _ H σ r.fz.bh r.fz.env.envS _ fun k v H1 ⟨n, ek, n0, n1, hk⟩ s1 dv => ?_
  subst ek
  cases dv
  have r1 := r.step s1
  refine hk _ H1 σ r1.bh r1.env.envS _ fun d v H' hq s2 dv => ?_
  have r2 := r1.step s2
  have sB := (ext_l r.bh).trans (ext_l (H := H1) (H' := H') r1.bh)
  exact ⟨a, vs, n, v, rfl, rfl, s2 _ _ (s1 _ _ h4), smallL (by rw [h5.len]; exact hq.1), n0, n1, ok.nx hq.2 (s.trans sB) (r2.mut e h1 h2 ⟨_, upd_same, ((((h5.mono sB).take _).append (.cons dv .nil)).append ((h5.mono sB).drop _))⟩)⟩
end
/-! ### how a value comes into a slot: as it is; a scalar; a new object that the slot owns -/
def tAsgH (te : TE) (i : Nat) : TS := tAsg te (gName i)
def tAsgS (te : TE) (i : Nat) : TS := tAsg te (gName i)
def tAsgN (te : TE) (i : Nat) : TS := tAsg te (gName i)
def tAsgF (te : TE) (i : Nat) : TS := tAsg te (gName i)
def tAsgE (te : TE) (i : Nat) : TS := tAsg te (gName i)
def tAppH (K : PySem.W.Frag) (i : Nat) (te : TE) : TS := tDrop (tBM K "list" rAppend (tVar i) (tCons te tNil))
def tAppS (K : PySem.W.Frag) (i : Nat) (te : TE) : TS := tDrop (tBM K "list" rAppend (tVar i) (tCons te tNil))
def tAppP (K : PySem.W.Frag) (i j : Nat) (te : TE) : TS := tDrop (tBM K "list" rAppend (tVar i) (tCons (tBM K "list" rPopAt (tVar j) (tCons te tNil)) tNil))
section
variable {X : Cx} {st : Stmt} {te : TE} {i j : Nat} {K : PySem.W.Frag}
theorem ps_asH (h : PS X st (tAsg te (gName i))) : PS X st (tAsgH te i) := h
theorem ps_asS (h : PS X st (tAsg te (gName i))) : PS X st (tAsgS te i) := h
theorem ps_asN (h : PS X st (tAsg te (gName i))) : PS X st (tAsgN te i) := h
theorem ps_asF (h : PS X st (tAsg te (gName i))) : PS X st (tAsgF te i) := h
theorem ps_asE (h : PS X st (tAsg te (gName i))) : PS X st (tAsgE te i) := h
theorem ps_apH (h : PS X st (tDrop (tBM K "list" rAppend (tVar i) (tCons te tNil)))) : PS X st (tAppH K i te) := h
theorem ps_apS (h : PS X st (tDrop (tBM K "list" rAppend (tVar i) (tCons te tNil)))) : PS X st (tAppS K i te) := h
theorem ps_apP (h : PS X st (tDrop (tBM K "list" rAppend (tVar i) (tCons (tBM K "list" rPopAt (tVar j) (tCons te tNil)) tNil)))) : PS X st (tAppP K i j te) := h
end
section
variable {Z : Zc} {ρ : List Sl} {W : List Res} {P : AEnds} {te : TE} {i j : Nat} {d : D}
theorem aw_retNewZ (h : AN Z.K te (fz ρ) fun d => P.rn d W) : AW Z (tRet te) ρ W P := fun F R ok B H σ A G s r => by
  refine h _ H σ r.fz.bh r.fz.env.envS _ fun d p H' hq np s1 c => ?_
  obtain ⟨A', r'⟩ := r.fz.setOwn np s1 c 0
  have n0 : Z.H0 p = none := by
    cases e : Z.H0 p with
    | none => rfl
    | some o => exact absurd np (r.dom p (ne_none e))
  exact ok.rn hq r'.noSlots n0 (if_pos rfl) c
end
/-! what the walker looks at first -/
theorem gAW {Z : Zc} {t : TS} {ρ : List Sl} {W : List Res} {P : AEnds} (h : AW Z t ρ W P) : AW Z t ρ W P := h
theorem gAG {Z : Zc} {g : TG} {x : D} {ρ : List Sl} {W : List Res} {n : List Sl → List Res → Prop} (h : AG Z g x ρ W n) : AG Z g x ρ W n := h
theorem gAGs {Z : Zc} {g : TGs} {x : List D} {ρ : List Sl} {W : List Res} {n : List Sl → List Res → Prop} (h : AGs Z g x ρ W n) : AGs Z g x ρ W n := h
theorem gAE {K : PySem.W.Frag} {te : TE} {ρ : List Sl} {q : D → Prop} (h : AE K te ρ q) : AE K te ρ q := h
theorem gAN {K : PySem.W.Frag} {te : TE} {ρ : List Sl} {q : D → Prop} (h : AN K te ρ q) : AN K te ρ q := h
theorem gAA {K : PySem.W.Frag} {te : TA} {ρ : List Sl} {q : List D → Prop} (h : AA K te ρ q) : AA K te ρ q := h
theorem gAO {K : PySem.W.Frag} {te : TO} {ρ : List Sl} {q : Option Int → Prop} (h : AO K te ρ q) : AO K te ρ q := h
theorem gAT {te : TT} {K : PySem.W.Frag} {ρ : List Sl} {q : Bool → Prop} (h : AT te K ρ q) : AT te K ρ q := h
theorem gA2 {K : PySem.W.Frag} {r : R2} {a b : D} {q : D → Prop} (h : A2 K r a b q) : A2 K r a b q := h
theorem gA1 {K : PySem.W.Frag} {r : V → Hp → VK → Prop} {a : D} {q : D → Prop} (h : A1 K r a q) : A1 K r a q := h
theorem gA2N {K : PySem.W.Frag} {r : R2} {a b : D} {q : D → Prop} (h : A2N K r a b q) : A2N K r a b q := h
theorem gAL {K : PySem.W.Frag} {r : List V → Hp → VK → Prop} {a : List D} {q : D → Prop} (h : AL K r a q) : AL K r a q := h
theorem gALN {K : PySem.W.Frag} {r : List V → Hp → VK → Prop} {a : List D} {q : D → Prop} (h : ALN K r a q) : ALN K r a q := h
theorem gAM {K : PySem.W.Frag} {r : V → List V → Hp → VK → Prop} {a b : D} {q : D → Prop} (h : AM K r a b q) : AM K r a b q := h
theorem aw_norm {Z : Zc} {t : TS} {ρ ρ' : List Sl} {W : List Res} {P : AEnds} (e : ρ = ρ') (h : AW Z t ρ' W P) : AW Z t ρ W P := e ▸ h
theorem gSet {Z : Zc} {t : TS} {ρ : List Sl} {i : Nat} {s : Sl} {W : List Res} {P : AEnds} (h : AW Z t (ρ.set i s) W P) : AW Z t (ρ.set i s) W P := h
end Tg

/-! The engine: walks over data, the rules to be used. -/
namespace Tg
open PySem PySem.Spec L2
/-! ### the rules with the ends written out -/
section
variable {K : PySem.W.Frag} {B0 H0 : Hp} {F0 : List Addr} {ρ : List Sl} {W : List Res} {n bk ct : List Sl → List Res → Prop} {r rn : D → List Res → Prop} {t u : TS} {te ti : TE} {tt : TT} {i j : Nat} {d : D}
theorem s_seq (h : AW ⟨K, B0, H0, F0⟩ t ρ W ⟨fun ρ W => AW ⟨K, B0, H0, F0⟩ u ρ W ⟨n, r, rn, bk, ct⟩, r, rn, bk, ct⟩) : AW ⟨K, B0, H0, F0⟩ (tSeq t u) ρ W ⟨n, r, rn, bk, ct⟩ := aw_seq h
theorem s_next (h : n ρ W) : AW ⟨K, B0, H0, F0⟩ tNext ρ W ⟨n, r, rn, bk, ct⟩ := aw_next h
theorem s_brk (h : bk ρ W) : AW ⟨K, B0, H0, F0⟩ tBreak ρ W ⟨n, r, rn, bk, ct⟩ := aw_brk h
theorem s_cont (h : ct ρ W) : AW ⟨K, B0, H0, F0⟩ tCont ρ W ⟨n, r, rn, bk, ct⟩ := aw_cont h
theorem s_asgH (h : AE K te ρ fun d => n (ρ.set i (.sh d)) W) : AW ⟨K, B0, H0, F0⟩ (tAsgH te i) ρ W ⟨n, r, rn, bk, ct⟩ := aw_asgH h
theorem s_asgS (h : AE K te (fz ρ) fun d => scalD d = true ∧ n (ρ.set i (.sh d)) W) : AW ⟨K, B0, H0, F0⟩ (tAsgS te i) ρ W ⟨n, r, rn, bk, ct⟩ := aw_asgS h
theorem s_asgN (h : AN K te ρ fun d => n (ρ.set i (.own d)) W) : AW ⟨K, B0, H0, F0⟩ (tAsgN te i) ρ W ⟨n, r, rn, bk, ct⟩ := aw_asgN h
theorem s_asgNF (h : AN K te (fz ρ) fun d => flatD d = true ∧ n (ρ.set i (.own d)) W) : AW ⟨K, B0, H0, F0⟩ (tAsgF te i) ρ W ⟨n, r, rn, bk, ct⟩ := aw_asgNF h
theorem s_asgE (h : AN K te (fz ρ) fun d => flatD d = true ∧ n (ρ.set i (.sh d)) W) : AW ⟨K, B0, H0, F0⟩ (tAsgE te i) ρ W ⟨n, r, rn, bk, ct⟩ := aw_asgE h
theorem s_frz (i : Nat) (e : ρ[i]? = some (.own d)) (h : AW ⟨K, B0, H0, F0⟩ t (ρ.set i (.sh d)) W ⟨n, r, rn, bk, ct⟩) : AW ⟨K, B0, H0, F0⟩ t ρ W ⟨n, r, rn, bk, ct⟩ := aw_frz i e h
theorem s_ret (h : AE K te (fz ρ) fun d => r d W) : AW ⟨K, B0, H0, F0⟩ (tRet te) ρ W ⟨n, r, rn, bk, ct⟩ := aw_ret h
theorem s_retNew (h : AN K te ρ fun d => rn d W) : AW ⟨K, B0, H0, F0⟩ (tRet te) ρ W ⟨n, r, rn, bk, ct⟩ := aw_retNew h
theorem s_retOwn (e : ρ[i]? = some (.own d)) (h : rn d W) : AW ⟨K, B0, H0, F0⟩ (tRet (tVar i)) ρ W ⟨n, r, rn, bk, ct⟩ := aw_retOwn e h
theorem s_retN (h : r .non W) : AW ⟨K, B0, H0, F0⟩ tRetN ρ W ⟨n, r, rn, bk, ct⟩ := aw_retN h
theorem s_if (h : AT tt K (fz ρ) fun b => (b = true → AW ⟨K, B0, H0, F0⟩ t ρ W ⟨n, r, rn, bk, ct⟩) ∧ (b = false → AW ⟨K, B0, H0, F0⟩ u ρ W ⟨n, r, rn, bk, ct⟩)) : AW ⟨K, B0, H0, F0⟩ (tIfS tt t u) ρ W ⟨n, r, rn, bk, ct⟩ := aw_if h
theorem s_drop (h : AE K te (fz ρ) fun _ => n ρ W) : AW ⟨K, B0, H0, F0⟩ (tDrop te) ρ W ⟨n, r, rn, bk, ct⟩ := aw_drop h
theorem s_append {ds : List D} (e : ρ[i]? = some (.own (.lst ds))) (h : AE K te ρ fun d => ds.length < 100000 ∧ n (ρ.set i (.own (.lst (ds ++ [d])))) W) : AW ⟨K, B0, H0, F0⟩ (tAppH K i te) ρ W ⟨n, r, rn, bk, ct⟩ := aw_append e h
theorem s_appendS {ds : List D} (e : ρ[i]? = some (.own (.lst ds))) (h : AE K te (fz ρ) fun d => scalD d = true ∧ ds.length < 100000 ∧ n (ρ.set i (.own (.lst (ds ++ [d])))) W) : AW ⟨K, B0, H0, F0⟩ (tAppS K i te) ρ W ⟨n, r, rn, bk, ct⟩ := aw_appendS e h
theorem s_reverse {ds : List D} (e : ρ[i]? = some (.own (.lst ds))) (h : n (ρ.set i (.own (.lst ds.reverse))) W) : AW ⟨K, B0, H0, F0⟩ (tDrop (tBM0 K "list" rReverse (tVar i))) ρ W ⟨n, r, rn, bk, ct⟩ := aw_reverse e h
theorem s_clear {ds : List D} (e : ρ[i]? = some (.own (.lst ds))) (h : n (ρ.set i (.own (.lst []))) W) : AW ⟨K, B0, H0, F0⟩ (tDrop (tBM0 K "list" rClear (tVar i))) ρ W ⟨n, r, rn, bk, ct⟩ := aw_clear e h
theorem s_appendPop {ds es : List D} (e : ρ[i]? = some (.own (.lst ds))) (e2 : ρ[j]? = some (.own (.lst es))) (hij : i ≠ j)
    (h : AE K te (fz ρ) fun d => ∃ k : Nat, ∃ x, d = .int k ∧ es[k]? = some x ∧ k < 1000000 ∧ ds.length < 100000 ∧ n ((ρ.set j (.own (.lst (es.eraseIdx k)))).set i (.own (.lst (ds ++ [x])))) W) : AW ⟨K, B0, H0, F0⟩ (tAppP K i j te) ρ W ⟨n, r, rn, bk, ct⟩ := aw_appendPop e e2 hij h
theorem s_wk {ρ' : List Sl} (w : Wk ρ ρ') (h : AW ⟨K, B0, H0, F0⟩ t ρ' W ⟨n, r, rn, bk, ct⟩) : AW ⟨K, B0, H0, F0⟩ t ρ W ⟨n, r, rn, bk, ct⟩ := aw_wk w h
theorem s_cut (ρ' : List Sl) (h : AW ⟨K, B0, H0, F0⟩ t ρ W ⟨fun ρ3 W3 => Wk ρ3 ρ' ∧ W3 = W, r, rn, bk, ct⟩) (hn : n ρ' W) : AW ⟨K, B0, H0, F0⟩ t ρ W ⟨n, r, rn, bk, ct⟩ := aw_cut ρ' h hn
theorem sg_name {x : D}  (h : n (ρ.set j (.sh x)) W) : AG ⟨K, B0, H0, F0⟩ (gName j) x ρ W n := ag_name h
theorem sgs_nil  (h : n ρ W) : AGs ⟨K, B0, H0, F0⟩ gNil [] ρ W n := ags_nil h
theorem sgs_cons {g : TG} {gs : TGs} {x : D} {xs : List D}  (h : AG ⟨K, B0, H0, F0⟩ g x ρ W fun ρ1 W1 => AGs ⟨K, B0, H0, F0⟩ gs xs ρ1 W1 n) : AGs ⟨K, B0, H0, F0⟩ (gCons g gs) (x :: xs) ρ W n := ags_cons h
theorem sg_tup {k : Nat} {gs : TGs} {xs : List D}  (hl : xs.length = k) (h : AGs ⟨K, B0, H0, F0⟩ gs xs ρ W n) : AG ⟨K, B0, H0, F0⟩ (gTup K k gs) (.tup xs) ρ W n := ag_tup hl h
theorem s_forL {tl : TE} {g : TG} {tb : TS} (h : AE K tl ρ fun d => ∃ xs, (d = .lst xs ∨ d = .fls xs) ∧ AFor ⟨K, B0, H0, F0⟩ xs g tb ρ W ⟨n, r, rn, bk, ct⟩) : AW ⟨K, B0, H0, F0⟩ (tFor (iList K tl) g tb) ρ W ⟨n, r, rn, bk, ct⟩ := aw_forL h
theorem s_forR1 {tl : TA} {g : TG} {tb : TS} (h : AA K tl (fz ρ) fun ds => ∃ j : Int, ds = [.int j] ∧ (-(2 ^ 62) ≤ j ∧ j < 2 ^ 62) ∧ AForR ⟨K, B0, H0, F0⟩ 0 j.toNat g tb ρ W ⟨n, r, rn, bk, ct⟩) : AW ⟨K, B0, H0, F0⟩ (tFor (iRng1 tl) g tb) ρ W ⟨n, r, rn, bk, ct⟩ := aw_forR1 h
theorem s_forR2 {tl : TA} {g : TG} {tb : TS} (h : AA K tl (fz ρ) fun ds => ∃ i j : Int, ds = [.int i, .int j] ∧ (-(2 ^ 62) ≤ i ∧ i < 2 ^ 62 ∧ -(2 ^ 62) ≤ j ∧ j < 2 ^ 62) ∧ AForR ⟨K, B0, H0, F0⟩ i (j - i).toNat g tb ρ W ⟨n, r, rn, bk, ct⟩) : AW ⟨K, B0, H0, F0⟩ (tFor (iRng2 tl) g tb) ρ W ⟨n, r, rn, bk, ct⟩ := aw_forR2 h
theorem s_while {c : TT} {tb : TS} (Pv : Nat → List Sl → List Res → Prop) (m : Nat) (h0 : ∃ ρ', Wk ρ ρ' ∧ Pv m ρ' W)
    (hs : ∀ m ρ W, Pv m ρ W → AT c K (fz ρ) fun b => (b = true → AW ⟨K, B0, H0, F0⟩ tb ρ W ⟨fun ρ W => ∃ ρ', Wk ρ ρ' ∧ ∃ m', m' < m ∧ Pv m' ρ' W, r, rn, n, fun ρ W => ∃ ρ', Wk ρ ρ' ∧ ∃ m', m' < m ∧ Pv m' ρ' W⟩) ∧ (b = false → n ρ W)) : AW ⟨K, B0, H0, F0⟩ (tWhile c tb) ρ W ⟨n, r, rn, bk, ct⟩ := aw_while Pv m h0 hs
theorem s_insert {ds : List D} (e : ρ[i]? = some (.own (.lst ds))) (h : AE K ti (fz ρ) fun k => ∃ m : Int, k = .int m ∧ 0 ≤ m ∧ m < 2 ^ 63 ∧ AE K te ρ fun d => ds.length < 100000 ∧ n (ρ.set i (.own (.lst (ds.take m.toNat ++ [d] ++ ds.drop m.toNat)))) W) : AW ⟨K, B0, H0, F0⟩ (tInsH K i ti te) ρ W ⟨n, r, rn, bk, ct⟩ := aw_insert e h
theorem s_retNewZ (h : AN K te (fz ρ) fun d => rn d W) : AW ⟨K, B0, H0, F0⟩ (tRet te) ρ W ⟨n, r, rn, bk, ct⟩ := aw_retNewZ h
theorem afor {xs : List D} {g : TG} {tb : TS} (Iv : Nat → List Sl → List Res → Prop) (h0 : ∃ ρ', Wk ρ ρ' ∧ Iv 0 ρ' W) (hs : ∀ i x ρ' W', xs[i]? = some x → Iv i ρ' W' → AG ⟨K, B0, H0, F0⟩ g x ρ' W' fun ρ2 W2 => AW ⟨K, B0, H0, F0⟩ tb ρ2 W2 ⟨fun ρ W => ∃ ρ', Wk ρ ρ' ∧ Iv (i + 1) ρ' W, r, rn, n, fun ρ W => ∃ ρ', Wk ρ ρ' ∧ Iv (i + 1) ρ' W⟩)
    (hd : ∀ ρ' W', Iv xs.length ρ' W' → n ρ' W') : AFor ⟨K, B0, H0, F0⟩ xs g tb ρ W ⟨n, r, rn, bk, ct⟩ := ⟨Iv, h0, hs, hd⟩
/-- a loop over the data of xs; the slots alone are told -/
theorem aforM {α : Type} {f : α → D} {xs : List α} {g : TG} {tb : TS} (Iv : Nat → List Sl → Prop) (h0 : ∃ ρ', Wk ρ ρ' ∧ Iv 0 ρ') (hs : ∀ i x ρ', xs[i]? = some x → Iv i ρ' → AG ⟨K, B0, H0, F0⟩ g (f x) ρ' W fun ρ2 W2 => AW ⟨K, B0, H0, F0⟩ tb ρ2 W2 ⟨fun ρ3 W3 => ∃ ρ4, Wk ρ3 ρ4 ∧ Iv (i + 1) ρ4 ∧ W3 = W, r, rn, n, fun ρ3 W3 => ∃ ρ4, Wk ρ3 ρ4 ∧ Iv (i + 1) ρ4 ∧ W3 = W⟩)
    (hd : ∀ ρ', Iv xs.length ρ' → n ρ' W) : AFor ⟨K, B0, H0, F0⟩ (xs.map f) g tb ρ W ⟨n, r, rn, bk, ct⟩ := ⟨fun i ρ W' => Iv i ρ ∧ W' = W, h0.elim fun ρ' h => ⟨ρ', h.1, h.2, rfl⟩, fun i x ρ' W' hx ⟨hI, e⟩ => by
      subst e
      rw [List.getElem?_map] at hx
      cases h : xs[i]? with
      | none => rw [h] at hx; cases hx
      | some y =>
        rw [h] at hx
        cases hx
        exact hs i y ρ' h hI, fun ρ' W' ⟨h, e⟩ => by
      rw [List.length_map] at h
      subst e
      exact hd ρ' h⟩
theorem aforR {lo : Int} {m : Nat} {g : TG} {tb : TS} (Iv : Nat → List Sl → Prop) (h0 : ∃ ρ', Wk ρ ρ' ∧ Iv 0 ρ') (hs : ∀ i ρ', i < m → Iv i ρ' → AG ⟨K, B0, H0, F0⟩ g (.int (lo + i)) ρ' W fun ρ2 W2 => AW ⟨K, B0, H0, F0⟩ tb ρ2 W2 ⟨fun ρ3 W3 => ∃ ρ4, Wk ρ3 ρ4 ∧ Iv (i + 1) ρ4 ∧ W3 = W, r, rn, n, fun ρ3 W3 => ∃ ρ4, Wk ρ3 ρ4 ∧ Iv (i + 1) ρ4 ∧ W3 = W⟩)
    (hd : ∀ ρ', Iv m ρ' → n ρ' W) : AForR ⟨K, B0, H0, F0⟩ lo m g tb ρ W ⟨n, r, rn, bk, ct⟩ := ⟨fun i ρ W' => Iv i ρ ∧ W' = W, h0.elim fun ρ' h => ⟨ρ', h.1, h.2, rfl⟩, fun i ρ' W' hx ⟨hI, e⟩ => by
      subst e
      exact hs i ρ' hx hI, fun ρ' W' ⟨h, e⟩ => by
      subst e
      exact hd ρ' h⟩
theorem aforR0 {m : Nat} {g : TG} {tb : TS} (Iv : Nat → List Sl → Prop) (h0 : ∃ ρ', Wk ρ ρ' ∧ Iv 0 ρ') (hs : ∀ i ρ', i < m → Iv i ρ' → AG ⟨K, B0, H0, F0⟩ g (.int (i : Int)) ρ' W fun ρ2 W2 => AW ⟨K, B0, H0, F0⟩ tb ρ2 W2 ⟨fun ρ3 W3 => ∃ ρ4, Wk ρ3 ρ4 ∧ Iv (i + 1) ρ4 ∧ W3 = W, r, rn, n, fun ρ3 W3 => ∃ ρ4, Wk ρ3 ρ4 ∧ Iv (i + 1) ρ4 ∧ W3 = W⟩)
    (hd : ∀ ρ', Iv m ρ' → n ρ' W) : AForR ⟨K, B0, H0, F0⟩ 0 m g tb ρ W ⟨n, r, rn, bk, ct⟩ := aforR Iv h0 (fun i ρ' hi h => by rw [Int.zero_add]; exact hs i ρ' hi h) hd
/-- .. the slots at each turn told by a function -/
theorem aforF {α : Type} {f : α → D} {xs : List α} {g : TG} {tb : TS} (st : Nat → List Sl) (h0 : Wk ρ (st 0)) (hs : ∀ i x, xs[i]? = some x → AG ⟨K, B0, H0, F0⟩ g (f x) (st i) W fun ρ2 W2 => AW ⟨K, B0, H0, F0⟩ tb ρ2 W2 ⟨fun ρ3 W3 => ∃ ρ4, Wk ρ3 ρ4 ∧ ρ4 = st (i + 1) ∧ W3 = W, r, rn, n, fun ρ3 W3 => ∃ ρ4, Wk ρ3 ρ4 ∧ ρ4 = st (i + 1) ∧ W3 = W⟩)
    (hd : n (st xs.length) W) : AFor ⟨K, B0, H0, F0⟩ (xs.map f) g tb ρ W ⟨n, r, rn, bk, ct⟩ := aforM (fun i ρ => ρ = st i) ⟨_, h0, rfl⟩ (fun i x ρ' hx e => by
      subst e
      exact hs i x hx) fun ρ' e => by
      subst e
      exact hd
theorem aforRF {m : Nat} {g : TG} {tb : TS} (st : Nat → List Sl) (h0 : Wk ρ (st 0)) (hs : ∀ i, i < m → AG ⟨K, B0, H0, F0⟩ g (.int (i : Int)) (st i) W fun ρ2 W2 => AW ⟨K, B0, H0, F0⟩ tb ρ2 W2 ⟨fun ρ3 W3 => ∃ ρ4, Wk ρ3 ρ4 ∧ ρ4 = st (i + 1) ∧ W3 = W, r, rn, n, fun ρ3 W3 => ∃ ρ4, Wk ρ3 ρ4 ∧ ρ4 = st (i + 1) ∧ W3 = W⟩)
    (hd : n (st m) W) : AForR ⟨K, B0, H0, F0⟩ 0 m g tb ρ W ⟨n, r, rn, bk, ct⟩ := aforR0 (fun i ρ => ρ = st i) ⟨_, h0, rfl⟩ (fun i ρ' hi e => by
      subst e
      exact hs i hi) fun ρ' e => by
      subst e
      exact hd
/-- a comprehension: each item's value -/
theorem alc {α : Type} {f : α → D} {xs : List α} {q : D → Prop} (P : α → Bool) (g : α → D) (hl : xs.length < 100000) (ht : ∀ x ∈ xs, ∀ q : Bool → Prop, q (P x) → AT tt K (ρ.set j (.sh (f x))) q)
    (he : ∀ x ∈ xs, P x = true → ∀ q : D → Prop, q (g x) → AE K te (ρ.set j (.sh (f x))) q) (hq : q (.lst ((xs.filter P).map g))) : ALc K (xs.map f) j tt te ρ q := by
  refine ⟨fun i acc => acc = ((xs.take i).filter P).map g, rfl, fun i x acc hx ha => ?_, fun ys h => ?_⟩
  · subst ha
    rw [List.getElem?_map] at hx
    cases h : xs[i]? with
    | none => rw [h] at hx; cases hx
    | some y =>
      rw [h] at hx
      cases hx
      have m : y ∈ xs := List.mem_of_getElem? h
      have et : xs.take (i + 1) = xs.take i ++ [y] := by rw [List.take_add_one, h]; rfl
      refine ht y m _ ⟨fun hp => he y m hp _ ⟨?_, ?_⟩, fun hp => ?_⟩
      · rw [List.length_map]
        have h1 := List.length_filter_le P (xs.take i)
        rw [List.length_take] at h1
        omega
      · show _ = _
        rw [et, List.filter_append, List.filter_cons_of_pos hp, List.filter_nil, List.map_append]
        rfl
      · show _ = _
        rw [et, List.filter_append, List.filter_cons_of_neg (by rw [hp]; decide), List.filter_nil, List.append_nil]
  · rw [List.length_map, List.take_length] at h
    subst h
    exact hq
theorem alcA {α : Type} {f : α → D} {xs : List α} {q : D → Prop} (g : α → D) (hl : xs.length < 100000) (he : ∀ x ∈ xs, ∀ q : D → Prop, q (g x) → AE K te (ρ.set j (.sh (f x))) q) (hq : q (.lst (xs.map g))) : ALc K (xs.map f) j tYes te ρ q :=
  alc (fun _ => true) g hl (fun x _ q h B H σ s E Q k => k true H h (Same.refl _)) (fun x m _ => he x m) (by rw [List.filter_eq_self.mpr (fun _ _ => rfl)]; exact hq)
/-- .. told by a relation -/
theorem alcP {xs : List D} {q : D → Prop} (Rl : Nat → D → Prop) (hl : xs.length < 100000) (he : ∀ (i : Nat) x, xs[i]? = some x → AE K te (ρ.set j (.sh x)) (Rl i)) (hq : ∀ ys : List D, ys.length = xs.length → (∀ (i : Nat) y, ys[i]? = some y → Rl i y) → q (.lst ys)) : ALc K xs j tYes te ρ q := by
  refine ⟨fun i acc => acc.length = i ∧ ∀ (k : Nat) y, acc[k]? = some y → Rl k y, ⟨rfl, fun k y h => by simp at h⟩, fun i x acc hx ⟨h1, h2⟩ B H σ s E Q k => k true H ⟨fun _ => ?_, fun z => by cases z⟩ (Same.refl _), fun ys ⟨h1, h2⟩ => hq ys h1 h2⟩
  have hlt := (List.getElem?_eq_some_iff.mp hx).1
  refine ae_mono (he i x hx) fun y hy => ⟨by omega, by rw [List.length_append, h1]; rfl, fun k z hz => ?_⟩
  by_cases c : k < acc.length
  · rw [List.getElem?_append_left c] at hz
    exact h2 k z hz
  · rw [List.getElem?_append_right (by omega)] at hz
    have e : k = i := by
      cases e : k - acc.length with
      | zero => omega
      | succ m => rw [e] at hz; simp at hz
    subst e
    rw [h1, Nat.sub_self] at hz
    cases hz
    exact hy
end

/-! ### the law -/
def T_law (ds : List D) (q : D → Prop) : Prop := ∃ ns : List Int, ds = [.fls (ns.map .int)] ∧ ns.length ≤ 63 ∧ q (.bl true)
theorem law_enter {K : PySem.W.Frag} {H : Hp} {a : Addr} {ns : List Int} (hl : ns.length ≤ 63) (hS : SqL K H a (ns.map V.int)) : pfn K T_law [.ref a] H (fun v _ => v = .bl true) fun _ _ _ => False :=
  ⟨H, [.fls (ns.map .int)], fun d => d = .bl true, Same.refl _, .cons (.fls hS (dvl_ints ns)) .nil, ⟨ns, rfl, hl, rfl⟩, fun d v H' e _ dv => by
    subst e
    cases dv
    rfl⟩
end Tg

/-! The engine: lists of lists that a slot owns. -/
namespace Tg
open PySem PySem.Spec L2
section
variable {K : PySem.W.Frag} {B B' H H' : Hp}
theorem EnvR.setOw2 {a : Addr} {ps : List Addr} {dss : List (List D)} (hb : ∀ p ∈ a :: ps, B p = none) (nd : (a :: ps).Nodup) (c : H a = some (.lst (ps.map V.ref))) (cs : Cells K B H ps dss) :
    ∀ {σ : L2.St} {ρ : List Sl} {A : List Addr}, EnvR K B H σ ρ A → (∀ p ∈ a :: ps, p ∉ A) → ∀ i, ∃ A', (∀ x ∈ A', x ∈ a :: ps ∨ x ∈ A) ∧ EnvR K B H (σ.set i (some (.ref a))) (ρ.set i (.ow2 dss)) A'
  | _, _, _, .nil, _, i => ⟨[], (fun _ h => by cases h), EnvR.nil⟩
  | _, _, _, .un t, n, 0 => ⟨_, fun _ h => List.mem_append.mp h, .ow2 n hb nd c cs t⟩
  | _, _, _, .sh _ t, n, 0 => ⟨_, fun _ h => List.mem_append.mp h, .ow2 n hb nd c cs t⟩
  | _, _, _, .own _ _ _ t, n, 0 => ⟨_, fun _ h => (List.mem_append.mp h).imp id (List.mem_cons_of_mem _), .ow2 (fun p m z => n p m (List.mem_cons_of_mem _ z)) hb nd c cs t⟩
  | _, _, _, .ow2 _ _ _ _ _ t, n, 0 => ⟨_, fun _ h => (List.mem_append.mp h).imp id (List.mem_append_right _), .ow2 (fun p m z => n p m (List.mem_append_right _ z)) hb nd c cs t⟩
  | _, _, _, .un t, n, i + 1 => by
    obtain ⟨A', h1, h2⟩ := EnvR.setOw2 hb nd c cs t n i
    exact ⟨A', h1, .un h2⟩
  | _, _, _, .sh p t, n, i + 1 => by
    obtain ⟨A', h1, h2⟩ := EnvR.setOw2 hb nd c cs t n i
    exact ⟨A', h1, .sh p h2⟩
  | _, _, _, .own (a := b) n' b' c' t, n, i + 1 => by
    obtain ⟨A', h1, h2⟩ := EnvR.setOw2 hb nd c cs t (fun p m z => n p m (List.mem_cons_of_mem _ z)) i
    refine ⟨b :: A', fun x h => ?_, .own (fun m => ?_) b' c' h2⟩
    · rcases List.mem_cons.mp h with rfl | h
      · exact .inr List.mem_cons_self
      · exact (h1 x h).imp id (List.mem_cons_of_mem _)
    · rcases h1 b m with e | m'
      · exact n b e List.mem_cons_self
      · exact n' m'
  | _, _, _, .ow2 n' b' nd' c' cs' t, n, i + 1 => by
    obtain ⟨A', h1, h2⟩ := EnvR.setOw2 hb nd c cs t (fun p m z => n p m (List.mem_append_right _ z)) i
    refine ⟨_, fun x h => ?_, .ow2 (fun p m z => ?_) b' nd' c' cs' h2⟩
    · exact (List.mem_append.mp h).elim (fun m => .inr (List.mem_append_left _ m)) fun m => (h1 x m).imp id (List.mem_append_right _)
    · rcases h1 p z with e | m'
      · exact n p e (List.mem_append_left _ m)
      · exact n' p m m'
theorem EnvR.getOw2 {dss : List (List D)} : ∀ {σ : L2.St} {ρ : List Sl} {A : List Addr}, EnvR K B H σ ρ A → ∀ {i : Nat}, ρ[i]? = some (.ow2 dss) → ∃ a ps, σ[i]? = some (some (.ref a)) ∧ (∀ p ∈ a :: ps, p ∈ A) ∧ (a :: ps).Nodup ∧ H a = some (.lst (ps.map V.ref)) ∧ Cells K B H ps dss
  | _, _, _, .nil, i, h => by simp at h
  | _, _, _, .un t, 0, h => by simp at h
  | _, _, _, .sh q t, 0, h => by simp at h
  | _, _, _, .own _ _ _ t, 0, h => by simp at h
  | _, _, _, .ow2 n b nd c cs t, 0, h => by
    simp at h
    subst h
    exact ⟨_, _, rfl, fun p m => List.mem_append_left _ m, nd, c, cs⟩
  | _, _, _, .un t, i + 1, h => EnvR.getOw2 t (i := i) h
  | _, _, _, .sh _ t, i + 1, h => EnvR.getOw2 t (i := i) h
  | _, _, _, .own _ _ _ t, i + 1, h => by
    obtain ⟨a, ps, h1, h2, h3⟩ := EnvR.getOw2 t (i := i) h
    exact ⟨a, ps, h1, fun p m => List.mem_cons_of_mem _ (h2 p m), h3⟩
  | _, _, _, .ow2 _ _ _ _ _ t, i + 1, h => by
    obtain ⟨a, ps, h1, h2, h3⟩ := EnvR.getOw2 t (i := i) h
    exact ⟨a, ps, h1, fun p m => List.mem_append_right _ (h2 p m), h3⟩
/-- the lists at ps change -/
theorem EnvR.mut2 {dss dss' : List (List D)} {a : Addr} {ps : List Addr} : ∀ {σ : L2.St} {ρ : List Sl} {A : List Addr}, EnvR K B H σ ρ A → ∀ {i : Nat}, ρ[i]? = some (.ow2 dss) → σ[i]? = some (some (.ref a)) → H a = some (.lst (ps.map V.ref)) →
    (∀ b ∈ A, b ∉ ps → H' b = H b) → Cells K B H' ps dss' → EnvR K B H' σ (ρ.set i (.ow2 dss')) A
  | _, _, _, .nil, i, h, _, _, _, _ => by simp at h
  | _, _, _, .un t, 0, h, _, _, _, _ => by simp at h
  | _, _, _, .sh q t, 0, h, _, _, _, _ => by simp at h
  | _, _, _, .own _ _ _ t, 0, h, _, _, _, _ => by simp at h
  | _, _, _, .ow2 (a := a') (ps := ps') n b nd c cs t, 0, h, e, ea, k, cs' => by
    simp at e
    subst e
    rw [c] at ea
    have ep : ps' = ps := by
      have := HO.lst.inj (Option.some.inj ea)
      exact List.map_inj_right (fun x y z => V.ref.inj z) |>.mp this
    subst ep
    have na : a' ∉ ps' := (List.nodup_cons.mp nd).1
    exact .ow2 n b nd ((k a' (List.mem_append_left _ List.mem_cons_self) na).trans c) cs' (t.mono (Same.refl _) (fun x m => (t.there x m).1) fun x m => k x (List.mem_append_right _ m) fun z => n x (List.mem_cons_of_mem _ z) m)
  | _, _, _, .un t, i + 1, h, e, ea, k, cs' => .un (EnvR.mut2 t (i := i) h e ea k cs')
  | _, _, _, .sh p t, i + 1, h, e, ea, k, cs' => .sh p (EnvR.mut2 t (i := i) h e ea k cs')
  | _, _, _, .own (a := a0) n b c t, i + 1, h, e, ea, k, cs' => by
    obtain ⟨a2, ps2, h1, h2, _, h4, _⟩ := t.getOw2 (i := i) h
    have e2 : a2 = a := by
      have e' : _ = some (some (V.ref a)) := e
      simp only [List.getElem?_cons_succ] at e'
      rw [h1] at e'
      simpa using e'
    subst e2
    rw [h4] at ea
    have ep : ps2 = ps := List.map_inj_right (fun x y z => V.ref.inj z) |>.mp (HO.lst.inj (Option.some.inj ea))
    subst ep
    exact .own n b (c.mono (Same.refl _) (k a0 List.mem_cons_self fun z => n (h2 a0 (List.mem_cons_of_mem _ z)))) (EnvR.mut2 t (i := i) h e h4 (fun x m => k x (List.mem_cons_of_mem _ m)) cs')
  | _, _, _, .ow2 n b nd c cs t, i + 1, h, e, ea, k, cs' => by
    obtain ⟨a2, ps2, h1, h2, _, h4, _⟩ := t.getOw2 (i := i) h
    have e2 : a2 = a := by
      have e' : _ = some (some (V.ref a)) := e
      simp only [List.getElem?_cons_succ] at e'
      rw [h1] at e'
      simpa using e'
    subst e2
    rw [h4] at ea
    have ep : ps2 = ps := List.map_inj_right (fun x y z => V.ref.inj z) |>.mp (HO.lst.inj (Option.some.inj ea))
    subst ep
    have kk : ∀ p ∈ _, H' p = H p := fun p m => k p (List.mem_append_left _ m) fun z => n p m (h2 p (List.mem_cons_of_mem _ z))
    exact .ow2 n b nd ((kk _ List.mem_cons_self).trans c) (cs.mono (Same.refl _) fun p m => kk p (List.mem_cons_of_mem _ m)) (EnvR.mut2 t (i := i) h e h4 (fun x m => k x (List.mem_append_right _ m)) cs')
theorem cells_set {p : Addr} {ds : List D} : ∀ {ps : List Addr} {dss : List (List D)} {k : Nat}, ps.Nodup → ps[k]? = some p → Cells K B H ps dss → (∀ b, b ≠ p → H' b = H b) → Cell K B H' p (.lst ds) → Cells K B H' ps (dss.set k ds)
  | _, _, _, _, h, .nil, _, _ => by simp at h
  | q :: ps, d :: dss, 0, nd, h, .cons c t, e, cn => by
    simp at h
    subst h
    exact .cons cn (Cells.mono (Same.refl _) (fun x m => e x fun z => (List.nodup_cons.mp nd).1 (z ▸ m)) t)
  | q :: ps, d :: dss, k + 1, nd, h, .cons c t, e, cn => by
    have nq : q ≠ p := fun z => (List.nodup_cons.mp nd).1 (z ▸ List.mem_of_getElem? (i := k) h)
    exact .cons (Cell.mono (Same.refl _) (e q nq) c) (cells_set (List.nodup_cons.mp nd).2 (k := k) h t e cn)
end
section
variable {Z : Zc} {B B' H H' F : Hp} {σ : L2.St} {ρ : List Sl} {W : List Res} {A G : List Addr} {P : AEnds} {te : TE} {i j : Nat}
theorem Rel.grow (r : Rel Z B H σ ρ W A G) (s : Same H H') : Rel Z B H' σ ρ W A G where
  b0 := r.b0
  bh := r.bh.trans s
  hh := fun a o e n => s a o (r.hh a o e n)
  dom := fun a e z => r.dom a e (s.free z)
  old := r.old
  env := r.env.mono (Same.refl _) (fun a m => (r.env.there a m).1) fun a m => by
    cases e : H a with
    | none => exact absurd e (r.env.there a m).2
    | some o => exact s a o e
  res := r.res.mono (Same.refl _) (fun a m => (r.res.there a m).1) fun a m => by
    cases e : H a with
    | none => exact absurd e (r.res.there a m).2
    | some o => exact s a o e
  nd := r.nd
  na := r.na
  ng := r.ng
/-- x = [list(row) for row in te] -/
theorem aw_copy2 {vs : List Nat} (hv : vs = [j]) (hjl : j < ρ.length) (h : AE Z.K te ρ fun d => ∃ dss : List (List D), d = .lst (dss.map .lst) ∧ dss.length < 100000 ∧ P.nx (ρ.set i (.ow2 dss)) W) :
    AW Z (tAsg (tLc (iList Z.K te) (gName j) tYes (tCB (qListOf Z.K) (tCons (tVar j) tNil)) vs) (gName i)) ρ W P := by
  subst hv
  intro F R ok B H σ A G s r
  refine w_lcL (h B H σ r.bh r.env.envS _ fun d v H1 ⟨dss, ed, hl, hn⟩ s1 dv => ?_)
  subst ed
  have r1 := r.step s1
  cases dv with
  | @lst a vs _ h1 h2 =>
    have hS : SqL Z.K H1 a vs := Sq_of (r1.bh _ _ h1)
    have hvl := h2.len
    rw [List.length_map] at hvl
    refine lcNew (K := Z.K) hS (fun k ws => ∃ ds, dss[k]? = some ds ∧ DvL Z.K (ext B H H1) ws ds) (by omega) (wipe_one σ j) ?_ ?_
    · intro k v H2 hi s2 Qe qe
      obtain ⟨dx, e1, e2⟩ := h2.at' hi
      rw [List.getElem?_map] at e1
      cases e : dss[k]? with
      | none => rw [e] at e1; cases e1
      | some ds =>
        rw [e] at e1
        cases e1
        cases e2 with
        | @lst b us _ g1 g2 =>
          have hj : ((L2.wipe σ [j]).set j (some (V.ref b)))[j]? = some (some (V.ref b)) := List.getElem?_set_self (by
            rw [wipe_length, ← r.env.len]
            exact hjl)
          refine w_cb (w_cons (w_var hj (w_nil ?_)))
          exact w_listL (Sq_of (s2 _ _ (r1.bh _ _ g1))) fun p H3 np s3 hp => qe p H3 _ np s3 hp ⟨ds, e, g2⟩
    · intro D0 H' ps nD s2 hD nDp nd hf hl2 hpp
      have rg := r1.grow s2
      have nb : ∀ p ∈ D0 :: ps, (ext B H H1) p = none := fun p m => by
        have hp : H1 p = none := (List.mem_cons.mp m).elim (fun e => e ▸ nD) (hf p)
        exact r1.bh.free hp
      have nA : ∀ p ∈ D0 :: ps, p ∉ A := fun p m z => (r1.env.there p z).2 ((List.mem_cons.mp m).elim (fun e => e ▸ nD) (hf p))
      have cs : Cells Z.K (ext B H H1) H' ps dss := by
        refine paired_of (by rw [hl2, hvl]) fun k p ds hp hd => ?_
        obtain ⟨ws, e1, ds', e2, e3⟩ := hpp k p hp
        rw [hd] at e2
        cases e2
        exact ⟨ws, e1, e3⟩
      obtain ⟨A', g1, g2⟩ := rg.env.setOw2 nb (List.nodup_cons.mpr ⟨nDp, nd⟩) hD cs nA i
      have n0 : ∀ p ∈ D0 :: ps, Z.H0 p = none := fun p m => by
        cases e : Z.H0 p with
        | none => rfl
        | some o => exact absurd ((List.mem_cons.mp m).elim (fun e => e ▸ nD) (hf p)) (r1.dom p (ne_none e))
      refine ok.nx hn (s.trans (ext_l r.bh)) (A := A') (G := G) { rg with env := g2, nd := fun x m => ?_, na := fun x m => ?_ }
      · rcases g1 x m with m | m
        · exact fun z => (r1.res.there x z).2 ((List.mem_cons.mp m).elim (fun e => e ▸ nD) (hf x))
        · exact r1.nd x m
      · rcases g1 x m with m | m
        · exact n0 x m
        · exact r1.na x m
/-- the lists at ps change, of a slot -/
theorem Rel.mut2 {dss dss' : List (List D)} {a : Addr} {ps : List Addr} {p : Addr} {o : HO} (r : Rel Z B H σ ρ W A G) (h : ρ[i]? = some (.ow2 dss)) (hs : σ[i]? = some (some (.ref a))) (ha : H a = some (.lst (ps.map V.ref))) (hA : ∀ p ∈ a :: ps, p ∈ A) (hp : p ∈ ps)
    (cs : Cells Z.K B (upd H p o) ps dss') : Rel Z B (upd H p o) σ (ρ.set i (.ow2 dss')) W A G := by
  have pA : p ∈ A := hA p (List.mem_cons_of_mem _ hp)
  have ne : ∀ b, Z.H0 b ≠ none → b ≠ p := fun b n z => n (z ▸ r.na p pA)
  have nb : ∀ b o, B b = some o → b ≠ p := fun b o e z => by rw [z, (r.env.there p pA).1] at e; cases e
  exact { b0 := r.b0, bh := fun b o' e => by rw [upd_ne (nb b o' e)]; exact r.bh b o' e, hh := fun b o' e n => by rw [upd_ne (ne b (ne_none e))]; exact r.hh b o' e n,
          dom := fun b n => by rw [upd_ne (ne b n)]; exact r.dom b n, old := r.old, env := r.env.mut2 h hs ha (fun b _ n => upd_ne fun z => n (z ▸ hp)) cs,
          res := r.res.mono (Same.refl _) (fun b m => (r.res.there b m).1) (fun b m => upd_ne fun z => r.nd p pA (z ▸ m)), nd := r.nd, na := r.na, ng := r.ng }
theorem set_drop {α : Type} {a b : List α} {x y : α} {k : Nat} (hk : a.length = k) : (a ++ x :: b).set k y = a ++ y :: b := by
  subst hk
  rw [List.set_append_right _ _ (Nat.le_refl _), Nat.sub_self]
  rfl
theorem EnvR.unSet {K : PySem.W.Frag} {o : Option V} : ∀ {σ : L2.St} {ρ : List Sl} {A : List Addr}, EnvR K B H σ ρ A → ∀ {j : Nat}, ρ[j]? = some .un → EnvR K B H (σ.set j o) ρ A
  | _, _, _, .nil, j, h => by simp at h
  | _, _, _, .un t, 0, h => .un t
  | _, _, _, .sh _ t, 0, h => by simp at h
  | _, _, _, .own _ _ _ t, 0, h => by simp at h
  | _, _, _, .ow2 _ _ _ _ _ t, 0, h => by simp at h
  | _, _, _, .un t, j + 1, h => .un (EnvR.unSet t (j := j) h)
  | _, _, _, .sh q t, j + 1, h => .sh q (EnvR.unSet t (j := j) h)
  | _, _, _, .own n b c t, j + 1, h => .own n b c (EnvR.unSet t (j := j) h)
  | _, _, _, .ow2 n b nd c cs t, j + 1, h => .ow2 n b nd c cs (EnvR.unSet t (j := j) h)
theorem set_get {α : Type} {xs : List α} {i : Nat} {x : α} (h : xs[i]? = some x) : xs.set i x = xs := by
  refine List.ext_getElem? fun m => ?_
  by_cases c : i = m
  · subst c
    rw [List.getElem?_set_self (List.getElem?_eq_some_iff.mp h).1, h]
  · rw [List.getElem?_set_ne c]
def half (dss : List (List D)) (k : Nat) : List (List D) := (dss.take k).map (fun _ => []) ++ dss.drop k
theorem half_next {dss : List (List D)} {k : Nat} (hk : k < dss.length) : (half dss k).set k [] = half dss (k + 1) := by
  unfold half
  rw [List.drop_eq_getElem_cons hk, set_drop (by rw [List.length_map, List.length_take]; omega), List.take_add_one, List.getElem?_eq_getElem hk, List.map_append]
  simp
/-- for row in x: row.clear() -/
theorem aw_clearAll {dss : List (List D)} (e : ρ[i]? = some (.ow2 dss)) (hij : i ≠ j) (hjl : j < ρ.length) (h : P.nx ((ρ.set i (.ow2 (dss.map fun _ => []))).set j .un) W) :
    AW Z (tFor (iList Z.K (tVar i)) (gName j) (tDrop (tBM0 Z.K "list" rClear (tVar j)))) ρ W P := fun F R ok B H σ A G s r => by
  obtain ⟨a, ps, h1, h2, nd, ha, cs⟩ := r.env.getOw2 e
  have hlen : ps.length = dss.length := Paired.length cs
  refine w_forL ⟨_, h1, ?_⟩
  refine forL (K := Z.K) (Sq_of ha) (fun k σ' H' => σ'[i]? = some (some (.ref a)) ∧ H' a = some (.lst (ps.map V.ref)) ∧ Cells Z.K B H' ps (half dss k) ∧ σ'.length = ρ.length ∧ ∃ A', Rel Z B H' σ' ((ρ.set i (.ow2 (half dss k))).set j .un) W A' G)
    ⟨h1, ha, cs, r.env.len.symm, ?_⟩ (fun k σ' H' _ p => Sq_of p.2.1) ?_ ?_
  · rw [show half dss 0 = dss from rfl, set_get e]
    obtain ⟨A', g1, g2⟩ := r.env.setUn j
    exact ⟨A', r.slots g2 g1⟩
  · rintro k v σ' H' hv ⟨q1, q2, q3, q5, A', q4⟩
    rw [List.getElem?_map] at hv
    cases ep : ps[k]? with
    | none => rw [ep] at hv; cases hv
    | some p =>
      rw [ep] at hv
      cases hv
      have hk : k < dss.length := by
        have := (List.getElem?_eq_some_iff.mp ep).1
        omega
      have mp := List.mem_of_getElem? ep
      have hjs : j < σ'.length := by rw [q5]; exact hjl
      obtain ⟨ds, hds, vs, hvs, _⟩ := paired_at (F := fun p ds => Cell Z.K B H' p (.lst ds)) q3 ep
      have ap : a ≠ p := fun z => (List.nodup_cons.mp nd).1 (z ▸ mp)
      refine ⟨_, List.getElem?_set_self hjs, .inl ⟨rfl, _, Sq_of hvs⟩, p, vs, rfl, rfl, hvs, ?_⟩
      have cs' : Cells Z.K B (upd H' p (.lst [])) ps (half dss (k + 1)) := by
        rw [← half_next hk]
        exact cells_set (List.nodup_cons.mp nd).2 ep q3 (fun b hb => upd_ne hb) ⟨[], upd_same, .nil⟩
      have ei : ((ρ.set i (.ow2 (half dss k))).set j .un)[i]? = some (.ow2 (half dss k)) := by
        rw [List.getElem?_set_ne (Ne.symm hij), List.getElem?_set_self (List.getElem?_eq_some_iff.mp e).1]
      obtain ⟨a2, ps2, g1, g2, _, g4, _⟩ := q4.env.getOw2 ei
      rw [q1] at g1
      cases g1
      rw [q2] at g4
      have eps : ps = ps2 := List.map_inj_right (fun x y z => V.ref.inj z) |>.mp (HO.lst.inj (Option.some.inj g4))
      subst eps
      have r2 := q4.mut2 ei q1 q2 g2 mp cs'
      have er : ((ρ.set i (.ow2 (half dss k))).set j .un).set i (.ow2 (half dss (k + 1))) = (ρ.set i (.ow2 (half dss (k + 1)))).set j .un := by
        rw [List.set_comm _ _ (Ne.symm hij), List.set_set]
      rw [er] at r2
      refine ⟨by rw [List.getElem?_set_ne (Ne.symm hij)]; exact q1, by rw [upd_ne ap]; exact q2, cs', by rw [List.length_set]; exact q5, A', r2.slots (r2.env.unSet (List.getElem?_set_self (by rw [List.length_set]; exact hjl))) fun _ m => m⟩
  · rintro σ' H' ⟨q1, q2, q3, q5, A', q4⟩
    rw [List.length_map, hlen, show half dss dss.length = dss.map fun _ => [] by unfold half; rw [List.take_length, List.drop_length, List.append_nil]] at q4
    exact ok.nx h s q4
end
section
variable {K : PySem.W.Frag} {B0 H0 : Hp} {F0 : List Addr} {ρ : List Sl} {W : List Res} {n bk ct : List Sl → List Res → Prop} {r rn : D → List Res → Prop} {te : TE} {i j : Nat}
theorem s_copy2 {vs : List Nat} (hv : vs = [j]) (hjl : j < ρ.length) (h : AE K te ρ fun d => ∃ dss : List (List D), d = .lst (dss.map .lst) ∧ dss.length < 100000 ∧ n (ρ.set i (.ow2 dss)) W) :
    AW ⟨K, B0, H0, F0⟩ (tAsgN (tLc (iList K te) (gName j) tYes (tCB (qListOf K) (tCons (tVar j) tNil)) vs) i) ρ W ⟨n, r, rn, bk, ct⟩ := aw_copy2 (Z := ⟨K, B0, H0, F0⟩) (P := ⟨n, r, rn, bk, ct⟩) hv hjl h
theorem s_clearAll {dss : List (List D)} (e : ρ[i]? = some (.ow2 dss)) (hij : i ≠ j) (hjl : j < ρ.length) (h : n ((ρ.set i (.ow2 (dss.map fun _ => []))).set j .un) W) :
    AW ⟨K, B0, H0, F0⟩ (tFor (iList K (tVar i)) (gName j) (tDrop (tBM0 K "list" rClear (tVar j)))) ρ W ⟨n, r, rn, bk, ct⟩ := aw_clearAll (Z := ⟨K, B0, H0, F0⟩) (P := ⟨n, r, rn, bk, ct⟩) e hij hjl h
theorem s_copy2H {vs : List Nat} (hv : vs = [j]) (hjl : j < ρ.length) (h : AE K te ρ fun d => ∃ dss : List (List D), d = .lst (dss.map .lst) ∧ dss.length < 100000 ∧ n (ρ.set i (.ow2 dss)) W) :
    AW ⟨K, B0, H0, F0⟩ (tAsgH (tLc (iList K te) (gName j) tYes (tCB (qListOf K) (tCons (tVar j) tNil)) vs) i) ρ W ⟨n, r, rn, bk, ct⟩ := aw_copy2 (Z := ⟨K, B0, H0, F0⟩) (P := ⟨n, r, rn, bk, ct⟩) hv hjl h
end
theorem ow2_eq (rss : List (List Str)) : D.lst ((rss.map fun r => r.map D.str).map D.lst) = eRs rss := by
  rw [List.map_map]
  rfl
end Tg

/-! The engine: names that are drawn. -/
namespace Tg
open PySem PySem.Spec L2
def mkS (l : List Nat) : Str := ⟨l.toArray⟩
theorem mkS_list (l : List Nat) : (mkS l).cps.toList = l := rfl
theorem mkS_len (l : List Nat) : (mkS l).length = l.length := by rw [← slen_list, mkS_list]
theorem mkS_snoc (l : List Nat) (c : Nat) : mkS l ++ ⟨#[c]⟩ = mkS (l ++ [c]) := s_ext (by rw [sapp_list, mkS_list, mkS_list])
theorem mkS_next (f : Nat → Nat) (j : Nat) : mkS ((List.range j).map f) ++ ⟨#[f j]⟩ = mkS ((List.range (j + 1)).map f) := by
  rw [mkS_snoc, List.range_succ, List.map_append]
  rfl
theorem mkS_app (l m : List Nat) : mkS l ++ mkS m = mkS (l ++ m) := s_ext (by rw [sapp_list, mkS_list, mkS_list, mkS_list])
theorem mkS_inj {l m : List Nat} (h : mkS l = mkS m) : l = m := by
  rw [← mkS_list l, h, mkS_list]
theorem mkS_nil : Str.ofString "" = mkS [] := s_ext rfl
theorem mkS_of (z : Str) : z = mkS z.cps.toList := s_ext rfl
def lows (l : List Nat) : Prop := ∀ c ∈ l, 97 ≤ c ∧ c ≤ 122
theorem okS_mkS {l : List Nat} (hl : l.length ≤ 10000) (h : lows l) : okS (mkS l) := okS_of (by rw [mkS_len]; exact hl) fun c m => by
  have := h c m
  omega
theorem nameOk_mkS {l : List Nat} (h1 : 1 ≤ l.length) (h8 : l.length ≤ 8) (h : lows l) : nameOk (.str (mkS l)) = true := by
  have e1 : decide (1 ≤ (mkS l).length) = true := decide_eq_true (by rw [mkS_len]; exact h1)
  have e2 : decide ((mkS l).length ≤ 8) = true := decide_eq_true (by rw [mkS_len]; exact h8)
  show (decide (1 ≤ (mkS l).length) && (decide ((mkS l).length ≤ 8) && (mkS l).cps.toList.all lower)) = true
  rw [e1, e2, mkS_list]
  rw [Bool.true_and, Bool.true_and, List.all_eq_true]
  intro c m
  have := h c m
  simp [lower, this.1, this.2]
theorem nameOk_iff {z : Str} : nameOk (.str z) = true ↔ 1 ≤ z.length ∧ z.length ≤ 8 ∧ lows z.cps.toList := by
  unfold nameOk
  rw [Bool.and_eq_true, Bool.and_eq_true, decide_eq_true_eq, decide_eq_true_eq, List.all_eq_true]
  refine and_congr Iff.rfl (and_congr Iff.rfl ⟨fun h c m => ?_, fun h c m => ?_⟩)
  · have := h c m
    simpa [lower] using this
  · have := h c m
    simpa [lower] using this
theorem okS_name {z : Str} (h : nameOk (.str z) = true) : okS z := by
  obtain ⟨_, h2, h3⟩ := nameOk_iff.mp h
  exact okS_of (by omega) fun c m => by
    have := h3 c m
    omega
/-- letters -/
def sgn (i : Int) : Nat := 97 + i.toNat
theorem abc_sgn {i : Int} (h0 : 0 ≤ i) (h1 : i < 26) : atI ("abcdefghijklmnopqrstuvwxyz" : Str).cps.toList i = some (sgn i) := by
  have e : ("abcdefghijklmnopqrstuvwxyz" : Str).cps.toList = List.range' 97 26 := by decide +kernel
  rw [e]
  refine atI_of h0 ?_
  rw [List.getElem?_range' (by omega)]
  unfold sgn
  congr 1
  omega
theorem sgn_low {i : Int} (h0 : 0 ≤ i) (h1 : i < 26) : 97 ≤ sgn i ∧ sgn i ≤ 122 := by
  unfold sgn
  omega
theorem join_chars (cs : List Nat) : Txt.join (Str.ofString "") (cs.map fun c => ⟨#[c]⟩) = mkS cs := by
  refine (StrLaws.glued_eq_join _ _).trans ?_
  induction cs with
  | nil => rfl
  | cons c cs ih =>
    cases cs with
    | nil => rfl
    | cons c' cs =>
      show (⟨#[c]⟩ : Str) ++ Str.ofString "" ++ Str.join (Str.ofString "") ((c' :: cs).map fun c => (⟨#[c]⟩ : Str)) = _
      rw [ih]
      refine s_ext ?_
      rw [sapp_list, sapp_list, mkS_list, mkS_list, mkS_nil, mkS_list]
      rfl
theorem nodup_map {α β : Type} {f : α → β} {xs : List α} (nd : xs.Nodup) (h : ∀ a ∈ xs, ∀ b ∈ xs, f a = f b → a = b) : (xs.map f).Nodup := by
  unfold List.Nodup at nd ⊢
  rw [List.pairwise_map]
  exact nd.imp_of_mem fun {a b} ha hb ne e => ne (h a ha b hb e)
theorem erase_map {α β : Type} (f : α → β) : ∀ (xs : List α) (k : Nat), (xs.map f).eraseIdx k = (xs.eraseIdx k).map f
  | [], _ => rfl
  | _ :: _, 0 => rfl
  | x :: xs, k + 1 => by
    rw [List.map_cons, List.eraseIdx_cons_succ, List.eraseIdx_cons_succ, List.map_cons, erase_map f xs k]
theorem erase_perm {α : Type} : ∀ {xs : List α} {k : Nat} {x : α}, xs[k]? = some x → (x :: xs.eraseIdx k).Perm xs
  | [], k, x, h => by simp at h
  | y :: xs, 0, x, h => by
    simp at h
    subst h
    exact List.Perm.refl _
  | y :: xs, k + 1, x, h => by
    rw [List.eraseIdx_cons_succ]
    exact (List.Perm.swap y x _).trans (List.Perm.cons y (erase_perm (k := k) (by simpa using h)))
/-- data of a form, back -/
theorem form_of {α : Type} {f : α → D} {P : α → Prop} : ∀ {ys : List D}, (∀ (i : Nat) y, ys[i]? = some y → ∃ r, y = f r ∧ P r) → ∃ rs : List α, ys = rs.map f ∧ ∀ r ∈ rs, P r
  | [], _ => ⟨[], rfl, fun r m => by cases m⟩
  | y :: ys, h => by
    obtain ⟨r, e, p⟩ := h 0 y rfl
    obtain ⟨rs, e2, p2⟩ := form_of (ys := ys) fun i y hy => h (i + 1) y hy
    refine ⟨r :: rs, by rw [e, e2, List.map_cons], fun z m => ?_⟩
    rcases List.mem_cons.mp m with rfl | m
    · exact p
    · exact p2 z m
/-- places of names in an order -/
theorem idx_lt {t : List Str} (nd : t.Nodup) : t.Pairwise fun a b => t.idxOf a < t.idxOf b := by
  rw [List.pairwise_iff_getElem]
  intro i j hi hj h
  rw [nd.idxOf_getElem i hi, nd.idxOf_getElem j hj]
  exact h
theorem idx_sorted {t r : List Str} (nd : t.Nodup) (h : r.Sublist t) : (r.map fun n => (t.idxOf n : Int)).Pairwise (· ≤ ·) := by
  rw [List.pairwise_map]
  exact (List.Pairwise.sublist h (idx_lt nd)).imp fun h => by omega
theorem ints_one {a b : List Int} (ha : a.Pairwise (· ≤ ·)) (hb : b.Pairwise (· ≤ ·)) (p : a.Perm b) : a = b := perm_sorted (fun a b h g => by omega) ha hb p
theorem nodup_perm {a b : List Str} (ha : a.Nodup) (hb : b.Nodup) (h : ∀ x, x ∈ a ↔ x ∈ b) : a.Perm b := (List.perm_ext_iff_of_nodup ha hb).mpr h
theorem cut_last {α : Type} (xs : List α) : cut xs none (some (-1)) = xs.dropLast := by
  unfold cut
  rw [HT.sIx_none, List.drop_zero, Nat.sub_zero, List.dropLast_eq_take]
  congr 1
  unfold HT.sIx
  simp
  omega
def NamesOk (ns : List Str) : Prop := ns.Nodup ∧ ∀ z ∈ ns, nameOk (.str z) = true
theorem NamesOk.perm {a b : List Str} (h : NamesOk a) (p : b.Perm a) : NamesOk b := ⟨p.nodup_iff.mpr h.1, fun z m => h.2 z (p.subset m)⟩
theorem rot_perm {α : Type} (xs : List α) (k : Nat) : (xs.drop k ++ xs.take k).Perm xs := (List.perm_append_comm).trans (by rw [List.take_append_drop])
/-! names by a base (one place turned on), or its beginnings -/
def nmFull (c : Int) (size at' : Int) (k : Nat) : List Nat := (List.range size.toNat).map fun (j : Nat) => sgn ((mix c j 26 + k * (if (j : Int) = at' then 1 else 0)) % 26)
def nmPre (c : Int) (k : Nat) : List Nat := (List.range (k + 1)).map fun (j : Nat) => sgn (mix c j 26)
def nmSize (c : Int) : Int := 1 + mix c 8 8
def nmOne (c m : Int) (k : Nat) : List Nat := if mix c 10 4 = 1 ∧ m < 9 then nmPre c k else nmFull c (nmSize c) (mix c 9 (nmSize c)) k
def nmAll (c m : Int) : List Str := (List.range m.toNat).map fun k => mkS (nmOne c m k)
def namesM (c m : Int) : List Str := (nmAll c m).drop (mix c 11 m).toNat ++ (nmAll c m).take (mix c 11 m).toNat
theorem nmSize_b (c : Int) : 1 ≤ nmSize c ∧ nmSize c ≤ 8 := by
  have h1 : 0 ≤ mix c 8 8 := mix_nn (by decide)
  have h2 : mix c 8 8 < 8 := mix_lt (by decide)
  unfold nmSize
  omega
theorem mod26 (x : Int) : 0 ≤ x % 26 ∧ x % 26 < 26 := ⟨Int.emod_nonneg _ (by decide), Int.emod_lt_of_pos _ (by decide)⟩
theorem nmFull_low (c s a : Int) (k : Nat) : lows (nmFull c s a k) := fun x m => by
  obtain ⟨j, _, rfl⟩ := List.mem_map.mp m
  exact sgn_low (mod26 _).1 (mod26 _).2
theorem nmPre_low (c : Int) (k : Nat) : lows (nmPre c k) := fun x m => by
  obtain ⟨j, _, rfl⟩ := List.mem_map.mp m
  exact sgn_low (mix_nn (by decide)) (mix_lt (by decide))
theorem nmOne_low (c m : Int) (k : Nat) : lows (nmOne c m k) := by
  unfold nmOne
  split
  · exact nmPre_low c k
  · exact nmFull_low c (nmSize c) (mix c 9 (nmSize c)) k
theorem nmFull_len (c s a : Int) (k : Nat) : (nmFull c s a k).length = s.toNat := by rw [nmFull, List.length_map, List.length_range]
theorem nmPre_len (c : Int) (k : Nat) : (nmPre c k).length = k + 1 := by rw [nmPre, List.length_map, List.length_range]
theorem nmOne_len {c m : Int} {k : Nat} (hk : k < m.toNat) : 1 ≤ (nmOne c m k).length ∧ (nmOne c m k).length ≤ 8 := by
  have := nmSize_b c
  unfold nmOne
  split
  · rename_i h
    rw [nmPre_len]
    omega
  · rw [nmFull_len]
    omega
theorem nmOne_inj {c m : Int} (hm : m ≤ 26) {k l : Nat} (hk : k < m.toNat) (hl : l < m.toNat) (h : nmOne c m k = nmOne c m l) : k = l := by
  unfold nmOne at h
  split at h
  · have := congrArg List.length h
    rw [nmPre_len, nmPre_len] at this
    omega
  · have hs := nmSize_b c
    have a0 : 0 ≤ mix c 9 (nmSize c) := mix_nn (by omega)
    have a1 : mix c 9 (nmSize c) < nmSize c := mix_lt (by omega)
    have e := congrArg (fun x : List Nat => x[(mix c 9 (nmSize c)).toNat]?) h
    have hj : (mix c 9 (nmSize c)).toNat < (nmSize c).toNat := by omega
    simp only [nmFull, List.getElem?_map, List.getElem?_range hj, Option.map_some, Option.some.injEq, sgn] at e
    rw [if_pos (by omega)] at e
    have h1 := mod26 (mix c (mix c 9 (nmSize c)).toNat 26 + k * 1)
    have h2 := mod26 (mix c (mix c 9 (nmSize c)).toNat 26 + l * 1)
    omega
theorem nmAll_ok {c m : Int} (hm : m ≤ 26) : NamesOk (nmAll c m) := by
  refine ⟨?_, fun z h => ?_⟩
  · unfold nmAll
    refine nodup_map List.nodup_range fun a ha b hb e => ?_
    exact nmOne_inj hm (List.mem_range.mp ha) (List.mem_range.mp hb) (mkS_inj e)
  · obtain ⟨k, hk, rfl⟩ := List.mem_map.mp h
    have := nmOne_len (c := c) (List.mem_range.mp hk)
    exact nameOk_mkS this.1 this.2 (nmOne_low c m k)
theorem namesM_ok {c m : Int} (hm : m ≤ 26) : NamesOk (namesM c m) := (nmAll_ok hm).perm (rot_perm _ _)
theorem namesM_len {c m : Int} : (namesM c m).length = m.toNat := by
  unfold namesM
  rw [(rot_perm _ _).length_eq, nmAll, List.length_map, List.length_range]
/-! ### what is asked of the helpers of a law -/
def cellOf (ns : List Int) (k : Int) : Int := ns.getD k.toNat 0
def T_l_cell (ds : List D) (q : D → Prop) : Prop := ∃ (ns : List Int) (k : Int), ds = [.fls (ns.map .int), .int k] ∧ 0 ≤ k ∧ q (.int (cellOf ns k))
theorem u_cell {ns : List Int} {k : Int} {q : D → Prop} (h0 : 0 ≤ k) (h : q (.int (cellOf ns k))) : T_l_cell [.fls (ns.map .int), .int k] q := ⟨ns, k, rfl, h0, h⟩
def T_l_mix (ds : List D) (q : D → Prop) : Prop := ∃ c t m : Int, ds = [.int c, .int t, .int m] ∧ (0 ≤ t ∧ t ≤ 1000) ∧ 0 < m ∧ q (.int (mix c t m))
theorem u_mix {c t m : Int} {q : D → Prop} (h1 : 0 ≤ t ∧ t ≤ 1000) (h2 : 0 < m) (h : q (.int (mix c t m))) : T_l_mix [.int c, .int t, .int m] q := ⟨c, t, m, rfl, h1, h2, h⟩
def T_l_names (ds : List D) (q : D → Prop) : Prop := ∃ c m : Int, ds = [.int c, .int m] ∧ (1 ≤ m ∧ m ≤ 26) ∧ q (eNs (namesM c m))
theorem u_names {c m : Int} {q : D → Prop} (h1 : 1 ≤ m ∧ m ≤ 26) (h : q (eNs (namesM c m))) : T_l_names [.int c, .int m] q := ⟨c, m, rfl, h1, h⟩
theorem map_at {α β : Type} {f : α → β} {xs : List α} {i : Nat} {x : α} (h : xs[i]? = some x) : (xs.map f)[i]? = some (f x) := by rw [List.getElem?_map, h]; rfl
theorem abc_ok : okS "abcdefghijklmnopqrstuvwxyz" := okS_of (by decide +kernel) (by decide +kernel)
def T_l_shuffled (ds : List D) (q : D → Prop) : Prop := ∃ (c t : Int) (ns : List Str), ds = [.int c, .int t, eNs ns] ∧ (0 ≤ t ∧ t ≤ 500) ∧ ns.length ≤ 400 ∧ ∀ ys : List Str, ys.Perm ns → q (eNs ys)
theorem u_shuffled {c t : Int} {ns : List Str} {q : D → Prop} (h1 : 0 ≤ t ∧ t ≤ 500) (h2 : ns.length ≤ 400) (h : ∀ ys : List Str, ys.Perm ns → q (eNs ys)) : T_l_shuffled [.int c, .int t, eNs ns] q := ⟨c, t, ns, rfl, h1, h2, h⟩
end Tg

/-! The engine: names that are drawn, of another kind. -/
namespace Tg
open PySem PySem.Spec L2
def drwC (ns : List Int) (k : Int) : Int := if k % 63 < (ns.length : Int) then ns.getD (k % 63).toNat 0 else 2 * (7919 * k + 13)
def drw (ns : List Int) (k m : Int) : Int := mix (drwC ns k) (k / 63) m
theorem drw_nn {ns : List Int} {k m : Int} (h : 0 < m) : 0 ≤ drw ns k m := mix_nn h
theorem drw_lt {ns : List Int} {k m : Int} (h : 0 < m) : drw ns k m < m := mix_lt h
def T_l_drawn (ds : List D) (q : D → Prop) : Prop := ∃ (ns : List Int) (k m : Int), ds = [.fls (ns.map .int), .int k, .int m] ∧ (0 ≤ k ∧ k ≤ 60000) ∧ 0 < m ∧ q (.int (drw ns k m))
theorem u_drw {ns : List Int} {k m : Int} {q : D → Prop} (h1 : 0 ≤ k ∧ k ≤ 60000) (h2 : 0 < m) (h : q (.int (drw ns k m))) : T_l_drawn [.fls (ns.map .int), .int k, .int m] q := ⟨ns, k, m, rfl, h1, h2, h⟩
theorem cutS_mkS {l : List Nat} {lo hi : Option Int} : cutS (mkS l) lo hi = mkS (cut l lo hi) := s_ext rfl
theorem cutM {α : Type} (xs : List α) {i j : Int} (h0 : 0 ≤ i) (h : i ≤ j) : cut xs (some i) (some j) = (xs.drop i.toNat).take (j - i).toNat := by
  have e1 : HT.sIx xs.length 0 (some i) = min i.toNat xs.length := by unfold HT.sIx; simp; omega
  have e2 : HT.sIx xs.length xs.length (some j) = min j.toNat xs.length := by unfold HT.sIx; simp; omega
  unfold cut
  rw [e1, e2]
  by_cases c : i.toNat ≤ xs.length
  · rw [Nat.min_eq_left c]
    by_cases c2 : j.toNat ≤ xs.length
    · rw [Nat.min_eq_left c2]
      congr 1
      omega
    · rw [Nat.min_eq_right (by omega), List.take_of_length_le (by rw [List.length_drop]; omega), List.take_of_length_le (by rw [List.length_drop]; omega)]
  · rw [Nat.min_eq_right (by omega), List.drop_of_length_le (by omega), List.drop_of_length_le (by omega)]
    simp
def basN (f s : Int) : List Nat := (List.range 8).map fun (j : Nat) => sgn ((f + j * s) % 26)
def nmR (f s : Int) (size place : Int) (k : Nat) : List Nat := (basN f s).take place.toNat ++ [sgn ((f + place * s + k) % 26)] ++ ((basN f s).drop (place + 1).toNat).take (size - (place + 1)).toNat
def nmB (f s : Int) (k : Nat) : List Nat := (basN f s).take (k + 1)
theorem basN_low (f s : Int) : lows (basN f s) := fun x m => by
  obtain ⟨j, _, rfl⟩ := List.mem_map.mp m
  exact sgn_low (mod26 _).1 (mod26 _).2
theorem basN_len (f s : Int) : (basN f s).length = 8 := by rw [basN, List.length_map, List.length_range]
theorem nmR_low (f s size place : Int) (k : Nat) : lows (nmR f s size place k) := fun x m => by
  rcases List.mem_append.mp m with m | m
  · rcases List.mem_append.mp m with m | m
    · exact basN_low f s x (List.mem_of_mem_take m)
    · rw [List.mem_singleton.mp m]
      exact sgn_low (mod26 _).1 (mod26 _).2
  · exact basN_low f s x (List.mem_of_mem_drop (List.mem_of_mem_take m))
theorem nmR_len {f s size place : Int} {k : Nat} (h0 : 0 ≤ place) (h1 : place < size) (h8 : size ≤ 8) : (nmR f s size place k).length = size.toNat := by
  rw [nmR, List.length_append, List.length_append, List.length_take, List.length_take, List.length_drop, basN_len, List.length_singleton]
  omega
theorem nmB_low (f s : Int) (k : Nat) : lows (nmB f s k) := fun x m => basN_low f s x (List.mem_of_mem_take m)
theorem nmB_len {f s : Int} {k : Nat} (h : k < 8) : (nmB f s k).length = k + 1 := by
  rw [nmB, List.length_take, basN_len]
  omega
theorem nmR_inj {f s size place : Int} {k l : Nat} (h0 : 0 ≤ place) (h8 : place < 8) (hk : k < 26) (hl : l < 26) (h : nmR f s size place k = nmR f s size place l) : k = l := by
  unfold nmR at h
  rw [List.append_assoc, List.append_assoc] at h
  have h1 := List.append_cancel_left h
  have h2 : sgn ((f + place * s + k) % 26) = sgn ((f + place * s + l) % 26) := by
    rw [List.singleton_append, List.singleton_append] at h1
    exact (List.cons.inj h1).1
  have a := mod26 (f + place * s + k)
  have b := mod26 (f + place * s + l)
  unfold sgn at h2
  omega
theorem names_ok_of {m : Nat} {g : Nat → List Nat} (inj : ∀ a b, a < m → b < m → g a = g b → a = b) (hg : ∀ k, k < m → 1 ≤ (g k).length ∧ (g k).length ≤ 8 ∧ lows (g k)) : NamesOk ((List.range m).map fun k => mkS (g k)) := by
  refine ⟨nodup_map List.nodup_range fun a ha b hb e => inj a b (List.mem_range.mp ha) (List.mem_range.mp hb) (mkS_inj e), fun z h => ?_⟩
  obtain ⟨k, hk, rfl⟩ := List.mem_map.mp h
  obtain ⟨h1, h2, h3⟩ := hg k (List.mem_range.mp hk)
  exact nameOk_mkS h1 h2 h3
theorem namesR_ok {f s size place : Int} {m : Nat} (h0 : 0 ≤ place) (h1 : place < size) (h8 : size ≤ 8) (hm : m ≤ 26) : NamesOk ((List.range m).map fun k => mkS (nmR f s size place k)) :=
  names_ok_of (fun a b ha hb e => nmR_inj h0 (by omega) (by omega) (by omega) e) fun k _ => by
    rw [nmR_len h0 h1 h8]
    exact ⟨by omega, by omega, nmR_low _ _ _ _ _⟩
theorem namesB_ok {f s : Int} {m : Nat} (hm : m ≤ 8) : NamesOk ((List.range m).map fun k => mkS (nmB f s k)) :=
  names_ok_of (fun a b ha hb e => by
    have := congrArg List.length e
    rw [nmB_len (by omega), nmB_len (by omega)] at this
    omega) fun k hk => by
    rw [nmB_len (by omega)]
    exact ⟨by omega, by omega, nmB_low _ _ _⟩
theorem NamesOk.rev {zs : List Str} (h : NamesOk zs) : NamesOk zs.reverse := h.perm (List.reverse_perm zs)
def T_l_namesP (ds : List D) (q : D → Prop) : Prop := ∃ (ns : List Int) (a m : Int), ds = [.fls (ns.map .int), .int a, .int m] ∧ (0 ≤ a ∧ a ≤ 50000) ∧ (0 ≤ m ∧ m ≤ 26) ∧ ∀ zs : List Str, NamesOk zs → zs.length = m.toNat → q (eNs zs)
theorem u_namesP {ns : List Int} {a m : Int} {q : D → Prop} (h1 : 0 ≤ a ∧ a ≤ 50000) (h2 : 0 ≤ m ∧ m ≤ 26) (h : ∀ zs : List Str, NamesOk zs → zs.length = m.toNat → q (eNs zs)) : T_l_namesP [.fls (ns.map .int), .int a, .int m] q := ⟨ns, a, m, rfl, h1, h2, h⟩
end Tg

/-! The engine's mathematics: rows merged to one order. -/
namespace Tg
open PySem
abbrev Rws := List (List Str)
def isFree (n : Str) (rows : Rws) : Bool := rows.all fun r => !decide (n ∈ r.drop 1)
def freeHead (rows : Rws) : List Str → Option Str
  | [] => none
  | x :: _ => if isFree x rows = true then some x else none
def nextFree (rows : Rws) : Option Str := rows.findSome? (freeHead rows)
def without (rows : Rws) (n : Str) : Rws := rows.map fun r => r.filter fun y => !decide (y = n)
def allNil (rows : Rws) : Bool := rows.all fun r => decide (r = [])
def isMg : Rws → List Str → Bool
  | rows, [] => allNil rows
  | rows, n :: t => decide (nextFree rows = some n) && isMg (without rows n) t
def total (rows : Rws) : Nat := (rows.map List.length).sum
/-- the names that stand in some row -/
def InR (rows : Rws) (x : Str) : Prop := ∃ r ∈ rows, x ∈ r
theorem isFree_iff {n : Str} {rows : Rws} : isFree n rows = true ↔ ∀ r ∈ rows, n ∉ r.drop 1 := by
  simp [isFree, List.all_eq_true]
theorem nextFree_some {rows : Rws} {n : Str} (h : nextFree rows = some n) : (∃ r ∈ rows, ∃ t, r = n :: t) ∧ isFree n rows = true := by
  obtain ⟨r, hr, e⟩ := List.exists_of_findSome?_eq_some h
  cases r with
  | nil => cases e
  | cons x t =>
    have e' : (if isFree x rows = true then some x else none) = some n := e
    by_cases hf : isFree x rows = true
    · rw [if_pos hf] at e'
      cases e'
      exact ⟨⟨_, hr, t, rfl⟩, hf⟩
    · rw [if_neg hf] at e'
      cases e'
theorem nextFree_none {rows : Rws} (h : nextFree rows = none) : ∀ r ∈ rows, ∀ x t, r = x :: t → isFree x rows = false := by
  intro r hr x t e
  have q := List.findSome?_eq_none_iff.mp h r hr
  subst e
  have q' : (if isFree x rows = true then some x else none) = none := q
  by_cases hf : isFree x rows = true
  · rw [if_pos hf] at q'
    cases q'
  · simpa using hf
theorem allNil_iff {rows : Rws} : allNil rows = true ↔ ∀ r ∈ rows, r = [] := by
  simp [allNil, List.all_eq_true]
theorem allNil_next {rows : Rws} (h : allNil rows = true) : nextFree rows = none := by
  refine List.findSome?_eq_none_iff.mpr fun r hr => ?_
  rw [allNil_iff.mp h r hr]
  rfl
theorem isMg_nil {rows : Rws} {t : List Str} (h : isMg rows t = true) (hn : allNil rows = true) : t = [] := by
  cases t with
  | nil => rfl
  | cons n t =>
    unfold isMg at h
    rw [allNil_next hn] at h
    simp at h
theorem isMg_cons {rows : Rws} {t : List Str} (h : isMg rows t = true) (hn : allNil rows = false) : ∃ n r, t = n :: r ∧ nextFree rows = some n ∧ isMg (without rows n) r = true := by
  cases t with
  | nil =>
    unfold isMg at h
    rw [hn] at h
    cases h
  | cons n t =>
    unfold isMg at h
    rw [Bool.and_eq_true, decide_eq_true_eq] at h
    exact ⟨n, t, rfl, h.1, h.2⟩
theorem isMg_one : ∀ {t t' : List Str} {rows : Rws}, isMg rows t = true → isMg rows t' = true → t = t'
  | [], t', rows, h, h' => (isMg_nil h' h).symm
  | n :: t, [], rows, h, h' => isMg_nil h h'
  | n :: t, n' :: t', rows, h, h' => by
    unfold isMg at h h'
    rw [Bool.and_eq_true, decide_eq_true_eq] at h h'
    rw [h.1] at h'
    cases h'.1
    rw [isMg_one h.2 h'.2]
theorem mem_without {rows : Rws} {n : Str} {r : List Str} : r ∈ without rows n ↔ ∃ r' ∈ rows, r = r'.filter fun y => !decide (y = n) := by
  simp only [without, List.mem_map]
  exact ⟨fun ⟨a, h, e⟩ => ⟨a, h, e.symm⟩, fun ⟨a, h, e⟩ => ⟨a, h, e.symm⟩⟩
theorem inR_without {rows : Rws} {n x : Str} : InR (without rows n) x ↔ InR rows x ∧ x ≠ n := by
  constructor
  · rintro ⟨r, hr, hx⟩
    obtain ⟨r', h', rfl⟩ := mem_without.mp hr
    have := List.mem_filter.mp hx
    exact ⟨⟨r', h', this.1⟩, by simpa using this.2⟩
  · rintro ⟨⟨r, hr, hx⟩, hn⟩
    exact ⟨_, mem_without.mpr ⟨r, hr, rfl⟩, List.mem_filter.mpr ⟨hx, by simpa using hn⟩⟩
theorem total_cons (r : List Str) (rows : Rws) : total (r :: rows) = r.length + total rows := by
  simp [total]
theorem total_without_le : ∀ (rows : Rws) (n : Str), total (without rows n) ≤ total rows
  | [], _ => Nat.le_refl _
  | r :: rows, n => by
    show total ((r.filter fun y => !decide (y = n)) :: without rows n) ≤ _
    rw [total_cons, total_cons]
    have h1 := List.length_filter_le (fun y => !decide (y = n)) r
    have h2 := total_without_le rows n
    omega
theorem total_without_lt : ∀ {rows : Rws} {n : Str}, InR rows n → total (without rows n) < total rows
  | [], n, ⟨_, h, _⟩ => by cases h
  | r :: rows, n, ⟨r', h, hx⟩ => by
    show total ((r.filter fun y => !decide (y = n)) :: without rows n) < _
    rw [total_cons, total_cons]
    have h1 := List.length_filter_le (fun y => !decide (y = n)) r
    have h2 := total_without_le rows n
    rcases List.mem_cons.mp h with e | e
    · subst e
      have h3 : (r'.filter fun y => !decide (y = n)).length < r'.length := by
        rw [List.length_filter_lt_length_iff_exists]
        exact ⟨n, hx, by simp⟩
      omega
    · have h3 := total_without_lt (rows := rows) (n := n) ⟨r', e, hx⟩
      omega
theorem next_in {rows : Rws} {n : Str} (h : nextFree rows = some n) : InR rows n := by
  obtain ⟨⟨r, hr, t, e⟩, _⟩ := nextFree_some h
  exact ⟨r, hr, by rw [e]; exact List.mem_cons_self⟩
/-- what is merged has each name once, and no other -/
theorem isMg_mem : ∀ {t : List Str} {rows : Rws}, isMg rows t = true → ∀ x, x ∈ t ↔ InR rows x
  | [], rows, h, x => by
    constructor
    · intro z
      cases z
    · rintro ⟨r, hr, hx⟩
      rw [allNil_iff.mp h r hr] at hx
      cases hx
  | n :: t, rows, h, x => by
    unfold isMg at h
    rw [Bool.and_eq_true, decide_eq_true_eq] at h
    have ih := isMg_mem h.2 x
    rw [List.mem_cons, ih, inR_without]
    constructor
    · rintro (rfl | ⟨h1, _⟩)
      · exact next_in h.1
      · exact h1
    · intro h1
      by_cases e : x = n
      · exact .inl e
      · exact .inr ⟨h1, e⟩
theorem isMg_nodup : ∀ {t : List Str} {rows : Rws}, isMg rows t = true → t.Nodup
  | [], _, _ => List.nodup_nil
  | n :: t, rows, h => by
    unfold isMg at h
    rw [Bool.and_eq_true, decide_eq_true_eq] at h
    refine List.nodup_cons.mpr ⟨fun m => ?_, isMg_nodup h.2⟩
    exact ((inR_without.mp ((isMg_mem h.2 n).mp m)).2) rfl
theorem filter_of_free {n : Str} : ∀ {r : List Str}, n ∉ r → (r.filter fun y => !decide (y = n)) = r
  | [], _ => rfl
  | x :: r, h => by
    rw [List.filter_cons_of_pos (by
      have : x ≠ n := fun e => h (by rw [e]; exact List.mem_cons_self)
      simpa using this), filter_of_free fun m => h (List.mem_cons_of_mem _ m)]
/-- .. and keeps each row -/
theorem isMg_sub : ∀ {t : List Str} {rows : Rws}, isMg rows t = true → ∀ r ∈ rows, r.Sublist t
  | [], rows, h, r, hr => by
    rw [allNil_iff.mp h r hr]
    exact List.Sublist.refl _
  | n :: t, rows, h, r, hr => by
    unfold isMg at h
    rw [Bool.and_eq_true, decide_eq_true_eq] at h
    have ih := isMg_sub h.2 _ (mem_without.mpr ⟨r, hr, rfl⟩)
    have fr := isFree_iff.mp (nextFree_some h.1).2 r hr
    cases r with
    | nil => exact List.nil_sublist _
    | cons x r =>
      have fr' : n ∉ r := fr
      by_cases e : x = n
      · subst e
        rw [List.filter_cons_of_neg (by simp), filter_of_free fr'] at ih
        exact ih.cons_cons _
      · rw [filter_of_free (fun m => (List.mem_cons.mp m).elim (fun z => e z.symm) fr')] at ih
        exact ih.cons _
theorem isMg_len {t : List Str} {rows : Rws} (h : isMg rows t = true) : t.length ≤ total rows := by
  induction t generalizing rows with
  | nil => exact Nat.zero_le _
  | cons n t ih =>
    unfold isMg at h
    rw [Bool.and_eq_true, decide_eq_true_eq] at h
    have h1 := ih h.2
    have h2 := total_without_lt (next_in h.1)
    rw [List.length_cons]
    omega
/-- where rows have a common order, a free name is there -/
theorem next_of_order {order : List Str} (nd : order.Nodup) : ∀ {rows : Rws}, (∀ r ∈ rows, r.Sublist order) → allNil rows = false → ∃ n, nextFree rows = some n := by
  induction order with
  | nil =>
    intro rows hs hn
    have : allNil rows = true := allNil_iff.mpr fun r hr => List.sublist_nil.mp (hs r hr)
    rw [this] at hn
    cases hn
  | cons a order ih =>
    intro rows hs hn
    by_cases ha : InR rows a
    · -- a is first of each row that has it
      obtain ⟨r, hr, hx⟩ := ha
      have first : ∀ r ∈ rows, a ∉ r.drop 1 := by
        intro r hr
        have h := hs r hr
        cases r with
        | nil => exact fun z => by cases z
        | cons x r =>
          intro m
          have m' : a ∈ r := m
          have na : a ∉ order := (List.nodup_cons.mp nd).1
          cases h with
          | cons _ h => exact na (h.subset (List.mem_cons_of_mem _ m'))
          | cons_cons _ h => exact na (h.subset m')
      cases r with
      | nil => cases hx
      | cons x r =>
        have ex : x = a := by
          rcases List.mem_cons.mp hx with e | m
          · exact e.symm
          · exact absurd m (first _ hr)
        cases e : nextFree rows with
        | some n => exact ⟨n, rfl⟩
        | none =>
          have q := nextFree_none e _ hr x r rfl
          rw [ex, isFree_iff.mpr first] at q
          cases q
    · refine ih (List.nodup_cons.mp nd).2 (fun r hr => ?_) hn
      have h := hs r hr
      cases h with
      | cons _ h => exact h
      | cons_cons _ h => exact absurd ⟨_, hr, List.mem_cons_self⟩ ha
theorem without_sub {order : List Str} {rows : Rws} (hs : ∀ r ∈ rows, r.Sublist order) (n : Str) : ∀ r ∈ without rows n, r.Sublist order := by
  intro r hr
  obtain ⟨r', h', rfl⟩ := mem_without.mp hr
  exact List.filter_sublist.trans (hs r' h')
theorem isMg_of_order {order : List Str} (nd : order.Nodup) : ∀ (k : Nat) {rows : Rws}, total rows ≤ k → (∀ r ∈ rows, r.Sublist order) → ∃ t, isMg rows t = true := by
  intro k
  induction k with
  | zero =>
    intro rows hk hs
    refine ⟨[], allNil_iff.mpr fun r hr => ?_⟩
    cases r with
    | nil => rfl
    | cons x r =>
      have h : InR rows x := ⟨_, hr, List.mem_cons_self⟩
      have := total_without_lt h
      omega
  | succ k ih =>
    intro rows hk hs
    cases e : allNil rows with
    | true => exact ⟨[], e⟩
    | false =>
      obtain ⟨n, hn⟩ := next_of_order nd hs e
      have := total_without_lt (next_in hn)
      obtain ⟨t, ht⟩ := ih (rows := without rows n) (by omega) (without_sub hs n)
      refine ⟨n :: t, ?_⟩
      unfold isMg
      rw [ht, decide_eq_true hn]
      rfl
theorem isMg_ne {t t' : List Str} {rows : Rws} (h : isMg rows t = true) (ne : t' ≠ t) : isMg rows t' = false := by
  cases e : isMg rows t' with
  | false => rfl
  | true => exact absurd (isMg_one e h) ne
/-- a bound of what is merged out of parts of an order -/
theorem merged_of {o : List Str} (nd : o.Nodup) {rss : Rws} (hs : ∀ r ∈ rss, r.Sublist o) : ∃ t, isMg rss t = true ∧ t.length ≤ o.length ∧ ∀ x ∈ t, x ∈ o := by
  obtain ⟨t, ht⟩ := isMg_of_order nd _ (Nat.le_refl _) hs
  have sub : ∀ x ∈ t, x ∈ o := fun x hx => by
    obtain ⟨r, hr, hx'⟩ := (isMg_mem ht x).mp hx
    exact (hs r hr).subset hx'
  have pm : t.Perm (o.filter fun x => decide (x ∈ t)) := (List.perm_ext_iff_of_nodup (isMg_nodup ht) (nd.sublist List.filter_sublist)).mpr fun x => by
    rw [List.mem_filter, decide_eq_true_eq]
    exact ⟨fun h => ⟨sub x h, h⟩, fun h => h.2⟩
  exact ⟨t, ht, by rw [pm.length_eq]; exact List.length_filter_le _ _, sub⟩
/-! an order laid in -/
theorem findSome_app {α β : Type} (f : α → Option β) : ∀ a b : List α, (a ++ b).findSome? f = (a.findSome? f).or (b.findSome? f)
  | [], b => by simp
  | x :: a, b => by
    rw [List.cons_append, List.findSome?_cons, List.findSome?_cons]
    cases f x with
    | none => exact findSome_app f a b
    | some y => rfl
theorem free_ins {A B : Rws} {s : List Str} {x : Str} : isFree x (A ++ [s] ++ B) = (isFree x (A ++ B) && !decide (x ∈ s.drop 1)) := by
  unfold isFree
  rw [List.all_append, List.all_append, List.all_append, List.all_cons, List.all_nil, Bool.and_true]
  cases A.all _ <;> cases B.all _ <;> simp
theorem without_app (A B : Rws) (n : Str) : without (A ++ B) n = without A n ++ without B n := List.map_append
theorem isMg_insert : ∀ {t : List Str} {A B : Rws}, isMg (A ++ B) t = true → isMg (A ++ [t] ++ B) t = true
  | [], A, B, h => by
    have h' : allNil (A ++ B) = true := h
    rw [allNil_iff] at h'
    refine allNil_iff.mpr fun r m => ?_
    rcases List.mem_append.mp m with m | m
    · rcases List.mem_append.mp m with m | m
      · exact h' r (List.mem_append_left _ m)
      · exact List.mem_singleton.mp m
    · exact h' r (List.mem_append_right _ m)
  | n :: t, A, B, h => by
    have nd := isMg_nodup h
    have nn : n ∉ t := (List.nodup_cons.mp nd).1
    rw [isMg, Bool.and_eq_true, decide_eq_true_eq] at h
    have hf := (nextFree_some h.1).2
    have fn : isFree n (A ++ [n :: t] ++ B) = true := by
      rw [free_ins, hf]
      simpa using nn
    have key : nextFree (A ++ [n :: t] ++ B) = some n := by
      have h1 := h.1
      unfold nextFree at h1 ⊢
      rw [findSome_app] at h1
      rw [findSome_app, findSome_app]
      have mid : [n :: t].findSome? (freeHead (A ++ [n :: t] ++ B)) = some n := by
        rw [List.findSome?_cons, show freeHead (A ++ [n :: t] ++ B) (n :: t) = some n from if_pos fn]
      rw [mid]
      -- heads that are free in the larger rows are free in the smaller
      have up : ∀ r x, freeHead (A ++ [n :: t] ++ B) r = some x → freeHead (A ++ B) r = some x := by
        intro r x hx
        cases r with
        | nil => cases hx
        | cons y u =>
          have hx' : (if isFree y (A ++ [n :: t] ++ B) = true then some y else none) = some x := hx
          by_cases c : isFree y (A ++ [n :: t] ++ B) = true
          · rw [if_pos c] at hx'
            rw [free_ins, Bool.and_eq_true] at c
            show (if isFree y (A ++ B) = true then some y else none) = some x
            rw [if_pos c.1]
            exact hx'
          · rw [if_neg c] at hx'
            cases hx'
      have same : ∀ C : Rws, (∀ y, C.findSome? (freeHead (A ++ B)) = some y → y = n) → C.findSome? (freeHead (A ++ [n :: t] ++ B)) = none ∨ C.findSome? (freeHead (A ++ [n :: t] ++ B)) = some n := by
        intro C
        induction C with
        | nil => exact fun _ => .inl rfl
        | cons r C ih =>
          intro hC
          rw [List.findSome?_cons]
          cases e : freeHead (A ++ [n :: t] ++ B) r with
          | some x =>
            right
            have e2 := up r x e
            have := hC x (by rw [List.findSome?_cons, e2])
            rw [this]
          | none =>
            cases e2 : freeHead (A ++ B) r with
            | none => exact ih fun y hy => hC y (by rw [List.findSome?_cons, e2]; exact hy)
            | some y =>
              exfalso
              have := hC y (by rw [List.findSome?_cons, e2])
              subst this
              cases r with
              | nil => cases e2
              | cons z u =>
                have e2' : (if isFree z (A ++ B) = true then some z else none) = some y := e2
                by_cases c : isFree z (A ++ B) = true
                · rw [if_pos c] at e2'
                  cases e2'
                  exact absurd (e.symm.trans (if_pos fn)) (by simp)
                · rw [if_neg c] at e2'
                  cases e2'
      have hA := same A fun y hy => by
        rw [hy] at h1
        exact Option.some.inj h1
      rcases hA with e | e <;> rw [e] <;> rfl
    rw [isMg, Bool.and_eq_true, decide_eq_true_eq]
    refine ⟨key, ?_⟩
    have e : without (A ++ [n :: t] ++ B) n = without A n ++ [t] ++ without B n := by
      rw [without_app, without_app]
      congr 2
      show [(n :: t).filter fun y => !decide (y = n)] = [t]
      rw [List.filter_cons_of_neg (by simp), filter_of_free nn]
    rw [e]
    exact isMg_insert (by rw [← without_app]; exact h.2)
theorem isMg_selfs : ∀ {t : List Str} {L : Rws}, (∀ r ∈ L, r = [] ∨ r = t) → (t ∈ L ∨ t = []) → t.Nodup → isMg L t = true
  | [], L, h, _, _ => allNil_iff.mpr fun r m => (h r m).elim id id
  | n :: t, L, h, hm, nd => by
    have nn : n ∉ t := (List.nodup_cons.mp nd).1
    have hm' : n :: t ∈ L := hm.elim id fun z => by cases z
    have fr : isFree n L = true := isFree_iff.mpr fun r m => by
      rcases h r m with e | e <;> rw [e]
      · simp
      · exact nn
    rw [isMg, Bool.and_eq_true, decide_eq_true_eq]
    constructor
    · cases e : nextFree L with
      | none =>
        have := nextFree_none e _ hm' n t rfl
        rw [fr] at this
        cases this
      | some x =>
        obtain ⟨⟨r, hr, u, er⟩, _⟩ := nextFree_some e
        rcases h r hr with e2 | e2
        · rw [e2] at er
          cases er
        · rw [e2] at er
          cases er
          rfl
    · refine isMg_selfs (fun r m => ?_) (.inl ?_) (List.nodup_cons.mp nd).2
      · obtain ⟨r', m', rfl⟩ := mem_without.mp m
        rcases h r' m' with e | e
        · left
          rw [e]
          rfl
        · right
          rw [e, List.filter_cons_of_neg (by simp), filter_of_free nn]
      · exact mem_without.mpr ⟨_, hm', by rw [List.filter_cons_of_neg (by simp), filter_of_free nn]⟩
end Tg

/-! The engine's mathematics: rings of claims. -/
namespace Tg
open PySem
/-- one stands ahead of other in the row at place -/
abbrev Cl := Str × Str × Nat
/-- a claim on the other name, by the first name of a row -/
def ClaimL (rss : Rws) (c : Cl) : Prop := ∃ t, rss[c.2.2]? = some (c.1 :: t) ∧ c.2.1 ∈ t
def chn : List Cl → Str → Prop
  | [], _ => True
  | [c], z => c.1 = z
  | c :: d :: t, z => c.1 = d.2.1 ∧ chn (d :: t) z
theorem chn_snoc : ∀ {cs : List Cl} {z : Str} {c : Cl}, chn cs z → c.2.1 = z → chn (cs ++ [c]) c.1
  | [], _, _, _, _ => rfl
  | [d], _, _, h, e => ⟨h.trans e.symm, rfl⟩
  | d :: e :: t, _, _, h, q => ⟨h.1, chn_snoc (cs := e :: t) h.2 q⟩
theorem chn_drop : ∀ {cs : List Cl} {z : Str} (j : Nat), chn cs z → chn (cs.drop j) z
  | _, _, 0, h => h
  | [], _, _ + 1, _ => trivial
  | [_], _, _ + 1, _ => by simp [chn]
  | _ :: d :: t, _, j + 1, h => chn_drop (cs := d :: t) j h.2
theorem chn_firsts : ∀ {c : Cl} {cs : List Cl} {z : Str}, chn (c :: cs) z → (c :: cs).map (·.1) = cs.map (·.2.1) ++ [z]
  | c, [], z, h => by
    have h' : c.1 = z := h
    simp [h']
  | c, d :: t, z, h => by
    have ih := chn_firsts (c := d) (cs := t) h.2
    rw [List.map_cons, ih, h.1]
    rfl
theorem chn_at : ∀ {cs : List Cl} {z : Str} {k : Nat} {c d : Cl}, chn cs z → cs[k]? = some c → cs[k + 1]? = some d → c.1 = d.2.1
  | [], _, _, _, _, _, h, _ => by simp at h
  | [_], _, 0, _, _, _, _, h => by simp at h
  | [_], _, _ + 1, _, _, _, h, _ => by simp at h
  | a :: b :: t, _, 0, c, d, h, h1, h2 => by
    simp at h1 h2
    subst h1 h2
    exact h.1
  | a :: b :: t, _, k + 1, c, d, h, h1, h2 => chn_at (cs := b :: t) (k := k) h.2 (by simpa using h1) (by simpa using h2)
theorem chn_last : ∀ {cs : List Cl} {z : Str} {c : Cl}, chn cs z → cs[cs.length - 1]? = some c → c.1 = z
  | [], _, _, _, h => by simp at h
  | [a], _, _, h, e => by
    simp at e
    subst e
    exact h
  | a :: b :: t, z, c, h, e => chn_last (cs := b :: t) h.2 (by simpa using e)
theorem len_le_sub : ∀ {xs ys : List Str}, xs.Nodup → (∀ x ∈ xs, x ∈ ys) → xs.length ≤ ys.length
  | [], _, _, _ => Nat.zero_le _
  | x :: xs, ys, nd, h => by
    have n := List.nodup_cons.mp nd
    have hx := h x List.mem_cons_self
    have ih := len_le_sub (xs := xs) (ys := ys.erase x) n.2 fun y hy => (List.mem_erase_of_ne (show y ≠ x from fun e => n.1 (e ▸ hy))).mpr (h y (List.mem_cons_of_mem _ hy))
    rw [List.length_erase_of_mem hx] at ih
    have : 0 < ys.length := List.length_pos_of_mem hx
    rw [List.length_cons]
    omega
structure RingL (rss : Rws) (st : List Cl) : Prop where
  ne : 1 ≤ st.length
  le : st.length ≤ rss.length
  cl : ∀ c ∈ st, ClaimL rss c
  nd : (st.map (·.1)).Nodup
  ln : ∀ (k : Nat) c d, st[k]? = some c → st[k + 1]? = some d → c.2.1 = d.1
  cy : ∀ c d, st[0]? = some c → st[st.length - 1]? = some d → d.2.1 = c.1
def heads (rss : Rws) : List Str := rss.filterMap List.head?
theorem heads_len (rss : Rws) : (heads rss).length ≤ rss.length := List.length_filterMap_le _ _
theorem mem_heads {rss : Rws} {x : Str} : x ∈ heads rss ↔ ∃ t, (x :: t) ∈ rss := by
  unfold heads
  rw [List.mem_filterMap]
  constructor
  · rintro ⟨r, hr, e⟩
    cases r with
    | nil => cases e
    | cons y t =>
      cases e
      exact ⟨t, hr⟩
  · rintro ⟨t, h⟩
    exact ⟨_, h, rfl⟩
/-- where the walk from claim to claim stands -/
structure Wkd (rss : Rws) (cs : List Cl) (nm : Str) : Prop where
  hd : nm ∈ heads rss
  cl : ∀ c ∈ cs, ClaimL rss c
  ch : chn cs nm
  nd : (cs.map (·.2.1)).Nodup
  sn : ∀ x ∈ cs.map (·.2.1), x ∈ heads rss
theorem Wkd.lt {rss : Rws} {cs : List Cl} {nm : Str} (h : Wkd rss cs nm) (n : nm ∉ cs.map (·.2.1)) : cs.length + 1 ≤ rss.length := by
  have q := len_le_sub (xs := nm :: cs.map (·.2.1)) (ys := heads rss) (List.nodup_cons.mpr ⟨n, h.nd⟩) fun x hx => by
    rcases List.mem_cons.mp hx with rfl | hx
    · exact h.hd
    · exact h.sn x hx
  rw [List.length_cons, List.length_map] at q
  have := heads_len rss
  omega
theorem Wkd.step {rss : Rws} {cs : List Cl} {nm : Str} {c : Cl} (h : Wkd rss cs nm) (n : nm ∉ cs.map (·.2.1)) (hc : ClaimL rss c) (e : c.2.1 = nm) : Wkd rss (cs ++ [c]) c.1 := by
  obtain ⟨t, h1, h2⟩ := id hc
  refine ⟨mem_heads.mpr ⟨t, List.mem_of_getElem? h1⟩, fun d hd => ?_, chn_snoc h.ch e, ?_, fun x hx => ?_⟩
  · rcases List.mem_append.mp hd with hd | hd
    · exact h.cl d hd
    · rw [List.mem_singleton.mp hd]
      exact hc
  · rw [List.map_append, List.nodup_append]
    refine ⟨h.nd, List.nodup_cons.mpr ⟨by simp, List.nodup_nil⟩, fun a ha b hb q => ?_⟩
    simp at hb
    rw [hb, e] at q
    exact n (q ▸ ha)
  · rw [List.map_append] at hx
    rcases List.mem_append.mp hx with hx | hx
    · exact h.sn x hx
    · simp at hx
      rw [hx, e]
      exact h.hd
theorem Wkd.ring {rss : Rws} {cs : List Cl} {nm : Str} {j : Nat} (h : Wkd rss cs nm) (hj : (cs.map (·.2.1))[j]? = some nm) : RingL rss (cs.drop j).reverse := by
  have hjl : j < cs.length := by
    have q := (List.getElem?_eq_some_iff.mp hj).1
    rw [List.length_map] at q
    exact q
  rw [List.getElem?_map] at hj
  have ch := chn_drop j h.ch
  have nd2 : ((cs.drop j).map (·.2.1)).Nodup := by
    rw [List.map_drop]
    exact h.nd.sublist (List.drop_sublist _ _)
  have le : (cs.drop j).length ≤ rss.length := by
    have q := len_le_sub (xs := (cs.drop j).map (·.2.1)) (ys := heads rss) nd2 fun x hx => by
      rw [List.map_drop] at hx
      exact h.sn x (List.mem_of_mem_drop hx)
    rw [List.length_map] at q
    exact Nat.le_trans q (heads_len rss)
  have hL : ∃ c L, cs.drop j = c :: L ∧ c.2.1 = nm := by
    rw [List.drop_eq_getElem_cons hjl]
    refine ⟨_, _, rfl, ?_⟩
    rw [List.getElem?_eq_getElem hjl] at hj
    exact Option.some.inj hj
  obtain ⟨c, L, eL, ec⟩ := hL
  have cl : ∀ d ∈ cs.drop j, ClaimL rss d := fun d hd => h.cl d (List.mem_of_mem_drop hd)
  rw [eL] at ch nd2 le cl ⊢
  refine ⟨by rw [List.length_reverse]; exact Nat.succ_le_succ (Nat.zero_le _), by rw [List.length_reverse]; exact le, fun d hd => cl d (List.mem_reverse.mp hd), ?_, fun k a b h1 h2 => ?_, fun a b h1 h2 => ?_⟩
  · rw [List.map_reverse]
    refine (List.reverse_perm _).nodup_iff.mpr ?_
    rw [chn_firsts ch]
    have q : ((c :: L).map (·.2.1)) = nm :: L.map (·.2.1) := by rw [List.map_cons, ec]
    rw [q] at nd2
    exact (List.perm_append_singleton nm _).nodup_iff.mpr nd2
  · have k2 : k + 1 < (c :: L).length := by
      have := (List.getElem?_eq_some_iff.mp h2).1
      rwa [List.length_reverse] at this
    rw [List.getElem?_reverse (by omega)] at h1
    rw [List.getElem?_reverse k2] at h2
    refine (chn_at (k := (c :: L).length - 1 - (k + 1)) ch h2 ?_).symm
    rw [show (c :: L).length - 1 - (k + 1) + 1 = (c :: L).length - 1 - k by omega]
    exact h1
  · rw [List.getElem?_reverse (Nat.succ_le_succ (Nat.zero_le _))] at h1
    rw [List.length_reverse, List.getElem?_reverse (by rw [List.length_cons]; omega)] at h2
    have e1 : a.1 = nm := chn_last ch h1
    have e2 : b = c := by
      have : (c :: L).length - 1 - ((c :: L).length - 1) = 0 := by omega
      rw [this] at h2
      exact (Option.some.inj h2).symm
    rw [e1, e2, ec]
theorem idx_sub {xs ys : List Str} {a b : Str} (h : xs.Sublist ys) (nd : ys.Nodup) (t : List Str) (e : xs = a :: t) (hb : b ∈ t) : a ∈ ys ∧ b ∈ ys ∧ ys.idxOf a < ys.idxOf b := by
  subst e
  have ma := h.subset List.mem_cons_self
  have mb := h.subset (List.mem_cons_of_mem _ hb)
  refine ⟨ma, mb, ?_⟩
  obtain ⟨u, v, rfl, h1, h2⟩ := List.cons_sublist_iff.mp h
  have hv : b ∈ v := h2.subset hb
  rw [List.nodup_append] at nd
  have nb : b ∉ u := fun m => nd.2.2 b m b hv rfl
  rw [List.idxOf_append, List.idxOf_append, if_pos h1, if_neg nb]
  have := List.idxOf_lt_length_iff.mpr h1
  omega
/-! names taken away while they stand behind none -/
def bhd (rss : Rws) (X : List Str) (x : Str) : Prop := ∃ r ∈ rss, x ∈ (r.filter fun y => decide (y ∈ X)).drop 1
/-- there is an order that keeps the rows -/
def Kept (rss : Rws) : Prop := ∃ o : List Str, o.Nodup ∧ ∀ r ∈ rss, r.Sublist o
structure HOrd (rss : Rws) (X P : List Str) : Prop where
  ndP : P.Nodup
  ndX : X.Nodup
  dj : ∀ x ∈ P, x ∉ X
  sp : ∀ r ∈ rss, ∃ a b, r = a ++ b ∧ a.Sublist P ∧ ∀ x ∈ b, x ∈ X
  inr : ∀ x ∈ X, InR rss x
theorem HOrd.step {rss : Rws} {X P bs F : List Str} (h : HOrd rss X P) (hb : ∀ x, x ∈ bs ↔ bhd rss X x) (hF : F = X.filter fun x => !decide (x ∈ bs)) : HOrd rss (X.filter fun x => !decide (x ∈ F)) (P ++ F) := by
  have mF : ∀ x, x ∈ F ↔ x ∈ X ∧ x ∉ bs := fun x => by rw [hF, List.mem_filter]; simp
  have mX : ∀ x, x ∈ (X.filter fun x => !decide (x ∈ F)) ↔ x ∈ X ∧ x ∉ F := fun x => by rw [List.mem_filter]; simp
  refine ⟨?_, h.ndX.sublist List.filter_sublist, fun x hx hn => ?_, fun r hr => ?_, fun x hx => h.inr x ((mX x).mp hx).1⟩
  · rw [List.nodup_append]
    refine ⟨h.ndP, by rw [hF]; exact h.ndX.sublist List.filter_sublist, fun a ha b hb e => ?_⟩
    subst e
    exact h.dj a ha ((mF a).mp hb).1
  · obtain ⟨n1, n2⟩ := (mX x).mp hn
    rcases List.mem_append.mp hx with hx | hx
    · exact h.dj x hx n1
    · exact n2 hx
  · obtain ⟨a, b, e, ha, hbX⟩ := h.sp r hr
    have fl : (r.filter fun y => decide (y ∈ X)) = b := by
      rw [e, List.filter_append]
      have e1 : (a.filter fun y => decide (y ∈ X)) = [] := List.filter_eq_nil_iff.mpr fun y hy => by simpa using h.dj y (ha.subset hy)
      have e2 : (b.filter fun y => decide (y ∈ X)) = b := List.filter_eq_self.mpr fun y hy => by simpa using hbX y hy
      rw [e1, e2]
      rfl
    cases b with
    | nil => exact ⟨a, [], e, ha.trans (List.sublist_append_left _ _), fun x hx => by cases hx⟩
    | cons y tl =>
      have tlX : ∀ x ∈ tl, x ∈ X.filter fun x => !decide (x ∈ F) := fun x hx => (mX x).mpr ⟨hbX x (List.mem_cons_of_mem _ hx), fun hf => ((mF x).mp hf).2 ((hb x).mpr ⟨r, hr, by rw [fl]; exact hx⟩)⟩
      by_cases c : y ∈ F
      · exact ⟨a ++ [y], tl, by rw [e, List.append_assoc]; rfl, ha.append (List.singleton_sublist.mpr c), tlX⟩
      · refine ⟨a, y :: tl, e, ha.trans (List.sublist_append_left _ _), fun x hx => ?_⟩
        rcases List.mem_cons.mp hx with rfl | hx
        · exact (mX _).mpr ⟨hbX _ List.mem_cons_self, c⟩
        · exact tlX x hx
theorem HOrd.done {rss : Rws} {P : List Str} (h : HOrd rss [] P) : Kept rss := ⟨P, h.ndP, fun r hr => by
  obtain ⟨a, b, e, ha, hb⟩ := h.sp r hr
  cases b with
  | nil => rw [e, List.append_nil]; exact ha
  | cons y tl => cases hb y List.mem_cons_self⟩
theorem HOrd.stuck {rss : Rws} {X P : List Str} (h : HOrd rss X P) (hne : X ≠ []) (hb : ∀ x ∈ X, bhd rss X x) : ¬ Kept rss := by
  rintro ⟨o, nd, hs⟩
  have key : ∀ n, ∀ x ∈ X, o.idxOf x = n → False := fun n => by
    induction n using Nat.strongRecOn with
    | _ n ih =>
      intro x hx e
      obtain ⟨r, hr, m⟩ := hb x hx
      cases c : r.filter fun y => decide (y ∈ X) with
      | nil => rw [c] at m; cases m
      | cons y tl =>
        rw [c] at m
        have sb : (y :: tl).Sublist o := by
          rw [← c]
          exact (List.filter_sublist).trans (hs r hr)
        have hy : y ∈ X := by
          have q : y ∈ r.filter fun y => decide (y ∈ X) := by rw [c]; exact List.mem_cons_self
          simpa using (List.mem_filter.mp q).2
        have lt := (idx_sub sb nd tl rfl m).2.2
        exact ih _ (by omega) y hy rfl
  cases X with
  | nil => exact hne rfl
  | cons x t => exact key _ x List.mem_cons_self rfl
end Tg

/-! The engine: refusals. -/
namespace Tg
open PySem PySem.Spec L2 PyProof.Rows
/-- what the written part tells of the class above the refusals, at C0 -/
structure TopC (K : PySem.W.Frag) (C0 : Addr) : Prop where
  ga : PySem.W.specialIn K (.ref C0) "__getattribute__" = some (some (.builtin "type.__getattribute__"))
  rd : PySem.W.readsIn K C0 (.type "type") = true
  ini : PySem.W.findCls K (.ref C0) (.type "type") "__init__" = some (.val (.builtin "ValueError.__init__"))
section
variable {X : Cx} {e : Expr} {es : List Expr} {ta : TA} {p1 p2 pos : Pos} {x : Str} {C0 : Addr}
/-- LookError.__init__(self, ..), LookError an own class straight over ValueError -/
theorem pe_cinit {pl : Sem Bool} (hg : Gl X x) (hm : X.mg x = some (.ref C0)) (T0 : TopC X.K C0) (ha : PA X (e :: es) ta)
    (hdb : (x == ("__debug__" : Str)) = false := by decide)
    (hc : eval (.Call (.Attribute (.Name x p1) "__init__" p2) (e :: es) [] pos) X.env = (do
      let ov ← eval (.Name x p1) X.env
      standAt p2.atName
      let (f, first) ← holding [ov] (getMethod ov "__init__" pl)
      callWith pos f first (backTo pos (starEach (e :: es) X.env)) (backToKw pos (keywordEach [] X.env))) := by rfl)
    (he : starEach (e :: es) X.env = (false, eval e X.env) :: starEach es X.env := by rfl) (hpl : (backTo pos (starEach es X.env)).any (·.1) = false := by rfl) :
    PE X (.Call (.Attribute (.Name x p1) "__init__" p2) (e :: es) [] pos) (tVeI X.K ta) := by
  refine ⟨fun pins s σ H Q I h => ?_⟩
  refine PySem.W.methodCall_KW (ld_glob I hg hm ?_ hdb) hc
  refine PySem.W.method_cls I.kIn T0.ga (PySem.W.cls_value I.kIn T0.rd T0.ini (by decide +kernel) ?_)
  show wpAny _ _ (callWith pos (Value.builtin "ValueError.__init__") [] (backTo pos (starEach (e :: es) X.env)) []) _ _ _
  refine PyProof.Rows.callWith_method1 (thn (ha.run pos pins _ σ H _ (I.tok _) h) fun us s1 ⟨vs, H1, I1, r1, a, C, ws, ev, hl, T, ea, q⟩ => ?_) he hpl
  subst ev
  cases r1 with
  | @cons _ u0 _ ur ra rw' =>
    obtain rfl : u0 = Value.ref a := ra
    have hlen : ur.length ≤ sizeLine := by
      rw [← Paired.length rw', sizeLine_eq]
      omega
    exact oinit_ok T I1 ea hlen fun s' J => ⟨.non, H1, J, rfl, q⟩
end
/-! ### what is told of a refusal -/
theorem DvF.mono {K : PySem.W.Frag} {B B' : Hp} (e : Same B B') : ∀ {vfs : List (Str × V)} {fs : List (Str × D)}, DvF K B vfs fs → DvF K B' vfs fs
  | _, _, .nil => .nil
  | _, _, .cons h t => .cons (h.mono e) (DvF.mono e t)
theorem look_put {α : Type} (f g : Str) (y : α) (fs : List (Str × α)) : ((f, y) :: fs).lookup g = if g = f then some y else fs.lookup g := by
  by_cases h : g = f
  · subst h
    simp [List.lookup]
  · have e : (g == f) = false := by simpa using h
    rw [if_neg h]
    simp [List.lookup, e]
theorem DvF.look {K : PySem.W.Frag} {B : Hp} {f : Str} {d : D} : ∀ {vfs : List (Str × V)} {fs : List (Str × D)}, DvF K B vfs fs → fs.lookup f = some d → ∃ v, vfs.lookup f = some v ∧ Dv K B v d
  | _, _, .nil, h => by cases h
  | (g, v) :: vfs, (g', e) :: fs, h, hl => by
    cases h with
    | cons h2 t =>
      rw [look_put] at hl
      rw [look_put]
      by_cases c : f = g
      · rw [if_pos c] at hl ⊢
        cases hl
        exact ⟨_, rfl, h2⟩
      · rw [if_neg c] at hl ⊢
        exact DvF.look t hl
/-- lists that are fields were made since -/
def FrL (H0 : Hp) (vfs : List (Str × V)) (fs : List (Str × D)) : Prop := ∀ f l xs, vfs.lookup f = some (.ref l) → fs.lookup f = some (.lst xs) → H0 l = none
theorem FrL.dom {H0 H1 : Hp} {vfs : List (Str × V)} {fs : List (Str × D)} (h : FrL H1 vfs fs) (n : ∀ a, H1 a = none → H0 a = none) : FrL H0 vfs fs := fun f l xs h1 h2 => n l (h f l xs h1 h2)
/-- a field that is no list of its own -/
def unl : D → D
  | .lst xs => .fls xs
  | d => d
theorem Dv.unl {K : PySem.W.Frag} {B : Hp} {v : V} {d : D} (h : Dv K B v d) : Dv K B v (Tg.unl d) := by
  cases h with
  | lst h1 h2 => exact .fls (Sq_of h1) h2
  | non => exact .non
  | bl b => exact .bl b
  | int i => exact .int i
  | str z h => exact .str z h
  | fls h1 h2 => exact .fls h1 h2
  | tup h1 h2 => exact .tup h1 h2
  | dk h1 h2 => exact .dk h1 h2
  | dt h1 h2 => exact .dt h1 h2
  | op v => exact .op v
  | ex h1 h2 => exact .ex h1 h2
  | vd h => exact .vd h
theorem frl_nil {H0 : Hp} : FrL H0 [] [] := fun f l xs h _ => by cases h
theorem unl_no {d : D} {xs : List D} : Tg.unl d ≠ .lst xs := by cases d <;> exact fun h => by cases h
theorem FrL.val {H0 : Hp} {f : Str} {v : V} {d : D} {vfs : List (Str × V)} {fs : List (Str × D)} (h : FrL H0 vfs fs) : FrL H0 ((f, v) :: vfs) ((f, Tg.unl d) :: fs) := fun g l xs h1 h2 => by
  rw [look_put] at h1 h2
  by_cases c : g = f
  · rw [if_pos c] at h2
    exact absurd (Option.some.inj h2) unl_no
  · rw [if_neg c] at h1 h2
    exact h g l xs h1 h2
theorem FrL.new {H0 : Hp} {f : Str} {p : Addr} {d : D} {vfs : List (Str × V)} {fs : List (Str × D)} (n : H0 p = none) (h : FrL H0 vfs fs) : FrL H0 ((f, .ref p) :: vfs) ((f, d) :: fs) := fun g l xs h1 h2 => by
  rw [look_put] at h1 h2
  by_cases c : g = f
  · rw [if_pos c] at h1
    cases h1
    exact n
  · rw [if_neg c] at h1 h2
    exact h g l xs h1 h2
/-- the wish for what is raised, by class names and fields -/
def EOkX (K : PySem.W.Frag) (mg : Str → Option Value) (B0 H0 : Hp) (E : XK) (x : Str → List (Str × D) → Prop) : Prop :=
  ∀ c C d vfs fs H', mg c = some (.ref C) → x c fs → Same H0 H' → H0 d = none → H' d = some (.xd vfs) → DvF K (rem (ext B0 H0 H') d) vfs fs → FrL H0 vfs fs → E (.ref C) (some d) H'
/-- the promise of a def that changes nothing, and may refuse -/
def pfx (K : PySem.W.Frag) (mg : Str → Option Value) (T : List D → (D → Prop) → (Str → List (Str × D) → Prop) → Prop) : Sp := fun vs H Q E => ∃ (B : Hp) (ds : List D) (q : D → Prop) (x : Str → List (Str × D) → Prop), Same B H ∧ DvL K B vs ds ∧ T ds q x ∧
  (∀ d v H', q d → Same H H' → Dv K (ext B H H') v d → Q v H') ∧ EOkX K mg B H E x
/-- .. and tells a new list or dict -/
def pfxN (K : PySem.W.Frag) (mg : Str → Option Value) (T : List D → (D → Prop) → (Str → List (Str × D) → Prop) → Prop) : Sp := fun vs H Q E => ∃ (B : Hp) (ds : List D) (q : D → Prop) (x : Str → List (Str × D) → Prop), Same B H ∧ DvL K B vs ds ∧ T ds q x ∧
  (∀ d p H', q d → H p = none → Same H H' → NewC K (ext B H H') H' p d → Q (.ref p) H') ∧ EOkX K mg B H E x
/-- the promise of a refusal's __init__: its fields, by what it is made of -/
def spI (K : PySem.W.Frag) (C : Addr) (G : List D → List (Str × D) → Prop) : Sp := fun vs H Q _ => ∃ (a : Addr) (us : List V) (B : Hp) (ds : List D) (fs : List (Str × D)), vs = .ref a :: us ∧ H a = some (exo a C none) ∧ B a = none ∧ Same B H ∧ DvL K B us ds ∧ G ds fs ∧
  ∀ d vfs H', H d = none → d ≠ a → (∀ b o, H b = some o → b ≠ a → H' b = some o) → H' a = some (exo a C (some d)) → H' d = some (exd d vfs) → DvF K (rem (rem (ext B H H') d) a) vfs fs → FrL H vfs fs → Q .non H'
section
variable {K : PySem.W.Frag} {mg : Str → Option Value} {B0 H0 : Hp} {ρ : List Sl} {P : AEnds} {ta : TA} {E : XK} {x : Str → List (Str × D) → Prop} {c : Str} {C : Addr} {G : List D → List (Str × D) → Prop}
/-- raise C(..), out of a def that changes nothing -/
theorem s_raise (hE : EOkX K mg B0 H0 E x) (hc : mg c = some (.ref C)) (h : AA K ta (fz ρ) fun ds => ds.length ≤ 1000 ∧ ∃ fs, G ds fs ∧ x c fs) :
    AW ⟨K, B0, H0, []⟩ (fun _ σ H => tMkO C (spI K C G) [] ta σ H fun cls d H' => E cls d H') ρ [] P := fun F R ok B H σ A G' s r => by
  refine h _ H σ r.fz.bh r.fz.env.envS _ fun ds vs H1 ⟨hl, fs, hG, hx⟩ s1 dv => ⟨by rw [dv.len]; exact hl, fun a na => ?_⟩
  have rb := rel_back (r.fz.step s1).noSlots
  have bh1 := (r.fz.step s1).bh
  refine ⟨a, vs ++ [], ext (fzB B H A) H H1, ds, fs, rfl, upd_same, bh1.free na, bh1.trans (same_upd na), by rw [List.append_nil]; exact dv, hG, fun d vfs H2 nd ne keep ha hd hF hfr => ?_⟩
  have nd1 : H1 d = none := by
    rw [upd_ne ne] at nd
    exact nd
  have s2 : Same H1 (upd (del H2 a) d (.xd vfs)) := fun b o e => by
    have hb : b ≠ a := ne_of_none e na
    rw [upd_ne (ne_of_none e nd1), del_ne hb]
    exact keep b o (by rw [upd_ne hb]; exact e) hb
  refine ⟨rfl, d, vfs, ha, hd, nd1, hE c C d vfs fs _ hc hx (rb.1.trans s2) (rb.1.free nd1) upd_same (hF.mono fun b o e => ?_) (hfr.dom fun l z => rb.1.free (by
    by_cases c : l = a
    · rw [c, upd_same] at z; cases z
    · rw [upd_ne c] at z; exact z))⟩
  unfold rem at e ⊢
  by_cases c1 : b = a
  · rw [if_pos c1] at e
    cases e
  · rw [if_neg c1] at e
    by_cases c2 : b = d
    · rw [if_pos c2] at e
      cases e
    · rw [if_neg c2] at e ⊢
      have e2 : upd (del H2 a) d (.xd vfs) b = H2 b := by rw [upd_ne c2, del_ne c1]
      cases h1 : H1 b with
      | none =>
        rw [ext_new (by rw [upd_ne c1]; exact h1)] at e
        rw [ext_new (rb.1.free h1), e2]
        exact e
      | some u =>
        rw [ext_old (by rw [upd_ne c1]; exact ne_none h1)] at e
        have e3 := rb.2 b o e
        cases h0 : H0 b with
        | none =>
          rw [ext_new h0] at e3 ⊢
          exact s2 b o e3
        | some w =>
          rw [ext_old (ne_none h0)] at e3 ⊢
          exact e3
theorem pfx_enter {T : List D → (D → Prop) → (Str → List (Str × D) → Prop) → Prop} {N : List Str} {vs : List V} {H : Hp} {Q : VK} {t : TS} (h : pfx K mg T vs H Q E)
    (hb : ∀ ds q x B0 H0, T ds q x → EOkX K mg B0 H0 E x → AW ⟨K, B0, H0, []⟩ t (ρ0 N ds) [] ⟨fun _ _ => q .non, fun d _ => q d, fun d _ => q d, fun _ _ => False, fun _ _ => False⟩) : t { nx := fun _ H' => Q .non H', rt := Q } (L2.start N vs) H := by
  obtain ⟨B, ds, q, x, s, dv, hT, k, hE⟩ := h
  refine hb ds q x B H hT hE B _ ⟨fun hq _ r => ?_, fun hq _ _ => False.elim hq, fun hq _ _ => False.elim hq, fun hq r dv => ?_, fun {B H d p W G} hq r n0 np c => ?_⟩ B H (L2.start N vs) [] [] (Same.refl _) (rel_start s dv)
  · exact k _ _ _ hq (rel_back r.noSlots).1 .non
  · exact k _ _ _ hq (rel_back r).1 (dv.mono (rel_back r).2)
  · exact k _ _ _ hq (rel_back r).1 (c.dv (rel_back r).2 (ext_new n0))
theorem pfxN_enter {T : List D → (D → Prop) → (Str → List (Str × D) → Prop) → Prop} {N : List Str} {vs : List V} {H : Hp} {Q : VK} {t : TS} (h : pfxN K mg T vs H Q E)
    (hb : ∀ ds q x B0 H0, T ds q x → EOkX K mg B0 H0 E x → AW ⟨K, B0, H0, []⟩ t (ρ0 N ds) [] ⟨fun _ _ => False, fun d _ => False, fun d _ => q d, fun _ _ => False, fun _ _ => False⟩) : t { nx := fun _ H' => Q .non H', rt := Q } (L2.start N vs) H := by
  obtain ⟨B, ds, q, x, s, dv, hT, k, hE⟩ := h
  refine hb ds q x B H hT hE B _ ⟨fun hq _ r => False.elim hq, fun hq _ _ => False.elim hq, fun hq _ _ => False.elim hq, fun hq r dv => False.elim hq, fun {B' H' d p W G} hq r n0 np c => ?_⟩ B H (L2.start N vs) [] [] (Same.refl _) (rel_start s dv)
  have rb := rel_back r
  exact k _ p H' hq n0 rb.1 (c.mono (same_rem rb.2 np) rfl)
end
/-! ### what __init__ does -/
def GV (f : Str) (ds : List D) (fs : List (Str × D)) : Prop := ∃ d, ds = [d] ∧ fs = [(f, unl d)]
def GL (f : Str) (ds : List D) (fs : List (Str × D)) : Prop := ∃ xs, ds = [.lst xs] ∧ fs = [(f, .lst xs)]
def GVV (f g : Str) (ds : List D) (fs : List (Str × D)) : Prop := ∃ d e, ds = [d, e] ∧ fs = [(g, unl e), (f, unl d)]
def GVL (f g : Str) (ds : List D) (fs : List (Str × D)) : Prop := ∃ d xs, ds = [d, .lst xs] ∧ fs = [(g, .lst xs), (f, unl d)]
section
variable {K : PySem.W.Frag} {C : Addr} {f g : Str} {z : Str} {vs : List V} {H : Hp} {Q : VK} {E : XK}
theorem ini_keep {B H H' : Hp} {a dx : Addr} (s : Same B H) (nB : B a = none) (nd : H dx = none) (k : ∀ b o, B b = some o → ext B H H' b = some o) : Same B (rem (rem (ext B H H') dx) a) := same_rem (same_rem (fun b o e => k b o e) (s.free nd)) nB
theorem ini_val (T : OexC K C) (hno : PySem.W.findIn K (.ref C) f = some none) (h : spI K C (GV f) vs H Q E) {N : List Str} (hN : N.length = 2) :
    (tSeq (tDrop (tVeI K (tCons (tVar 0) (tCons (tC (.str z)) tNil)))) (tOst K f (tVar 0) (tVar 1))) { nx := fun _ H' => Q .non H', rt := Q } (L2.start N vs) H := by
  obtain ⟨a, us, B, ds, fs, rfl, ha, nB, s, dv, ⟨d, rfl, rfl⟩, k⟩ := h
  obtain ⟨v, rfl, dw⟩ := dvl_one dv
  have e0 : L2.start N [.ref a, v] = [some (.ref a), some v] := by
    unfold L2.start
    rw [hN]
    rfl
  rw [e0]
  refine ⟨_, rfl, a, C, [.str z], rfl, (by show 1 ≤ 1000; decide), T, ha, ?_⟩
  refine ⟨v, rfl, _, rfl, a, C, rfl, T, hno, .inl ⟨ha, fun dx nd ne => ?_⟩⟩
  refine k dx [(f, v)] _ nd ne (fun b o e hb => by rw [upd_ne hb, upd_ne (ne_of_none e nd)]; exact e) upd_same (by rw [upd_ne ne, upd_same]) (.cons (dw.unl.mono (ini_keep s nB nd fun b o e => ext_l s b o e)) .nil) frl_nil.val
theorem ini_list (T : OexC K C) (hno : PySem.W.findIn K (.ref C) f = some none) (h : spI K C (GL f) vs H Q E) {N : List Str} (hN : N.length = 2) :
    (tSeq (tDrop (tVeI K (tCons (tVar 0) (tCons (tC (.str z)) tNil)))) (tOst K f (tVar 0) (tCB (qListOf K) (tCons (tVar 1) tNil)))) { nx := fun _ H' => Q .non H', rt := Q } (L2.start N vs) H := by
  obtain ⟨a, us, B, ds, fs, rfl, ha, nB, s, dv, ⟨xs, rfl, rfl⟩, k⟩ := h
  obtain ⟨v, rfl, dw⟩ := dvl_one dv
  have e0 : L2.start N [.ref a, v] = [some (.ref a), some v] := by
    unfold L2.start
    rw [hN]
    rfl
  rw [e0]
  cases dw with
  | @lst p ws _ hp hw =>
    refine ⟨_, rfl, a, C, [.str z], rfl, (by show 1 ≤ 1000; decide), T, ha, ?_⟩
    refine ⟨_, rfl, p, ws, rfl, .inl (Sq_of (s _ _ hp)), fun l nl => ?_⟩
    have al : a ≠ l := ne_of_none ha nl
    refine ⟨_, rfl, a, C, rfl, T, hno, .inl ⟨by rw [upd_ne al]; exact ha, fun dx nd ne => ?_⟩⟩
    have dl : dx ≠ l := fun z => by rw [z, upd_same] at nd; cases nd
    have nd' : H dx = none := by
      rw [upd_ne dl] at nd
      exact nd
    have hl : (upd (upd (upd H l (.lst ws)) dx (exd dx [(f, V.ref l)])) a (exo a C (some dx))) l = some (.lst ws) := by rw [upd_ne (Ne.symm al), upd_ne (Ne.symm dl), upd_same]
    refine k dx [(f, .ref l)] _ nd' ne (fun b o e hb => by rw [upd_ne hb, upd_ne (ne_of_none e nd'), upd_ne (ne_of_none e nl)]; exact e) upd_same (by rw [upd_ne ne, upd_same]) (.cons (.lst (vs := ws) ?_ (hw.mono (ini_keep s nB nd' fun b o e => ext_l s b o e))) .nil) (.new nl frl_nil)
    unfold rem
    rw [if_neg (Ne.symm al), if_neg (Ne.symm dl), ext_new nl]
    exact hl
theorem ini_val2 (T : OexC K C) (hno : PySem.W.findIn K (.ref C) f = some none) (hno2 : PySem.W.findIn K (.ref C) g = some none) (h : spI K C (GVV f g) vs H Q E) {N : List Str} (hN : N.length = 3) :
    (tSeq (tDrop (tVeI K (tCons (tVar 0) (tCons (tC (.str z)) tNil)))) (tSeq (tOst K f (tVar 0) (tVar 1)) (tOst K g (tVar 0) (tVar 2)))) { nx := fun _ H' => Q .non H', rt := Q } (L2.start N vs) H := by
  obtain ⟨a, us, B, ds, fs, rfl, ha, nB, s, dv, ⟨d, e, rfl, rfl⟩, k⟩ := h
  obtain ⟨v, u, rfl, dw, du⟩ := dvl_two dv
  have e0 : L2.start N [.ref a, v, u] = [some (.ref a), some v, some u] := by
    unfold L2.start
    rw [hN]
    rfl
  rw [e0]
  refine ⟨_, rfl, a, C, [.str z], rfl, (by show 1 ≤ 1000; decide), T, ha, ?_⟩
  refine ⟨v, rfl, _, rfl, a, C, rfl, T, hno, .inl ⟨ha, fun dx nd ne => ?_⟩⟩
  refine ⟨u, rfl, _, rfl, a, C, rfl, T, hno2, .inr ⟨dx, [(f, v)], upd_same, by rw [upd_ne ne, upd_same], (by show 1 ≤ 900; decide), ?_⟩⟩
  have kk := ini_keep s nB nd fun b o e => ext_l (H' := upd (upd (upd H dx (exd dx [(f, v)])) a (exo a C (some dx))) dx (exd dx [(g, u), (f, v)])) s b o e
  refine k dx [(g, u), (f, v)] _ nd ne (fun b o e hb => by rw [upd_ne (ne_of_none e nd), upd_ne hb, upd_ne (ne_of_none e nd)]; exact e) (by rw [upd_ne (Ne.symm ne), upd_same]) upd_same (.cons (du.unl.mono kk) (.cons (dw.unl.mono kk) .nil)) frl_nil.val.val
theorem ini_vlist (T : OexC K C) (hno : PySem.W.findIn K (.ref C) f = some none) (hno2 : PySem.W.findIn K (.ref C) g = some none) (h : spI K C (GVL f g) vs H Q E) {N : List Str} (hN : N.length = 3) :
    (tSeq (tDrop (tVeI K (tCons (tVar 0) (tCons (tC (.str z)) tNil)))) (tSeq (tOst K f (tVar 0) (tVar 1)) (tOst K g (tVar 0) (tCB (qListOf K) (tCons (tVar 2) tNil))))) { nx := fun _ H' => Q .non H', rt := Q } (L2.start N vs) H := by
  obtain ⟨a, us, B, ds, fs, rfl, ha, nB, s, dv, ⟨d, xs, rfl, rfl⟩, k⟩ := h
  obtain ⟨v, u, rfl, dw, du⟩ := dvl_two dv
  have e0 : L2.start N [.ref a, v, u] = [some (.ref a), some v, some u] := by
    unfold L2.start
    rw [hN]
    rfl
  rw [e0]
  cases du with
  | @lst p ws _ hp hw =>
    refine ⟨_, rfl, a, C, [.str z], rfl, (by show 1 ≤ 1000; decide), T, ha, ?_⟩
    refine ⟨v, rfl, _, rfl, a, C, rfl, T, hno, .inl ⟨ha, fun dx nd ne => ?_⟩⟩
    have pa : p ≠ a := fun z => by rw [z, nB] at hp; cases hp
    have pd : p ≠ dx := fun z => by rw [z] at hp; rw [s _ _ hp] at nd; cases nd
    refine ⟨_, rfl, p, ws, rfl, .inl (Sq_of (by rw [upd_ne pa, upd_ne pd]; exact s _ _ hp)), fun l nl => ?_⟩
    have al : a ≠ l := fun z => by rw [← z, upd_same] at nl; cases nl
    have dl : dx ≠ l := fun z => by rw [upd_ne (Ne.symm al), ← z, upd_same] at nl; cases nl
    have nl' : H l = none := by rw [upd_ne (Ne.symm al), upd_ne (Ne.symm dl)] at nl; exact nl
    refine ⟨_, rfl, a, C, rfl, T, hno2, .inr ⟨dx, [(f, v)], by rw [upd_ne al]; exact upd_same, by rw [upd_ne dl, upd_ne ne, upd_same], (by show 1 ≤ 900; decide), ?_⟩⟩
    have kk := ini_keep s nB nd fun b o e => ext_l (H' := upd (upd (upd (upd H dx (exd dx [(f, v)])) a (exo a C (some dx))) l (.lst ws)) dx (exd dx [(g, .ref l), (f, v)])) s b o e
    refine k dx [(g, .ref l), (f, v)] _ nd ne (fun b o e hb => by rw [upd_ne (ne_of_none e nd), upd_ne (ne_of_none e nl'), upd_ne hb, upd_ne (ne_of_none e nd)]; exact e) (by rw [upd_ne (Ne.symm ne), upd_ne al, upd_same]) upd_same (.cons (.lst (vs := ws) ?_ (hw.mono kk)) (.cons (dw.unl.mono kk) .nil)) (.new nl' frl_nil.val)
    unfold rem
    rw [if_neg (Ne.symm al), if_neg (Ne.symm dl), ext_new nl', upd_ne (Ne.symm dl), upd_same]
end
/-! ### classes of refusals, as the written part tells them -/
structure Di (P : Program) (w : World) (K : PySem.W.Frag) (mg : Str → Option Value) (base : Heap) (CX : CXT) (k : Nat) (f : Addr) (fd : FuncData) (ps : List Str) (ds : List Value) (sp : Sp) : Prop where
  F : FnOk P w K mg base CX k f fd ps sp
  b : Binds K fd ps ds
/-- what a caught refusal of an own class is tested by -/
theorem own_te {K : PySem.W.Frag} {C : Addr} (hB : PySem.W.subIn K (.ref C) (.type "BaseException") = some true) (hc : PySem.W.isClsIn K C = true) (ht : PySem.W.typeIn K (.ref C) = some (.type "type")) (hs : PySem.W.subIn K (.ref C) (.ref C) = some true) : PySem.W.exmOne K (.ref C) (.ref C) = some true := by
  have hc' : (PySem.W.clsIn K C).isSome = true := hc
  unfold PySem.W.exmOne PySem.W.kitCls
  simp only [hB, hc', ht, hs, BEq.rfl, Bool.and_self, if_true]
structure ExC (K : PySem.W.Frag) (mg : Str → Option Value) (x : Str) (C f : Addr) : Prop where
  g : mg x = some (.ref C)
  o : OexC K C
  iC : PySem.W.findIn K (.ref C) "__init__" = some (some (.ref f))
  tI : PySem.W.typeIn K (.ref f) = some (.type "function")
  te : PySem.W.exmOne K (.ref C) (.ref C) = some true
  xf : XfC K C
section
variable {K : PySem.W.Frag} {mg : Str → Option Value} {Z : Zc} {ρ : List Sl} {W : List Res} {P : AEnds} {ta : TA} {te : TE} {q : D → Prop}
/-- e.field, e caught -/
theorem s_xf {a : Addr} {cls : Value} {dd C : Addr} {f : Str} (hc : cls = .ref C) (h : AE K te ρ fun d => ∃ fs d', d = .ex (.ref a) dd fs ∧ fs.lookup f = some d' ∧ q d') : AE K (tXf a cls (some dd) C f te) ρ q := fun B H σ s E Q k => by
  refine h B H σ s E _ fun d v H1 ⟨fs, d', e, l, hq⟩ s1 dv => ?_
  subst e
  generalize hg : D.ex (.ref a) dd fs = g at dv
  cases dv with
  | @ex _ dd' vfs fs' hB hF =>
    cases hg
    obtain ⟨w, l2, dw⟩ := hF.look l
    exact ⟨rfl, hc, dd, vfs, w, rfl, ext_r s s1 _ _ hB, l2, k d' w H1 hq s1 dw⟩
  | _ => cases hg
/-- try: n = f(..) except C as e: suite, f a def that tells data, or refuses -/
theorem s_try1 {T : List D → (D → Prop) → (Str → List (Str × D) → Prop) → Prop} {c : Value} {i j : Nat} {ts : Addr → Value → Option Addr → TS} {Wout : WX}
    (h : AA Z.K ta (fz ρ) fun ds => ∃ q x, T ds q x ∧ (∀ d, q d → P.nx ((fz ρ).set j (.sh d)) W) ∧ ∀ cn fs, x cn fs → ∀ C', mg cn = some (.ref C') → PySem.W.exmOne Z.K (.ref C') c = some true ∧
      ∀ a dd, AW Z (ts a (.ref C') (some dd)) ((fz ρ).set i (.sh (.ex (.ref a) dd fs))) W ⟨fun ρ' W' => P.nx (ρ'.set i .un) W', P.rt, P.rn, fun ρ' W' => P.bk (ρ'.set i .un) W', fun ρ' W' => P.ct (ρ'.set i .un) W'⟩) :
    AW Z (fun D σ H => tAsg (tCallSD (pfx Z.K mg T) [] (WE (wAs Z.K c i ts Wout D)) ta) (gName j) D σ H) ρ W P := fun F R ok B H σ A G s r => by
  refine h _ H σ r.fz.bh r.fz.env.envS _ fun ds vs H1 ⟨q, x, hT, hq, hx⟩ s1 dv => ?_
  have r1 := r.fz.step s1
  refine ⟨_, ds, q, x, r1.bh, by rw [List.append_nil]; exact dv, hT, fun d v H' qd s2 dd => ?_, fun cn C' dd vfs fs H' hm hxx s2 nd hd hF _ => ?_⟩
  · obtain ⟨A', r2⟩ := (r1.step s2).setSh dd j
    exact ok.nx (hq d qd) ((s.trans (fzB_l fun a m => (r.env.there a m).1)).trans ((ext_l r.fz.bh).trans (ext_l r1.bh))) r2
  · obtain ⟨e1, suite⟩ := hx cn fs hxx C' hm
    refine ⟨true, e1, fun _ a na => ?_, fun z => Bool.noConfusion z⟩
    have r2 := r1.step s2
    have dx : Dv Z.K (ext (ext (fzB B H A) H H1) H1 H') (.ref a) (.ex (.ref a) dd fs) := .ex (by rw [ext_new nd]; exact hd) (hF.mono rem_same)
    obtain ⟨A', r3⟩ := r2.setSh dx i
    have s3 : Same F (ext (ext (fzB B H A) H H1) H1 H') := (s.trans (fzB_l fun a m => (r.env.there a m).1)).trans ((ext_l r.fz.bh).trans (ext_l r1.bh))
    refine suite a dd F { nx := fun σ' H' => R.nx (σ'.set i none) H', rt := R.rt, bk := fun σ' H' => R.bk (σ'.set i none) H', ct := fun σ' H' => R.ct (σ'.set i none) H' } ⟨fun hq s r => ?_, fun hq s r => ?_, fun hq s r => ?_, fun hq r d => ok.rt hq r d, fun hq r n0 np c => ok.rn hq r n0 np c⟩ _ _ _ _ _ s3 r3
    · obtain ⟨A'', h1, h2⟩ := r.env.setNone i
      exact ok.nx hq s (r.slots h2 h1)
    · obtain ⟨A'', h1, h2⟩ := r.env.setNone i
      exact ok.bk hq s (r.slots h2 h1)
    · obtain ⟨A'', h1, h2⟩ := r.env.setNone i
      exact ok.ct hq s (r.slots h2 h1)
end
end Tg

/-! The engine: list(reversed(x)); loops over enumerate(x). -/
namespace RT
open PySem PySem.Spec PyProof.Rows
section
variable {prog : Program} {w : World} {A : Around} {E : Value → Shared → Prop} {s : Shared}
theorem extend_rev {R : Result → Shared → Prop} {it l : Addr} {items : Array Value} (hh : A.handled = none) (hit : s.heap.IsRevIter it l ((items.size : Int) - 1)) (hl : s.heap.IsList l items) (hne : l ≠ it) (hn : items.size ≤ sizeLine)
    (S : Addr) (res : Value) (c₀ : Nat) (hS : s.heap.get? S = some { cls := .type "list", data := .seq #[] c₀ }) (hSi : S ≠ it) (hSl : S ≠ l)
    (hR : ∀ h' tk acc' c', (∀ b o, b ≠ S → b ≠ it → s.heap.get? b = some o → h'.get? b = some o) → h'.get? S = some { cls := .type "list", dict := none, data := .seq acc' c', slots := #[] } →
      ItemsOf (fun i v => items[items.size - 1 - i]? = some v) acc' items.size → R (.ok (.ret res)) { s with heap := h', toks := tk }) :
    wpAny (model prog w) A.in1 (Builtin.List.listExtendWith (.ref S) (.ref it) res)
      (fun fin s' => match fin with | .done f => R (.ok f) s' | .again c' => c'.quiet = true ∧ codeAny (model prog w) A c' R s') (fun e s' => R (.error e) s') s := by
  have W := (Walks.listRev (prog := prog) (w := w) (A := A.in1) hh it l hne items).toS
  have hSf : S ∉ [it, l] := by simp only [List.mem_cons, List.not_mem_nil, or_false, not_or]; exact ⟨hSi, hSl⟩
  have hT : s.TypeIs (.ref it) "list_reverseiterator" := Heap.IsRevIter.typeIs hit
  have h1 : Builtin.List.listSameRef (.ref S) (.ref it) = false := by simp [Builtin.List.listSameRef, hSi]
  unfold Builtin.List.listExtendWith
  refine wpAny_bind (wpAny_typeOf hT ?_)
  rw [if_neg (by rw [h1]; decide)]
  refine wpAny_bind (wpAny_pyIter_revIter hit ?_)
  refine wpAny_bind (wpAny_holding ?_)
  unfold Builtin.List.listLengthHint
  refine wpAny_bind (wpAny_specialOf hT nolen_lri ?_)
  show wpAny _ A.in1 (specialOf (Value.ref it) (Str.ofString "__length_hint__") >>= _) _ _ _
  refine wpAny_bind (wpAny_specialOf hT hint_lri ?_)
  generalize hid : ("list_reverseiterator.__length_hint__" : String) = id0
  wp_delta
  rw [show splitId id0 = some ("list_reverseiterator", "__length_hint__") from by subst hid; decide +kernel]
  subst hid
  refine wpAny_bind (wpAny_isInstance (b := true) hT (by rw [isSubtype_type]; kernel_rfl) ?_)
  refine wpAny_pure ?_
  rw [if_neg (by decide)]
  have e0 : ((items.size : Nat) : Int) - 1 - ((0 : Nat) : Int) = (items.size : Int) - 1 := by omega
  refine wpAny_pure ⟨plainId_quiet F.plain_extend_loop _, codeAny_extend_loopS W hn _ hSf _ items.size 0 _ _ _ rfl (Nat.zero_le _) ⟨Nat.zero_le _, by rw [e0]; exact hit, hl⟩ hS (ItemsOf.nil _) fun s' acc' c' hm hS' hacc => ?_⟩
  rw [Moved.eq_with hm]
  refine hR s'.heap s'.toks acc' c' (fun b o hb hb2 e => hm.heap b o (fun hmem => ?_) e) hS' hacc
  rcases List.mem_cons.mp hmem with e' | hmem
  · exact hb e'
  · exact hb2 (List.mem_singleton.mp hmem)
theorem list_init_rev {R : Result → Shared → Prop} {it l : Addr} {items : Array Value} (hh : A.handled = none) (hit : s.heap.IsRevIter it l ((items.size : Int) - 1)) (hl : s.heap.IsList l items) (hne : l ≠ it) (hn : items.size ≤ sizeLine)
    (S : Addr) (hS : s.heap.get? S = some { cls := .type "list", data := .seq #[] }) (hSi : S ≠ it) (hSl : S ≠ l)
    (hR : ∀ h' tk acc' c', (∀ b o, b ≠ S → b ≠ it → s.heap.get? b = some o → h'.get? b = some o) → h'.get? S = some { cls := .type "list", dict := none, data := .seq acc' c', slots := #[] } →
      ItemsOf (fun i v => items[items.size - 1 - i]? = some v) acc' items.size → R (.ok (.ret .none)) { s with heap := h', toks := tk }) :
    wpAny (model prog w) A.in1 (Builtin.«list.__init__» ⟨[.ref S, .ref it], []⟩)
      (fun fin s' => match fin with | .done f => R (.ok f) s' | .again c' => c'.quiet = true ∧ codeAny (model prog w) A c' R s') (fun e s' => R (.error e) s') s := by
  show wpAny _ _ (do let old ← Builtin.List.listItems (.ref S); Builtin.List.listUpdate (.ref S) (fun _ => #[]); letGo old.toList.reverse; Builtin.List.listExtendWith (.ref S) (.ref it) .none) _ _ s
  refine wpAny_bind ?_
  unfold Builtin.List.listItems
  refine wpAny_bind (wpAny_seqItems hS rfl (wpAny_pure ?_))
  show wpAny _ _ (updateSeq S (fun _ => #[]) >>= fun _ => letGo (#[] : Array Value).toList.reverse >>= fun _ => Builtin.List.listExtendWith (.ref S) (.ref it) .none) _ _ s
  refine wpAny_bind (wpAny_updateSeq hS rfl ?_)
  have hS₂ := Heap.get?_update_self (Obj.mapSeq (fun _ => (#[] : Array Value))) hS rfl
  have oth : ∀ b o, b ≠ S → s.heap.get? b = some o → (s.heap.update S (Obj.mapSeq (fun _ => (#[] : Array Value)))).get? b = some o :=
    fun b o hb e => (Heap.get?_update_other _ _ (Ne.symm hb)).trans e
  refine wpAny_bind (wpAny_letGo ?_)
  obtain ⟨ol, hol, hol2⟩ := id hl
  refine extend_rev (s := { s with heap := s.heap.update S (Obj.mapSeq (fun _ => (#[] : Array Value))) }) hh (hit.at fun o e => oth _ _ (Ne.symm hSi) e) ⟨ol, oth _ _ (Ne.symm hSl) hol, hol2⟩ hne hn S .none _ hS₂ hSi hSl fun h' tk acc' c' hk hS' hacc => ?_
  exact hR h' tk acc' c' (fun b o hb hb2 e => hk b o hb hb2 (oth b o hb e)) hS' hacc
theorem call_list_rev {it l : Addr} {items : Array Value} {Q : Value → Shared → Prop} (hh : A.handled = none) (hit : s.heap.IsRevIter it l ((items.size : Int) - 1)) (hl : s.heap.IsList l items) (hne : l ≠ it) (hn : items.size ≤ sizeLine)
    (hQ : ∀ h' tk acc' c', (∀ b o, b ≠ it → s.heap.get? b = some o → h'.get? b = some o) →
      h'.get? s.heap.objs.size = some { cls := .type "list", dict := none, data := .seq acc' c', slots := #[] } → ItemsOf (fun i v => items[items.size - 1 - i]? = some v) acc' items.size → Q (.ref s.heap.objs.size) { s with heap := h', toks := tk }) :
    wpAny (model prog w) A (call (.type "list") [.ref it]) Q E s := by
  obtain ⟨oi, hoi, _⟩ := id hit
  obtain ⟨ol, hol, _⟩ := id hl
  have hSi : s.heap.objs.size ≠ it := Nat.ne_of_gt (Heap.lt_size hoi)
  have hSl : s.heap.objs.size ≠ l := Nat.ne_of_gt (Heap.lt_size hol)
  refine callType_codes (Q₁ := fun obj s₁ => obj = .ref s.heap.objs.size ∧ s₁ = { s with heap := s.heap.push { cls := .type "list", data := .seq #[] } }) PySem.F.called_list (PySem.F.typeCall_list_1 _) PySem.F.entry_list_init
    (code_list_new _ ⟨rfl, rfl⟩) fun obj s₁ h₁ => ?_
  obtain ⟨rfl, rfl⟩ := h₁
  have hS : (s.heap.push { cls := .type "list", data := .seq #[] }).get? s.heap.objs.size = some { cls := .type "list", data := .seq #[] } := Heap.get?_push_size _ rfl
  refine ⟨⟨_, hS, rfl⟩, PySem.F.args_list_init_2 _ _, list_init_rev (s := { s with heap := s.heap.push { cls := .type "list", data := .seq #[] } }) (A := A.in1) hh (hit.at fun o e => Heap.get?_push_of_some _ e) (hl.push _) hne hn _ hS hSi hSl (fun h' tk acc' c' hk hS' hacc => ?_)⟩
  exact ⟨rfl, hQ h' tk acc' c' (fun b o hb e => hk b o (Nat.ne_of_lt (Heap.lt_size e)) hb (Heap.get?_push_of_some _ e)) hS' hacc⟩
end
end RT
namespace L2
open PySem PySem.Spec PyProof.Rows RT
/-- list(reversed(x)), x a list: a new list -/
def tLstRev (K : PySem.W.Frag) (te : TE) : TE := fun σ H Q => te σ H fun v H1 => ∃ (a : Addr) (xs : List V), v = .ref a ∧ SqL K H1 a xs ∧ ∀ q, H1 q = none → Q (.ref q) (upd H1 q (.lst xs.reverse))
section
variable {X : Cx} {K : PySem.W.Frag}
theorem pe_listRev {e : Expr} {te : TE} {p p2 pos pos2 : Pos} (hK : X.K = K) (hc : X.calm = true) (hg : Gl X "list") (hm : X.mg "list" = none) (hg2 : Gl X "reversed") (hm2 : X.mg "reversed" = none) (he : PE X e te)
    (hs : starEach [e] X.env = (false, eval e X.env) :: starEach [] X.env := by rfl)
    (hs2 : starEach [.Call (.Name "reversed" p2) [e] [] pos2] X.env = (false, eval (.Call (.Name "reversed" p2) [e] [] pos2) X.env) :: starEach [] X.env := by rfl) :
    PE X (.Call (.Name "list" p) [.Call (.Name "reversed" p2) [e] [] pos2] [] pos) (tLstRev K te) := by
  subst hK
  refine ⟨fun pins s σ H Q I h => ?_⟩
  refine Call_ (ld_blt I hg hm boot_list (PyProof.Rows.callWith_type1 (args_cons (Call_ (ld_blt I hg2 hm2 PyProof.Rows.boot_reversed (PyProof.Rows.callWith_type1 (args_cons (thn (he.run pins s σ H _ I h) fun u s1 ⟨v, H1, I1, r1, q1⟩ => args_nil ?_) hs) hs rfl))) hs2) hs2 rfl))
  obtain ⟨a, xs, ev, hq, q⟩ := q1
  subst ev
  obtain rfl : u = Value.ref a := r1
  obtain ⟨its, rv, p', hz⟩ := I1.list hq
  refine call_reversed_list p'.isList (args_nil ?_)
  have k0 : ∀ b o, s1.heap.get? b = some o → (s1.heap.push (revObj a ((its.toArray.size : Int) - 1))).get? b = some o := fun b o e => Heap.get?_push_of_some _ e
  have hl := p'.isList
  obtain ⟨ol, hol, _⟩ := id hl
  have hne : a ≠ s1.heap.objs.size := Nat.ne_of_lt (Heap.lt_size hol)
  have hn : its.toArray.size ≤ sizeLine := by rw [List.size_toArray, ← rv.length]; exact hz
  refine call_list_rev (s := { s1 with heap := s1.heap.push (revObj a ((its.toArray.size : Int) - 1)) }) (I1.ok.hd hc) ⟨_, Heap.get?_push_size _ rfl, rfl, rfl⟩ (hl.push _) hne hn fun h' tk acc c' hk hS hi => ?_
  have sz : s1.heap.objs.size ≤ (s1.heap.push (revObj a ((its.toArray.size : Int) - 1))).objs.size := by
    rw [Heap.size_push]
    exact Nat.le_succ _
  refine ⟨.ref (s1.heap.push (revObj a ((its.toArray.size : Int) - 1))).objs.size, upd H1 (s1.heap.push (revObj a ((its.toArray.size : Int) - 1))).objs.size (.lst xs.reverse), I1.laid (t' := tk) (fun b o e => hk b o (Nat.ne_of_lt (Heap.lt_size e)) (k0 b o e)) sz (show ObjOk X.prog X.w _ _ _ (.lst xs.reverse) from ⟨?_, acc.toList, c', vals_rev rv hi, ?_⟩), rfl, q _ (I1.hok.fresh sz)⟩
  · rw [List.length_reverse]
    exact hz
  · rw [Array.toArray_toList]
    exact hS
end
end L2
namespace Tg
open PySem PySem.Spec L2
section
variable {K : PySem.W.Frag} {ρ : List Sl} {te : TE} {q : D → Prop} {Z : Zc} {W : List Res} {P : AEnds} {ta : TA}
theorem DvL.rev2 {B : Hp} {vs : List V} {ds : List D} (h : DvL K B vs ds) : DvL K B vs.reverse ds.reverse := h.rev
/-- list(reversed(x)) -/
theorem an_listRev (h : AE K te ρ fun d => ∃ xs, d = .lst xs ∧ q (.lst xs.reverse)) : AN K (tLstRev K te) ρ q := fun B H σ s E Q k => by
  refine h B H σ s E _ fun d v H1 ⟨xs, e, hq⟩ s1 dv => ?_
  subst e
  cases dv with
  | @lst a vs _ ha hv =>
    refine ⟨a, vs, rfl, Sq_of (ext_r s s1 _ _ ha), fun p np => ?_⟩
    have nH : H p = none := s1.free np
    refine k _ p _ hq nH (s1.trans (same_upd np)) ⟨vs.reverse, upd_same, (hv.rev).mono fun b o e => ?_⟩
    have ne : b ≠ p := ne_of_none (ext_r s s1 _ _ e) np
    unfold rem
    rw [if_neg ne]
    cases c : H b with
    | none =>
      rw [ext_new c] at e ⊢
      rw [upd_ne ne]
      exact e
    | some u =>
      rw [ext_old (ne_none c)] at e ⊢
      exact e
/-- for i, x in enumerate(xs) -/
def AForE (Z : Zc) (xs : List D) (g : TG) (tb : TS) (ρ : List Sl) (W : List Res) (P : AEnds) : Prop := ∃ Iv : Nat → List Sl → List Res → Prop, (∃ ρ', Wk ρ ρ' ∧ Iv 0 ρ' W) ∧
  (∀ i x ρ' W', xs[i]? = some x → Iv i ρ' W' → AG Z g (.tup [.int (i : Int), x]) ρ' W' fun ρ2 W2 => AW Z tb ρ2 W2 ⟨fun ρ W => ∃ ρ', Wk ρ ρ' ∧ Iv (i + 1) ρ' W, P.rt, P.rn, P.nx, fun ρ W => ∃ ρ', Wk ρ ρ' ∧ Iv (i + 1) ρ' W⟩) ∧ ∀ ρ' W', Iv xs.length ρ' W' → P.nx ρ' W'
theorem s_forE {g : TG} {tb : TS} (h : AA Z.K ta ρ fun ds => ∃ xs, ds = [.lst xs] ∧ AForE Z xs g tb ρ W P) : AW Z (tFor (iEnum Z.K ta) g tb) ρ W P := fun F R ok B H σ A G s r => by
  refine h B H σ r.bh r.env.envS _ fun ds vs H1 ⟨xs, ed, Iv, h0, hs, hd⟩ s1 dv => ?_
  have r1 := r.step s1
  subst ed
  obtain ⟨v, rfl, dw⟩ := dvl_one dv
  cases dw with
  | @lst a us _ ha hu =>
    have sF : Same F (ext B H H1) := s.trans (ext_l r.bh)
    refine ⟨a, us, rfl, Sq_of (r1.bh _ _ ha), for_it (walk_enum (K := Z.K) (a := a) (xs := us)) (fun i => LPv Z (ext B H H1) (Iv i)) (lpv_wk (ρ' := []) h0 (Same.refl _) r1) (fun i σ' H' _ ⟨ρ', W', B', A', G', _, s', r'⟩ => Sq_of (r'.bh _ _ (s' _ _ ha))) ?_ ?_⟩
    · rintro i x σ' H' H'' hi ⟨ρ', W', B', A', G', hI, s', r'⟩ ⟨T, y, z, rfl, nT, rfl, hy, hz⟩
      cases hy
      obtain ⟨dx, e1, e2⟩ := hu.at' hz
      have s2 : Same H' (upd H' T (.tup [.int (i : Int), z])) := same_upd nT
      have r2 := r'.step s2
      have dT : Dv Z.K (ext B' H' (upd H' T (.tup [.int (i : Int), z]))) (.ref T) (.tup [.int (i : Int), dx]) := .tup (by rw [ext_new nT, upd_same]) (.cons (.int _) (.cons ((e2.mono s').mono (ext_l r'.bh)) .nil))
      refine hs i dx ρ' W' e1 hI _ _ σ' A' G' _ r2 dT _ fun ρ2 W2 B2 H2 σ2 A2 G2 h2 s3 r3 => ?_
      exact h2 (ext B H H1) ⟨LPv Z (ext B H H1) (Iv (i + 1)), R.rt, R.nx, LPv Z (ext B H H1) (Iv (i + 1))⟩ (ok.loopW sF) B2 H2 σ2 A2 G2 (s'.trans ((ext_l r'.bh).trans s3)) r3
    · rintro σ' H' ⟨ρ', W', B', A', G', hI, s', r'⟩
      rw [hu.len] at hI
      exact ok.nx (hd _ _ hI) (sF.trans s') r'
/-- a, b = e -/
theorem s_asgG {g : TG} (h : AE Z.K te ρ fun d => AG Z g d ρ W P.nx) : AW Z (tAsg te g) ρ W P := fun F R ok B H σ A G s r =>
  h B H σ r.bh r.env.envS _ fun d v H1 hg s1 dv => hg (ext B H H1) H1 σ A G v (r.step s1) dv _ fun ρ' W' B' H' σ' A' G' hn sB r' => ok.nx hn (s.trans ((ext_l r.bh).trans sB)) r'
end
section
variable {K : PySem.W.Frag} {B0 H0 : Hp} {F0 : List Addr} {W : List Res} {ρ : List Sl} {r rn : D → List Res → Prop} {n bk ct : List Sl → List Res → Prop}
theorem aforE {α : Type} {f : α → D} {xs : List α} {g : TG} {tb : TS} (Iv : Nat → List Sl → Prop) (h0 : ∃ ρ', Wk ρ ρ' ∧ Iv 0 ρ') (hs : ∀ (i : Nat) x ρ', xs[i]? = some x → Iv i ρ' → AG ⟨K, B0, H0, F0⟩ g (.tup [.int (i : Int), f x]) ρ' W fun ρ2 W2 => AW ⟨K, B0, H0, F0⟩ tb ρ2 W2 ⟨fun ρ3 W3 => ∃ ρ4, Wk ρ3 ρ4 ∧ Iv (i + 1) ρ4 ∧ W3 = W, r, rn, n, fun ρ3 W3 => ∃ ρ4, Wk ρ3 ρ4 ∧ Iv (i + 1) ρ4 ∧ W3 = W⟩)
    (hd : ∀ ρ', Iv xs.length ρ' → n ρ' W) : AForE ⟨K, B0, H0, F0⟩ (xs.map f) g tb ρ W ⟨n, r, rn, bk, ct⟩ := ⟨fun i ρ W' => Iv i ρ ∧ W' = W, h0.elim fun ρ' h => ⟨ρ', h.1, h.2, rfl⟩, fun i x ρ' W' hx ⟨hI, e⟩ => by
      subst e
      rw [List.getElem?_map] at hx
      cases h : xs[i]? with
      | none => rw [h] at hx; cases hx
      | some y =>
        rw [h] at hx
        cases hx
        exact hs i y ρ' h hI, fun ρ' W' ⟨h, e⟩ => by
      subst e
      rw [List.length_map] at h
      exact hd ρ' h⟩
end
end Tg

/-! The engine: len(set(xs)), xs distinct texts. -/
namespace SS
open PySem PySem.Spec PyProof.Rows
section
variable {prog : Program} {w : World} {A : Around} {R : Result → Shared → Prop} {I : Addr} {fp wr : List Addr} {G : Array GenState → Array GenState → Prop} {n : Nat} {P : Nat → Value → Prop} {St : Nat → Shared → Prop}
/-- how many unlike ones among the first i -/
def crd (xs : List Str) : Nat → Nat
  | 0 => 0
  | i + 1 => if ((xs.take i).any (· == xs.getD i Str.empty)) = true then crd xs i else crd xs i + 1
theorem crd_le (xs : List Str) : ∀ i, crd xs i ≤ i
  | 0 => Nat.le_refl _
  | i + 1 => by
    have := crd_le xs i
    unfold crd
    split <;> omega
theorem loopStrN (W : WalksS prog w A.in1 I fp wr G n P St) (S : Addr) (hSf : S ∉ fp) (xs : List Str) (hsz : xs.length = n) (hb1 : n + 1 < scanBound)
    (hval : ∀ i v, P i v → ∃ t, v = .str (xs.getD i Str.empty) t) :
    ∀ (k i : Nat) (s : Shared), n - i = k → i ≤ n → St i s →
      s.heap.SetOf (PySem.strKind prog w) S (fun k' => (xs.take i).any (· == k')) (crd xs i) →
      (∀ s', Moved (S :: wr) G s s' → s'.heap.SetOf (PySem.strKind prog w) S (fun k' => (xs.take n).any (· == k')) (crd xs n) → R (.ok (.ret .none)) s') →
      codeAny (model prog w) A (.builtin "set.update.loop" ⟨[.ref S, .ref I], []⟩) R s := by
  have hSw : S ∉ wr := fun h => hSf (W.sub _ h)
  have hsub : ∀ b ∈ wr, b ∈ S :: wr := fun b hb => List.mem_cons_of_mem _ hb
  intro k
  induction k with
  | zero =>
    intro i s hk hi hst hS hR
    have hin : i = n := by omega
    subst hin
    refine codeAny_builtin PyProof.Rows.F.entry_set_update_loop ?_
    rw [Around.under_plainId PyProof.Rows.F.plain_set_update_loop _]
    show wpAny _ A.in1 (pyNext (.ref I) >>= _) _ _ s
    refine wpAny_bind (W.done s _ _ hst fun s' hm => ?_)
    show wpAny _ A.in1 (ret Value.none) _ _ s'
    exact wpAny_pure (hR s' (hm.mono hsub) (by
      obtain ⟨o, es, ep, t, ho, rest⟩ := hS
      exact ⟨o, es, ep, t, hm.heap S _ hSw ho, rest⟩))
  | succ k ih =>
    intro i s hk hi hst hS hR
    have hlt : i < n := by omega
    refine codeAny_builtin PyProof.Rows.F.entry_set_update_loop ?_
    rw [Around.under_plainId PyProof.Rows.F.plain_set_update_loop _]
    show wpAny _ A.in1 (pyNext (.ref I) >>= _) _ _ s
    refine wpAny_bind (W.item i s _ _ hlt hst fun v s' hP hst' hm => ?_)
    obtain ⟨t, rfl⟩ := hval i v hP
    have hS' : s'.heap.SetOf (PySem.strKind prog w) S (fun k' => (xs.take i).any (· == k')) (crd xs i) := by
      obtain ⟨o, es, ep, tb, ho, rest⟩ := hS
      exact ⟨o, es, ep, tb, hm.heap S _ hSw ho, rest⟩
    show wpAny _ A.in1 (holding [Value.str (xs.getD i Str.empty) t] (setAdd S (.str (xs.getD i Str.empty) t)) >>= _) _ _ s'
    refine wpAny_bind (wpAny_holding ?_)
    unfold setAdd
    refine wpAny_holding ?_
    refine wpAny_bind ((PySem.strKind prog w).pyHash (k := xs.getD i Str.empty) (strKind_is _ _ _ _) ?_)
    refine wpAny_setAddHashed_of (knd := PySem.strKind prog w) (s := { s' with toks := s'.toks + 1 }) (strKind_is _ _ _ _) rfl hS' (by have := crd_le xs i; omega) fun h' hsb hS2 => ?_
    have hSi : h'.SetOf (PySem.strKind prog w) S (fun k' => (xs.take (i + 1)).any (· == k')) (crd xs (i + 1)) := by
      have hlx : i < xs.length := by omega
      have eg : xs.getD i Str.empty = xs[i] := by rw [List.getD_eq_getElem?_getD, List.getElem?_eq_getElem hlx]; rfl
      refine SetOf_congr hS2 (fun k' => ?_) (by rw [crd])
      rw [List.take_succ, List.getElem?_eq_getElem hlx, List.any_append, eg]
      congr 1
      by_cases e : k' = xs[i]
      · subst e; simp
      · have hb : (xs[i] == k') = false := by simpa [beq_iff_eq] using (fun h' : xs[i] = k' => e h'.symm)
        simp [hb, e]
    refine wpAny_pure ⟨plainId_quiet PyProof.Rows.F.plain_set_update_loop _, ih (i + 1) _ (by omega) hlt (W.frame _ s' _ _ hst' (Nat.le_succ _) fun b hb o e => ?_) hSi fun s'' hm'' hS'' => ?_⟩
    · rw [hsb.2 b (fun h : b = S => hSf (by rw [← h]; exact hb))]; exact e
    · refine hR s'' (Moved.trans W.gtrans ((hm.mono hsub).then_heap (Nat.le_succ _) fun b o hb e => ?_) hm'') hS''
      rw [hsb.2 b (fun h : b = S => hb (by rw [h]; exact List.mem_cons_self))]; exact e
end

section
variable {prog : Program} {w : World} {A : Around} {E : Value → Shared → Prop} {s : Shared}
set_option maxHeartbeats 3200000 in
theorem call_set_listN {l : Addr} {items : Array Value} {xs : List Str} {Q : Value → Shared → Prop}
    (hh : A.handled = none) (hl : s.heap.IsList l items) (hi : PyProof.Rows.StrsAre items.toList xs) (hb1 : xs.length + 1 < scanBound)
    (h : ∀ (h' : Heap) (tk : Nat), h'.SetOf (PySem.strKind prog w) s.heap.objs.size (fun k' => (xs.take items.size).any (· == k')) (crd xs items.size) →
      (∀ b o, b < s.heap.objs.size → s.heap.get? b = some o → h'.get? b = some o) → Q (.ref s.heap.objs.size) { s with heap := h', toks := tk }) :
    wpAny (model prog w) A (call (.type "set") [.ref l]) Q E s := by
  obtain ⟨c, tl, hmro⟩ := PySem.F.called_set.mro
  have hmade := PySem.F.called_set.made
  have hsub := PySem.F.called_set.sub
  refine wpAny_call (codeAny_of_tree ?_)
  show wpAny _ _ (callAny (.type "set") _) _ _ _
  refine wpAny_pure ⟨Code.quiet_builtin _ (by decide +kernel), codeAny_builtin PySem.F.entry_type_call ?_⟩
  rw [Around.under_plain (weight_type_call_type "set" [.ref l] []) rfl]
  have h1 := PySem.F.called_set.notType
  have h2 := PySem.F.called_set.canCreate
  have hct := PySem.F.typeCall_set_1 (.ref l)
  repeat (any_goals (first | assumption | wp_step))

  refine codeAny_mono (code_set_new_1 (.ref l) (E := E) (Q₁ := fun obj s₁ => ∃ led : Bool, obj = .ref s.heap.objs.size ∧ s₁ = { s with heap := s.heap.push { cls := .type "set", dict := none, data := .set #[] 0 (.fresh 0 0 led) } }) fun led => ⟨led, rfl, rfl⟩) fun r s₁ hr => ?_
  cases r with
  | error e => exact hr
  | ok fl =>
    cases fl with
    | ret obj =>
      obtain ⟨led, rfl, rfl⟩ := hr
      have hS : (s.heap.push { cls := .type "set", dict := none, data := .set #[] 0 (.fresh 0 0 led) }).get? s.heap.objs.size = some { cls := .type "set", dict := none, data := .set #[] 0 (.fresh 0 0 led) } := Heap.get?_push_size _ rfl
      have hT : Shared.TypeIs { s with heap := s.heap.push { cls := .type "set", dict := none, data := .set #[] 0 (.fresh 0 0 led) } } (.ref s.heap.objs.size) "set" := ⟨_, hS, rfl⟩
      have hli := PySem.F.called_set.init.lookup
      have hbi := PySem.F.called_set.init.bind (.ref s.heap.objs.size)
      repeat (any_goals (first | assumption | wp_step))

      refine codeAny_mono (codeAny_call_builtin (R := wants (fun r s₂ => r = .none ∧ ∃ h' tk, s₂ = { s with heap := h', toks := tk } ∧
          h'.SetOf (PySem.strKind prog w) s.heap.objs.size (fun k' => (xs.take items.size).any (· == k')) (crd xs items.size) ∧
          (∀ b o, b < s.heap.objs.size → s.heap.get? b = some o → h'.get? b = some o)) E) PySem.F.called_set.init.plain PySem.F.entry_set_init (check_set_init_1 hT ?_)) fun r₂ s₂ hr₂ => ?_
      · obtain ⟨ol, hol, hcl, nl, hdl⟩ := hl
        obtain ⟨ocls, odict, odata, oslots⟩ := ol
        simp only at hcl hdl
        subst hcl; subst hdl
        have hol' : (s.heap.push { cls := .type "set", dict := none, data := .set #[] 0 (.fresh 0 0 led) }).get? l = some { cls := .type "list", dict := odict, data := .seq items nl, slots := oslots } := Heap.get?_push_of_some _ hol
        have hsls := PySem.F.sub_list_set
        have hslf := PySem.F.sub_list_frozenset
        have hne : (Value.type "list" == Value.type "dict") = false := by decide
        have hl1 : (s.heap.push { cls := .type "set", dict := none, data := .set #[] 0 (.fresh 0 0 led) }).IsList l items := ⟨_, hol', rfl, nl, rfl⟩
        unfold Builtin.«set.__init__» noKeywords Builtin.Frozenset.updateFrom
        generalize hPI : pyIter = PI
        wp_walk
        subst hPI

        refine wpAny_pyIter_list hl1 ?_
        refine wpAny_bind (wpAny_runValue ?_)
        have hlS : l < s.heap.objs.size := Heap.lt_size hol
        have hh3 : A.in1.in1.in1.handled = none := by simp [hh]
        have hneI : l ≠ (s.heap.push { cls := .type "set", dict := none, data := .set #[] 0 (.fresh 0 0 led) }).objs.size := by
          rw [Heap.size_push]; exact Nat.ne_of_lt (Nat.lt_succ_of_lt hlS)
        have hSf : s.heap.objs.size ∉ [(s.heap.push { cls := .type "set", dict := none, data := .set #[] 0 (.fresh 0 0 led) }).objs.size, l] := by
          rw [Heap.size_push]; simp only [List.mem_cons, List.mem_singleton, List.not_mem_nil, or_false, not_or]
          exact ⟨Nat.ne_of_lt (Nat.lt_succ_self _), Nat.ne_of_gt hlS⟩
        have hsz : xs.length = items.size := by rw [← StrsAre.len_eq hi, Array.length_toList]
        have hval : ∀ (i : Nat) (v : Value), items[i]? = some v → ∃ t, v = .str (xs.getD i Str.empty) t := fun i v hv => strs_at hi i v (by rw [Array.getElem?_toList]; exact hv)
        refine loopStrN ((Walks.list hh3 _ l hneI items).toS) s.heap.objs.size
          hSf xs hsz (by rw [← hsz]; exact hb1) hval (items.size - 0) 0 _ (by omega) (Nat.zero_le _)
          ⟨⟨_, Heap.get?_push_size _ rfl, rfl, rfl⟩, (hl1.push _)⟩ ?hS0 ?hR
        case hS0 =>
          have hget : ((s.heap.push { cls := .type "set", dict := none, data := .set #[] 0 (.fresh 0 0 led) }).push { cls := .type "list_iterator", data := .fields #[.ref l, .int 0 0] }).get? s.heap.objs.size
              = some { cls := .type "set", dict := none, data := .set #[] 0 (.fresh 0 0 led) } := Heap.get?_push_of_some _ hS
          exact PyProof.Rows.SetOf_congr ((PyProof.Rows.setObjOf_fresh (knd := PySem.strKind prog w) led).setOf hget (by unfold scanBound; omega)) (fun _ => rfl) rfl
        case hR =>
          intro s' hm hS'
          obtain ⟨h', g', d', tk', os'⟩ := s'
          have eg : g' = s.gens := hm.gens
          have ed : d' = s.drawn := hm.drawn
          have eo : os' = s.os := hm.os
          subst eg; subst ed; subst eo
          show wpAny _ _ _ _ _ _
          refine wpAny_pure ?_
          show wpAny _ _ (ret Value.none) _ _ _
          refine wpAny_pure ⟨rfl, h', tk', rfl, hS', fun b o hb e => ?_⟩
          have hb1 : b ≠ s.heap.objs.size := Nat.ne_of_lt hb
          have hb2 : b ≠ (s.heap.push { cls := .type "set", dict := none, data := .set #[] 0 (.fresh 0 0 led) }).objs.size := by
            rw [Heap.size_push]; exact Nat.ne_of_lt (Nat.lt_succ_of_lt hb)
          exact hm.heap b o (by simp only [List.mem_cons, List.mem_singleton, List.not_mem_nil, or_false, not_or]; exact ⟨hb1, hb2⟩) (Heap.get?_push_of_some _ (Heap.get?_push_of_some _ e))

      · cases r₂ with
        | error e => exact hr₂
        | ok fl₂ =>
          cases fl₂ with
          | ret r =>
            obtain ⟨rfl, h', tk, rfl, hS', hk'⟩ := hr₂
            repeat (any_goals (first | assumption | wp_step))
            exact h _ _ hS' hk'
          | _ => exact hr₂.elim
    | _ => exact hr.elim
end
end SS
namespace L2
open PySem PySem.Spec PyProof.Rows SS
/-- len(set(xs)), xs a list of distinct texts -/
def tLenSetN (K : PySem.W.Frag) (ta : TE) : TE := fun σ H Q => ta σ H fun x H1 => ∃ (l : Addr) (xs : List Str), x = .ref l ∧ SqL K H1 l (xs.map V.str) ∧ xs.length ≤ 4000 ∧ Q (.int (crd xs xs.length : Nat)) H1
section
variable {X : Cx} {K : PySem.W.Frag}
theorem pe_lenSetN {a : Expr} {ta : TE} {p p2 q pos : Pos} (hK : X.K = K) (hc : X.calm = true) (hg : Gl X "len") (hm : X.mg "len" = none) (hg2 : Gl X "set") (hm2 : X.mg "set" = none) (ha : PE X a ta)
    (na : starEach [a] X.env = (false, eval a X.env) :: starEach [] X.env := by rfl) : PE X (.Call (.Name "len" p) [.Call (.Name "set" p2) [a] [] q] [] pos) (tLenSetN K ta) := by
  subst hK
  refine ⟨fun pins s σ H Q I h => ?_⟩
  refine Call_ (ld_blt I hg hm boot_len ?_)
  refine PyProof.Rows.callWith_builtin1 (PyProof.Rows.args_cons ?_ rfl) rfl rfl
  refine Call_ (ld_blt I hg2 hm2 boot_set ?_)
  refine PyProof.Rows.callWith_type1 (PyProof.Rows.args_cons (thn (ha.run pins s σ H _ I h) fun v s1 ⟨x, H1, I1, r1, q1⟩ => PyProof.Rows.args_nil ?_) na) na rfl
  obtain ⟨l, xs, rfl, hq, hl, q1⟩ := q1
  have hcl := crd_le xs xs.length
  cases r1
  obtain ⟨its, r, pl, hz⟩ := I1.list hq
  have hlen : its.toArray.size = xs.length := by rw [List.size_toArray, ← r.length, List.length_map]
  refine call_set_listN (I1.ok.hd hc) pl.isList (by simpa using strsAre_of r) (by unfold scanBound; omega) fun h' tk hS hk => ?_
  refine PyProof.Rows.args_nil ?_
  rw [hlen] at hS
  obtain ⟨o, es, ep, t, ho, hex, hd, _, _, _, hf, hn⟩ := hS
  have I2 : Inv X pins σ H1 { s1 with heap := h', toks := tk } := I1.kept fun b o e => hk b o (Heap.lt_size e) e
  exact call_len_set ho hex hd hf (by rw [hn] <;> omega) ⟨.int (crd xs xs.length : Nat), H1, I2.tok _, ⟨_, by rw [hn]⟩, q1⟩
end
end L2
namespace Tg
open PySem PySem.Spec L2
section
variable {K : PySem.W.Frag} {ρ : List Sl} {te : TE} {q : D → Prop}
theorem ae_lenSetG (h : AE K te ρ fun d => ∃ xs : List Str, d = .lst (xs.map .str) ∧ xs.length ≤ 4000 ∧ q (.int (SS.crd xs xs.length : Nat))) : AE K (tLenSetN K te) ρ q := fun B H σ s E Q k => by
  refine h B H σ s E _ fun d v H1 ⟨xs, e, hl, hq⟩ s1 dv => ?_
  subst e
  cases dv with
  | @lst a vs _ ha hv =>
    have ev : vs = xs.map V.str := strs_of hv
    subst ev
    exact ⟨a, xs, rfl, Sq_of (ext_r s s1 _ _ ha), hl, k _ _ H1 hq s1 (.int _)⟩
theorem crd_all {xs : List Str} : ∀ i, i ≤ xs.length → (SS.crd xs i = i ↔ (xs.take i).Nodup)
  | 0, _ => by simp [SS.crd]
  | i + 1, h => by
    have ih := crd_all (xs := xs) i (by omega)
    have hle := SS.crd_le xs i
    have eg : xs.getD i Str.empty = xs[i] := by rw [List.getD_eq_getElem?_getD, List.getElem?_eq_getElem (by omega)]; rfl
    have et : xs.take (i + 1) = xs.take i ++ [xs[i]] := by rw [List.take_succ, List.getElem?_eq_getElem (by omega)]; rfl
    have nd : (xs.take (i + 1)).Nodup ↔ (xs.take i).Nodup ∧ xs[i] ∉ xs.take i := by
      rw [et, List.nodup_append]
      constructor
      · rintro ⟨a, _, c⟩
        exact ⟨a, fun m => c _ m _ (by simp) rfl⟩
      · rintro ⟨a, b⟩
        refine ⟨a, by simp, fun x m y m' e => ?_⟩
        rw [List.mem_singleton.mp m'] at e
        exact b (e ▸ m)
    have ea : ((xs.take i).any (· == xs.getD i Str.empty)) = decide (xs[i] ∈ xs.take i) := by
      rw [eg, Bool.eq_iff_iff, List.any_eq_true, decide_eq_true_iff]
      constructor
      · rintro ⟨x, m, e⟩
        rw [beq_iff_eq] at e
        exact e ▸ m
      · exact fun m => ⟨_, m, by simp⟩
    rw [nd, SS.crd, ea]
    by_cases c : xs[i] ∈ xs.take i
    · rw [decide_eq_true c, if_pos rfl]
      exact ⟨fun e => by omega, fun e => absurd c e.2⟩
    · rw [decide_eq_false c, if_neg Bool.false_ne_true]
      exact ⟨fun e => ⟨ih.mp (by omega), c⟩, fun e => by rw [ih.mpr e.1]⟩
theorem crd_nd {xs : List Str} : SS.crd xs xs.length = xs.length ↔ xs.Nodup := by
  rw [crd_all _ (Nat.le_refl _), List.take_length]
theorem ae_lenSetN (h : AE K te ρ fun d => ∃ xs : List Str, d = .lst (xs.map .str) ∧ xs.Nodup ∧ xs.length ≤ 4000 ∧ q (.int (xs.length : Nat))) : AE K (tLenSetN K te) ρ q := ae_lenSetG (ae_mono h fun d ⟨xs, e, hnd, hl, hq⟩ => ⟨xs, e, hl, by rw [crd_nd.mpr hnd]; exact hq⟩)
end
end Tg

/-! The engine: x in xs, xs.index(x), data of any depth. -/
namespace Tg
open PySem PySem.Spec L2
theorem room65 {k : Nat} {A : Around} (r : Room k A) : A.units + 65 < cLine := by have := r.un; omega
section
variable {X : Cx} {K : PySem.W.Frag}
theorem op_inDK (hK : X.K = K) (hu : X.A.units + 65 < cLine) : OpR X (compareOp .In) (rInD K) := by subst hK; exact op_inD hu
theorem op_ninDK (hK : X.K = K) (hu : X.A.units + 65 < cLine) : OpR X (compareOp .NotIn) (rNotInD K) := by subst hK; exact op_notInD hu
theorem mt_indexDK (hK : X.K = K) (hu : X.A.units + 65 < cLine) : MtR X "list.index" (rIndexD K) := by subst hK; exact mt_indexD hu
end
theorem any_PPs (x : D) : ∀ ds : List D, ((PPs ds).any fun z => PyData.eqv z (PP x)) = inD x ds
  | [] => rfl
  | y :: ds => by
    rw [PPs, List.any_cons, any_PPs x ds]
    rfl
theorem PPs_at : ∀ (ds : List D) (j : Nat), (PPs ds)[j]? = (ds[j]?).map PP
  | [], j => by simp [PPs]
  | d :: ds, 0 => by simp [PPs]
  | d :: ds, j + 1 => by
    rw [PPs, List.getElem?_cons_succ, List.getElem?_cons_succ, PPs_at ds j]
section
variable {K : PySem.W.Frag} {a b d x : D} {q : D → Prop} {ds : List D}
theorem a2_inDL (pa : pln x = true) (pb : plns ds = true) (za : dep x ≤ 64) (zb : dep (.lst ds) ≤ 64) (hq : q (.bl (inD x ds))) : A2 K (rInD K) x (.lst ds) q := fun B H u v s h1 h2 Q k => by
  have e1 := sh_of h1 pa za
  have e2 := sh_of h2 (show pln (.lst ds) = true by rw [pln]; exact pb) zb
  refine ⟨_, PPs ds, dp_up s e1.1, dp_up s e2.1, e1.2, e2.2, ?_⟩
  rw [any_PPs]
  exact k _ _ H hq (Same.refl _) (.bl _)
theorem a2_ninDL (pa : pln x = true) (pb : plns ds = true) (za : dep x ≤ 64) (zb : dep (.lst ds) ≤ 64) (hq : q (.bl (!inD x ds))) : A2 K (rNotInD K) x (.lst ds) q := fun B H u v s h1 h2 Q k => by
  have e1 := sh_of h1 pa za
  have e2 := sh_of h2 (show pln (.lst ds) = true by rw [pln]; exact pb) zb
  refine ⟨_, PPs ds, dp_up s e1.1, dp_up s e2.1, e1.2, e2.2, ?_⟩
  rw [any_PPs]
  exact k _ _ H hq (Same.refl _) (.bl _)
theorem am_indexD {j : Nat} {z : D} (pa : pln x = true) (pb : plns ds = true) (za : dep x ≤ 64) (zb : dep (.lst ds) ≤ 64) (h1 : ds[j]? = some z) (h2 : deq z x = true) (h3 : ∀ m z', m < j → ds[m]? = some z' → deq z' x = false) (hq : q (.int j)) : AM K (rIndexD K) (.lst ds) x q := fun B H u v s g1 g2 Q k => by
  have e1 := sh_of g2 pa za
  have e2 := sh_of g1 (show pln (.lst ds) = true by rw [pln]; exact pb) zb
  cases g1 with
  | lst hs hv =>
    refine ⟨_, _, PP x, PPs ds, j, PP z, rfl, rfl, dp_up s e2.1, dp_up s e1.1, e2.2, e1.2, by rw [PPs_at, h1]; rfl, h2, fun m z' hm hz => ?_, k _ _ H hq (Same.refl _) (.int _)⟩
    rw [PPs_at] at hz
    cases e : ds[m]? with
    | none => rw [e] at hz; cases hz
    | some w =>
      rw [e] at hz
      cases hz
      exact h3 m w hm e
end
theorem ite_or {p A B : Prop} [Decidable p] (h1 : ¬ p → A) (h2 : p → B) : (decide p = false → A) ∧ (decide p = true → B) := ⟨fun h => h1 (of_decide_eq_false h), fun h => h2 (of_decide_eq_true h)⟩
theorem plns_map {α : Type} {f : α → D} : ∀ {xs : List α}, (∀ x ∈ xs, pln (f x) = true) → plns (xs.map f) = true
  | [], _ => rfl
  | x :: xs, h => by rw [List.map_cons, plns, h x List.mem_cons_self, plns_map fun y m => h y (List.mem_cons_of_mem _ m)]; rfl
def inS (x : D) (ns : List Str) : Bool := match x with
  | .str n => decide (n ∈ ns)
  | _ => false
theorem inD_odd {x : D} (p : pln x = true) (ns : List Str) : inD x (ns.map .str) = inS x ns := by
  cases x with
  | str n => exact inD_str n ns
  | _ =>
    unfold inD
    rw [List.any_map]
    show _ = false
    rw [List.any_eq_false]
    intro z _
    simp [deq, PP, PyData.eqv]
mutual
theorem deq_refl : ∀ d : D, pln d = true → deq d d = true
  | .non, _ => by simp [deq, PP, PyData.eqv]
  | .bl _, _ => by simp [deq, PP, PyData.eqv]
  | .int _, _ => by simp [deq, PP, PyData.eqv]
  | .str _, _ => by simp [deq, PP, PyData.eqv]
  | .lst xs, h => by
    unfold deq
    rw [PP, PyData.eqv]
    exact deqs_refl xs (by rwa [pln] at h)
  | .fls xs, h => by
    unfold deq
    rw [PP, PyData.eqv]
    exact deqs_refl xs (by rwa [pln] at h)
  | .tup xs, h => by
    unfold deq
    rw [PP, PyData.eqv]
    exact deqs_refl xs (by rwa [pln] at h)
  | .dk _, h => by simp [pln] at h
  | .dt _, h => by simp [pln] at h
  | .op _, h => by simp [pln] at h
  | .ex _ _ _, h => by simp [pln] at h
  | .vd _ _, h => by simp [pln] at h
theorem deqs_refl : ∀ ds : List D, plns ds = true → PyData.eqvAll (PPs ds) (PPs ds) = true
  | [], _ => by simp [PPs, PyData.eqvAll]
  | d :: ds, h => by
    rw [plns, Bool.and_eq_true] at h
    rw [PPs, PyData.eqvAll, deqs_refl ds h.2]
    have := deq_refl d h.1
    unfold deq at this
    rw [this]
    rfl
end
section
variable {K : PySem.W.Frag} {j : Nat} {te : TE} {ρ : List Sl} {q : D → Prop}
theorem alcI {xs : List D} (g : D → D) (hl : xs.length < 100000) (he : ∀ x ∈ xs, ∀ q : D → Prop, q (g x) → AE K te (ρ.set j (.sh x)) q) (hq : q (.lst (xs.map g))) : ALc K xs j tYes te ρ q := by
  have := alcA (f := fun d : D => d) (xs := xs) (j := j) (te := te) (ρ := ρ) g hl he hq
  rwa [List.map_id'] at this
end
section
variable {K : PySem.W.Frag} {B0 H0 : Hp} {F0 : List Addr} {W : List Res} {ρ : List Sl} {r rn : D → List Res → Prop} {n bk ct : List Sl → List Res → Prop}
theorem aforI {xs : List D} {g : TG} {tb : TS} (Iv : Nat → List Sl → Prop) (h0 : ∃ ρ', Wk ρ ρ' ∧ Iv 0 ρ') (hs : ∀ i x ρ', xs[i]? = some x → Iv i ρ' → AG ⟨K, B0, H0, F0⟩ g x ρ' W fun ρ2 W2 => AW ⟨K, B0, H0, F0⟩ tb ρ2 W2 ⟨fun ρ3 W3 => ∃ ρ4, Wk ρ3 ρ4 ∧ Iv (i + 1) ρ4 ∧ W3 = W, r, rn, n, fun ρ3 W3 => ∃ ρ4, Wk ρ3 ρ4 ∧ Iv (i + 1) ρ4 ∧ W3 = W⟩)
    (hd : ∀ ρ', Iv xs.length ρ' → n ρ' W) : AFor ⟨K, B0, H0, F0⟩ xs g tb ρ W ⟨n, r, rn, bk, ct⟩ := by
  have := aforM (f := fun d : D => d) (xs := xs) (K := K) (B0 := B0) (H0 := H0) (F0 := F0) (W := W) (ρ := ρ) (r := r) (rn := rn) (n := n) (bk := bk) (ct := ct) (g := g) (tb := tb) Iv h0 hs hd
  rwa [List.map_id'] at this
end
section
variable {K : PySem.W.Frag} {B0 H0 : Hp} {F0 : List Addr} {W : List Res} {ρ : List Sl} {r rn : D → List Res → Prop} {n bk ct : List Sl → List Res → Prop} {i : Nat} {d : D} {te : TE}
theorem s_asgOwn (e : ρ[i]? = some (.own d)) (h : AW ⟨K, B0, H0, F0⟩ (tAsgN (tOp rCat (tVar i) te) i) (ρ.set i (.sh d)) W ⟨n, r, rn, bk, ct⟩) : AW ⟨K, B0, H0, F0⟩ (tAsgN (tOp rCat (tVar i) te) i) ρ W ⟨n, r, rn, bk, ct⟩ := s_frz i e h
end
section
variable {K : PySem.W.Frag} {B0 H0 : Hp} {F0 : List Addr} {W : List Res} {ρ : List Sl} {r rn : D → List Res → Prop} {n bk ct : List Sl → List Res → Prop} {t : TS}
theorem s_forOwn {i : Nat} {d : D} {te : TE} {g : TG} {tb : TS} (e : ρ[i]? = some (.own d)) (h : AW ⟨K, B0, H0, F0⟩ (tFor (iList K (tOp rCat (tVar i) te)) g tb) (ρ.set i (.sh d)) W ⟨n, r, rn, bk, ct⟩) : AW ⟨K, B0, H0, F0⟩ (tFor (iList K (tOp rCat (tVar i) te)) g tb) ρ W ⟨n, r, rn, bk, ct⟩ := s_frz i e h
/-- the slots, written out -/
theorem s_norm {ρ' : List Sl} (e : ρ = ρ') (h : AW ⟨K, B0, H0, F0⟩ t ρ' W ⟨n, r, rn, bk, ct⟩) : AW ⟨K, B0, H0, F0⟩ t ρ W ⟨n, r, rn, bk, ct⟩ := e ▸ h
end
/-- data in which no list stands -/
def noLt : D → Bool
  | .tup xs => xs.all scalD
  | d => scalD d
section
variable {Z : Zc} {B B' H H' F : Hp} {σ : L2.St} {ρ : List Sl} {W : List Res} {A G : List Addr} {P : AEnds} {te : TE} {i : Nat} {d : D}
theorem dvl_sc {K : PySem.W.Frag} : ∀ {vs : List V} {ds : List D}, DvL K B vs ds → ds.all scalD = true → DvL K B' vs ds
  | _, _, .nil, _ => .nil
  | _, _, .cons h t, n => by
    rw [List.all_cons, Bool.and_eq_true] at n
    exact .cons (dv_scal h n.1) (dvl_sc t n.2)
theorem Rel.noLt (r : Rel Z B H σ ρ W A G) {v : V} (n : noLt d = true) (dv : Dv Z.K (ext (fzB B H A) H H') v d) : Dv Z.K (ext B H H') v d := by
  cases d with
  | tup xs =>
    cases dv with
    | @tup a vs _ h1 h2 =>
      refine .tup ?_ (dvl_sc h2 n)
      cases e : H a with
      | none =>
        rw [ext_new e] at h1 ⊢
        exact h1
      | some o =>
        rw [ext_old (ne_none e)] at h1 ⊢
        unfold fzB at h1
        by_cases m : a ∈ A
        · rw [if_pos m] at h1
          exact absurd h1 ((r.env.hard a m).2 vs)
        · rwa [if_neg m] at h1
  | _ => exact dv_scal dv n
theorem aw_appendT {ds : List D} (e : ρ[i]? = some (.own (.lst ds))) (h : AE Z.K te (fz ρ) fun d => Tg.noLt d = true ∧ ds.length < 100000 ∧ P.nx (ρ.set i (.own (.lst (ds ++ [d])))) W) : AW Z (tDrop (tBM Z.K "list" rAppend (tVar i) (tCons te tNil))) ρ W P := fun F R ok B H σ A G s r => by
  obtain ⟨a, h1, h2, h3, vs, h4, h5⟩ := r.env.getOwn e
  refine ⟨_, h1, .inl ⟨rfl, _, Sq_of h4⟩, ?_⟩
  refine h _ H σ r.fz.bh r.fz.env.envS _ fun d v H' hq s1 dv => ?_
  have r1 := r.step s1
  refine ⟨a, vs, v, rfl, rfl, s1 _ _ h4, smallL (by rw [h5.len]; exact hq.2.1), ok.nx hq.2.2 (s.trans (ext_l r.bh)) (r1.mut e h1 h2 ⟨_, upd_same, (h5.mono (ext_l r.bh)).append (.cons (r.noLt hq.1 dv) .nil)⟩)⟩
end
section
variable {K : PySem.W.Frag} {B0 H0 : Hp} {F0 : List Addr} {W : List Res} {ρ : List Sl} {r rn : D → List Res → Prop} {n bk ct : List Sl → List Res → Prop} {i : Nat} {tl : TA}
theorem s_appendT {ds : List D} (e : ρ[i]? = some (.own (.lst ds))) (h : AE K (tTup tl) (fz ρ) fun d => noLt d = true ∧ ds.length < 100000 ∧ n (ρ.set i (.own (.lst (ds ++ [d])))) W) : AW ⟨K, B0, H0, F0⟩ (tAppH K i (tTup tl)) ρ W ⟨n, r, rn, bk, ct⟩ := aw_appendT e h
end
end Tg
namespace Tg
open PySem PySem.Spec L2
local macro_rules | `(tactic| walk_at "sz") => `(tactic| first | assumption | (exact small (by omega)) | (exact small (by decide)) | (exact small (Nat.le_of_ble_eq_true rfl)) | decide)
local macro_rules | `(tactic| walk_at "isi") => `(tactic| first
  | (with_reducible refine w_i_NoneType_str ?_)
  | (with_reducible refine w_i_NoneType_int ?_)
  | (with_reducible refine w_i_NoneType_bool ?_)
  | (with_reducible refine w_i_NoneType_list ?_)
  | (with_reducible refine w_i_NoneType_tuple ?_)
  | (with_reducible refine w_i_NoneType_dict ?_)
  | (with_reducible refine w_i_bool_str ?_)
  | (with_reducible refine w_i_bool_int ?_)
  | (with_reducible refine w_i_bool_bool ?_)
  | (with_reducible refine w_i_bool_list ?_)
  | (with_reducible refine w_i_bool_tuple ?_)
  | (with_reducible refine w_i_bool_dict ?_)
  | (with_reducible refine w_i_int_str ?_)
  | (with_reducible refine w_i_int_int ?_)
  | (with_reducible refine w_i_int_bool ?_)
  | (with_reducible refine w_i_int_list ?_)
  | (with_reducible refine w_i_int_tuple ?_)
  | (with_reducible refine w_i_int_dict ?_)
  | (with_reducible refine w_i_str_str ?_)
  | (with_reducible refine w_i_str_int ?_)
  | (with_reducible refine w_i_str_bool ?_)
  | (with_reducible refine w_i_str_list ?_)
  | (with_reducible refine w_i_str_tuple ?_)
  | (with_reducible refine w_i_str_dict ?_)
  | ((with_reducible apply w_i_list_str); (· walk_at "hp"))
  | ((with_reducible apply w_i_list_int); (· walk_at "hp"))
  | ((with_reducible apply w_i_list_bool); (· walk_at "hp"))
  | ((with_reducible apply w_i_list_list); (· walk_at "hp"))
  | ((with_reducible apply w_i_list_tuple); (· walk_at "hp"))
  | ((with_reducible apply w_i_list_dict); (· walk_at "hp"))
  | ((with_reducible apply w_i_tuple_str); (· walk_at "hp"))
  | ((with_reducible apply w_i_tuple_int); (· walk_at "hp"))
  | ((with_reducible apply w_i_tuple_bool); (· walk_at "hp"))
  | ((with_reducible apply w_i_tuple_list); (· walk_at "hp"))
  | ((with_reducible apply w_i_tuple_tuple); (· walk_at "hp"))
  | ((with_reducible apply w_i_tuple_dict); (· walk_at "hp"))
  | ((with_reducible apply w_i_dict_str); (· walk_at "hp"))
  | ((with_reducible apply w_i_dict_int); (· walk_at "hp"))
  | ((with_reducible apply w_i_dict_bool); (· walk_at "hp"))
  | ((with_reducible apply w_i_dict_list); (· walk_at "hp"))
  | ((with_reducible apply w_i_dict_tuple); (· walk_at "hp"))
  | ((with_reducible apply w_i_dict_dict); (· walk_at "hp")))
local macro_rules | `(tactic| walk_at "w2") => `(tactic| fail)
local macro_rules | `(tactic| walk_at "w") => `(tactic| first
  | (with_reducible refine w_seq ?_)
  | (with_reducible refine w_asg ?_)
  | (with_reducible refine w_name ?_)
  | ((with_reducible apply w_var); · exact rfl)
  | (with_reducible refine w_c ?_)
  | (with_reducible refine w_op ?_)
  | (with_reducible refine w_rI0 ?_)
  | ((with_reducible refine w_rI ?_ ?_); · (first | (show (0 : Int) < _; first | decide | omega) | exact ⟨by decide, by decide⟩ | (constructor <;> omega)))
  | ((with_reducible refine w_rEq ?_ ?_); · exact rfl)
  | ((with_reducible refine w_rNe ?_ ?_); · exact rfl)
  | (with_reducible refine w_tTest ?_)
  | (with_reducible refine w_tB ?_)
  | (with_reducible refine w_tNot ?_)
  | ((with_reducible apply w_andB); (· intro Q q; walk_at "go"; exact q); (· intro he Q q; walk_at "go"; exact q))
  | ((with_reducible apply w_orB); (· intro Q q; walk_at "go"; exact q); (· intro he Q q; walk_at "go"; exact q))
  | (with_reducible refine w_tAnd ?_)
  | (with_reducible refine w_tOr ?_)
  | (with_reducible refine w_bl ?_)
  | (with_reducible refine w_if ?_)
  | (with_reducible refine w_ret ?_)
  | (with_reducible refine w_cons ?_)
  | (with_reducible refine w_nil ?_)
  | (with_reducible refine w_cb ?_)
  | (with_reducible refine w_call ?_)
  | (with_reducible refine w_chain ?_)
  | (with_reducible refine w_next ?_)
  | (with_reducible refine w_drop ?_)
  | (with_reducible refine w_un ?_)
  | (with_reducible refine w_rU ?_)
  | (with_reducible refine w_lst ?_)
  | (with_reducible refine w_tup ?_)
  | (with_reducible refine w_forS ?_)
  | (with_reducible refine w_forL ?_)
  | (with_reducible refine w_forR1 ?_)
  | (with_reducible refine w_forR2 ?_)
  | (with_reducible refine w_lcL ?_)
  | (with_reducible refine w_lcS ?_)
  | (with_reducible refine w_yes ?_)
  | ((with_reducible refine w_wipe ?_ ?_); (· rfl))
  | ((with_reducible show rIsi _ _ _ _); walk_at "isi")
  | (with_reducible refine w_lcR1 ?_)
  | (with_reducible refine w_fld ?_)
  | (with_reducible refine w_sl ?_)
  | (with_reducible refine w_nopart ?_)
  | (with_reducible refine w_part ?_)
  | (with_reducible refine w_int ?_)
  | ((with_reducible refine w_rng1 ?_ ?_ ?_); (· omega); (· omega))
  | ((with_reducible refine w_rng2 ?_ ?_); · omega)
  | (with_reducible refine w_str ?_)
  | (with_reducible refine w_andV ?_)
  | (with_reducible refine w_orV ?_)
  | (with_reducible refine w_notV ?_)
  | (with_reducible refine w_ifE ?_)
  | (with_reducible refine w_isN ?_)
  | (with_reducible refine w_notN ?_)
  | ((with_reducible refine w_lenS ?_ ?_); · walk_at "sz")
  | ((with_reducible refine w_addS ?_ ?_); · walk_at "sz")
  | (with_reducible refine w_inS ?_)
  | (with_reducible refine w_ninS ?_)
  | ((with_reducible refine w_slS ?_ ?_); · walk_at "sz")
  | ((with_reducible apply w_lenL); · walk_at "sq")
  | ((with_reducible apply w_lenT); · walk_at "sq")
  | ((with_reducible apply w_slL); (· walk_at "sq"); intro _ _ _ _ _)
  | (with_reducible refine w_min ?_)
  | (with_reducible refine w_intB ?_)
  | ((with_reducible apply w_listL); (· walk_at "sq"); intro _ _ _ _ _)
  | ((with_reducible apply w_tupL); (· walk_at "sq"); intro _ _ _ _ _)
  | (with_reducible refine w_disp fun _ _ _ _ _ => ?_)
  | (with_reducible refine w_pnil ?_)
  | (with_reducible refine w_pcons ?_)
  | ((with_reducible refine u_mixR ?_ ?_ fun _ _ => ?_); (· omega); (· first | omega | decide +kernel))
  | ((with_reducible refine w_newL ?_ fun _ _ _ _ _ => ?_); (· walk_at "sz"))
  | ((with_reducible refine w_newT ?_ fun _ _ _ _ _ => ?_); (· walk_at "sz"))
  | (with_reducible refine w_bm ?_)
  | (with_reducible refine w_bm0 ?_)
  | (with_reducible refine w_gnil ?_)
  | (with_reducible refine w_gcons ?_)
  | (with_reducible refine w_brk ?_)
  | (with_reducible refine w_cont ?_)
  | (with_reducible refine w_retN ?_)
  | walk_at "w2"
  | ((with_reducible refine w_iteT ?_ ?_); · decide)
  | ((with_reducible refine w_iteF ?_ ?_); · decide)
  | ((with_reducible refine w_iteF ?_ ?_); · (first | exact dn_str | exact dn_int | exact dn_ref | exact dn_bl))
  | ((with_reducible refine w_iteT ?_ ?_); · (first | exact dn'_str | exact dn'_int | exact dn'_ref)))
local macro_rules | `(tactic| walk_at "hp") => `(tactic| first
  | assumption
  | exact upd_same
  | ((with_reducible refine (upd_ne ?_).trans ?_); · (first | assumption | (exact ne_of_none ‹_› ‹_›)); walk_at "hp")
  | ((with_reducible refine (‹Same _ _› : Same _ _) _ _ ?_); walk_at "hp"))
local macro_rules | `(tactic| walk_at "sq") => `(tactic| first
  | assumption
  | (apply Sq_of; walk_at "hp")
  | (apply St_of; walk_at "hp")
  | (apply Same.seq; (· assumption); walk_at "sq")
  | (apply same_t; (· assumption); walk_at "sq"))
local macro_rules | `(tactic| walk_at "go") => `(tactic| repeat walk_at "w")
local macro_rules | `(tactic| walk_at "same") => `(tactic| first
  | assumption
  | exact Same.refl _
  | (refine same_new ?_ (by assumption); walk_at "same")
  | (refine Same.trans ?_ (by assumption); walk_at "same"))
local macro_rules | `(tactic| walk_at "nm") => `(tactic| fail)
local macro_rules | `(tactic| walk_at "len") => `(tactic| first | assumption | omega | (simp only [List.length_cons, List.length_nil, List.length_map, List.length_append, List.length_take, List.length_reverse]; omega) | decide | (simp; done))
local macro_rules | `(tactic| walk_at "oks") => `(tactic| first | assumption | (exact okS_of (by decide +kernel) (by decide +kernel)) | (exact ⟨by decide +kernel, by decide +kernel⟩))
local macro_rules | `(tactic| walk_at "x2") => `(tactic| fail)
local macro_rules | `(tactic| walk_at "x") => `(tactic| first
  | ((with_reducible refine gAW ?_); first
    | ((with_reducible refine gSet ?_); walk_at "nm")
    | (with_reducible refine s_seq ?_)
    | (with_reducible refine s_next ?_)
    | (with_reducible refine s_asgH ?_)
    | (with_reducible refine s_asgS ?_)
    | (with_reducible refine s_asgN ?_)
    | (with_reducible refine s_asgNF ?_)
    | (with_reducible refine s_asgE ?_)
    | (with_reducible refine s_if ?_)
    | ((with_reducible apply s_append); (· exact rfl))
    | ((with_reducible apply s_appendS); (· exact rfl))
    | ((with_reducible apply s_appendPop); (· exact rfl); (· exact rfl); (· decide))
    | ((with_reducible apply s_insert); (· exact rfl))
    | ((with_reducible apply s_reverse); (· exact rfl))
    | ((with_reducible apply s_clear); (· exact rfl))
    | ((with_reducible apply s_retOwn); (· exact rfl))
    | (with_reducible refine s_retNewZ (te := tLst _) ?_)
    | (with_reducible refine s_retNewZ (te := tLc _ _ _ _ _) ?_)
    | (with_reducible refine s_retNewZ (te := tSl (rSlL _) _ _ _) ?_)
    | (with_reducible refine s_retNewZ (te := tOp rCat _ _) ?_)
    | (with_reducible refine s_retNewZ (te := tCB (qListOf _) _) ?_)
    | (with_reducible refine s_retNewZ (te := tCall (pfnN _ _) _ _ _) ?_)
    | (with_reducible refine s_ret ?_)
    | (with_reducible refine s_retN ?_)
    | (with_reducible refine s_brk ?_)
    | (with_reducible refine s_cont ?_)
    | (with_reducible refine s_drop ?_)
    | (with_reducible refine s_forL ?_)
    | (with_reducible refine s_forR1 ?_)
    | (with_reducible refine s_forR2 ?_))
  | ((with_reducible refine gAG ?_); first
    | (with_reducible refine sg_name ?_)
    | ((with_reducible refine sg_tup ?_ ?_); (· rfl)))
  | ((with_reducible refine gAGs ?_); first
    | (with_reducible refine sgs_cons ?_)
    | (with_reducible refine sgs_nil ?_))
  | ((with_reducible refine gAE ?_); first
    | ((with_reducible apply ae_var); (· exact rfl))
    | (with_reducible refine ae_int ?_)
    | (with_reducible refine ae_bl ?_)
    | (with_reducible refine ae_c ?_)
    | ((with_reducible refine ae_str ?_ ?_); (· walk_at "oks"))
    | (with_reducible refine ae_ty ?_)
    | (with_reducible refine ae_of_an (te := tLst _) ?_)
    | (with_reducible refine ae_of_an (te := tLc _ _ _ _ _) ?_)
    | (with_reducible refine ae_of_an (te := tSl (rSlL _) _ _ _) ?_)
    | (with_reducible refine ae_of_an (te := tOp rCat _ _) ?_)
    | (with_reducible refine ae_of_an (te := tCB (qListOf _) _) ?_)
    | (with_reducible refine ae_of_an (te := tCall (pfnN _ _) _ _ _) ?_)
    | (with_reducible refine ae_of_an (te := tDNewK) ?_)
    | (with_reducible refine ae_slS ?_)
    | (with_reducible refine ae_join ?_)
    | (with_reducible refine ae_of_an (te := tCB (rSortedS _) _) ?_)
    | (with_reducible refine ae_of_an (te := tCB (rSorted _) _) ?_)
    | (with_reducible refine ae_bmL ?_)
    | (with_reducible refine ae_op ?_)
    | (with_reducible refine ae_un ?_)
    | (with_reducible refine ae_cb ?_)
    | (with_reducible refine ae_call ?_)
    | (with_reducible refine ae_tup ?_)
    | ((with_reducible apply ae_andVB); (· intro q hq; walk_at "xo"; exact hq); (· intro he q hq; walk_at "xo"; exact hq))
    | ((with_reducible apply ae_orVB); (· intro q hq; walk_at "xo"; exact hq); (· intro he q hq; walk_at "xo"; exact hq))
    | (with_reducible refine ae_notV ?_)
    | (with_reducible refine ae_isN ?_)
    | (with_reducible refine ae_notN ?_)
    | (with_reducible refine ae_chain ?_)
    | (with_reducible refine ae_ifE ?_))
  | ((with_reducible refine gAN ?_); first
    | (with_reducible refine an_op (r := rCat) ?_)
    | (with_reducible refine an_lst ?_)
    | (with_reducible refine an_cb (r := qListOf _) ?_)
    | (with_reducible refine an_call ?_)
    | (with_reducible refine an_slL ?_)
    | (with_reducible refine an_dnew ?_)
    | ((with_reducible refine an_lcL ?_ ?_); (· rfl))
    | ((with_reducible refine an_lcR1 ?_ ?_); (· rfl))
    | (with_reducible refine an_cb (r := rSortedS _) ?_)
    | (with_reducible refine an_cb (r := rSorted _) ?_))
  | ((with_reducible refine gAA ?_); first
    | (with_reducible refine aa_nil ?_)
    | (with_reducible refine aa_cons ?_))
  | ((with_reducible refine gAO ?_); first
    | (with_reducible refine ao_no ?_)
    | ((with_reducible refine ao_some ?_)))
  | ((with_reducible refine gAT ?_); first
    | (with_reducible refine at_b ?_)
    | (with_reducible refine at_test ?_)
    | (with_reducible refine at_not ?_)
    | ((with_reducible apply at_andB); (· intro q hq; walk_at "xo"; exact hq); (· intro he q hq; walk_at "xo"; exact hq))
    | ((with_reducible apply at_orB); (· intro q hq; walk_at "xo"; exact hq); (· intro he q hq; walk_at "xo"; exact hq)))
  | ((with_reducible refine gA2 ?_); first
    | ((with_reducible apply a2_I0); (· intro B; first | exact .int _ | exact .bl _))
    | ((with_reducible apply a2_I); (· intro B; first | exact .int _ | exact .bl _); (· (first | (show (0 : Int) < _; first | decide | omega) | exact ⟨by decide, by decide⟩ | (constructor <;> omega) | (exact .inl ⟨by omega, by omega⟩) | (exact .inr ⟨by omega, by omega⟩))))
    | (with_reducible refine a2_eqI ?_)
    | (with_reducible refine a2_neI ?_)
    | (with_reducible refine a2_eqS ?_)
    | (with_reducible refine a2_neS ?_)
    | (with_reducible refine a2_eqB ?_)
    | (with_reducible refine a2_neB ?_)
    | (with_reducible refine a2_notB ?_)
    | (with_reducible refine a2_isB ?_)
    | (with_reducible refine a2_neNS ?_)
    | (with_reducible refine a2_eqNS ?_)
    | (with_reducible refine a2_neNI ?_)
    | (with_reducible refine a2_eqNI ?_)
    | ((with_reducible refine a2_inNs ?_))
    | ((with_reducible refine a2_ninNs ?_))
    | ((with_reducible refine a2_inIs ?_))
    | (with_reducible refine a2_inSg ?_)
    | (with_reducible refine a2_ninSg ?_)
    | ((with_reducible refine a2_eqD ?_ ?_ ?_ ?_ ?_); (· walk_at "pln"); (· walk_at "pln"); (· walk_at "dep"); (· walk_at "dep"))
    | ((with_reducible refine a2_neD ?_ ?_ ?_ ?_ ?_); (· walk_at "pln"); (· walk_at "pln"); (· walk_at "dep"); (· walk_at "dep")))
  | ((with_reducible refine gA1 ?_); first
    | ((with_reducible apply a1_U); (· intro B; first | exact .int _ | exact .bl _)))
  | ((with_reducible refine gA2N ?_); first
    | ((with_reducible refine a2n_cat ?_ ?_); (· walk_at "len")))
  | ((with_reducible refine gAL ?_); first
    | (with_reducible refine al_lenL ?_)
    | (with_reducible refine al_lenF ?_)
    | (with_reducible refine al_lenT ?_)
    | (with_reducible refine al_lenS ?_)
    | (with_reducible refine al_min ?_)
    | (with_reducible refine al_intB ?_)
    | (with_reducible refine al_tupL ?_)
    | (with_reducible refine al_all ?_)
    | (with_reducible refine al_any ?_)
    | (with_reducible refine al_allT ?_)
    | (with_reducible refine al_allM ?_)
    | (with_reducible refine al_anyM ?_)
    | ((with_reducible apply al_isi (r := true)); (· exact rfl); (· exact kit_ty (by decide +kernel)))
    | ((with_reducible apply al_isi (r := false)); (· exact rfl); (· exact kit_ty (by decide +kernel))))
  | ((with_reducible refine gALN ?_); first
    | (with_reducible refine aln_listL ?_)
    | ((with_reducible refine aln_sortedS ?_ fun _ _ _ => ?_); (· walk_at "len"))
    | ((with_reducible refine aln_sortedI ?_ fun _ _ _ => ?_); (· walk_at "len"))
    | (with_reducible refine aln_listT ?_))
  | ((with_reducible refine gAM ?_); first
    | ((with_reducible refine am_indexS ?_ ?_); (· assumption)))
  | walk_at "x2"
  | ((with_reducible refine ⟨_, rfl, ⟨?_, ?_⟩, ?_⟩); (· omega); (· omega))
  | ((with_reducible refine ⟨⟨?_, ?_⟩, ?_⟩); (· omega); (· omega))
  | ((with_reducible refine ⟨_, rfl, ?_⟩))
  | ((with_reducible refine ⟨_, .inl rfl, ?_⟩))
  | ((with_reducible refine ⟨_, .inr rfl, ?_⟩))
  | ((with_reducible refine And.intro (a := flatD _ = true) ?_ ?_); (· first | exact flatD_eNs _ | exact flatD_eIs _ | rfl))
  | ((with_reducible refine ⟨rfl, ?_⟩))
  | (with_reducible refine ite_t ?_)
  | (with_reducible refine ite_f ?_)
  | ((with_reducible refine And.intro (a := _ ≤ _) ?_ ?_); (· walk_at "len"))
  | ((with_reducible refine And.intro (a := _ < _) ?_ ?_); (· walk_at "len"))
  | ((with_reducible refine And.intro (a := _ → AW _ _ _ _ _) (fun h => absurd h ?_) (fun _ => ?_)); (· first | exact Bool.false_ne_true | exact (fun h => Bool.noConfusion (show true = false from h)) | (simp; done)))
  | ((with_reducible refine And.intro (a := _ → AW _ _ _ _ _) (fun _ => ?_) (fun h => absurd h ?_)); rotate_left; (· first | exact Bool.false_ne_true | exact (fun h => Bool.noConfusion (show true = false from h)) | (simp; done)))
  | ((with_reducible refine And.intro (a := _ → AE _ _ _ _) (fun h => absurd h ?_) (fun _ => ?_)); (· first | exact Bool.false_ne_true | exact (fun h => Bool.noConfusion (show true = false from h)) | (simp; done)))
  | ((with_reducible refine And.intro (a := _ → AE _ _ _ _) (fun _ => ?_) (fun h => absurd h ?_)); rotate_left; (· first | exact Bool.false_ne_true | exact (fun h => Bool.noConfusion (show true = false from h)) | (simp; done)))
  | ((with_reducible refine And.intro (a := _ → AT _ _ _ _) (fun h => absurd h ?_) (fun _ => ?_)); (· first | exact Bool.false_ne_true | exact (fun h => Bool.noConfusion (show true = false from h)) | (simp; done)))
  | ((with_reducible refine And.intro (a := _ → AT _ _ _ _) (fun _ => ?_) (fun h => absurd h ?_)); rotate_left; (· first | exact Bool.false_ne_true | exact (fun h => Bool.noConfusion (show true = false from h)) | (simp; done)))
  | (rw [cut_map])
  | (rw [ow2_eq])
  | (rw [deq_eNs])
  | (rw [deq_nil])
  | (rw [deq_eN1])
  | (rw [deq_eIs])
  | (rw [deq_eRs])
  | (rw [eO_some])
  | (rw [eO_none])
  | (rw [cut1])
  | (rw [List.length_map]))
local macro_rules | `(tactic| walk_at "xo") => `(tactic| repeat walk_at "x")
local macro_rules | `(tactic| walk_at "pln") => `(tactic| first | (exact pln_of_cln _ (cln_eRs _)) | (exact pln_of_cln _ (cln_eNs _)) | (exact pln_of_cln _ (cln_eIs _)) | (exact pln_of_cln _ (cln_eNs [_])) | (exact pln_of_cln _ (cln_eNs [_, _])) | (exact rfl) | assumption)
local macro_rules | `(tactic| walk_at "dep") => `(tactic| first | (exact Nat.le_trans (dep_eRs _) (by decide)) | (exact Nat.le_trans (dep_eNs _) (by decide)) | (exact Nat.le_trans (dep_eIs _) (by decide)) | (exact Nat.le_trans (dep_eNs [_]) (by decide)) | (exact Nat.le_trans (dep_eNs [_, _]) (by decide)) | decide | assumption)
local macro_rules | `(tactic| walk_at "wk") => `(tactic| repeat (first | exact wk_nil | (refine wk_cons (.inr rfl) ?_) | (refine wk_cons (.inl rfl) ?_)))
local macro_rules | `(tactic| walk_at "st") => `(tactic| (refine ⟨_, ?_, rfl, rfl⟩; walk_at "wk"))
local macro_rules | `(tactic| walk_at "xi") => `(tactic| repeat ((fail_if_success (with_reducible refine s_if ?_)); walk_at "x"))
local macro_rules | `(tactic| walk_at "ct") => `(tactic| (refine ⟨?_, rfl⟩; walk_at "wk"))
local macro_rules | `(tactic| walk_at "x") => `(tactic| first
  | (with_reducible refine s_forE ?_)
  | (with_reducible refine s_asgG (g := gTup _ _ _) ?_)
  | (with_reducible refine ae_lenSetG ?_)
  | ((with_reducible apply s_xf); (· rfl))
  | (with_reducible refine s_retNewZ (te := tLstRev _ _) ?_)
  | (with_reducible refine an_listRev ?_)
  | (with_reducible refine ae_of_an (te := tLstRev _ _) ?_))
local macro_rules | `(tactic| walk_at "x2") => `(tactic| first
  | ((with_reducible refine u_mix ⟨?_, ?_⟩ ?_ ?_); (· first | decide | omega); (· first | decide | omega); (· first | decide | omega))
  | ((with_reducible refine u_cell ?_ ?_); (· first | decide | omega))
  | ((with_reducible refine u_names ⟨?_, ?_⟩ ?_); (· first | decide | omega); (· first | decide | omega)))
local macro_rules | `(tactic| walk_at "x2") => `(tactic| first
  | (with_reducible refine at_or ?_)
  | (with_reducible refine at_and ?_)
  | (with_reducible refine ae_orV ?_)
  | (with_reducible refine ae_andV ?_))
local macro_rules | `(tactic| walk_at "x") => `(tactic| first | ((with_reducible apply s_asgOwn); (· exact rfl)) | ((with_reducible apply s_forOwn); (· exact rfl)) | ((with_reducible apply s_appendT); (· exact rfl)) | ((with_reducible refine And.intro (a := noLt _ = true) ?_ ?_); (· rfl)))
local macro_rules | `(tactic| walk_at "od") => `(tactic| repeat (first | exact List.forall_mem_nil _ | (refine List.forall_mem_cons.mpr ⟨?_, ?_⟩; (· first | exact .str _ | exact .int _ | exact .non | exact .bl _ | exact .l1 _ | exact .t1 _))))
def topS (i : Nat) : Stmt := PySem.Challenge.pw_taglook_k17_rings_looked_at.main.body.getD i (.Pass ⟨0, 0, 0, 0⟩)
structure Txt (K : PySem.W.Frag) (mg : Str → Option Value) : Prop where
  b_len : mg "len" = none
  b_int : mg "int" = none
  b_isinstance : mg "isinstance" = none
  b_bool : mg "bool" = none
  b_set : mg "set" = none
  b_range : mg "range" = none
  b_list : mg "list" = none
  b_min : mg "min" = none
  b_tuple : mg "tuple" = none
  b_reversed : mg "reversed" = none
section
variable {P : Program} {w : World} {K : PySem.W.Frag} {mg : Str → Option Value} {base : Heap}
abbrev eCl (c : Cl) : D := .tup [.str c.1, .str c.2.1, .int (c.2.2 : Int)]
abbrev eCls (cs : List Cl) : D := .lst (cs.map eCl)
abbrev eSt (st : List (List D)) : D := .lst (st.map D.tup)
def clT (c : Cl) : List D := [.str c.1, .str c.2.1, .int (c.2.2 : Int)]
theorem eSt_cls (cs : List Cl) : eSt (cs.map clT) = eCls cs := by
  show D.lst _ = D.lst _
  rw [List.map_map]
  rfl
/-- what may stand in a step -/
inductive Od : D → Prop
  | non : Od .non
  | bl (b : Bool) : Od (.bl b)
  | int (i : Int) : Od (.int i)
  | str (z : Str) : Od (.str z)
  | l1 (z : Str) : Od (.lst [.str z])
  | t1 (i : Int) : Od (.tup [.int i])
theorem Od.pl {d : D} (h : Od d) : pln d = true := by cases h <;> rfl
theorem Od.dp {d : D} (h : Od d) : dep d ≤ 1 := by cases h <;> simp [dep, PP, PPs, PyData.depth, PyData.depthAll]
def ClaimIn (rss : Rws) (c : Cl) : Prop := ∃ row, rss[c.2.2]? = some row ∧ c.1 ∈ row ∧ c.2.1 ∈ row ∧ row.idxOf c.1 < row.idxOf c.2.1
def IC (rss : Rws) (s : List D) : Prop := ∃ c : Cl, s = clT c ∧ ClaimIn rss c
theorem a2_inOd {K : PySem.W.Frag} {x : D} {ns : List Str} {q : D → Prop} (ox : Od x) (hq : q (.bl (inS x ns))) : A2 K (rInD K) x (eNs ns) q := a2_inDL ox.pl (plns_map fun _ _ => rfl) (Nat.le_trans ox.dp (by decide)) (Nat.le_trans (dep_eNs ns) (by decide)) (by rw [inD_odd ox.pl]; exact hq)
theorem a2_ninOd {K : PySem.W.Frag} {x : D} {ns : List Str} {q : D → Prop} (ox : Od x) (hq : q (.bl (!inS x ns))) : A2 K (rNotInD K) x (eNs ns) q := a2_ninDL ox.pl (plns_map fun _ _ => rfl) (Nat.le_trans ox.dp (by decide)) (Nat.le_trans (dep_eNs ns) (by decide)) (by rw [inD_odd ox.pl]; exact hq)
theorem inS_ic {rss : Rws} {x y : D} {i : Int} {row : List Str} (r : 0 ≤ i) (hr : rss[i.toNat]? = some row) : IC rss [x, y, .int i] ↔ ∃ m n, x = .str m ∧ y = .str n ∧ m ∈ row ∧ n ∈ row ∧ row.idxOf m < row.idxOf n := by
  constructor
  · rintro ⟨⟨m, n, p⟩, e, row', h, h1, h2, h3⟩
    simp [clT] at e
    obtain ⟨rfl, rfl, e⟩ := e
    have : i.toNat = p := by omega
    subst this
    rw [hr] at h
    cases h
    exact ⟨m, n, rfl, rfl, h1, h2, h3⟩
  · rintro ⟨m, n, rfl, rfl, h1, h2, h3⟩
    exact ⟨(m, n, i.toNat), by simp [clT]; omega, row, hr, h1, h2, h3⟩
abbrev s_is_claim : Stmt := topS 1
theorem sc_is_claim : FnScope ["rows", "step", "one", "other", "place", "row"] ["rows", "step"] (defScope s_is_claim) := ⟨rfl, rfl, rfl, by decide +kernel, rfl, by decide +kernel, by decide +kernel⟩
def T_is_claim (ds : List D) (q : D → Prop) : Prop := ∃ (rss : Rws) (s : List D), ds = [eRs rss, .tup s] ∧ rss.length ≤ 1000 ∧ s.length ≤ 100 ∧ (∀ x ∈ s, Od x) ∧ (IC rss s → q (.bl true)) ∧ (¬ IC rss s → q (.bl false))
local macro_rules | `(tactic| walk_at "nm") => `(tactic| refine aw_norm (ρ' := [_, _, _, _, _, _]) rfl ?_)
abbrev sp_is_claim (K : PySem.W.Frag) : Sp := pfn K T_is_claim
theorem ok_is_claim {f : Addr} {fd : FuncData} (F : Fun K "is_claim" "is_claim" s_is_claim f fd) (T : Txt K mg)  : FnOk P w K mg base CX0 1 f fd ["rows", "step"] (sp_is_claim K) := by
  refine F.ok sc_is_claim (fun vs H Q E h => ?_) (fun cdv A outer s H vs Q E hr h => ?_)
  · (obtain ⟨_, _, _, _, dv, hT, _⟩ := h; rw [dv.len]; first | (obtain ⟨rfl, _⟩ := hT; rfl) | (obtain ⟨_, rfl, _⟩ := hT; rfl) | (obtain ⟨_, _, rfl, _⟩ := hT; rfl) | (obtain ⟨_, _, _, rfl, _⟩ := hT; rfl) | (obtain ⟨_, _, _, _, rfl, _⟩ := hT; rfl) | (obtain ⟨_, _, _, _, _, rfl, _⟩ := hT; rfl) | (obtain ⟨_, _, _, _, _, _, rfl, _⟩ := hT; rfl) | (obtain ⟨_, _, _, _, _, _, _, rfl, _⟩ := hT; rfl) | (obtain ⟨_, _, _, _, _, _, _, _, rfl, _⟩ := hT; rfl) | (obtain ⟨_, _, _, _, _, _, _, _, _, rfl, _⟩ := hT; rfl) | (obtain ⟨_, _, _, _, _, _, _, _, _, _, rfl, _⟩ := hT; rfl))
  refine ⟨_, (pss_cons (ps_if (pt_cmpR op_ne (pe_callB (call_lenK (K := K) rfl) (by rfl) T.b_len PySem.boot_len (pa_cons (pv 1) pa_nil)) pe_int (nomark _))
        (pss_one (ps_ret pe_bl))
        pss_nil)
      (pss_cons (ps_asg (pv 1) (pg_tupK (K := K) rfl rfl (pgs_cons (pg_name (i := 2) sc_is_claim.nd rfl (Or.inl rfl)) (pgs_cons (pg_name (i := 3) sc_is_claim.nd rfl (Or.inl rfl)) (pgs_cons (pg_name (i := 4) sc_is_claim.nd rfl (Or.inl rfl)) pgs_nil)))))
      (pss_cons (ps_if (pw_or (pt_not (pt_val (pe_callB (call_isiK' (K := K) rfl) (by rfl) T.b_isinstance (by decide +kernel) (pa_cons (pv 4) (pa_cons (pe_bltn (v := .ty "int") (by rfl) T.b_int (by decide +kernel) rfl) pa_nil))))) (pw_or (pt_val (pe_callB (call_isiK' (K := K) rfl) (by rfl) T.b_isinstance (by decide +kernel) (pa_cons (pv 4) (pa_cons (pe_bltn (v := .ty "bool") (by rfl) T.b_bool (by decide +kernel) rfl) pa_nil)))) (pw_or1 (pt_not (pt_chain op_le op_lt pe_int (pv 4) (pe_callB (call_lenK (K := K) rfl) (by rfl) T.b_len PySem.boot_len (pa_cons (pv 0) pa_nil))))))).pt
        (pss_one (ps_ret pe_bl))
        pss_nil)
      (pss_cons (ps_asH (ps_set (i := 5) sc_is_claim.nd rfl (Or.inl rfl) (pe_ix (ix_listK (K := K) rfl) (pv 0) (pv 4) (fun _ _ => rfl))))
      (pss_one (ps_ret (pe_and (pe_cmpR (op_inDK (K := K) rfl (room65 hr)) (pv 2) (pv 5) rfl) (pe_and (pe_cmpR (op_inDK (K := K) rfl (room65 hr)) (pv 3) (pv 5) rfl) (pe_one (pe_cmpR op_lt (pe_bmKK (K := K) rfl PySem.F.plainAttrs_list PySem.F.slot_list_index PySem.F.type_list_index (mt_indexK (K := K) rfl) (pv 5) (pa_cons (pv 2) pa_nil)) (pe_bmKK (K := K) rfl PySem.F.plainAttrs_list PySem.F.slot_list_index PySem.F.type_list_index (mt_indexK (K := K) rfl) (pv 5) (pa_cons (pv 3) pa_nil)) (nomark _))))))))))), pfn_enter h ?_⟩
  rintro ds q B0 H0 ⟨rss, s, rfl, hl, ls, ho, hqt, hqf⟩
  walk_at "xo"
  refine ite_no (fun h3 => ?_) (fun h3 => ?_)
  · walk_at "xo"
    exact hqf fun ⟨c, e, _⟩ => h3 (by rw [e]; rfl)
  have h3' : s.length = 3 := by omega
  obtain ⟨x, y, z, rfl⟩ : ∃ x y z, s = [x, y, z] := by
    match s, h3' with
    | [x, y, z], _ => exact ⟨x, y, z, rfl⟩
  have ox := ho x (by simp)
  have oy := ho y (by simp)
  have oz := ho z (by simp)
  cases oz with
  | int i =>
    walk_at "xo"
    by_cases r : 0 ≤ i ∧ i < (rss.length : Int)
    · rw [decide_eq_true r.1]
      walk_at "xo"
      rw [decide_eq_true r.2]
      walk_at "xo"
      have hp : i.toNat < rss.length := by omega
      refine a2_ixM (x := rss[i.toNat]) r.1 (List.getElem?_eq_getElem hp) ?_
      have ic := inS_ic (x := x) (y := y) r.1 (List.getElem?_eq_getElem hp)
      walk_at "xo"
      refine a2_inOd ox ?_
      cases hx : inS x rss[i.toNat] with
      | false =>
        walk_at "xo"
        refine hqf fun h => ?_
        obtain ⟨m, n, rfl, rfl, h1, h2, h3⟩ := ic.mp h
        simp [inS, h1] at hx
      | true =>
        walk_at "xo"
        refine a2_inOd oy ?_
        cases hy : inS y rss[i.toNat] with
        | false =>
          walk_at "xo"
          refine hqf fun h => ?_
          obtain ⟨m, n, rfl, rfl, h1, h2, h3⟩ := ic.mp h
          simp [inS, h2] at hy
        | true =>
          cases x with
          | str m =>
            cases y with
            | str n =>
              have h1 : m ∈ rss[i.toNat] := by simpa [inS] using hx
              have h2 : n ∈ rss[i.toNat] := by simpa [inS] using hy
              walk_at "xo"
              by_cases lt : rss[i.toNat].idxOf m < rss[i.toNat].idxOf n
              · rw [decide_eq_true (show ((rss[i.toNat].idxOf m : Nat) : Int) < ((rss[i.toNat].idxOf n : Nat) : Int) by omega)]
                exact hqt (ic.mpr ⟨m, n, rfl, rfl, h1, h2, lt⟩)
              · rw [decide_eq_false (show ¬ ((rss[i.toNat].idxOf m : Nat) : Int) < ((rss[i.toNat].idxOf n : Nat) : Int) by omega)]
                refine hqf fun h => ?_
                obtain ⟨m, n, e1, e2, _, _, h3⟩ := ic.mp h
                cases e1
                cases e2
                exact lt h3
            | _ => simp [inS] at hy
          | _ => simp [inS] at hx
    · have no : ¬ IC rss [x, y, .int i] := fun ⟨c, e, row, h, _⟩ => by
        simp [clT] at e
        have := (List.getElem?_eq_some_iff.mp h).1
        exact r (by omega)
      by_cases r0 : 0 ≤ i
      · rw [decide_eq_true r0]
        walk_at "xo"
        rw [decide_eq_false (show ¬ i < (rss.length : Int) from fun h => r ⟨r0, h⟩)]
        walk_at "xo"
        exact hqf no
      · rw [decide_eq_false r0]
        walk_at "xo"
        exact hqf no
  | _ =>
    walk_at "xo"
    exact hqf fun ⟨c, e, _⟩ => by simp [clT] at e

/-- the place ahead, round -/
def pvI (n k : Nat) : Nat := if k = 0 then n - 1 else k - 1
theorem atI_pv {α : Type} {f : α → D} {nm : List α} {k : Nat} (h : k < nm.length) : ∃ x, nm[pvI nm.length k]? = some x ∧ atI (nm.map f) ((k : Int) - 1) = some (f x) := by
  have hl : pvI nm.length k < nm.length := by unfold pvI; split <;> omega
  refine ⟨nm[pvI nm.length k], List.getElem?_eq_getElem hl, ?_⟩
  cases k with
  | zero =>
    have e : ixN (nm.map f).length (((0 : Nat) : Int) - 1) = some (nm.length - 1) := by
      rw [List.length_map]
      unfold ixN
      simp
      omega
    unfold atI
    rw [e]
    show (nm.map f)[nm.length - 1]? = _
    rw [List.getElem?_map, List.getElem?_eq_getElem (by omega)]
    rfl
  | succ k =>
    refine atI_of (by omega) ?_
    rw [show (((k + 1 : Nat) : Int) - 1).toNat = k by omega, List.getElem?_map, List.getElem?_eq_getElem (by omega)]
    rfl
structure RingIn (rss : Rws) (st : List Cl) : Prop where
  ne : 2 ≤ st.length
  cl : ∀ c ∈ st, ClaimIn rss c
  nd : (st.map (·.1)).Nodup
  lk : ∀ k c d, st[k]? = some c → st[pvI st.length k]? = some d → d.2.1 = c.1
def IR (rss : Rws) (sts : List (List D)) : Prop := ∃ cs : List Cl, sts = cs.map clT ∧ RingIn rss cs
theorem clT_inj {a b : Cl} (h : clT a = clT b) : a = b := by
  obtain ⟨x, y, p⟩ := a
  obtain ⟨x', y', p'⟩ := b
  simp only [clT, List.cons.injEq, D.str.injEq, D.int.injEq, and_true] at h
  obtain ⟨rfl, rfl, e⟩ := h
  have : p = p' := by omega
  rw [this]
theorem clTs_inj : ∀ {a b : List Cl}, a.map clT = b.map clT → a = b
  | [], [], _ => rfl
  | [], _ :: _, h => by cases h
  | _ :: _, [], h => by cases h
  | x :: xs, y :: ys, h => by
    rw [List.map_cons, List.map_cons, List.cons.injEq] at h
    rw [clT_inj h.1, clTs_inj h.2]
theorem ir_iff {rss : Rws} {cs : List Cl} : IR rss (cs.map clT) ↔ RingIn rss cs := ⟨fun ⟨cs', e, h⟩ => by rw [clTs_inj e]; exact h, fun h => ⟨cs, rfl, h⟩⟩
theorem all_claims {rss : Rws} : ∀ {sts : List (List D)}, (∀ s ∈ sts, IC rss s) → ∃ cs : List Cl, sts = cs.map clT ∧ ∀ c ∈ cs, ClaimIn rss c
  | [], _ => ⟨[], rfl, fun _ m => by cases m⟩
  | s :: sts, h => by
    obtain ⟨cs, e, hc⟩ := all_claims (sts := sts) fun s m => h s (List.mem_cons_of_mem _ m)
    obtain ⟨c, rfl, h1⟩ := h s List.mem_cons_self
    refine ⟨c :: cs, by rw [e]; rfl, fun c' m => ?_⟩
    rcases List.mem_cons.mp m with rfl | m
    · exact h1
    · exact hc _ m
theorem mem_take_succ {α : Type} {xs : List α} {i : Nat} {x : α} (h : xs[i]? = some x) {y : α} : y ∈ xs.take (i + 1) ↔ y ∈ xs.take i ∨ y = x := by
  rw [List.take_add_one, h]
  simp
abbrev s_is_ring : Stmt := topS 2
theorem sc_is_ring : FnScope ["rows", "steps", "step", "ones", "k"] ["rows", "steps"] (defScope s_is_ring) := ⟨rfl, rfl, rfl, by decide +kernel, rfl, by decide +kernel, by decide +kernel⟩
def T_is_ring (ds : List D) (q : D → Prop) : Prop := ∃ (rss : Rws) (sts : List (List D)), ds = [eRs rss, eSt sts] ∧ rss.length ≤ 1000 ∧ sts.length ≤ 1000 ∧ (∀ s ∈ sts, s.length ≤ 100 ∧ ∀ x ∈ s, Od x) ∧ (IR rss sts → q (.bl true)) ∧ (¬ IR rss sts → q (.bl false))
local macro_rules | `(tactic| walk_at "nm") => `(tactic| refine aw_norm (ρ' := [_, _, _, _, _]) rfl ?_)
abbrev sp_is_ring (K : PySem.W.Frag) : Sp := pfn K T_is_ring
theorem ok_is_ring {f : Addr} {fd : FuncData} (F : Fun K "is_ring" "is_ring" s_is_ring f fd) (T : Txt K mg) {f_is_claim : Addr} {fd_is_claim : FuncData} (D_is_claim : Dk P w K mg base CX0 1 f_is_claim fd_is_claim "is_claim" ["rows", "step"] [] (sp_is_claim K)) : FnOk P w K mg base CX0 2 f fd ["rows", "steps"] (sp_is_ring K) := by
  refine F.ok sc_is_ring (fun vs H Q E h => ?_) (fun cdv A outer s H vs Q E hr h => ?_)
  · (obtain ⟨_, _, _, _, dv, hT, _⟩ := h; rw [dv.len]; first | (obtain ⟨rfl, _⟩ := hT; rfl) | (obtain ⟨_, rfl, _⟩ := hT; rfl) | (obtain ⟨_, _, rfl, _⟩ := hT; rfl) | (obtain ⟨_, _, _, rfl, _⟩ := hT; rfl) | (obtain ⟨_, _, _, _, rfl, _⟩ := hT; rfl) | (obtain ⟨_, _, _, _, _, rfl, _⟩ := hT; rfl) | (obtain ⟨_, _, _, _, _, _, rfl, _⟩ := hT; rfl) | (obtain ⟨_, _, _, _, _, _, _, rfl, _⟩ := hT; rfl) | (obtain ⟨_, _, _, _, _, _, _, _, rfl, _⟩ := hT; rfl) | (obtain ⟨_, _, _, _, _, _, _, _, _, rfl, _⟩ := hT; rfl) | (obtain ⟨_, _, _, _, _, _, _, _, _, _, rfl, _⟩ := hT; rfl))
  refine ⟨_, (pss_cons (ps_for PassesOwn.never rfl (pi_listK (K := K) rfl (pv 1)) (pg_name (i := 2) sc_is_ring.nd rfl (Or.inl rfl))
        (pss_one (ps_if (pt_not (pt_val (pe_call D_is_claim.F (hr.mono (by decide)) (by rfl) D_is_claim.g D_is_claim.kp D_is_claim.b .nil pass0 (pa_cons (pv 0) (pa_cons (pv 2) pa_nil)))))
          (pss_one (ps_ret pe_bl))
          pss_nil)))
      (pss_cons (ps_asH (ps_setLc (i := 3) (own := [("step", 2)]) (g := gName 2) (by rfl) sc_is_ring.nd rfl rfl (sw_true rfl rfl rfl (by decide +kernel)) (pi_listK (K := K) rfl (pv 1)) (blkOk_by (own := [("step", 2)]) (N := ["rows", "steps", "step", "ones", "k"]) (sc := defScope s_is_ring) (by decide +kernel)) (fun _ _ _ _ _ => (pg_name (i := 2) sc_is_ring.nd rfl (Or.inl rfl))) (fun _ _ _ _ _ => pts_nil) (fun _ _ _ _ _ => (pe_ix (ix_tupK (K := K) rfl) (pv 2) pe_int (fun _ _ => rfl)))))
      (pss_cons (ps_if (pw_or (pt_cmpR op_lt (pe_callB (call_lenK (K := K) rfl) (by rfl) T.b_len PySem.boot_len (pa_cons (pv 3) pa_nil)) pe_int (nomark _)) (pw_or1 (pt_cmpR op_lt (pe_lenSetN (K := K) rfl rfl (by rfl) T.b_len (by rfl) T.b_set (pv 3)) (pe_callB (call_lenK (K := K) rfl) (by rfl) T.b_len PySem.boot_len (pa_cons (pv 3) pa_nil)) (nomark _)))).pt
        (pss_one (ps_ret pe_bl))
        pss_nil)
      (pss_cons (ps_for PassesOwn.never rfl (pi_range1 rfl T.b_range (pa_cons (pe_callB (call_lenK (K := K) rfl) (by rfl) T.b_len PySem.boot_len (pa_cons (pv 1) pa_nil)) pa_nil)) (pg_name (i := 4) sc_is_ring.nd rfl (Or.inl rfl))
        (pss_one (ps_if (pt_cmpR op_ne (pe_ix (ix_tupK (K := K) rfl) (pe_ix (ix_listK (K := K) rfl) (pv 1) (pe_op op_sub (pv 4) pe_int) (fun _ _ => rfl)) pe_int (fun _ _ => rfl)) (pe_ix (ix_tupK (K := K) rfl) (pe_ix (ix_listK (K := K) rfl) (pv 1) (pv 4) (fun _ _ => rfl)) pe_int (fun _ _ => rfl)) (nomark _))
          (pss_one (ps_ret pe_bl))
          pss_nil)))
      (pss_one (ps_ret pe_bl)))))), pfn_enter h ?_⟩
  rintro ds q B0 H0 ⟨rss, sts, rfl, hl, ls, ho, hqt, hqf⟩
  walk_at "xo"
  refine aforM (f := D.tup) (fun i ρ => ρ = [.sh (eRs rss), .sh (eSt sts), .un, .un, .un] ∧ ∀ s ∈ sts.take i, IC rss s) ⟨_, by walk_at "wk", rfl, by simp⟩ ?_ ?_
  · rintro i s ρ hi ⟨rfl, ha⟩
    have hm := List.mem_of_getElem? hi
    walk_at "xo"
    refine ⟨rss, s, rfl, hl, (ho s hm).1, (ho s hm).2, fun hc => ?_, fun hc => ?_⟩
    · walk_at "xo"
      refine ⟨_, by walk_at "wk", ⟨rfl, fun s' m => ?_⟩, rfl⟩
      rcases (mem_take_succ hi).mp m with m | rfl
      · exact ha _ m
      · exact hc
    · walk_at "xo"
      refine hqf fun ⟨cs, e, h⟩ => hc ?_
      subst e
      obtain ⟨c, mc, rfl⟩ := List.mem_map.mp hm
      exact ⟨c, rfl, h.cl c mc⟩
  · rintro ρ ⟨rfl, ha⟩
    rw [List.take_length] at ha
    obtain ⟨cs, rfl, hc⟩ := all_claims ha
    rw [List.length_map] at ls
    rw [ir_iff] at hqt hqf
    rw [eSt_cls]
    walk_at "xo"
    refine alcA (fun c : Cl => D.str c.1) (by omega) (fun c m q hq => ?_) ?_
    · walk_at "xo"
      exact a2_ixT (d := .str c.1) rfl hq
    walk_at "xo"
    refine ite_or (fun h2 => ?_) (fun h2 => ?_)
    · walk_at "xo"
      refine ⟨cs.map (·.1), by rw [List.map_map]; rfl, by rw [List.length_map]; omega, ?_⟩
      walk_at "xo"
      refine ite_ok (fun h3 => ?_) (fun h3 => ?_)
      · walk_at "xo"
        refine hqf fun h => ?_
        have := crd_nd.mpr h.nd
        rw [List.length_map] at this
        omega
      have hnd : (cs.map (·.1)).Nodup := crd_nd.mp (by have := SS.crd_le (cs.map (·.1)) (cs.map (·.1)).length; rw [List.length_map] at this ⊢; omega)
      walk_at "xo"
      rw [Int.toNat_natCast]
      refine aforR0 (fun i ρ => ρ = [.sh (eRs rss), .sh (eCls cs), .un, .sh (.lst (cs.map fun c => D.str c.1)), .un] ∧ ∀ k, k < i → ∀ c d, cs[k]? = some c → cs[pvI cs.length k]? = some d → d.2.1 = c.1) ⟨_, by walk_at "wk", rfl, fun k h => absurd h (Nat.not_lt_zero k)⟩ ?_ ?_
      · rintro k ρ hk ⟨rfl, hlk⟩
        obtain ⟨c', e0, e1⟩ := atI_pv (f := eCl) hk
        have hg := List.getElem?_eq_getElem hk
        walk_at "xo"
        refine a2_ixL (d := eCl c') e1 ?_
        walk_at "xo"
        refine a2_ixTP (d := .str c'.2.1) (by decide) rfl ?_
        walk_at "xo"
        refine a2_ixN (x := cs[k]) hg ?_
        walk_at "xo"
        refine a2_ixTP (d := .str cs[k].1) (by decide) rfl ?_
        walk_at "xo"
        refine ite_no (fun hne => ?_) (fun heq => ?_)
        · walk_at "xo"
          exact hqf fun h => hne (h.lk k _ _ hg e0)
        · walk_at "xo"
          refine ⟨_, by walk_at "wk", ⟨rfl, fun j hj c d hc hd => ?_⟩, rfl⟩
          by_cases cj : j < k
          · exact hlk j cj c d hc hd
          · have : j = k := by omega
            subst this
            rw [hg] at hc
            rw [e0] at hd
            cases hc
            cases hd
            exact heq
      · rintro ρ ⟨rfl, hlk⟩
        walk_at "xo"
        exact hqt ⟨by omega, hc, hnd, fun k c d hk hd => hlk k (List.getElem?_eq_some_iff.mp hk).1 c d hk hd⟩
    · walk_at "xo"
      exact hqf fun h => by have := h.ne; omega
theorem u_is_ring {rss : Rws} {sts : List (List D)} {q : D → Prop} (h1 : rss.length ≤ 1000) (h2 : sts.length ≤ 1000) (h3 : ∀ s ∈ sts, s.length ≤ 100 ∧ ∀ x ∈ s, Od x) (ht : IR rss sts → q (.bl true)) (hf : ¬ IR rss sts → q (.bl false)) : T_is_ring [eRs rss, eSt sts] q := ⟨rss, sts, rfl, h1, h2, h3, ht, hf⟩

abbrev s_l_cell : Stmt := topS 4
theorem sc_l_cell : FnScope ["_law_script", "_law_k"] ["_law_script", "_law_k"] (defScope s_l_cell) := ⟨rfl, rfl, rfl, by decide +kernel, rfl, by decide +kernel, by decide +kernel⟩
local macro_rules | `(tactic| walk_at "nm") => `(tactic| refine aw_norm (ρ' := [_, _]) rfl ?_)
abbrev sp_l_cell (K : PySem.W.Frag) : Sp := pfn K T_l_cell
theorem ok_l_cell {f : Addr} {fd : FuncData} (F : Fun K "_law_cell" "_law_cell" s_l_cell f fd) (T : Txt K mg)  : FnOk P w K mg base CX0 1 f fd ["_law_script", "_law_k"] (sp_l_cell K) := by
  refine F.ok sc_l_cell (fun vs H Q E h => ?_) (fun cdv A outer s H vs Q E hr h => ?_)
  · (obtain ⟨_, _, _, _, dv, hT, _⟩ := h; rw [dv.len]; first | (obtain ⟨rfl, _⟩ := hT; rfl) | (obtain ⟨_, rfl, _⟩ := hT; rfl) | (obtain ⟨_, _, rfl, _⟩ := hT; rfl) | (obtain ⟨_, _, _, rfl, _⟩ := hT; rfl) | (obtain ⟨_, _, _, _, rfl, _⟩ := hT; rfl) | (obtain ⟨_, _, _, _, _, rfl, _⟩ := hT; rfl) | (obtain ⟨_, _, _, _, _, _, rfl, _⟩ := hT; rfl) | (obtain ⟨_, _, _, _, _, _, _, rfl, _⟩ := hT; rfl) | (obtain ⟨_, _, _, _, _, _, _, _, rfl, _⟩ := hT; rfl) | (obtain ⟨_, _, _, _, _, _, _, _, _, rfl, _⟩ := hT; rfl) | (obtain ⟨_, _, _, _, _, _, _, _, _, _, rfl, _⟩ := hT; rfl))
  refine ⟨_, (pss_cons (ps_if (pt_cmpR op_lt (pv 1) (pe_callB (call_lenK (K := K) rfl) (by rfl) T.b_len PySem.boot_len (pa_cons (pv 0) pa_nil)) (nomark _))
        (pss_one (ps_ret (pe_ix (ix_listK (K := K) rfl) (pv 0) (pv 1) (fun _ _ => rfl))))
        pss_nil)
      (pss_one (ps_ret pe_int))), pfn_enter h ?_⟩
  rintro ds q B0 H0 ⟨ns, k, rfl, h0, hq⟩
  walk_at "xo"
  refine ite_ok (fun h => ?_) (fun h => ?_)
  · walk_at "xo"
    have hk : k.toNat < ns.length := by omega
    refine a2_ixFM (x := ns[k.toNat]) h0 (List.getElem?_eq_getElem hk) ?_
    rw [cellOf, List.getD_eq_getElem?_getD, List.getElem?_eq_getElem hk] at hq
    exact hq
  · walk_at "xo"
    have hk : ns.length ≤ k.toNat := by omega
    rw [cellOf, List.getD_eq_getElem?_getD, List.getElem?_eq_none hk] at hq
    exact hq
abbrev s_l_mix : Stmt := topS 5
theorem sc_l_mix : FnScope ["_law_cell_here", "_law_turn", "_law_many", "_law_rest", "_law_k", "_law_turns", "_law_one", "_law_two"] ["_law_cell_here", "_law_turn", "_law_many"] (defScope s_l_mix) := ⟨rfl, rfl, rfl, by decide +kernel, rfl, by decide +kernel, by decide +kernel⟩
local macro_rules | `(tactic| walk_at "nm") => `(tactic| refine aw_norm (ρ' := [_, _, _, _, _, _, _, _]) rfl ?_)
abbrev sp_l_mix (K : PySem.W.Frag) : Sp := pfn K T_l_mix
theorem ok_l_mix {f : Addr} {fd : FuncData} (F : Fun K "_law_mix" "_law_mix" s_l_mix f fd) (T : Txt K mg)  : FnOk P w K mg base CX0 1 f fd ["_law_cell_here", "_law_turn", "_law_many"] (sp_l_mix K) := by
  refine F.ok sc_l_mix (fun vs H Q E h => ?_) (fun cdv A outer s H vs Q E hr h => ?_)
  · (obtain ⟨_, _, _, _, dv, hT, _⟩ := h; rw [dv.len]; first | (obtain ⟨rfl, _⟩ := hT; rfl) | (obtain ⟨_, rfl, _⟩ := hT; rfl) | (obtain ⟨_, _, rfl, _⟩ := hT; rfl) | (obtain ⟨_, _, _, rfl, _⟩ := hT; rfl) | (obtain ⟨_, _, _, _, rfl, _⟩ := hT; rfl) | (obtain ⟨_, _, _, _, _, rfl, _⟩ := hT; rfl) | (obtain ⟨_, _, _, _, _, _, rfl, _⟩ := hT; rfl) | (obtain ⟨_, _, _, _, _, _, _, rfl, _⟩ := hT; rfl) | (obtain ⟨_, _, _, _, _, _, _, _, rfl, _⟩ := hT; rfl) | (obtain ⟨_, _, _, _, _, _, _, _, _, rfl, _⟩ := hT; rfl) | (obtain ⟨_, _, _, _, _, _, _, _, _, _, rfl, _⟩ := hT; rfl))
  refine ⟨_, (pss_cons (ps_asS (ps_set (i := 3) sc_l_mix.nd rfl (Or.inl rfl) (pe_op op_fdiv (pv 0) pe_int)))
      (pss_cons (ps_if (pw_and (pt_cmpR op_eq (pe_op op_mod (pv 0) pe_int) pe_int (nomark _)) (pw_and1 (pt_cmpR op_gt (pv 0) (pe_op op_pow pe_int pe_int) (nomark _)))).pt
        (pss_cons (ps_for PassesOwn.never rfl (pi_range1 rfl T.b_range (pa_cons (pv 1) pa_nil)) (pg_name (i := 4) sc_l_mix.nd rfl (Or.inl rfl))
          (pss_one (ps_asS (ps_set (i := 3) sc_l_mix.nd rfl (Or.inl rfl) (pe_op op_fdiv (pv 3) pe_int)))))
        (pss_one (ps_ret (pe_op op_mod (pe_op op_mod (pv 3) pe_int) (pv 2)))))
        pss_nil)
      (pss_cons (ps_asH (ps_set (i := 5) sc_l_mix.nd rfl (Or.inl rfl) (pe_lst (pa_cons pe_int (pa_cons pe_int (pa_cons pe_int (pa_cons pe_int (pa_cons pe_int (pa_cons pe_int (pa_cons pe_int (pa_cons pe_int (pa_cons pe_int (pa_cons pe_int (pa_cons pe_int (pa_cons pe_int (pa_cons pe_int (pa_cons pe_int pa_nil)))))))))))))))))
      (pss_cons (ps_asS (ps_set (i := 6) sc_l_mix.nd rfl (Or.inl rfl) (pe_op op_mod (pe_op op_mul (pe_op op_add (pe_op op_mod (pv 0) pe_int) pe_int) (pe_ix (ix_listK (K := K) rfl) (pv 5) (pe_op op_mod (pv 1) pe_int) (fun _ _ => rfl))) pe_int)))
      (pss_cons (ps_asS (ps_set (i := 7) sc_l_mix.nd rfl (Or.inl rfl) (pe_op op_mod (pe_op op_mul (pv 6) (pe_op op_add (pv 6) (pv 1))) pe_int)))
      (pss_one (ps_ret (pe_op op_mod (pe_op op_fdiv (pe_op op_mod (pe_op op_mul (pv 7) pe_int) pe_int) pe_int) (pv 2))))))))), pfn_enter h ?_⟩
  rintro ds q B0 H0 ⟨c, t, m, rfl, ht, hm, hq⟩
  walk_at "xo"
  refine ⟨fun h => ?_, fun h => ?_⟩
  · have h' : c % 2 = 1 ∧ 10 ^ 18 < c := by simpa using h
    rw [mix, if_pos h'] at hq
    walk_at "xo"
    refine aforRF (fun i => [.sh (.int c), .sh (.int t), .sh (.int m), .sh (.int (mixA c i)), .un, .un, .un, .un]) (by walk_at "wk") (fun i hi => ?_) ?_
    · walk_at "xo"
      walk_at "st"
    · walk_at "xo"
      exact hq
  · have h' : ¬ (c % 2 = 1 ∧ 10 ^ 18 < c) := by simpa using h
    rw [mix, if_neg h'] at hq
    have h14 : 0 ≤ t % 14 ∧ t % 14 < 14 := ⟨Int.emod_nonneg _ (by decide), Int.emod_lt_of_pos _ (by decide)⟩
    have hat : turns[(t % 14).toNat]? = some (turns.getD (t % 14).toNat 0) := turns_at h14.1 h14.2
    have hb := turns_bound (t % 14).toNat
    have h1 := @mixOne_bound c t
    have h2 := @mixTwo_bound c t
    walk_at "xo"
    refine a2_ixM (f := D.int) (xs := turns) h14.1 hat ?_
    walk_at "xo"
    rw [show (c % 1000000007 + 11) * turns.getD (t % 14).toNat 0 % 2147483629 = mixOne c t from rfl]
    walk_at "xo"
    rw [show mixOne c t * (mixOne c t + t) % 1999999973 = mixTwo c t from rfl]
    walk_at "xo"
    exact hq
abbrev s_l_names : Stmt := topS 6
theorem sc_l_names : FnScope ["_law_cell_here", "_law_many", "_law_letters", "_law_k", "_law_base", "_law_size", "_law_at", "_law_names_here", "_law_name", "_law_j", "_law_turn", "_law_one"] ["_law_cell_here", "_law_many"] (defScope s_l_names) := ⟨rfl, rfl, rfl, by decide +kernel, rfl, by decide +kernel, by decide +kernel⟩
local macro_rules | `(tactic| walk_at "nm") => `(tactic| refine aw_norm (ρ' := [_, _, _, _, _, _, _, _, _, _, _, _]) rfl ?_)
abbrev sp_l_names (K : PySem.W.Frag) : Sp := pfn K T_l_names
theorem ok_l_names {f : Addr} {fd : FuncData} (F : Fun K "_law_names" "_law_names" s_l_names f fd) (T : Txt K mg) {f_l_mix : Addr} {fd_l_mix : FuncData} (D_l_mix : Dk P w K mg base CX0 1 f_l_mix fd_l_mix "_law_mix" ["_law_cell_here", "_law_turn", "_law_many"] [] (sp_l_mix K)) : FnOk P w K mg base CX0 2 f fd ["_law_cell_here", "_law_many"] (sp_l_names K) := by
  refine F.ok sc_l_names (fun vs H Q E h => ?_) (fun cdv A outer s H vs Q E hr h => ?_)
  · (obtain ⟨_, _, _, _, dv, hT, _⟩ := h; rw [dv.len]; first | (obtain ⟨rfl, _⟩ := hT; rfl) | (obtain ⟨_, rfl, _⟩ := hT; rfl) | (obtain ⟨_, _, rfl, _⟩ := hT; rfl) | (obtain ⟨_, _, _, rfl, _⟩ := hT; rfl) | (obtain ⟨_, _, _, _, rfl, _⟩ := hT; rfl) | (obtain ⟨_, _, _, _, _, rfl, _⟩ := hT; rfl) | (obtain ⟨_, _, _, _, _, _, rfl, _⟩ := hT; rfl) | (obtain ⟨_, _, _, _, _, _, _, rfl, _⟩ := hT; rfl) | (obtain ⟨_, _, _, _, _, _, _, _, rfl, _⟩ := hT; rfl) | (obtain ⟨_, _, _, _, _, _, _, _, _, rfl, _⟩ := hT; rfl) | (obtain ⟨_, _, _, _, _, _, _, _, _, _, rfl, _⟩ := hT; rfl))
  refine ⟨_, (pss_cons (ps_asS (ps_set (i := 2) sc_l_names.nd rfl (Or.inr rfl) pe_str))
      (pss_cons (ps_asH (ps_setLc (i := 4) (own := [("_law_k", 3)]) (g := gName 3) (by rfl) sc_l_names.nd rfl rfl (sw_true rfl rfl rfl (by decide +kernel)) (pi_range1 rfl T.b_range (pa_cons pe_int pa_nil)) (blkOk_by (own := [("_law_k", 3)]) (N := ["_law_cell_here", "_law_many", "_law_letters", "_law_k", "_law_base", "_law_size", "_law_at", "_law_names_here", "_law_name", "_law_j", "_law_turn", "_law_one"]) (sc := defScope s_l_names) (by decide +kernel)) (fun _ _ _ _ _ => (pg_name (i := 3) sc_l_names.nd rfl (Or.inl rfl))) (fun _ _ _ _ _ => pts_nil) (fun _ _ _ _ _ => (pe_call D_l_mix.F (hr.mono (by decide)) (by rfl) D_l_mix.g D_l_mix.kp D_l_mix.b .nil pass0 (pa_cons (pv 0) (pa_cons (pv 3) (pa_cons pe_int pa_nil)))))))
      (pss_cons (ps_asS (ps_set (i := 5) sc_l_names.nd rfl (Or.inl rfl) (pe_op op_add pe_int (pe_call D_l_mix.F (hr.mono (by decide)) (by rfl) D_l_mix.g D_l_mix.kp D_l_mix.b .nil pass0 (pa_cons (pv 0) (pa_cons pe_int (pa_cons pe_int pa_nil)))))))
      (pss_cons (ps_asS (ps_set (i := 6) sc_l_names.nd rfl (Or.inl rfl) (pe_call D_l_mix.F (hr.mono (by decide)) (by rfl) D_l_mix.g D_l_mix.kp D_l_mix.b .nil pass0 (pa_cons (pv 0) (pa_cons pe_int (pa_cons (pv 5) pa_nil))))))
      (pss_cons (ps_asN (ps_set (i := 7) sc_l_names.nd rfl (Or.inl rfl) (pe_lst pa_nil)))
      (pss_cons (ps_for PassesOwn.never rfl (pi_range1 rfl T.b_range (pa_cons (pv 1) pa_nil)) (pg_name (i := 3) sc_l_names.nd rfl (Or.inl rfl))
        (pss_cons (ps_asS (ps_set (i := 8) sc_l_names.nd rfl (Or.inl rfl) pe_str))
        (pss_cons (ps_for PassesOwn.never rfl (pi_range1 rfl T.b_range (pa_cons (pv 5) pa_nil)) (pg_name (i := 9) sc_l_names.nd rfl (Or.inl rfl))
          (pss_one (ps_asS (ps_set (i := 8) sc_l_names.nd rfl (Or.inl rfl) (pe_op op_addS (pv 8) (pe_ix ix_str (pv 2) (pe_op op_mod (pe_op op_add (pe_ix (ix_listK (K := K) rfl) (pv 4) (pv 9) (fun _ _ => rfl)) (pe_op op_mul (pv 3) (pe_callTy call_intB (by rfl) T.b_int (by decide +kernel) (pa_cons (pe_cmpR op_eq (pv 9) (pv 6) (nomark _)) pa_nil)))) pe_int) (fun _ _ => rfl)))))))
        (pss_cons (ps_if (pw_and (pt_cmpR op_eq (pe_call D_l_mix.F (hr.mono (by decide)) (by rfl) D_l_mix.g D_l_mix.kp D_l_mix.b .nil pass0 (pa_cons (pv 0) (pa_cons pe_int (pa_cons pe_int pa_nil)))) pe_int (nomark _)) (pw_and1 (pt_cmpR op_lt (pv 1) pe_int (nomark _)))).pt
          (pss_one (ps_asS (ps_set (i := 8) sc_l_names.nd rfl (Or.inl rfl) (pe_joinK (K := K) rfl pe_str (pe_lc (own := [("_law_one", 11)]) (g := gName 11) (by rfl) sc_l_names.nd (pi_listK (K := K) rfl (pe_slice (sl_listK (K := K) rfl) (pv 4) po_none (po_some (pe_op op_add (pv 3) pe_int)))) (blkOk_by (own := [("_law_one", 11)]) (N := ["_law_cell_here", "_law_many", "_law_letters", "_law_k", "_law_base", "_law_size", "_law_at", "_law_names_here", "_law_name", "_law_j", "_law_turn", "_law_one"]) (sc := defScope s_l_names) (by decide +kernel)) (fun _ _ _ _ _ => (pg_name (i := 11) sc_l_names.nd rfl (Or.inl rfl))) (fun _ _ _ _ _ => pts_nil) (fun _ _ _ _ _ => (pe_ix ix_str (pv 2) (pv 11) (fun _ _ => rfl))))))))
          pss_nil)
        (pss_one (ps_apS (ps_expr (pe_bmKK (K := K) rfl PySem.F.plainAttrs_list PySem.F.slot_list_append PySem.F.type_list_append mt_append (pv 7) (pa_cons (pv 8) pa_nil)))))))))
      (pss_cons (ps_asS (ps_set (i := 10) sc_l_names.nd rfl (Or.inl rfl) (pe_call D_l_mix.F (hr.mono (by decide)) (by rfl) D_l_mix.g D_l_mix.kp D_l_mix.b .nil pass0 (pa_cons (pv 0) (pa_cons pe_int (pa_cons (pv 1) pa_nil))))))
      (pss_one (ps_ret (pe_op op_cat (pe_slice (sl_listK (K := K) rfl) (pv 7) (po_some (pv 10)) po_none) (pe_slice (sl_listK (K := K) rfl) (pv 7) po_none (po_some (pv 10))))))))))))), pfn_enter h ?_⟩
  rintro ds q B0 H0 ⟨c, m, rfl, hm, hq⟩
  walk_at "xo"
  refine alcA (f := fun i : Nat => D.int i) (fun i : Nat => D.int (mix c i 26)) (by decide) (fun i hi q hq => by
    have := List.mem_range.mp hi
    walk_at "xo"
    exact hq) ?_
  have hs := nmSize_b c
  have hs' : 1 ≤ 1 + mix c 8 8 := hs.1
  walk_at "xo"
  have a0 : 0 ≤ mix c 9 (nmSize c) := mix_nn (by omega)
  have a1 : mix c 9 (nmSize c) < nmSize c := mix_lt (by omega)
  refine aforRF (fun i => [.sh (.int c), .sh (.int m), .sh (.str "abcdefghijklmnopqrstuvwxyz"), .un, .sh (.lst ((List.range 8).map fun i : Nat => D.int (mix c i 26))), .sh (.int (nmSize c)), .sh (.int (mix c 9 (nmSize c))), .own (eNs ((List.range i).map fun k => mkS (nmOne c m k))), .un, .un, .un, .un]) (by walk_at "wk") (fun i hi => ?_) ?_
  · walk_at "xo"
    refine aforRF (fun j => [.sh (.int c), .sh (.int m), .sh (.str "abcdefghijklmnopqrstuvwxyz"), .sh (.int i), .sh (.lst ((List.range 8).map fun i : Nat => D.int (mix c i 26))), .sh (.int (nmSize c)), .sh (.int (mix c 9 (nmSize c))), .own (eNs ((List.range i).map fun k => mkS (nmOne c m k))), .sh (.str (mkS ((List.range j).map fun (j : Nat) => sgn ((mix c j 26 + i * (if (j : Int) = mix c 9 (nmSize c) then 1 else 0)) % 26)))), .un, .un, .un]) (by rw [mkS_nil]; walk_at "wk") (fun j hj => ?_) ?_
    · walk_at "xo"
      refine a2_ixN (x := j) (List.getElem?_range (by omega)) ?_
      walk_at "xo"
      rw [show (if decide ((j : Int) = mix c 9 (nmSize c)) = true then (1 : Int) else 0) = if (j : Int) = mix c 9 (nmSize c) then 1 else 0 by simp]
      walk_at "xo"
      refine a2_ixS (abc_sgn (mod26 _).1 (mod26 _).2) ?_
      refine a2_addS (fun _ _ => ?_) ?_
      · rw [mkS_len, List.length_map, List.length_range]
        show j + 1 ≤ _
        omega
      walk_at "xo"
      rw [mkS_next fun (j : Nat) => sgn ((mix c j 26 + i * (if (j : Int) = mix c 9 (nmSize c) then 1 else 0)) % 26)]
      walk_at "st"
    · have bnd : (((List.range i).map fun k => mkS (nmOne c m k)).map D.str).length < 100000 := by
        rw [List.length_map, List.length_map, List.length_range]
        omega
      have snoc : ∀ nm, nm = mkS (nmOne c m i) → D.lst (((List.range i).map fun k => mkS (nmOne c m k)).map D.str ++ [D.str nm]) = eNs ((List.range (i + 1)).map fun k => mkS (nmOne c m k)) := by
        intro nm e
        rw [e, List.range_succ, List.map_append, List.map_cons, List.map_nil, ← eNs_snoc]
      walk_at "xo"
      refine ⟨fun h => ?_, fun h => ?_⟩
      · have h' : mix c 10 4 = 1 ∧ m < 9 := by simpa using h
        walk_at "xo"
        rw [cutQ _ (by omega)]
        refine alcA (f := fun i : Nat => D.int (mix c i 26)) (fun j : Nat => D.str ⟨#[sgn (mix c j 26)]⟩) (by rw [List.length_take, List.length_range]; omega) (fun j hj q hq => by
          walk_at "xo"
          exact a2_ixS (abc_sgn (mix_nn (by decide)) (mix_lt (by decide))) hq) ?_
        have e : ((List.range 8).take ((i : Int) + 1).toNat).map (fun j : Nat => D.str ⟨#[sgn (mix c j 26)]⟩) = ((nmPre c i).map fun x => (⟨#[x]⟩ : Str)).map D.str := by
          rw [List.take_range, nmPre, List.map_map, List.map_map, show min ((i : Int) + 1).toNat 8 = i + 1 by omega]
          rfl
        rw [e]
        refine ⟨_, rfl, ?_, ?_, ?_⟩
        · have hl : ∀ l : List Nat, ((l.map fun x => (⟨#[x]⟩ : Str)).map (·.length)).sum = l.length := by
            intro l
            induction l with
            | nil => rfl
            | cons x l ih =>
              rw [List.map_cons, List.map_cons, List.sum_cons, ih, List.length_cons, slen_one]
              omega
          rw [hl, List.length_map, nmPre_len, show (Str.ofString "").length = 0 from rfl]
          omega
        · rw [join_chars]
          exact okS_mkS (by rw [nmPre_len]; omega) (nmPre_low c i)
        · rw [join_chars]
          walk_at "xo"
          rw [snoc _ (by rw [nmOne, if_pos h'])]
          walk_at "st"
      · have h' : ¬ (mix c 10 4 = 1 ∧ m < 9) := by simpa using h
        walk_at "xo"
        rw [snoc _ (by rw [nmOne, if_neg h', nmFull])]
        walk_at "st"
  · walk_at "xo"
    have t0 : 0 ≤ mix c 11 m := mix_nn (by omega)
    have t1 : mix c 11 m < m := mix_lt (by omega)
    rw [cutP _ t0, cutQ _ t0]
    refine a2n_cat (by simp only [List.length_map, List.length_drop, List.length_take, List.length_range]; omega) ?_
    rw [← List.map_append, List.map_drop, List.map_take]
    exact hq
abbrev s_l_shuffled : Stmt := topS 7
theorem sc_l_shuffled : FnScope ["_law_cell_here", "_law_turn", "_law_names_here", "_law_pool", "_law_found", "_law_k"] ["_law_cell_here", "_law_turn", "_law_names_here"] (defScope s_l_shuffled) := ⟨rfl, rfl, rfl, by decide +kernel, rfl, by decide +kernel, by decide +kernel⟩
local macro_rules | `(tactic| walk_at "nm") => `(tactic| refine aw_norm (ρ' := [_, _, _, _, _, _]) rfl ?_)
abbrev sp_l_shuffled (K : PySem.W.Frag) : Sp := pfn K T_l_shuffled
theorem ok_l_shuffled {f : Addr} {fd : FuncData} (F : Fun K "_law_shuffled" "_law_shuffled" s_l_shuffled f fd) (T : Txt K mg) {f_l_mix : Addr} {fd_l_mix : FuncData} (D_l_mix : Dk P w K mg base CX0 1 f_l_mix fd_l_mix "_law_mix" ["_law_cell_here", "_law_turn", "_law_many"] [] (sp_l_mix K)) : FnOk P w K mg base CX0 2 f fd ["_law_cell_here", "_law_turn", "_law_names_here"] (sp_l_shuffled K) := by
  refine F.ok sc_l_shuffled (fun vs H Q E h => ?_) (fun cdv A outer s H vs Q E hr h => ?_)
  · (obtain ⟨_, _, _, _, dv, hT, _⟩ := h; rw [dv.len]; first | (obtain ⟨rfl, _⟩ := hT; rfl) | (obtain ⟨_, rfl, _⟩ := hT; rfl) | (obtain ⟨_, _, rfl, _⟩ := hT; rfl) | (obtain ⟨_, _, _, rfl, _⟩ := hT; rfl) | (obtain ⟨_, _, _, _, rfl, _⟩ := hT; rfl) | (obtain ⟨_, _, _, _, _, rfl, _⟩ := hT; rfl) | (obtain ⟨_, _, _, _, _, _, rfl, _⟩ := hT; rfl) | (obtain ⟨_, _, _, _, _, _, _, rfl, _⟩ := hT; rfl) | (obtain ⟨_, _, _, _, _, _, _, _, rfl, _⟩ := hT; rfl) | (obtain ⟨_, _, _, _, _, _, _, _, _, rfl, _⟩ := hT; rfl) | (obtain ⟨_, _, _, _, _, _, _, _, _, _, rfl, _⟩ := hT; rfl))
  refine ⟨_, (pss_cons (ps_asN (ps_set (i := 3) sc_l_shuffled.nd rfl (Or.inl rfl) (pe_callTy (call_listK (K := K) rfl) (by rfl) T.b_list (by decide +kernel) (pa_cons (pv 2) pa_nil))))
      (pss_cons (ps_asN (ps_set (i := 4) sc_l_shuffled.nd rfl (Or.inl rfl) (pe_lst pa_nil)))
      (pss_cons (ps_for PassesOwn.never rfl (pi_range1 rfl T.b_range (pa_cons (pe_callB (call_lenK (K := K) rfl) (by rfl) T.b_len PySem.boot_len (pa_cons (pv 2) pa_nil)) pa_nil)) (pg_name (i := 5) sc_l_shuffled.nd rfl (Or.inl rfl))
        (pss_one (ps_apP (ps_expr (pe_bmKK (K := K) rfl PySem.F.plainAttrs_list PySem.F.slot_list_append PySem.F.type_list_append mt_append (pv 4) (pa_cons (pe_bmKK (K := K) rfl PySem.F.plainAttrs_list PySem.F.slot_list_pop PySem.F.type_list_pop mt_popAt (pv 3) (pa_cons (pe_call D_l_mix.F (hr.mono (by decide)) (by rfl) D_l_mix.g D_l_mix.kp D_l_mix.b .nil pass0 (pa_cons (pv 0) (pa_cons (pe_op op_add (pv 1) (pv 5)) (pa_cons (pe_callB (call_lenK (K := K) rfl) (by rfl) T.b_len PySem.boot_len (pa_cons (pv 3) pa_nil)) pa_nil)))) pa_nil)) pa_nil))))))
      (pss_one (ps_ret (pv 4)))))), pfn_enter h ?_⟩
  rintro ds q B0 H0 ⟨c, t, ns, rfl, ht, hl, hq⟩
  walk_at "xo"
  refine aforR0 (fun i ρ => ∃ pool found, ρ = [.sh (.int c), .sh (.int t), .sh (eNs ns), .own (eNs pool), .own (eNs found), .un] ∧ pool.length + i = ns.length ∧ found.length = i ∧ (found ++ pool).Perm ns) ⟨_, by walk_at "wk", ns, [], rfl, rfl, rfl, List.Perm.refl _⟩ ?_ ?_
  · rintro i ρ hi ⟨pool, found, rfl, h1, h2, h3⟩
    walk_at "xo"
    have hp : 0 < (pool.length : Int) := by omega
    have k0 : 0 ≤ mix c (t + i) pool.length := mix_nn hp
    have k1 : mix c (t + i) pool.length < pool.length := mix_lt hp
    have hk : (mix c (t + i) pool.length).toNat < pool.length := by omega
    refine ⟨(mix c (t + i) pool.length).toNat, .str (pool[(mix c (t + i) pool.length).toNat]), by congr 1; omega, map_at (List.getElem?_eq_getElem hk), by omega, by omega, ?_⟩
    rw [eNs_snoc, erase_map]
    refine ⟨_, by walk_at "wk", ⟨pool.eraseIdx (mix c (t + i) pool.length).toNat, found ++ [pool[(mix c (t + i) pool.length).toNat]], rfl, ?_, ?_, ?_⟩, rfl⟩
    · rw [List.length_eraseIdx_of_lt hk]
      omega
    · rw [List.length_append, h2]
      rfl
    · refine .trans ?_ h3
      rw [List.append_assoc]
      exact List.Perm.append_left _ (erase_perm (List.getElem?_eq_getElem hk))
  · rintro ρ ⟨pool, found, rfl, h1, h2, h3⟩
    walk_at "xo"
    have e : pool = [] := List.length_eq_zero_iff.mp (by omega)
    rw [e, List.append_nil] at h3
    exact hq found h3

abbrev s_l_part : Stmt := topS 8
theorem sc_l_part : FnScope ["_law_cell_here", "_law_order_here", "_law_some", "_law_k"] ["_law_cell_here", "_law_order_here"] (defScope s_l_part) := ⟨rfl, rfl, rfl, by decide +kernel, rfl, by decide +kernel, by decide +kernel⟩
theorem filt_sub (ns : List Str) (P : Nat → Bool) : ∀ n, n ≤ ns.length → (((List.range n).filter P).map fun i => ns.getD i (Str.ofString "")).Sublist (ns.take n)
  | 0, _ => by simp
  | n + 1, h => by
    have ih := filt_sub ns P n (by omega)
    have e : ns.getD n (Str.ofString "") = ns[n] := by
      rw [List.getD_eq_getElem?_getD, List.getElem?_eq_getElem (by omega)]
      rfl
    rw [List.range_succ, List.filter_append, List.map_append, List.take_add_one, List.getElem?_eq_getElem (by omega)]
    refine ih.append ?_
    cases hP : P n
    · rw [List.filter_cons_of_neg (by rw [hP]; decide)]
      exact List.nil_sublist _
    · rw [List.filter_cons_of_pos hP, List.filter_nil, List.map_cons, e]
      exact List.Sublist.refl _
def T_l_part (ds : List D) (q : D → Prop) : Prop := ∃ (c : Int) (ns : List Str), ds = [.int c, eNs ns] ∧ ns.length ≤ 900 ∧ ∀ ys : List Str, ys.Sublist ns → q (eNs ys)
local macro_rules | `(tactic| walk_at "nm") => `(tactic| refine aw_norm (ρ' := [_, _, _, _]) rfl ?_)
abbrev sp_l_part (K : PySem.W.Frag) : Sp := pfn K T_l_part
theorem ok_l_part {f : Addr} {fd : FuncData} (F : Fun K "_law_part" "_law_part" s_l_part f fd) (T : Txt K mg) {f_l_mix : Addr} {fd_l_mix : FuncData} (D_l_mix : Dk P w K mg base CX0 1 f_l_mix fd_l_mix "_law_mix" ["_law_cell_here", "_law_turn", "_law_many"] [] (sp_l_mix K)) : FnOk P w K mg base CX0 2 f fd ["_law_cell_here", "_law_order_here"] (sp_l_part K) := by
  refine F.ok sc_l_part (fun vs H Q E h => ?_) (fun cdv A outer s H vs Q E hr h => ?_)
  · (obtain ⟨_, _, _, _, dv, hT, _⟩ := h; rw [dv.len]; first | (obtain ⟨rfl, _⟩ := hT; rfl) | (obtain ⟨_, rfl, _⟩ := hT; rfl) | (obtain ⟨_, _, rfl, _⟩ := hT; rfl) | (obtain ⟨_, _, _, rfl, _⟩ := hT; rfl) | (obtain ⟨_, _, _, _, rfl, _⟩ := hT; rfl) | (obtain ⟨_, _, _, _, _, rfl, _⟩ := hT; rfl) | (obtain ⟨_, _, _, _, _, _, rfl, _⟩ := hT; rfl) | (obtain ⟨_, _, _, _, _, _, _, rfl, _⟩ := hT; rfl) | (obtain ⟨_, _, _, _, _, _, _, _, rfl, _⟩ := hT; rfl) | (obtain ⟨_, _, _, _, _, _, _, _, _, rfl, _⟩ := hT; rfl) | (obtain ⟨_, _, _, _, _, _, _, _, _, _, rfl, _⟩ := hT; rfl))
  refine ⟨_, (pss_cons (ps_asS (ps_set (i := 2) sc_l_part.nd rfl (Or.inr rfl) (pe_op op_add pe_int (pe_call D_l_mix.F (hr.mono (by decide)) (by rfl) D_l_mix.g D_l_mix.kp D_l_mix.b .nil pass0 (pa_cons (pv 0) (pa_cons pe_int (pa_cons pe_int pa_nil)))))))
      (pss_one (ps_ret (pe_lc (own := [("_law_k", 3)]) (g := gName 3) (by rfl) sc_l_part.nd (pi_range1 rfl T.b_range (pa_cons (pe_callB (call_lenK (K := K) rfl) (by rfl) T.b_len PySem.boot_len (pa_cons (pv 1) pa_nil)) pa_nil)) (blkOk_by (own := [("_law_k", 3)]) (N := ["_law_cell_here", "_law_order_here", "_law_some", "_law_k"]) (sc := defScope s_l_part) (by decide +kernel)) (fun _ _ _ _ _ => (pg_name (i := 3) sc_l_part.nd rfl (Or.inl rfl))) (fun _ _ _ _ _ => (pts_one (pt_cmpR op_lt (pe_call D_l_mix.F (hr.mono (by decide)) (by rfl) D_l_mix.g D_l_mix.kp D_l_mix.b .nil pass0 (pa_cons (pv 0) (pa_cons (pe_op op_add pe_int (pv 3)) (pa_cons pe_int pa_nil)))) (pv 2) (nomark _)))) (fun _ _ _ _ _ => (pe_ix (ix_listK (K := K) rfl) (pv 1) (pv 3) (fun _ _ => rfl))))))), pfn_enter h ?_⟩
  rintro ds q B0 H0 ⟨c, ns, rfl, hl, hq⟩
  walk_at "xo"
  refine alc (f := fun i : Nat => D.int i) (fun i : Nat => decide (mix c (1 + i) 4 < 1 + mix c 0 4)) (fun i : Nat => D.str (ns.getD i (Str.ofString ""))) (by rw [List.length_range]; omega) (fun i hi q hq => ?_) (fun i hi _ q hq => ?_) ?_
  · have := List.mem_range.mp hi
    walk_at "xo"
    exact hq
  · have hi' := List.mem_range.mp hi
    have hlt : i < ns.length := by omega
    walk_at "xo"
    refine a2_ixN (x := ns[i]) (List.getElem?_eq_getElem hlt) ?_
    rw [List.getD_eq_getElem?_getD, List.getElem?_eq_getElem hlt] at hq
    exact hq
  · have := hq _ ((filt_sub ns (fun i : Nat => decide (mix c (1 + i) 4 < 1 + mix c 0 4)) ns.length (Nat.le_refl _)).trans (by rw [List.take_length]; exact List.Sublist.refl _))
    rw [eNs, List.map_map] at this
    exact this
theorem u_part {c : Int} {ns : List Str} {q : D → Prop} (h1 : ns.length ≤ 900) (h : ∀ ys : List Str, ys.Sublist ns → q (eNs ys)) : T_l_part [.int c, eNs ns] q := ⟨c, ns, rfl, h1, h⟩
abbrev s_l_order : Stmt := topS 9
theorem sc_l_order : FnScope ["_law_script", "_law_cell_here", "_law_size"] ["_law_script"] (defScope s_l_order) := ⟨rfl, rfl, rfl, by decide +kernel, rfl, by decide +kernel, by decide +kernel⟩
def T_l_order (ds : List D) (q : D → Prop) : Prop := ∃ ns : List Int, ds = [.fls (ns.map .int)] ∧ ∀ ys : List Str, NamesOk ys → 2 ≤ ys.length → ys.length ≤ 24 → q (eNs ys)
local macro_rules | `(tactic| walk_at "nm") => `(tactic| refine aw_norm (ρ' := [_, _, _]) rfl ?_)
abbrev sp_l_order (K : PySem.W.Frag) : Sp := pfn K T_l_order
theorem ok_l_order {f : Addr} {fd : FuncData} (F : Fun K "_law_order" "_law_order" s_l_order f fd) (T : Txt K mg) {f_l_cell : Addr} {fd_l_cell : FuncData} (D_l_cell : Dk P w K mg base CX0 1 f_l_cell fd_l_cell "_law_cell" ["_law_script", "_law_k"] [] (sp_l_cell K)) {f_l_mix : Addr} {fd_l_mix : FuncData} (D_l_mix : Dk P w K mg base CX0 1 f_l_mix fd_l_mix "_law_mix" ["_law_cell_here", "_law_turn", "_law_many"] [] (sp_l_mix K)) {f_l_names : Addr} {fd_l_names : FuncData} (D_l_names : Dk P w K mg base CX0 2 f_l_names fd_l_names "_law_names" ["_law_cell_here", "_law_many"] [] (sp_l_names K)) {f_l_shuffled : Addr} {fd_l_shuffled : FuncData} (D_l_shuffled : Dk P w K mg base CX0 2 f_l_shuffled fd_l_shuffled "_law_shuffled" ["_law_cell_here", "_law_turn", "_law_names_here"] [] (sp_l_shuffled K)) : FnOk P w K mg base CX0 3 f fd ["_law_script"] (sp_l_order K) := by
  refine F.ok sc_l_order (fun vs H Q E h => ?_) (fun cdv A outer s H vs Q E hr h => ?_)
  · (obtain ⟨_, _, _, _, dv, hT, _⟩ := h; rw [dv.len]; first | (obtain ⟨rfl, _⟩ := hT; rfl) | (obtain ⟨_, rfl, _⟩ := hT; rfl) | (obtain ⟨_, _, rfl, _⟩ := hT; rfl) | (obtain ⟨_, _, _, rfl, _⟩ := hT; rfl) | (obtain ⟨_, _, _, _, rfl, _⟩ := hT; rfl) | (obtain ⟨_, _, _, _, _, rfl, _⟩ := hT; rfl) | (obtain ⟨_, _, _, _, _, _, rfl, _⟩ := hT; rfl) | (obtain ⟨_, _, _, _, _, _, _, rfl, _⟩ := hT; rfl) | (obtain ⟨_, _, _, _, _, _, _, _, rfl, _⟩ := hT; rfl) | (obtain ⟨_, _, _, _, _, _, _, _, _, rfl, _⟩ := hT; rfl) | (obtain ⟨_, _, _, _, _, _, _, _, _, _, rfl, _⟩ := hT; rfl))
  refine ⟨_, (pss_cons (ps_asS (ps_set (i := 1) sc_l_order.nd rfl (Or.inl rfl) (pe_call D_l_cell.F (hr.mono (by decide)) (by rfl) D_l_cell.g D_l_cell.kp D_l_cell.b .nil pass0 (pa_cons (pv 0) (pa_cons pe_int pa_nil)))))
      (pss_cons (ps_asS (ps_set (i := 2) sc_l_order.nd rfl (Or.inl rfl) (pe_op op_add pe_int (pe_call D_l_mix.F (hr.mono (by decide)) (by rfl) D_l_mix.g D_l_mix.kp D_l_mix.b .nil pass0 (pa_cons (pv 1) (pa_cons pe_int (pa_cons pe_int pa_nil)))))))
      (pss_cons (ps_if (pt_cmpR op_eq (pe_call D_l_mix.F (hr.mono (by decide)) (by rfl) D_l_mix.g D_l_mix.kp D_l_mix.b .nil pass0 (pa_cons (pv 1) (pa_cons pe_int (pa_cons pe_int pa_nil)))) pe_int (nomark _))
        (pss_one (ps_asS (ps_set (i := 2) sc_l_order.nd rfl (Or.inl rfl) pe_int)))
        pss_nil)
      (pss_one (ps_ret (pe_call D_l_shuffled.F (hr.mono (by decide)) (by rfl) D_l_shuffled.g D_l_shuffled.kp D_l_shuffled.b .nil pass0 (pa_cons (pe_call D_l_cell.F (hr.mono (by decide)) (by rfl) D_l_cell.g D_l_cell.kp D_l_cell.b .nil pass0 (pa_cons (pv 0) (pa_cons pe_int pa_nil))) (pa_cons pe_int (pa_cons (pe_call D_l_names.F (hr.mono (by decide)) (by rfl) D_l_names.g D_l_names.kp D_l_names.b .nil pass0 (pa_cons (pe_call D_l_cell.F (hr.mono (by decide)) (by rfl) D_l_cell.g D_l_cell.kp D_l_cell.b .nil pass0 (pa_cons (pv 0) (pa_cons pe_int pa_nil))) (pa_cons (pv 2) pa_nil))) pa_nil))))))))), pfn_enter h ?_⟩
  rintro ds q B0 H0 ⟨ns, rfl, hq⟩
  have h0 : 0 ≤ mix (cellOf ns 0) 0 7 := mix_nn (by decide)
  have h1 : mix (cellOf ns 0) 0 7 < 7 := mix_lt (by decide)
  walk_at "xo"
  have fin : ∀ m : Int, 2 ≤ m → m ≤ 24 → ∀ c, T_l_shuffled [.int c, .int 0, eNs (namesM (cellOf ns 1) m)] fun d => q d := fun m g1 g2 c => u_shuffled ⟨by decide, by decide⟩ (by rw [namesM_len]; omega) fun ys p =>
    hq ys ((namesM_ok (by omega)).perm p) (by rw [p.length_eq, namesM_len]; omega) (by rw [p.length_eq, namesM_len]; omega)
  refine ite_ok (fun h => ?_) (fun h => ?_)
  · walk_at "xo"
    exact fin _ (by decide) (by decide) _
  · walk_at "xo"
    exact fin _ (by omega) (by omega) _
theorem u_order {ns : List Int} {q : D → Prop} (h : ∀ ys : List Str, NamesOk ys → 2 ≤ ys.length → ys.length ≤ 24 → q (eNs ys)) : T_l_order [.fls (ns.map .int)] q := ⟨ns, rfl, h⟩
abbrev s_l_rows : Stmt := topS 10
theorem sc_l_rows : FnScope ["_law_script", "_law_order_here", "_law_most", "_law_cell_here", "_law_many", "_law_k"] ["_law_script", "_law_order_here", "_law_most"] (defScope s_l_rows) := ⟨rfl, rfl, rfl, by decide +kernel, rfl, by decide +kernel, by decide +kernel⟩
def T_l_rows (ds : List D) (q : D → Prop) : Prop := ∃ (ns : List Int) (o : List Str) (m : Int), ds = [.fls (ns.map .int), eNs o, .int m] ∧ (0 ≤ m ∧ m ≤ 12) ∧ o.length ≤ 24 ∧ ∀ rss : List (List Str), rss.length ≤ 12 → (1 ≤ m → 1 ≤ rss.length) → (∀ r ∈ rss, r.Sublist o) → q (eRs rss)
local macro_rules | `(tactic| walk_at "nm") => `(tactic| refine aw_norm (ρ' := [_, _, _, _, _, _]) rfl ?_)
abbrev sp_l_rows (K : PySem.W.Frag) : Sp := pfnN K T_l_rows
theorem ok_l_rows {f : Addr} {fd : FuncData} (F : Fun K "_law_rows" "_law_rows" s_l_rows f fd) (T : Txt K mg) {f_l_cell : Addr} {fd_l_cell : FuncData} (D_l_cell : Dk P w K mg base CX0 1 f_l_cell fd_l_cell "_law_cell" ["_law_script", "_law_k"] [] (sp_l_cell K)) {f_l_mix : Addr} {fd_l_mix : FuncData} (D_l_mix : Dk P w K mg base CX0 1 f_l_mix fd_l_mix "_law_mix" ["_law_cell_here", "_law_turn", "_law_many"] [] (sp_l_mix K)) {f_l_part : Addr} {fd_l_part : FuncData} (D_l_part : Dk P w K mg base CX0 2 f_l_part fd_l_part "_law_part" ["_law_cell_here", "_law_order_here"] [] (sp_l_part K)) : FnOk P w K mg base CX0 3 f fd ["_law_script", "_law_order_here", "_law_most"] (sp_l_rows K) := by
  refine F.ok sc_l_rows (fun vs H Q E h => ?_) (fun cdv A outer s H vs Q E hr h => ?_)
  · (obtain ⟨_, _, _, _, dv, hT, _⟩ := h; rw [dv.len]; first | (obtain ⟨rfl, _⟩ := hT; rfl) | (obtain ⟨_, rfl, _⟩ := hT; rfl) | (obtain ⟨_, _, rfl, _⟩ := hT; rfl) | (obtain ⟨_, _, _, rfl, _⟩ := hT; rfl) | (obtain ⟨_, _, _, _, rfl, _⟩ := hT; rfl) | (obtain ⟨_, _, _, _, _, rfl, _⟩ := hT; rfl) | (obtain ⟨_, _, _, _, _, _, rfl, _⟩ := hT; rfl) | (obtain ⟨_, _, _, _, _, _, _, rfl, _⟩ := hT; rfl) | (obtain ⟨_, _, _, _, _, _, _, _, rfl, _⟩ := hT; rfl) | (obtain ⟨_, _, _, _, _, _, _, _, _, rfl, _⟩ := hT; rfl) | (obtain ⟨_, _, _, _, _, _, _, _, _, _, rfl, _⟩ := hT; rfl))
  refine ⟨_, (pss_cons (ps_asS (ps_set (i := 3) sc_l_rows.nd rfl (Or.inl rfl) (pe_call D_l_cell.F (hr.mono (by decide)) (by rfl) D_l_cell.g D_l_cell.kp D_l_cell.b .nil pass0 (pa_cons (pv 0) (pa_cons pe_int pa_nil)))))
      (pss_cons (ps_asS (ps_set (i := 4) sc_l_rows.nd rfl (Or.inl rfl) (pe_op op_add pe_int (pe_call D_l_mix.F (hr.mono (by decide)) (by rfl) D_l_mix.g D_l_mix.kp D_l_mix.b .nil pass0 (pa_cons (pv 3) (pa_cons pe_int (pa_cons pe_int pa_nil)))))))
      (pss_cons (ps_if (pw_and (pt_cmpR op_eq (pe_call D_l_mix.F (hr.mono (by decide)) (by rfl) D_l_mix.g D_l_mix.kp D_l_mix.b .nil pass0 (pa_cons (pv 3) (pa_cons pe_int (pa_cons pe_int pa_nil)))) pe_int (nomark _)) (pw_and1 (pt_cmpR op_lt (pe_callB (call_lenK (K := K) rfl) (by rfl) T.b_len PySem.boot_len (pa_cons (pv 1) pa_nil)) pe_int (nomark _)))).pt
        (pss_one (ps_asS (ps_set (i := 4) sc_l_rows.nd rfl (Or.inl rfl) pe_int)))
        pss_nil)
      (pss_one (ps_ret (pe_lc (own := [("_law_k", 5)]) (g := gName 5) (by rfl) sc_l_rows.nd (pi_range1 rfl T.b_range (pa_cons (pe_callB (call_minI rfl) (by rfl) T.b_min (by decide +kernel) (pa_cons (pv 4) (pa_cons (pv 2) pa_nil))) pa_nil)) (blkOk_by (own := [("_law_k", 5)]) (N := ["_law_script", "_law_order_here", "_law_most", "_law_cell_here", "_law_many", "_law_k"]) (sc := defScope s_l_rows) (by decide +kernel)) (fun _ _ _ _ _ => (pg_name (i := 5) sc_l_rows.nd rfl (Or.inl rfl))) (fun _ _ _ _ _ => pts_nil) (fun _ _ _ _ _ => (pe_call D_l_part.F (hr.mono (by decide)) (by rfl) D_l_part.g D_l_part.kp D_l_part.b .nil pass0 (pa_cons (pe_call D_l_cell.F (hr.mono (by decide)) (by rfl) D_l_cell.g D_l_cell.kp D_l_cell.b .nil pass0 (pa_cons (pv 0) (pa_cons (pe_op op_add pe_int (pv 5)) pa_nil))) (pa_cons (pv 1) pa_nil)))))))))), pfnN_enter h ?_⟩
  rintro ds q B0 H0 ⟨ns, o, m, rfl, hm, hl, hq⟩
  have h0 : 0 ≤ mix (cellOf ns 0) 2 6 := mix_nn (by decide)
  have h1 : mix (cellOf ns 0) 2 6 < 6 := mix_lt (by decide)
  walk_at "xo"
  refine ⟨fun h => ?_, fun h => ?_⟩ <;> walk_at "xo"
  all_goals
    refine alcP (fun i y => ∃ r : List Str, y = eNs r ∧ r.Sublist o) (by rw [List.length_map, List.length_range]; split <;> omega) (fun i x hx => ?_) (fun ys hy hR => ?_)
    · rw [List.getElem?_map] at hx
      cases hi : (List.range (if m < _ then m else _ : Int).toNat)[i]? with
      | none => rw [hi] at hx; cases hx
      | some j =>
        rw [hi] at hx
        cases hx
        walk_at "xo"
        exact u_part (by omega) fun ys hs => ⟨ys, rfl, hs⟩
    · obtain ⟨rss, e, hp⟩ := form_of (f := eNs) (P := fun r => r.Sublist o) hR
      subst e
      rw [List.length_map, List.length_map, List.length_range] at hy
      exact hq rss (by rw [hy]; split <;> omega) (fun h1 => by rw [hy]; split <;> omega) hp
theorem u_rows {ns : List Int} {o : List Str} {m : Int} {q : D → Prop} (h1 : 0 ≤ m ∧ m ≤ 12) (h2 : o.length ≤ 24) (h : ∀ rss : List (List Str), rss.length ≤ 12 → (1 ≤ m → 1 ≤ rss.length) → (∀ r ∈ rss, r.Sublist o) → q (eRs rss)) : T_l_rows [.fls (ns.map .int), eNs o, .int m] q := ⟨ns, o, m, rfl, h1, h2, h⟩

abbrev s_l_whole : Stmt := topS 11
theorem sc_l_whole : FnScope ["_law_found"] ["_law_found"] (defScope s_l_whole) := ⟨rfl, rfl, rfl, by decide +kernel, rfl, by decide +kernel, by decide +kernel⟩
def isI : D → Bool
  | .int _ => true
  | _ => false
def T_l_whole (ds : List D) (q : D → Prop) : Prop := ∃ (d : D), ds = [d] ∧ Od d ∧ q (.bl (isI d))
local macro_rules | `(tactic| walk_at "nm") => `(tactic| refine aw_norm (ρ' := [_]) rfl ?_)
abbrev sp_l_whole (K : PySem.W.Frag) : Sp := pfn K T_l_whole
theorem ok_l_whole {f : Addr} {fd : FuncData} (F : Fun K "_law_whole" "_law_whole" s_l_whole f fd) (T : Txt K mg)  : FnOk P w K mg base CX0 1 f fd ["_law_found"] (sp_l_whole K) := by
  refine F.ok sc_l_whole (fun vs H Q E h => ?_) (fun cdv A outer s H vs Q E hr h => ?_)
  · (obtain ⟨_, _, _, _, dv, hT, _⟩ := h; rw [dv.len]; first | (obtain ⟨rfl, _⟩ := hT; rfl) | (obtain ⟨_, rfl, _⟩ := hT; rfl) | (obtain ⟨_, _, rfl, _⟩ := hT; rfl) | (obtain ⟨_, _, _, rfl, _⟩ := hT; rfl) | (obtain ⟨_, _, _, _, rfl, _⟩ := hT; rfl) | (obtain ⟨_, _, _, _, _, rfl, _⟩ := hT; rfl) | (obtain ⟨_, _, _, _, _, _, rfl, _⟩ := hT; rfl) | (obtain ⟨_, _, _, _, _, _, _, rfl, _⟩ := hT; rfl) | (obtain ⟨_, _, _, _, _, _, _, _, rfl, _⟩ := hT; rfl) | (obtain ⟨_, _, _, _, _, _, _, _, _, rfl, _⟩ := hT; rfl) | (obtain ⟨_, _, _, _, _, _, _, _, _, _, rfl, _⟩ := hT; rfl))
  refine ⟨_, (pss_one (ps_ret (pe_and (pe_callB (call_isiK' (K := K) rfl) (by rfl) T.b_isinstance (by decide +kernel) (pa_cons (pv 0) (pa_cons (pe_bltn (v := .ty "int") (by rfl) T.b_int (by decide +kernel) rfl) pa_nil))) (pe_one (pe_not (pe_callB (call_isiK' (K := K) rfl) (by rfl) T.b_isinstance (by decide +kernel) (pa_cons (pv 0) (pa_cons (pe_bltn (v := .ty "bool") (by rfl) T.b_bool (by decide +kernel) rfl) pa_nil)))))))), pfn_enter h ?_⟩
  rintro ds q B0 H0 ⟨d, rfl, od, hq⟩
  cases od <;> walk_at "xo" <;> exact hq
theorem u_whole {d : D} {q : D → Prop} (od : Od d) (hq : q (.bl (isI d))) : T_l_whole [d] q := ⟨d, rfl, od, hq⟩
abbrev s_l_is_claim : Stmt := topS 12
theorem sc_l_is_claim : FnScope ["_law_rows_here", "_law_step", "_law_row"] ["_law_rows_here", "_law_step"] (defScope s_l_is_claim) := ⟨rfl, rfl, rfl, by decide +kernel, rfl, by decide +kernel, by decide +kernel⟩
def T_l_is_claim (ds : List D) (q : D → Prop) : Prop := ∃ (rss : Rws) (s : List D), ds = [eRs rss, .tup s] ∧ rss.length ≤ 1000 ∧ s.length ≤ 100 ∧ (∀ x ∈ s, Od x) ∧ (IC rss s → q (.bl true)) ∧ (¬ IC rss s → q (.bl false))
local macro_rules | `(tactic| walk_at "nm") => `(tactic| refine aw_norm (ρ' := [_, _, _]) rfl ?_)
abbrev sp_l_is_claim (K : PySem.W.Frag) : Sp := pfn K T_l_is_claim
theorem ok_l_is_claim {f : Addr} {fd : FuncData} (F : Fun K "_law_is_claim" "_law_is_claim" s_l_is_claim f fd) (T : Txt K mg) {f_l_whole : Addr} {fd_l_whole : FuncData} (D_l_whole : Dk P w K mg base CX0 1 f_l_whole fd_l_whole "_law_whole" ["_law_found"] [] (sp_l_whole K)) : FnOk P w K mg base CX0 2 f fd ["_law_rows_here", "_law_step"] (sp_l_is_claim K) := by
  refine F.ok sc_l_is_claim (fun vs H Q E h => ?_) (fun cdv A outer s H vs Q E hr h => ?_)
  · (obtain ⟨_, _, _, _, dv, hT, _⟩ := h; rw [dv.len]; first | (obtain ⟨rfl, _⟩ := hT; rfl) | (obtain ⟨_, rfl, _⟩ := hT; rfl) | (obtain ⟨_, _, rfl, _⟩ := hT; rfl) | (obtain ⟨_, _, _, rfl, _⟩ := hT; rfl) | (obtain ⟨_, _, _, _, rfl, _⟩ := hT; rfl) | (obtain ⟨_, _, _, _, _, rfl, _⟩ := hT; rfl) | (obtain ⟨_, _, _, _, _, _, rfl, _⟩ := hT; rfl) | (obtain ⟨_, _, _, _, _, _, _, rfl, _⟩ := hT; rfl) | (obtain ⟨_, _, _, _, _, _, _, _, rfl, _⟩ := hT; rfl) | (obtain ⟨_, _, _, _, _, _, _, _, _, rfl, _⟩ := hT; rfl) | (obtain ⟨_, _, _, _, _, _, _, _, _, _, rfl, _⟩ := hT; rfl))
  refine ⟨_, (pss_cons (ps_if (pw_or (pt_not (pt_val (pe_callB (call_isiK' (K := K) rfl) (by rfl) T.b_isinstance (by decide +kernel) (pa_cons (pv 1) (pa_cons (pe_bltn (v := .ty "tuple") (by rfl) T.b_tuple (by decide +kernel) rfl) pa_nil))))) (pw_or (pt_cmpR op_ne (pe_callB (call_lenK (K := K) rfl) (by rfl) T.b_len PySem.boot_len (pa_cons (pv 1) pa_nil)) pe_int (nomark _)) (pw_or1 (pt_not (pt_val (pe_call D_l_whole.F (hr.mono (by decide)) (by rfl) D_l_whole.g D_l_whole.kp D_l_whole.b .nil pass0 (pa_cons (pe_ix (ix_tupK (K := K) rfl) (pv 1) pe_int (fun _ _ => rfl)) pa_nil))))))).pt
        (pss_one (ps_ret pe_bl))
        pss_nil)
      (pss_cons (ps_if (pt_not (pt_chain op_le op_lt pe_int (pe_ix (ix_tupK (K := K) rfl) (pv 1) pe_int (fun _ _ => rfl)) (pe_callB (call_lenK (K := K) rfl) (by rfl) T.b_len PySem.boot_len (pa_cons (pv 0) pa_nil))))
        (pss_one (ps_ret pe_bl))
        pss_nil)
      (pss_cons (ps_asH (ps_set (i := 2) sc_l_is_claim.nd rfl (Or.inl rfl) (pe_ix (ix_listK (K := K) rfl) (pv 0) (pe_ix (ix_tupK (K := K) rfl) (pv 1) pe_int (fun _ _ => rfl)) (fun _ _ => rfl))))
      (pss_cons (ps_if (pw_or (pt_cmpR (op_ninDK (K := K) rfl (room65 hr)) (pe_ix (ix_tupK (K := K) rfl) (pv 1) pe_int (fun _ _ => rfl)) (pv 2) rfl) (pw_or1 (pt_cmpR (op_ninDK (K := K) rfl (room65 hr)) (pe_ix (ix_tupK (K := K) rfl) (pv 1) pe_int (fun _ _ => rfl)) (pv 2) rfl))).pt
        (pss_one (ps_ret pe_bl))
        pss_nil)
      (pss_one (ps_ret (pe_cmpR op_lt (pe_bmKK (K := K) rfl PySem.F.plainAttrs_list PySem.F.slot_list_index PySem.F.type_list_index (mt_indexK (K := K) rfl) (pv 2) (pa_cons (pe_ix (ix_tupK (K := K) rfl) (pv 1) pe_int (fun _ _ => rfl)) pa_nil)) (pe_bmKK (K := K) rfl PySem.F.plainAttrs_list PySem.F.slot_list_index PySem.F.type_list_index (mt_indexK (K := K) rfl) (pv 2) (pa_cons (pe_ix (ix_tupK (K := K) rfl) (pv 1) pe_int (fun _ _ => rfl)) pa_nil)) (nomark _)))))))), pfn_enter h ?_⟩
  rintro ds q B0 H0 ⟨rss, s, rfl, hl, ls, ho, hqt, hqf⟩
  walk_at "xo"
  by_cases h3 : s.length = 3
  · obtain ⟨x, y, z, rfl⟩ : ∃ x y z, s = [x, y, z] := by
      match s, h3 with
      | [x, y, z], _ => exact ⟨x, y, z, rfl⟩
    have ox := ho x (by simp)
    have oy := ho y (by simp)
    have oz := ho z (by simp)
    walk_at "xo"
    refine a2_ixTP (d := z) (by decide) rfl ?_
    walk_at "xo"
    refine u_whole oz ?_
    cases oz with
    | int i =>
      walk_at "xo"
      refine a2_ixTP (d := .int i) (by decide) rfl ?_
      walk_at "xo"
      by_cases r : 0 ≤ i ∧ i < (rss.length : Int)
      · rw [decide_eq_true r.1]
        walk_at "xo"
        rw [decide_eq_true r.2]
        walk_at "xo"
        refine a2_ixTP (d := .int i) (by decide) rfl ?_
        walk_at "xo"
        have hp : i.toNat < rss.length := by omega
        have ic := inS_ic (x := x) (y := y) r.1 (List.getElem?_eq_getElem hp)
        refine a2_ixM (x := rss[i.toNat]) r.1 (List.getElem?_eq_getElem hp) ?_
        walk_at "xo"
        refine a2_ixTP (d := x) (by decide) rfl ?_
        walk_at "xo"
        refine a2_ninOd ox ?_
        cases hx : inS x rss[i.toNat] with
        | false =>
          walk_at "xo"
          refine hqf fun h => ?_
          obtain ⟨m, n, rfl, rfl, h1, h2, h3⟩ := ic.mp h
          simp [inS, h1] at hx
        | true =>
          walk_at "xo"
          refine a2_ixTP (d := y) (by decide) rfl ?_
          walk_at "xo"
          refine a2_ninOd oy ?_
          cases hy : inS y rss[i.toNat] with
          | false =>
            walk_at "xo"
            refine hqf fun h => ?_
            obtain ⟨m, n, rfl, rfl, h1, h2, h3⟩ := ic.mp h
            simp [inS, h2] at hy
          | true =>
            cases x with
            | str m =>
              cases y with
              | str n =>
                have h1 : m ∈ rss[i.toNat] := by simpa [inS] using hx
                have h2 : n ∈ rss[i.toNat] := by simpa [inS] using hy
                walk_at "xo"
                refine a2_ixTP (d := .str m) (by decide) rfl ?_
                walk_at "xo"
                refine a2_ixTP (d := .str n) (by decide) rfl ?_
                walk_at "xo"
                by_cases lt : rss[i.toNat].idxOf m < rss[i.toNat].idxOf n
                · rw [decide_eq_true (show ((rss[i.toNat].idxOf m : Nat) : Int) < ((rss[i.toNat].idxOf n : Nat) : Int) by omega)]
                  exact hqt (ic.mpr ⟨m, n, rfl, rfl, h1, h2, lt⟩)
                · rw [decide_eq_false (show ¬ ((rss[i.toNat].idxOf m : Nat) : Int) < ((rss[i.toNat].idxOf n : Nat) : Int) by omega)]
                  refine hqf fun h => ?_
                  obtain ⟨m, n, e1, e2, _, _, h3⟩ := ic.mp h
                  cases e1
                  cases e2
                  exact lt h3
              | _ => simp [inS] at hy
            | _ => simp [inS] at hx
      · have no : ¬ IC rss [x, y, .int i] := fun ⟨c, e, row, h, _⟩ => by
          simp [clT] at e
          have := (List.getElem?_eq_some_iff.mp h).1
          exact r (by omega)
        by_cases r0 : 0 ≤ i
        · rw [decide_eq_true r0]
          walk_at "xo"
          rw [decide_eq_false (show ¬ i < (rss.length : Int) from fun h => r ⟨r0, h⟩)]
          walk_at "xo"
          exact hqf no
        · rw [decide_eq_false r0]
          walk_at "xo"
          exact hqf no
    | _ =>
      walk_at "xo"
      exact hqf fun ⟨c, e, _⟩ => by simp [clT] at e
  · rw [show (!decide ((s.length : Int) = 3)) = true by simp; omega]
    walk_at "xo"
    exact hqf fun ⟨c, e, _⟩ => h3 (by rw [e]; rfl)
theorem u_l_is_claim {rss : Rws} {s : List D} {q : D → Prop} (h1 : rss.length ≤ 1000) (h2 : s.length ≤ 100 ∧ ∀ x ∈ s, Od x) (ht : IC rss s → q (.bl true)) (hf : ¬ IC rss s → q (.bl false)) : T_l_is_claim [eRs rss, .tup s] q := ⟨rss, s, rfl, h1, h2.1, h2.2, ht, hf⟩
theorem pre_eq {sts : List (List D)} {cs cs' : List Cl} {k : Nat} (e : sts = cs'.map clT) (et : sts.take k = cs.map clT) : cs'.take k = cs := clTs_inj (by rw [← et, e, List.map_take])
theorem at_eq {sts : List (List D)} {cs' : List Cl} {k : Nat} {c : Cl} (e : sts = cs'.map clT) (h : sts[k]? = some (clT c)) : cs'[k]? = some c := by
  rw [e, List.getElem?_map] at h
  cases h2 : cs'[k]? with
  | none => rw [h2] at h; cases h
  | some c' =>
    rw [h2] at h
    rw [clT_inj (Option.some.inj h)]
theorem at_IN {rss : Rws} {cs : List Cl} (h : RingIn rss cs) {k : Nat} {c : Cl} (hc : cs[k]? = some c) : c.1 ∉ (cs.take k).map (·.1) := fun m => by
  have nd := h.nd
  rw [← List.take_append_drop k cs, List.map_append, List.nodup_append] at nd
  refine nd.2.2 _ m _ ?_ rfl
  have hk := (List.getElem?_eq_some_iff.mp hc).1
  rw [List.drop_eq_getElem_cons hk, List.map_cons, (List.getElem?_eq_some_iff.mp hc).2]
  exact List.mem_cons_self
abbrev s_l_is_ring : Stmt := topS 13
theorem sc_l_is_ring : FnScope ["_law_rows_here", "_law_steps", "_law_ones", "_law_k"] ["_law_rows_here", "_law_steps"] (defScope s_l_is_ring) := ⟨rfl, rfl, rfl, by decide +kernel, rfl, by decide +kernel, by decide +kernel⟩
def T_l_is_ring (ds : List D) (q : D → Prop) : Prop := ∃ (rss : Rws) (sts : List (List D)), ds = [eRs rss, eSt sts] ∧ rss.length ≤ 1000 ∧ sts.length ≤ 1000 ∧ (∀ s ∈ sts, s.length ≤ 100 ∧ ∀ x ∈ s, Od x) ∧ (IR rss sts → q (.bl true)) ∧ (¬ IR rss sts → q (.bl false))
local macro_rules | `(tactic| walk_at "nm") => `(tactic| refine aw_norm (ρ' := [_, _, _, _]) rfl ?_)
abbrev sp_l_is_ring (K : PySem.W.Frag) : Sp := pfn K T_l_is_ring
theorem ok_l_is_ring {f : Addr} {fd : FuncData} (F : Fun K "_law_is_ring" "_law_is_ring" s_l_is_ring f fd) (T : Txt K mg) {f_l_is_claim : Addr} {fd_l_is_claim : FuncData} (D_l_is_claim : Dk P w K mg base CX0 2 f_l_is_claim fd_l_is_claim "_law_is_claim" ["_law_rows_here", "_law_step"] [] (sp_l_is_claim K)) : FnOk P w K mg base CX0 3 f fd ["_law_rows_here", "_law_steps"] (sp_l_is_ring K) := by
  refine F.ok sc_l_is_ring (fun vs H Q E h => ?_) (fun cdv A outer s H vs Q E hr h => ?_)
  · (obtain ⟨_, _, _, _, dv, hT, _⟩ := h; rw [dv.len]; first | (obtain ⟨rfl, _⟩ := hT; rfl) | (obtain ⟨_, rfl, _⟩ := hT; rfl) | (obtain ⟨_, _, rfl, _⟩ := hT; rfl) | (obtain ⟨_, _, _, rfl, _⟩ := hT; rfl) | (obtain ⟨_, _, _, _, rfl, _⟩ := hT; rfl) | (obtain ⟨_, _, _, _, _, rfl, _⟩ := hT; rfl) | (obtain ⟨_, _, _, _, _, _, rfl, _⟩ := hT; rfl) | (obtain ⟨_, _, _, _, _, _, _, rfl, _⟩ := hT; rfl) | (obtain ⟨_, _, _, _, _, _, _, _, rfl, _⟩ := hT; rfl) | (obtain ⟨_, _, _, _, _, _, _, _, _, rfl, _⟩ := hT; rfl) | (obtain ⟨_, _, _, _, _, _, _, _, _, _, rfl, _⟩ := hT; rfl))
  refine ⟨_, (pss_cons (ps_if (pw_or (pt_not (pt_val (pe_callB (call_isiK' (K := K) rfl) (by rfl) T.b_isinstance (by decide +kernel) (pa_cons (pv 1) (pa_cons (pe_bltn (v := .ty "list") (by rfl) T.b_list (by decide +kernel) rfl) pa_nil))))) (pw_or1 (pt_cmpR op_lt (pe_callB (call_lenK (K := K) rfl) (by rfl) T.b_len PySem.boot_len (pa_cons (pv 1) pa_nil)) pe_int (nomark _)))).pt
        (pss_one (ps_ret pe_bl))
        pss_nil)
      (pss_cons (ps_asN (ps_set (i := 2) sc_l_is_ring.nd rfl (Or.inl rfl) (pe_lst pa_nil)))
      (pss_cons (ps_for PassesOwn.never rfl (pi_range1 rfl T.b_range (pa_cons (pe_callB (call_lenK (K := K) rfl) (by rfl) T.b_len PySem.boot_len (pa_cons (pv 1) pa_nil)) pa_nil)) (pg_name (i := 3) sc_l_is_ring.nd rfl (Or.inl rfl))
        (pss_cons (ps_if (pw_or (pt_not (pt_val (pe_call D_l_is_claim.F (hr.mono (by decide)) (by rfl) D_l_is_claim.g D_l_is_claim.kp D_l_is_claim.b .nil pass0 (pa_cons (pv 0) (pa_cons (pe_ix (ix_listK (K := K) rfl) (pv 1) (pv 3) (fun _ _ => rfl)) pa_nil))))) (pw_or1 (pt_cmpR (op_inK (K := K) rfl) (pe_ix (ix_tupK (K := K) rfl) (pe_ix (ix_listK (K := K) rfl) (pv 1) (pv 3) (fun _ _ => rfl)) pe_int (fun _ _ => rfl)) (pv 2) rfl))).pt
          (pss_one (ps_ret pe_bl))
          pss_nil)
        (pss_cons (ps_if (pw_and (pt_cmpR op_gt (pv 3) pe_int (nomark _)) (pw_and1 (pt_cmpR op_ne (pe_ix (ix_tupK (K := K) rfl) (pe_ix (ix_listK (K := K) rfl) (pv 1) (pe_op op_sub (pv 3) pe_int) (fun _ _ => rfl)) pe_int (fun _ _ => rfl)) (pe_ix (ix_tupK (K := K) rfl) (pe_ix (ix_listK (K := K) rfl) (pv 1) (pv 3) (fun _ _ => rfl)) pe_int (fun _ _ => rfl)) (nomark _)))).pt
          (pss_one (ps_ret pe_bl))
          pss_nil)
        (pss_one (ps_apS (ps_expr (pe_bmKK (K := K) rfl PySem.F.plainAttrs_list PySem.F.slot_list_append PySem.F.type_list_append mt_append (pv 2) (pa_cons (pe_ix (ix_tupK (K := K) rfl) (pe_ix (ix_listK (K := K) rfl) (pv 1) (pv 3) (fun _ _ => rfl)) pe_int (fun _ _ => rfl)) pa_nil))))))))
      (pss_one (ps_ret (pe_cmpR op_eq (pe_ix (ix_tupK (K := K) rfl) (pe_ix (ix_listK (K := K) rfl) (pv 1) (pe_un un_neg pe_int) (fun _ _ => rfl)) pe_int (fun _ _ => rfl)) (pe_ix (ix_tupK (K := K) rfl) (pe_ix (ix_listK (K := K) rfl) (pv 1) pe_int (fun _ _ => rfl)) pe_int (fun _ _ => rfl)) (nomark _))))))), pfn_enter h ?_⟩
  rintro ds q B0 H0 ⟨rss, sts, rfl, hl, ls, ho, hqt, hqf⟩
  walk_at "xo"
  refine ite_ok (fun h2 => ?_) (fun h2 => ?_)
  · walk_at "xo"
    exact hqf fun ⟨cs, e, h⟩ => by have := h.ne; rw [e, List.length_map] at h2; omega
  walk_at "xo"
  rw [Int.toNat_natCast]
  refine aforR0 (fun i ρ => ∃ cs : List Cl, ρ = [.sh (eRs rss), .sh (eSt sts), .own (eNs (cs.map (·.1))), .un] ∧ sts.take i = cs.map clT ∧ (∀ c ∈ cs, ClaimIn rss c) ∧ (cs.map (·.1)).Nodup ∧ ∀ k c d, cs[k + 1]? = some c → cs[k]? = some d → d.2.1 = c.1) ⟨_, by walk_at "wk", [], rfl, by simp, (fun _ m => by cases m), by simp, (fun k c d h => by simp at h)⟩ ?_ ?_
  · rintro k ρ hk ⟨cs, rfl, et, hc, nd, hlk⟩
    have hg := List.getElem?_eq_getElem hk
    have lcs : cs.length = k := by
      have := congrArg List.length et
      rw [List.length_take, List.length_map] at this
      omega
    walk_at "xo"
    refine a2_ixN (x := sts[k]) hg ?_
    walk_at "xo"
    refine u_l_is_claim hl (ho _ (List.getElem_mem hk)) (fun ic => ?_) (fun ic => ?_)
    · obtain ⟨c, ec, hcl⟩ := ic
      have hgc : sts[k]? = some (clT c) := by rw [hg, ec]
      have lk : (cs.map (·.1)).length ≤ 1000 := by rw [List.length_map]; omega
      have en : D.lst ((cs.map (·.1)).map D.str ++ [D.str c.1]) = eNs ((cs ++ [c]).map (·.1)) := by
        show _ = D.lst _
        rw [List.map_append, List.map_append]
        rfl
      have et2 : sts.take (k + 1) = (cs ++ [c]).map clT := by
        rw [List.take_add_one, et, hgc, List.map_append]
        rfl
      walk_at "xo"
      refine a2_ixN (x := clT c) hgc ?_
      walk_at "xo"
      refine a2_ixTP (d := .str c.1) (by decide) rfl ?_
      walk_at "xo"
      refine ite_ok (fun hin => ?_) (fun nin => ?_)
      · walk_at "xo"
        refine hqf fun ⟨cs', e, h⟩ => ?_
        have := at_IN h (at_eq e hgc)
        rw [pre_eq e et] at this
        exact this hin
      have nd2 : ((cs ++ [c]).map (·.1)).Nodup := by
        rw [List.map_append, List.nodup_append]
        refine ⟨nd, by simp, fun a ha b hb e => ?_⟩
        rw [List.mem_singleton.mp (show b ∈ [c.1] from hb)] at e
        exact nin (e ▸ ha)
      have hc2 : ∀ c' ∈ cs ++ [c], ClaimIn rss c' := fun c' m => (List.mem_append.mp m).elim (hc c') fun m => by rw [List.mem_singleton.mp m]; exact hcl
      walk_at "xo"
      cases k with
      | zero =>
        have e0 : cs = [] := List.length_eq_zero_iff.mp lcs
        subst e0
        walk_at "xo"
        refine a2_ixN (n := 0) (x := clT c) hgc ?_
        walk_at "xo"
        refine a2_ixTP (d := .str c.1) (by decide) rfl ?_
        walk_at "xo"
        exact ⟨_, by walk_at "wk", ⟨[] ++ [c], rfl, et2, hc2, nd2, fun k c d h _ => by simp at h⟩, rfl⟩
      | succ k =>
        have hl2 : k < cs.length := by omega
        have hgp : sts[k]? = some (clT cs[k]) := by
          have := congrArg (fun l => l[k]?) et
          simp only [List.getElem?_take, List.getElem?_map, List.getElem?_eq_getElem hl2] at this
          rw [if_pos (by omega)] at this
          exact this
        walk_at "xo"
        refine a2_ixL (d := .tup (clT cs[k])) (atI_of (by omega) (by rw [show (((k + 1 : Nat) : Int) - 1).toNat = k by omega, List.getElem?_map, hgp]; rfl)) ?_
        walk_at "xo"
        refine a2_ixTP (d := .str cs[k].2.1) (by decide) rfl ?_
        walk_at "xo"
        refine a2_ixN (x := clT c) hgc ?_
        walk_at "xo"
        refine a2_ixTP (d := .str c.1) (by decide) rfl ?_
        walk_at "xo"
        refine ite_no (fun hne => ?_) (fun heq => ?_)
        · walk_at "xo"
          refine hqf fun ⟨cs', e, h⟩ => hne ?_
          exact h.lk (k + 1) c cs[k] (at_eq e hgc) (by have := at_eq e hgp; simpa [pvI] using this)
        · walk_at "xo"
          refine a2_ixN (x := clT c) hgc ?_
          walk_at "xo"
          refine a2_ixTP (d := .str c.1) (by decide) rfl ?_
          walk_at "xo"
          rw [en]
          refine ⟨_, by walk_at "wk", ⟨cs ++ [c], rfl, et2, hc2, nd2, fun j c' d' h1 h2 => ?_⟩, rfl⟩
          by_cases cj : j + 1 < cs.length
          · rw [List.getElem?_append_left cj] at h1
            rw [List.getElem?_append_left (by omega)] at h2
            exact hlk j c' d' h1 h2
          · have hj := (List.getElem?_eq_some_iff.mp h1).1
            rw [List.length_append, List.length_singleton] at hj
            have : j = k := by omega
            subst this
            rw [List.getElem?_append_right (by omega)] at h1
            rw [List.getElem?_append_left hl2, List.getElem?_eq_getElem hl2] at h2
            rw [show j + 1 - cs.length = 0 by omega] at h1
            cases h1
            cases h2
            exact heq
    · walk_at "xo"
      refine hqf fun ⟨cs, e, h⟩ => ic ?_
      have hm := List.getElem_mem hk
      subst e
      obtain ⟨c, mc, ec⟩ := List.mem_map.mp hm
      exact ⟨c, ec.symm, h.cl c mc⟩
  · rintro ρ ⟨cs, rfl, et, hc, nd, hlk⟩
    rw [List.take_length] at et
    subst et
    rw [List.length_map] at h2
    rw [ir_iff] at hqt hqf
    obtain ⟨d, e0, e1⟩ := atI_pv (f := eCl) (nm := cs) (k := 0) (by omega)
    have h0 : 0 < cs.length := by omega
    rw [eSt_cls]
    walk_at "xo"
    refine a2_ixL (d := eCl d) (by simpa using e1) ?_
    walk_at "xo"
    refine a2_ixTP (d := .str d.2.1) (by decide) rfl ?_
    walk_at "xo"
    refine a2_ixM (x := cs[0]) (by decide) (List.getElem?_eq_getElem h0) ?_
    walk_at "xo"
    refine a2_ixTP (d := .str cs[0].1) (by decide) rfl ?_
    walk_at "xo"
    by_cases eq : d.2.1 = cs[0].1
    · rw [decide_eq_true eq]
      refine hqt ⟨by omega, hc, nd, fun k c d' hk hd => ?_⟩
      cases k with
      | zero =>
        rw [e0] at hd
        cases hd
        rw [List.getElem?_eq_getElem h0] at hk
        cases hk
        exact eq
      | succ k => exact hlk k c d' hk (by simpa [pvI] using hd)
    · rw [decide_eq_false eq]
      exact hqf fun h => eq (h.lk 0 _ _ (List.getElem?_eq_getElem h0) e0)
theorem u_l_is_ring {rss : Rws} {sts : List (List D)} {q : D → Prop} (h1 : rss.length ≤ 1000) (h2 : sts.length ≤ 1000) (h3 : ∀ s ∈ sts, s.length ≤ 100 ∧ ∀ x ∈ s, Od x) (ht : IR rss sts → q (.bl true)) (hf : ¬ IR rss sts → q (.bl false)) : T_l_is_ring [eRs rss, eSt sts] q := ⟨rss, sts, rfl, h1, h2, h3, ht, hf⟩

/-- x stands ahead of y -/
def Bef (x y : Str) (r : List Str) : Prop := ∃ a b c : List Str, r = a ++ x :: b ++ y :: c
theorem with_perm {P1 P2 P3 : List Str} {x y : Str} : (P1 ++ [x] ++ P2 ++ [y] ++ P3).Perm (x :: y :: (P1 ++ P2 ++ P3)) := by
  have e : P1 ++ [x] ++ P2 ++ [y] ++ P3 = P1 ++ x :: (P2 ++ y :: P3) := by simp
  rw [e]
  refine List.perm_middle.trans (List.Perm.cons x ?_)
  have e2 : P1 ++ (P2 ++ y :: P3) = (P1 ++ P2) ++ y :: P3 := by simp
  rw [e2]
  exact List.perm_middle
abbrev s_l_with : Stmt := topS 14
theorem sc_l_with : FnScope ["_law_cell_here", "_law_one", "_law_other", "_law_order_here", "_law_rest", "_law_ahead", "_law_amid", "_law_name"] ["_law_cell_here", "_law_one", "_law_other", "_law_order_here"] (defScope s_l_with) := ⟨rfl, rfl, rfl, by decide +kernel, rfl, by decide +kernel, by decide +kernel⟩
def T_l_with (ds : List D) (q : D → Prop) : Prop := ∃ (c : Int) (x y : Str) (o : List Str), ds = [.int c, .str x, .str y, eNs o] ∧ o.Nodup ∧ x ∈ o ∧ y ∈ o ∧ x ≠ y ∧ o.length ≤ 24 ∧ ∀ r : List Str, r.Nodup → (∀ z ∈ r, z ∈ o) → Bef x y r → q (eNs r)
local macro_rules | `(tactic| walk_at "nm") => `(tactic| refine aw_norm (ρ' := [_, _, _, _, _, _, _, _]) rfl ?_)
abbrev sp_l_with (K : PySem.W.Frag) : Sp := pfnN K T_l_with
theorem ok_l_with {f : Addr} {fd : FuncData} (F : Fun K "_law_with" "_law_with" s_l_with f fd) (T : Txt K mg) {f_l_shuffled : Addr} {fd_l_shuffled : FuncData} (D_l_shuffled : Dk P w K mg base CX0 2 f_l_shuffled fd_l_shuffled "_law_shuffled" ["_law_cell_here", "_law_turn", "_law_names_here"] [] (sp_l_shuffled K)) {f_l_mix : Addr} {fd_l_mix : FuncData} (D_l_mix : Dk P w K mg base CX0 1 f_l_mix fd_l_mix "_law_mix" ["_law_cell_here", "_law_turn", "_law_many"] [] (sp_l_mix K)) : FnOk P w K mg base CX0 3 f fd ["_law_cell_here", "_law_one", "_law_other", "_law_order_here"] (sp_l_with K) := by
  refine F.ok sc_l_with (fun vs H Q E h => ?_) (fun cdv A outer s H vs Q E hr h => ?_)
  · (obtain ⟨_, _, _, _, dv, hT, _⟩ := h; rw [dv.len]; first | (obtain ⟨rfl, _⟩ := hT; rfl) | (obtain ⟨_, rfl, _⟩ := hT; rfl) | (obtain ⟨_, _, rfl, _⟩ := hT; rfl) | (obtain ⟨_, _, _, rfl, _⟩ := hT; rfl) | (obtain ⟨_, _, _, _, rfl, _⟩ := hT; rfl) | (obtain ⟨_, _, _, _, _, rfl, _⟩ := hT; rfl) | (obtain ⟨_, _, _, _, _, _, rfl, _⟩ := hT; rfl) | (obtain ⟨_, _, _, _, _, _, _, rfl, _⟩ := hT; rfl) | (obtain ⟨_, _, _, _, _, _, _, _, rfl, _⟩ := hT; rfl) | (obtain ⟨_, _, _, _, _, _, _, _, _, rfl, _⟩ := hT; rfl) | (obtain ⟨_, _, _, _, _, _, _, _, _, _, rfl, _⟩ := hT; rfl))
  refine ⟨_, (pss_cons (ps_asH (ps_set (i := 4) sc_l_with.nd rfl (Or.inl rfl) (pe_call D_l_shuffled.F (hr.mono (by decide)) (by rfl) D_l_shuffled.g D_l_shuffled.kp D_l_shuffled.b .nil pass0 (pa_cons (pv 0) (pa_cons pe_int (pa_cons (pe_lc (own := [("_law_name", 7)]) (g := gName 7) (by rfl) sc_l_with.nd (pi_listK (K := K) rfl (pv 3)) (blkOk_by (own := [("_law_name", 7)]) (N := ["_law_cell_here", "_law_one", "_law_other", "_law_order_here", "_law_rest", "_law_ahead", "_law_amid", "_law_name"]) (sc := defScope s_l_with) (by decide +kernel)) (fun _ _ _ _ _ => (pg_name (i := 7) sc_l_with.nd rfl (Or.inl rfl))) (fun _ _ _ _ _ => (pts_one (pt_cmpR (op_ninK (K := K) rfl) (pv 7) (pe_tup (pa_cons (pv 1) (pa_cons (pv 2) pa_nil))) rfl))) (fun _ _ _ _ _ => (pv 7))) pa_nil))))))
      (pss_cons (ps_asS (ps_set (i := 5) sc_l_with.nd rfl (Or.inl rfl) (pe_call D_l_mix.F (hr.mono (by decide)) (by rfl) D_l_mix.g D_l_mix.kp D_l_mix.b .nil pass0 (pa_cons (pv 0) (pa_cons pe_int (pa_cons pe_int pa_nil))))))
      (pss_cons (ps_asS (ps_set (i := 6) sc_l_with.nd rfl (Or.inl rfl) (pe_op op_add (pv 5) (pe_call D_l_mix.F (hr.mono (by decide)) (by rfl) D_l_mix.g D_l_mix.kp D_l_mix.b .nil pass0 (pa_cons (pv 0) (pa_cons pe_int (pa_cons pe_int pa_nil)))))))
      (pss_one (ps_ret (pe_op op_cat (pe_op op_cat (pe_op op_cat (pe_slice (sl_listK (K := K) rfl) (pv 4) po_none (po_some (pv 5))) (pe_lst (pa_cons (pv 1) pa_nil))) (pe_slice (sl_listK (K := K) rfl) (pv 4) (po_some (pv 5)) (po_some (pv 6)))) (pe_lst (pa_cons (pv 2) pa_nil)))))))), pfnN_enter h ?_⟩
  rintro ds q B0 H0 ⟨c, x, y, o, rfl, nd, hx, hy, ne, hl, hq⟩
  walk_at "xo"
  refine alc (f := D.str) (fun z => !decide (z ∈ [x, y])) D.str (by omega) (fun z _ q hq => ?_) (fun z _ _ q hq => ?_) ?_
  · walk_at "xo"
    refine a2_ninT rfl rfl ?_
    refine ⟨_, rfl, ?_⟩
    rw [show [D.str x, D.str y] = [x, y].map D.str from rfl, inD_str]
    exact hq
  · walk_at "xo"
    exact hq
  have ndF : (o.filter fun z => !decide (z ∈ [x, y])).Nodup := nd.filter _
  have lF : (o.filter fun z => !decide (z ∈ [x, y])).length ≤ 24 := Nat.le_trans (List.length_filter_le _ _) hl
  walk_at "xo"
  refine u_shuffled ⟨by decide, by decide⟩ (by omega) fun rest pr => ?_
  have lR : rest.length ≤ 24 := by rw [pr.length_eq]; exact lF
  have ndR : rest.Nodup := pr.nodup_iff.mpr ndF
  have mR : ∀ z ∈ rest, z ∈ o ∧ z ≠ x ∧ z ≠ y := fun z m => by
    have := pr.subset m
    simp only [List.mem_filter, Bool.not_eq_true', decide_eq_false_iff_not, List.mem_cons, List.not_mem_nil, or_false, not_or] at this
    exact this
  have m0 : 0 ≤ mix c 0 3 := mix_nn (by decide)
  have m1 : 0 ≤ mix c 1 3 := mix_nn (by decide)
  have c1 := cut_len rest none (some (mix c 0 3))
  have c2 := cut_len rest (some (mix c 0 3)) (some (mix c 0 3 + mix c 1 3))
  walk_at "xo"
  generalize e1 : mix c 0 3 = i1 at *
  generalize e2 : mix c 1 3 = i2 at *
  rw [cutQ _ m0, cutM _ m0 (by omega)]
  have ez : (i1 + i2 - i1).toNat = i2.toNat := by congr 1; omega
  rw [ez]
  have pm := with_perm (P1 := rest.take i1.toNat) (P2 := (rest.drop i1.toNat).take i2.toNat) (P3 := []) (x := x) (y := y)
  rw [List.append_nil, List.append_nil, ← List.take_add (i := i1.toNat)] at pm
  have := hq _ (pm.nodup_iff.mpr ?_) (fun z m => ?_) ⟨rest.take i1.toNat, (rest.drop i1.toNat).take i2.toNat, [], by simp⟩
  · simp only [eNs, List.map_append, List.map_cons, List.map_nil] at this
    exact this
  · refine List.nodup_cons.mpr ⟨fun m => ?_, List.nodup_cons.mpr ⟨fun m => ?_, ndR.sublist (List.take_sublist _ _)⟩⟩
    · rcases List.mem_cons.mp m with h | h
      · exact ne h
      · exact (mR _ (List.mem_of_mem_take h)).2.1 rfl
    · exact (mR _ (List.mem_of_mem_take m)).2.2 rfl
  · have := pm.subset m
    rcases List.mem_cons.mp this with h | h
    · exact h ▸ hx
    · rcases List.mem_cons.mp h with h | h
      · exact h ▸ hy
      · exact (mR _ (List.mem_of_mem_take h)).1
theorem u_with {c : Int} {x y : Str} {o : List Str} {q : D → Prop} (nd : o.Nodup) (hx : x ∈ o) (hy : y ∈ o) (ne : x ≠ y) (hl : o.length ≤ 24) (h : ∀ r : List Str, r.Nodup → (∀ z ∈ r, z ∈ o) → Bef x y r → q (eNs r)) : T_l_with [.int c, .str x, .str y, eNs o] q := ⟨c, x, y, o, rfl, nd, hx, hy, ne, hl, h⟩
/-- steps of any kind -/
def GT (d : D) : Prop := ∃ s, d = .tup s ∧ s.length ≤ 100 ∧ ∀ x ∈ s, Od x
def GS (xs : List D) : Prop := xs.length ≤ 20 ∧ ∀ d ∈ xs, GT d
theorem gt_cl (c : Cl) : GT (eCl c) := ⟨clT c, rfl, by simp [clT], List.forall_mem_cons.mpr ⟨.str _, List.forall_mem_cons.mpr ⟨.str _, List.forall_mem_cons.mpr ⟨.int _, fun _ m => by cases m⟩⟩⟩⟩
theorem gs_cls {cs : List Cl} (h : cs.length ≤ 20) : GS (cs.map eCl) := ⟨by rw [List.length_map]; exact h, fun d m => by
  obtain ⟨c, _, rfl⟩ := List.mem_map.mp m
  exact gt_cl c⟩
theorem GS.app {xs ys : List D} (h1 : GS xs) (h2 : GS ys) (hl : xs.length + ys.length ≤ 20) : GS (xs ++ ys) := ⟨by rw [List.length_append]; exact hl, fun d m => (List.mem_append.mp m).elim (h1.2 d) (h2.2 d)⟩
theorem gs_one {d : D} (h : GT d) : GS [d] := ⟨by simp, fun x m => by rw [List.mem_singleton.mp m]; exact h⟩
theorem gs_nil : GS [] := ⟨by simp, fun _ m => by cases m⟩
abbrev s_l_spoilt : Stmt := topS 15
theorem sc_l_spoilt : FnScope ["_law_steps", "_law_rows_here", "_law_cell_here", "_law_at", "_law_one", "_law_other", "_law_place", "_law_name", "_law_odd", "_law_some", "_law_new", "_law_step", "_law_thing"] ["_law_steps", "_law_rows_here", "_law_cell_here"] (defScope s_l_spoilt) := ⟨rfl, rfl, rfl, by decide +kernel, rfl, by decide +kernel, by decide +kernel⟩
def T_l_spoilt (ds : List D) (q : D → Prop) : Prop := ∃ (cs : List Cl) (rss : Rws) (c : Int), ds = [eCls cs, eRs rss, .int c] ∧ 2 ≤ cs.length ∧ cs.length ≤ 5 ∧ rss.length ≤ 100 ∧ (∀ c ∈ cs, ∃ row : List Str, rss[c.2.2]? = some row ∧ 0 < row.length ∧ row.length ≤ 100) ∧
  ∀ L : List (List D), L.length ≤ 100 → (∀ xs ∈ L, GS xs) → q (.lst (L.map D.lst))
local macro_rules | `(tactic| walk_at "nm") => `(tactic| refine aw_norm (ρ' := [_, _, _, _, _, _, _, _, _, _, _, _, _]) rfl ?_)
abbrev sp_l_spoilt (K : PySem.W.Frag) : Sp := pfnN K T_l_spoilt
theorem ok_l_spoilt {f : Addr} {fd : FuncData} (F : Fun K "_law_spoilt" "_law_spoilt" s_l_spoilt f fd) (T : Txt K mg) {f_l_mix : Addr} {fd_l_mix : FuncData} (D_l_mix : Dk P w K mg base CX0 1 f_l_mix fd_l_mix "_law_mix" ["_law_cell_here", "_law_turn", "_law_many"] [] (sp_l_mix K)) : FnOk P w K mg base CX0 2 f fd ["_law_steps", "_law_rows_here", "_law_cell_here"] (sp_l_spoilt K) := by
  refine F.ok sc_l_spoilt (fun vs H Q E h => ?_) (fun cdv A outer s H vs Q E hr h => ?_)
  · (obtain ⟨_, _, _, _, dv, hT, _⟩ := h; rw [dv.len]; first | (obtain ⟨rfl, _⟩ := hT; rfl) | (obtain ⟨_, rfl, _⟩ := hT; rfl) | (obtain ⟨_, _, rfl, _⟩ := hT; rfl) | (obtain ⟨_, _, _, rfl, _⟩ := hT; rfl) | (obtain ⟨_, _, _, _, rfl, _⟩ := hT; rfl) | (obtain ⟨_, _, _, _, _, rfl, _⟩ := hT; rfl) | (obtain ⟨_, _, _, _, _, _, rfl, _⟩ := hT; rfl) | (obtain ⟨_, _, _, _, _, _, _, rfl, _⟩ := hT; rfl) | (obtain ⟨_, _, _, _, _, _, _, _, rfl, _⟩ := hT; rfl) | (obtain ⟨_, _, _, _, _, _, _, _, _, rfl, _⟩ := hT; rfl) | (obtain ⟨_, _, _, _, _, _, _, _, _, _, rfl, _⟩ := hT; rfl))
  refine ⟨_, (pss_cons (ps_asS (ps_set (i := 3) sc_l_spoilt.nd rfl (Or.inl rfl) (pe_call D_l_mix.F (hr.mono (by decide)) (by rfl) D_l_mix.g D_l_mix.kp D_l_mix.b .nil pass0 (pa_cons (pv 2) (pa_cons pe_int (pa_cons (pe_callB (call_lenK (K := K) rfl) (by rfl) T.b_len PySem.boot_len (pa_cons (pv 0) pa_nil)) pa_nil))))))
      (pss_cons (ps_asg (pe_ix (ix_listK (K := K) rfl) (pv 0) (pv 3) (fun _ _ => rfl)) (pg_tupK (K := K) rfl rfl (pgs_cons (pg_name (i := 4) sc_l_spoilt.nd rfl (Or.inr rfl)) (pgs_cons (pg_name (i := 5) sc_l_spoilt.nd rfl (Or.inr rfl)) (pgs_cons (pg_name (i := 6) sc_l_spoilt.nd rfl (Or.inl rfl)) pgs_nil)))))
      (pss_cons (ps_asS (ps_set (i := 7) sc_l_spoilt.nd rfl (Or.inl rfl) (pe_ix (ix_listK (K := K) rfl) (pe_ix (ix_listK (K := K) rfl) (pv 1) (pv 6) (fun _ _ => rfl)) (pe_call D_l_mix.F (hr.mono (by decide)) (by rfl) D_l_mix.g D_l_mix.kp D_l_mix.b .nil pass0 (pa_cons (pv 2) (pa_cons pe_int (pa_cons (pe_callB (call_lenK (K := K) rfl) (by rfl) T.b_len PySem.boot_len (pa_cons (pe_ix (ix_listK (K := K) rfl) (pv 1) (pv 6) (fun _ _ => rfl)) pa_nil)) pa_nil)))) (fun _ _ => rfl))))
      (pss_cons (ps_asH (ps_set (i := 8) sc_l_spoilt.nd rfl (Or.inl rfl) (pe_lst (pa_cons pe_bl (pa_cons pe_bl (pa_cons pe_non (pa_cons pe_str (pa_cons (pe_op op_sub (pv 6) (pe_callB (call_lenK (K := K) rfl) (by rfl) T.b_len PySem.boot_len (pa_cons (pv 1) pa_nil))) (pa_cons (pe_op op_add (pe_callB (call_lenK (K := K) rfl) (by rfl) T.b_len PySem.boot_len (pa_cons (pv 1) pa_nil)) (pe_call D_l_mix.F (hr.mono (by decide)) (by rfl) D_l_mix.g D_l_mix.kp D_l_mix.b .nil pass0 (pa_cons (pv 2) (pa_cons pe_int (pa_cons pe_int pa_nil))))) (pa_cons (pe_tup (pa_cons (pv 6) pa_nil)) (pa_cons (pv 6) pa_nil)))))))))))
      (pss_cons (ps_asN (ps_set (i := 9) sc_l_spoilt.nd rfl (Or.inl rfl) (pe_lst (pa_cons (pe_op op_cat (pe_slice (sl_listK (K := K) rfl) (pv 0) po_none (po_some (pv 3))) (pe_slice (sl_listK (K := K) rfl) (pv 0) (po_some (pe_op op_add (pv 3) pe_int)) po_none)) (pa_cons (pe_op op_cat (pe_op op_cat (pe_slice (sl_listK (K := K) rfl) (pv 0) po_none (po_some (pv 3))) (pe_lst (pa_cons (pe_ix (ix_listK (K := K) rfl) (pv 0) (pv 3) (fun _ _ => rfl)) pa_nil))) (pe_slice (sl_listK (K := K) rfl) (pv 0) (po_some (pv 3)) po_none)) (pa_cons (pe_op op_cat (pv 0) (pv 0)) pa_nil))))))
      (pss_cons (ps_asN (ps_set (i := 9) sc_l_spoilt.nd rfl (Or.inl rfl) (pe_op op_cat (pv 9) (pe_lst (pa_cons (pe_listRev (K := K) rfl rfl (by rfl) T.b_list (by rfl) T.b_reversed (pv 0)) (pa_cons (pe_lst (pa_cons (pe_ix (ix_listK (K := K) rfl) (pv 0) (pv 3) (fun _ _ => rfl)) pa_nil)) (pa_cons (pe_lst pa_nil) (pa_cons (pe_op op_cat (pe_slice (sl_listK (K := K) rfl) (pv 0) (po_some (pv 3)) po_none) (pe_slice (sl_listK (K := K) rfl) (pv 0) po_none (po_some (pv 3)))) pa_nil))))))))
      (pss_cons (ps_asN (ps_set (i := 10) sc_l_spoilt.nd rfl (Or.inl rfl) (pe_lst (pa_cons (pe_tup (pa_cons (pv 7) (pa_cons (pv 5) (pa_cons (pv 6) pa_nil)))) (pa_cons (pe_tup (pa_cons (pv 4) (pa_cons (pv 7) (pa_cons (pv 6) pa_nil)))) (pa_cons (pe_tup (pa_cons (pv 5) (pa_cons (pv 4) (pa_cons (pv 6) pa_nil)))) (pa_cons (pe_tup (pa_cons (pv 4) (pa_cons (pv 5) pa_nil))) (pa_cons (pe_tup (pa_cons (pv 4) (pa_cons (pv 5) (pa_cons (pv 6) (pa_cons (pv 6) pa_nil))))) pa_nil))))))))
      (pss_cons (ps_asN (ps_set (i := 10) sc_l_spoilt.nd rfl (Or.inl rfl) (pe_op op_cat (pv 10) (pe_lst (pa_cons (pe_tup (pa_cons (pv 4) (pa_cons (pv 5) (pa_cons (pe_call D_l_mix.F (hr.mono (by decide)) (by rfl) D_l_mix.g D_l_mix.kp D_l_mix.b .nil pass0 (pa_cons (pv 2) (pa_cons pe_int (pa_cons (pe_callB (call_lenK (K := K) rfl) (by rfl) T.b_len PySem.boot_len (pa_cons (pv 1) pa_nil)) pa_nil)))) pa_nil)))) (pa_cons (pe_tup (pa_cons pe_int (pa_cons pe_int (pa_cons (pv 6) pa_nil)))) (pa_cons (pe_tup (pa_cons (pv 4) pa_nil)) (pa_cons (pe_tup pa_nil) pa_nil))))))))
      (pss_cons (ps_asN (ps_set (i := 10) sc_l_spoilt.nd rfl (Or.inl rfl) (pe_op op_cat (pv 10) (pe_lst (pa_cons (pe_tup (pa_cons (pe_lst (pa_cons (pv 4) pa_nil)) (pa_cons (pe_lst (pa_cons (pv 5) pa_nil)) (pa_cons (pv 6) pa_nil)))) (pa_cons (pe_tup (pa_cons pe_non (pa_cons pe_non (pa_cons (pv 6) pa_nil)))) (pa_cons (pe_tup (pa_cons (pv 6) (pa_cons (pv 4) (pa_cons (pv 5) pa_nil)))) (pa_cons (pe_tup (pa_cons (pv 4) (pa_cons (pv 4) (pa_cons (pv 6) pa_nil)))) pa_nil))))))))
      (pss_cons (ps_apH (ps_expr (pe_bmKK (K := K) rfl PySem.F.plainAttrs_list PySem.F.slot_list_append PySem.F.type_list_append mt_append (pv 10) (pa_cons (pe_tup (pa_cons (pv 4) (pa_cons (pv 5) (pa_cons (pe_op op_sub (pe_callB (call_lenK (K := K) rfl) (by rfl) T.b_len PySem.boot_len (pa_cons (pv 1) pa_nil)) pe_int) pa_nil)))) pa_nil))))
      (pss_cons (ps_for PassesOwn.never rfl (pi_listK (K := K) rfl (pe_op op_cat (pv 10) (pe_lc (own := [("_law_thing", 12)]) (g := gName 12) (by rfl) sc_l_spoilt.nd (pi_listK (K := K) rfl (pv 8)) (blkOk_by (own := [("_law_thing", 12)]) (N := ["_law_steps", "_law_rows_here", "_law_cell_here", "_law_at", "_law_one", "_law_other", "_law_place", "_law_name", "_law_odd", "_law_some", "_law_new", "_law_step", "_law_thing"]) (sc := defScope s_l_spoilt) (by decide +kernel)) (fun _ _ _ _ _ => (pg_name (i := 12) sc_l_spoilt.nd rfl (Or.inl rfl))) (fun _ _ _ _ _ => pts_nil) (fun _ _ _ _ _ => (pe_tup (pa_cons (pv 4) (pa_cons (pv 5) (pa_cons (pv 12) pa_nil)))))))) (pg_name (i := 11) sc_l_spoilt.nd rfl (Or.inl rfl))
        (pss_one (ps_apH (ps_expr (pe_bmKK (K := K) rfl PySem.F.plainAttrs_list PySem.F.slot_list_append PySem.F.type_list_append mt_append (pv 9) (pa_cons (pe_op op_cat (pe_op op_cat (pe_slice (sl_listK (K := K) rfl) (pv 0) po_none (po_some (pv 3))) (pe_lst (pa_cons (pv 11) pa_nil))) (pe_slice (sl_listK (K := K) rfl) (pv 0) (po_some (pe_op op_add (pv 3) pe_int)) po_none)) pa_nil))))))
      (pss_one (ps_ret (pv 9)))))))))))))), pfnN_enter h ?_⟩
  rintro ds q B0 H0 ⟨cs, rss, c, rfl, l2, l5, lr, hr, hq⟩
  have m0 : 0 ≤ mix c 0 cs.length := mix_nn (by omega)
  have m1 : mix c 0 cs.length < cs.length := mix_lt (by omega)
  have hk : (mix c 0 cs.length).toNat < cs.length := by omega
  have hg := List.getElem?_eq_getElem hk
  obtain ⟨row, hrow, hr0, hr1⟩ := hr _ (List.getElem_mem hk)
  have hr2 : 0 < rss.length := by have := (List.getElem?_eq_some_iff.mp hrow).1; omega
  walk_at "xo"
  refine a2_ixM (x := cs[(mix c 0 cs.length).toNat]) m0 hg ?_
  generalize cs[(mix c 0 cs.length).toNat] = st at *
  obtain ⟨one, other, place⟩ := st
  have n0 : 0 ≤ mix c 1 row.length := mix_nn (by omega)
  have n1 : mix c 1 row.length < row.length := mix_lt (by omega)
  have hn := List.getElem?_eq_getElem (show (mix c 1 row.length).toNat < row.length by omega)
  walk_at "xo"
  refine a2_ixN (x := row) hrow ?_
  walk_at "xo"
  refine a2_ixN (x := row) hrow ?_
  walk_at "xo"
  refine a2_ixM (x := row[(mix c 1 row.length).toNat]) n0 hn ?_
  generalize row[(mix c 1 row.length).toNat] = nm at *
  have c1 := cut_len cs none (some (mix c 0 cs.length))
  have c2 := cut_len cs (some (mix c 0 cs.length + 1)) none
  have c3 := cut_len cs (some (mix c 0 cs.length)) none
  generalize mix c 0 cs.length = at_ at *
  walk_at "xo"
  refine a2_ixM (x := (one, other, place)) m0 hg ?_
  walk_at "xo"
  refine a2_ixM (x := (one, other, place)) m0 hg ?_
  dsimp only
  walk_at "xo"
  refine alcI (fun d => .tup [.str one, .str other, d]) (by simp only [List.length_cons, List.length_nil]; decide) (fun x m q hq => by walk_at "xo"; exact hq) ?_
  walk_at "xo"
  refine aforI (fun i ρ => ∃ L : List (List D), ρ = [.sh (eCls cs), .un, .un, .sh (.int at_), .un, .un, .un, .un, .un, .own (.lst (L.map D.lst)), .un, .un, .un] ∧ L.length ≤ 7 + i ∧ ∀ xs ∈ L, GS xs)
    ⟨_, by walk_at "wk", [(cut cs none (some at_)).map eCl ++ (cut cs (some (at_ + 1)) none).map eCl, (cut cs none (some at_)).map eCl ++ [eCl (one, other, place)] ++ (cut cs (some at_) none).map eCl, cs.map eCl ++ cs.map eCl, (cs.map eCl).reverse, [eCl (one, other, place)], [], (cut cs (some at_) none).map eCl ++ (cut cs none (some at_)).map eCl], rfl, by simp, ?_⟩ ?_ ?_
  · have g1 := gs_cls (cs := cut cs none (some at_)) (by omega)
    have g2 := gs_cls (cs := cut cs (some (at_ + 1)) none) (by omega)
    have g3 := gs_cls (cs := cut cs (some at_) none) (by omega)
    have g0 := gs_cls (cs := cs) (by omega)
    have g4 := gs_one (gt_cl (one, other, place))
    have len : ∀ {l : List Cl}, (l.map eCl).length = l.length := fun {l} => List.length_map _
    refine List.forall_mem_cons.mpr ⟨g1.app g2 (by rw [len, len]; omega), List.forall_mem_cons.mpr ⟨(g1.app g4 (by rw [len]; simp only [List.length_cons, List.length_nil]; omega)).app g3 (by simp only [List.length_append, List.length_cons, List.length_nil, List.length_map]; omega), List.forall_mem_cons.mpr ⟨g0.app g0 (by rw [len]; omega), List.forall_mem_cons.mpr ⟨⟨by rw [List.length_reverse]; exact g0.1, fun d m => g0.2 d (List.mem_reverse.mp m)⟩, List.forall_mem_cons.mpr ⟨g4, List.forall_mem_cons.mpr ⟨gs_nil, List.forall_mem_cons.mpr ⟨g3.app g1 (by rw [len, len]; omega), fun _ m => by cases m⟩⟩⟩⟩⟩⟩⟩
  · rintro i x ρ hi ⟨L, rfl, hL, hg⟩
    have gt : GT x := by
      have m := List.mem_of_getElem? hi
      simp only [List.mem_append, List.map_cons, List.map_nil, List.mem_cons, List.not_mem_nil, or_false, or_assoc] at m
      rcases m with rfl | rfl | rfl | rfl | rfl | rfl | rfl | rfl | rfl | rfl | rfl | rfl | rfl | rfl | rfl | rfl | rfl | rfl | rfl | rfl | rfl | rfl
      all_goals exact ⟨_, rfl, by simp, by walk_at "od"⟩
    have hi2 := (List.getElem?_eq_some_iff.mp hi).1
    simp only [List.length_append, List.length_cons, List.length_nil, List.length_map] at hi2
    have hL2 : (L.map D.lst).length < 1000 := by rw [List.length_map]; omega
    walk_at "xo"
    have e : D.lst (L.map D.lst ++ [D.lst ((cut cs none (some at_)).map eCl ++ [x] ++ (cut cs (some (at_ + 1)) none).map eCl)]) = D.lst ((L ++ [(cut cs none (some at_)).map eCl ++ [x] ++ (cut cs (some (at_ + 1)) none).map eCl]).map D.lst) := by
      rw [List.map_append]
      rfl
    rw [e]
    refine ⟨_, by walk_at "wk", ⟨L ++ [(cut cs none (some at_)).map eCl ++ [x] ++ (cut cs (some (at_ + 1)) none).map eCl], rfl, by rw [List.length_append, List.length_singleton]; omega, fun ys m => ?_⟩, rfl⟩
    rcases List.mem_append.mp m with m | m
    · exact hg ys m
    · rw [List.mem_singleton.mp m]
      have g1 := gs_cls (cs := cut cs none (some at_)) (by omega)
      have g2 := gs_cls (cs := cut cs (some (at_ + 1)) none) (by omega)
      exact (g1.app (gs_one gt) (by simp only [List.length_cons, List.length_nil, List.length_map]; omega)).app g2 (by simp only [List.length_append, List.length_cons, List.length_nil, List.length_map]; omega)
  · rintro ρ ⟨L, rfl, hL, hg⟩
    simp only [List.length_append, List.length_cons, List.length_nil, List.length_map] at hL
    walk_at "xo"
    exact hq L (by omega) hg
theorem u_spoilt {cs : List Cl} {rss : Rws} {c : Int} {q : D → Prop} (h1 : 2 ≤ cs.length) (h2 : cs.length ≤ 5) (h3 : rss.length ≤ 100) (h4 : ∀ c ∈ cs, ∃ row : List Str, rss[c.2.2]? = some row ∧ 0 < row.length ∧ row.length ≤ 100) (h : ∀ L : List (List D), L.length ≤ 100 → (∀ xs ∈ L, GS xs) → q (.lst (L.map D.lst))) : T_l_spoilt [eCls cs, eRs rss, .int c] q := ⟨cs, rss, c, rfl, h1, h2, h3, h4, h⟩

theorem bef_claim {x y : Str} {r : List Str} (h : Bef x y r) (nd : r.Nodup) : x ∈ r ∧ y ∈ r ∧ r.idxOf x < r.idxOf y := by
  obtain ⟨a, b, c, rfl⟩ := h
  have s2 : (x :: (b ++ y :: c)).Sublist (a ++ x :: b ++ y :: c) := by
    have e : a ++ x :: b ++ y :: c = a ++ (x :: (b ++ y :: c)) := by simp
    rw [e]
    exact List.sublist_append_right _ _
  exact ⟨by simp, by simp, (idx_sub s2 nd _ rfl (by simp)).2.2⟩
/-- the claims of the rows laid in so far -/
structure Laid (nm : List Str) (n0 : Nat) (rs : Rws) (cs : List Cl) : Prop where
  ln : rs.length = n0 + cs.length
  nd : ∀ r ∈ rs, r.Nodup ∧ r.length ≤ 24
  at_ : ∀ (k : Nat) c, cs[k]? = some c → nm[k]? = some c.2.1 ∧ nm[pvI nm.length k]? = some c.1 ∧ c.2.2 = n0 + k ∧ ∃ r, rs[n0 + k]? = some r ∧ Bef c.1 c.2.1 r
theorem Laid.step {nm : List Str} {n0 : Nat} {rs : Rws} {cs : List Cl} (h : Laid nm n0 rs cs) {x y : Str} {r : List Str} (hy : nm[cs.length]? = some y) (hx : nm[pvI nm.length cs.length]? = some x) (rd : r.Nodup ∧ r.length ≤ 24) (rb : Bef x y r) : Laid nm n0 (rs ++ [r]) (cs ++ [(x, y, rs.length)]) where
  ln := by rw [List.length_append, List.length_append, h.ln]; simp; omega
  nd := fun z m => (List.mem_append.mp m).elim (h.nd z) fun m => by rw [List.mem_singleton.mp m]; exact rd
  at_ := fun k c hc => by
    have hl := h.ln
    by_cases ck : k < cs.length
    · rw [List.getElem?_append_left ck] at hc
      obtain ⟨h1, h2, h3, r', h4, h5⟩ := h.at_ k c hc
      exact ⟨h1, h2, h3, r', by rw [List.getElem?_append_left (by omega)]; exact h4, h5⟩
    · have hk := (List.getElem?_eq_some_iff.mp hc).1
      rw [List.length_append, List.length_singleton] at hk
      have ek : k = cs.length := by omega
      subst ek
      rw [List.getElem?_append_right (Nat.le_refl _), Nat.sub_self] at hc
      cases hc
      refine ⟨hy, hx, hl, r, ?_, rb⟩
      rw [← hl, List.getElem?_append_right (Nat.le_refl _), Nat.sub_self]
      rfl
theorem Laid.more {nm : List Str} {n0 : Nat} {rs : Rws} {cs : List Cl} (h : Laid nm n0 rs cs) (hl : cs.length = nm.length) (h2 : 2 ≤ nm.length) (ndn : nm.Nodup) (r : List Str) : RingIn (rs ++ [r]) cs where
  ne := by omega
  cl := fun c m => by
    obtain ⟨k, hk, e⟩ := List.getElem_of_mem m
    obtain ⟨h1, h2, h3, r', h4, h5⟩ := h.at_ k c (by rw [← e]; exact List.getElem?_eq_getElem hk)
    have hr := (List.getElem?_eq_some_iff.mp h4).1
    obtain ⟨a, b, d⟩ := bef_claim h5 (h.nd r' (List.mem_of_getElem? h4)).1
    exact ⟨r', by rw [h3, List.getElem?_append_left hr]; exact h4, a, b, d⟩
  nd := by
    rw [List.Nodup, List.pairwise_iff_getElem]
    intro i j hi hj lt e
    rw [List.length_map] at hi hj
    rw [List.getElem_map, List.getElem_map] at e
    obtain ⟨_, h2i, _⟩ := h.at_ i _ (List.getElem?_eq_getElem hi)
    obtain ⟨_, h2j, _⟩ := h.at_ j _ (List.getElem?_eq_getElem hj)
    rw [← e] at h2j
    have pw := List.pairwise_iff_getElem.mp ndn
    obtain ⟨li, ei⟩ := List.getElem?_eq_some_iff.mp h2i
    obtain ⟨lj, ej⟩ := List.getElem?_eq_some_iff.mp h2j
    have ne : pvI nm.length i ≠ pvI nm.length j := by
      unfold pvI
      split <;> split <;> omega
    rcases Nat.lt_or_gt_of_ne ne with g | g
    · exact pw _ _ li lj g (by rw [ei, ej])
    · exact pw _ _ lj li g (by rw [ei, ej])
  lk := fun k c d hc hd => by
    obtain ⟨_, h2, _⟩ := h.at_ k c hc
    rw [hl] at hd
    obtain ⟨h1, _⟩ := h.at_ _ d hd
    rw [h1] at h2
    exact Option.some.inj h2
theorem dep_tup {n : Nat} {xs : List D} (h : ∀ x ∈ xs, dep x ≤ n) : dep (.tup xs) ≤ n + 1 := by
  unfold dep
  rw [PP, PyData.depth]
  have := depAll_map (f := fun d : D => d) xs h
  rw [List.map_id'] at this
  exact Nat.succ_le_succ this
theorem plns_all {xs : List D} (h : ∀ x ∈ xs, pln x = true) : plns xs = true := by
  have := plns_map (f := fun d : D => d) (xs := xs) h
  rwa [List.map_id'] at this
abbrev s_law : Stmt := topS 16
theorem sc_law : FnScope ["_law_script", "_law_order_here", "_law_rows_here", "_law_cell_here", "_law_names_here", "_law_steps", "_law_k", "_law_at", "_law_told", "_law_handed", "_law_asked", "_law_found", "_law_row"] ["_law_script"] (defScope s_law) := ⟨rfl, rfl, rfl, by decide +kernel, rfl, by decide +kernel, by decide +kernel⟩
local macro_rules | `(tactic| walk_at "nm") => `(tactic| refine aw_norm (ρ' := [_, _, _, _, _, _, _, _, _, _, _, _, _]) rfl ?_)
abbrev sp_law (K : PySem.W.Frag) : Sp := pfn K T_law
theorem ok_law {f : Addr} {fd : FuncData} (F : Fun K "law" "law" s_law f fd) (T : Txt K mg) {f_l_order : Addr} {fd_l_order : FuncData} (D_l_order : Dk P w K mg base CX0 3 f_l_order fd_l_order "_law_order" ["_law_script"] [] (sp_l_order K)) {f_l_rows : Addr} {fd_l_rows : FuncData} (D_l_rows : Dk P w K mg base CX0 3 f_l_rows fd_l_rows "_law_rows" ["_law_script", "_law_order_here", "_law_most"] [] (sp_l_rows K)) {f_l_cell : Addr} {fd_l_cell : FuncData} (D_l_cell : Dk P w K mg base CX0 1 f_l_cell fd_l_cell "_law_cell" ["_law_script", "_law_k"] [] (sp_l_cell K)) {f_l_shuffled : Addr} {fd_l_shuffled : FuncData} (D_l_shuffled : Dk P w K mg base CX0 2 f_l_shuffled fd_l_shuffled "_law_shuffled" ["_law_cell_here", "_law_turn", "_law_names_here"] [] (sp_l_shuffled K)) {f_l_mix : Addr} {fd_l_mix : FuncData} (D_l_mix : Dk P w K mg base CX0 1 f_l_mix fd_l_mix "_law_mix" ["_law_cell_here", "_law_turn", "_law_many"] [] (sp_l_mix K)) {f_l_with : Addr} {fd_l_with : FuncData} (D_l_with : Dk P w K mg base CX0 3 f_l_with fd_l_with "_law_with" ["_law_cell_here", "_law_one", "_law_other", "_law_order_here"] [] (sp_l_with K)) {f_l_spoilt : Addr} {fd_l_spoilt : FuncData} (D_l_spoilt : Dk P w K mg base CX0 2 f_l_spoilt fd_l_spoilt "_law_spoilt" ["_law_steps", "_law_rows_here", "_law_cell_here"] [] (sp_l_spoilt K)) {f_is_ring : Addr} {fd_is_ring : FuncData} (D_is_ring : Dk P w K mg base CX0 2 f_is_ring fd_is_ring "is_ring" ["rows", "steps"] [] (sp_is_ring K)) {f_l_is_ring : Addr} {fd_l_is_ring : FuncData} (D_l_is_ring : Dk P w K mg base CX0 3 f_l_is_ring fd_l_is_ring "_law_is_ring" ["_law_rows_here", "_law_steps"] [] (sp_l_is_ring K)) : FnOk P w K mg base CX0 4 f fd ["_law_script"] (sp_law K) := by
  refine F.ok sc_law (fun vs H Q E h => ?_) (fun cdv A outer s H vs Q E hr h => ?_)
  · (obtain ⟨_, _, _, _, dv, hT, _⟩ := h; rw [dv.len]; first | (obtain ⟨rfl, _⟩ := hT; rfl) | (obtain ⟨_, rfl, _⟩ := hT; rfl) | (obtain ⟨_, _, rfl, _⟩ := hT; rfl) | (obtain ⟨_, _, _, rfl, _⟩ := hT; rfl) | (obtain ⟨_, _, _, _, rfl, _⟩ := hT; rfl) | (obtain ⟨_, _, _, _, _, rfl, _⟩ := hT; rfl) | (obtain ⟨_, _, _, _, _, _, rfl, _⟩ := hT; rfl) | (obtain ⟨_, _, _, _, _, _, _, rfl, _⟩ := hT; rfl) | (obtain ⟨_, _, _, _, _, _, _, _, rfl, _⟩ := hT; rfl) | (obtain ⟨_, _, _, _, _, _, _, _, _, rfl, _⟩ := hT; rfl) | (obtain ⟨_, _, _, _, _, _, _, _, _, _, rfl, _⟩ := hT; rfl))
  refine ⟨_, (pss_cons (ps_asH (ps_set (i := 1) sc_law.nd rfl (Or.inl rfl) (pe_slice (sl_listK (K := K) rfl) (pe_call D_l_order.F (hr.mono (by decide)) (by rfl) D_l_order.g D_l_order.kp D_l_order.b .nil pass0 (pa_cons (pv 0) pa_nil)) po_none (po_some pe_int))))
      (pss_cons (ps_asN (ps_set (i := 2) sc_law.nd rfl (Or.inl rfl) (pe_call D_l_rows.F (hr.mono (by decide)) (by rfl) D_l_rows.g D_l_rows.kp D_l_rows.b .nil pass0 (pa_cons (pv 0) (pa_cons (pv 1) (pa_cons pe_int pa_nil))))))
      (pss_cons (ps_asS (ps_set (i := 3) sc_law.nd rfl (Or.inl rfl) (pe_call D_l_cell.F (hr.mono (by decide)) (by rfl) D_l_cell.g D_l_cell.kp D_l_cell.b .nil pass0 (pa_cons (pv 0) (pa_cons pe_int pa_nil)))))
      (pss_cons (ps_asH (ps_set (i := 4) sc_law.nd rfl (Or.inl rfl) (pe_slice (sl_listK (K := K) rfl) (pe_call D_l_shuffled.F (hr.mono (by decide)) (by rfl) D_l_shuffled.g D_l_shuffled.kp D_l_shuffled.b .nil pass0 (pa_cons (pv 3) (pa_cons pe_int (pa_cons (pv 1) pa_nil)))) po_none (po_some (pe_op op_add pe_int (pe_call D_l_mix.F (hr.mono (by decide)) (by rfl) D_l_mix.g D_l_mix.kp D_l_mix.b .nil pass0 (pa_cons (pv 3) (pa_cons pe_int (pa_cons pe_int pa_nil)))))))))
      (pss_cons (ps_asN (ps_set (i := 5) sc_law.nd rfl (Or.inl rfl) (pe_lst pa_nil)))
      (pss_cons (ps_for PassesOwn.never rfl (pi_range1 rfl T.b_range (pa_cons (pe_callB (call_lenK (K := K) rfl) (by rfl) T.b_len PySem.boot_len (pa_cons (pv 4) pa_nil)) pa_nil)) (pg_name (i := 6) sc_law.nd rfl (Or.inl rfl))
        (pss_cons (ps_apH (ps_expr (pe_bmKK (K := K) rfl PySem.F.plainAttrs_list PySem.F.slot_list_append PySem.F.type_list_append mt_append (pv 5) (pa_cons (pe_tup (pa_cons (pe_ix (ix_listK (K := K) rfl) (pv 4) (pe_op op_sub (pv 6) pe_int) (fun _ _ => rfl)) (pa_cons (pe_ix (ix_listK (K := K) rfl) (pv 4) (pv 6) (fun _ _ => rfl)) (pa_cons (pe_callB (call_lenK (K := K) rfl) (by rfl) T.b_len PySem.boot_len (pa_cons (pv 2) pa_nil)) pa_nil)))) pa_nil))))
        (pss_one (ps_apH (ps_expr (pe_bmKK (K := K) rfl PySem.F.plainAttrs_list PySem.F.slot_list_append PySem.F.type_list_append mt_append (pv 2) (pa_cons (pe_call D_l_with.F (hr.mono (by decide)) (by rfl) D_l_with.g D_l_with.kp D_l_with.b .nil pass0 (pa_cons (pe_call D_l_cell.F (hr.mono (by decide)) (by rfl) D_l_cell.g D_l_cell.kp D_l_cell.b .nil pass0 (pa_cons (pv 0) (pa_cons (pe_op op_add pe_int (pv 6)) pa_nil))) (pa_cons (pe_ix (ix_listK (K := K) rfl) (pv 4) (pe_op op_sub (pv 6) pe_int) (fun _ _ => rfl)) (pa_cons (pe_ix (ix_listK (K := K) rfl) (pv 4) (pv 6) (fun _ _ => rfl)) (pa_cons (pv 1) pa_nil))))) pa_nil)))))))
      (pss_cons (ps_asS (ps_set (i := 7) sc_law.nd rfl (Or.inl rfl) (pe_call D_l_mix.F (hr.mono (by decide)) (by rfl) D_l_mix.g D_l_mix.kp D_l_mix.b .nil pass0 (pa_cons (pe_call D_l_cell.F (hr.mono (by decide)) (by rfl) D_l_cell.g D_l_cell.kp D_l_cell.b .nil pass0 (pa_cons (pv 0) (pa_cons pe_int pa_nil))) (pa_cons pe_int (pa_cons (pe_callB (call_lenK (K := K) rfl) (by rfl) T.b_len PySem.boot_len (pa_cons (pv 5) pa_nil)) pa_nil))))))
      (pss_cons (ps_apH (ps_expr (pe_bmKK (K := K) rfl PySem.F.plainAttrs_list PySem.F.slot_list_append PySem.F.type_list_append mt_append (pv 2) (pa_cons (pe_lst (pa_cons (pe_ix (ix_tupK (K := K) rfl) (pe_ix (ix_listK (K := K) rfl) (pv 5) (pv 7) (fun _ _ => rfl)) pe_int (fun _ _ => rfl)) (pa_cons (pe_ix (ix_tupK (K := K) rfl) (pe_ix (ix_listK (K := K) rfl) (pv 5) (pv 7) (fun _ _ => rfl)) pe_int (fun _ _ => rfl)) pa_nil))) pa_nil))))
      (pss_cons (ps_for PassesOwn.never rfl (pi_listK (K := K) rfl (pe_op op_cat (pe_lst (pa_cons (pv 5) pa_nil)) (pe_call D_l_spoilt.F (hr.mono (by decide)) (by rfl) D_l_spoilt.g D_l_spoilt.kp D_l_spoilt.b .nil pass0 (pa_cons (pv 5) (pa_cons (pv 2) (pa_cons (pe_call D_l_cell.F (hr.mono (by decide)) (by rfl) D_l_cell.g D_l_cell.kp D_l_cell.b .nil pass0 (pa_cons (pv 0) (pa_cons pe_int pa_nil))) pa_nil)))))) (pg_name (i := 8) sc_law.nd rfl (Or.inl rfl))
        (pss_cons (ps_asH (ps_setLc (i := 9) (own := [("_law_row", 12)]) (g := gName 12) (by rfl) sc_law.nd rfl rfl (sw_true rfl rfl rfl (by decide +kernel)) (pi_listK (K := K) rfl (pv 2)) (blkOk_by (own := [("_law_row", 12)]) (N := ["_law_script", "_law_order_here", "_law_rows_here", "_law_cell_here", "_law_names_here", "_law_steps", "_law_k", "_law_at", "_law_told", "_law_handed", "_law_asked", "_law_found", "_law_row"]) (sc := defScope s_law) (by decide +kernel)) (fun _ _ _ _ _ => (pg_name (i := 12) sc_law.nd rfl (Or.inl rfl))) (fun _ _ _ _ _ => pts_nil) (fun _ _ _ _ _ => (pe_callTy (call_listK (K := K) rfl) (by rfl) T.b_list (by decide +kernel) (pa_cons (pv 12) pa_nil)))))
        (pss_cons (ps_asH (ps_set (i := 10) sc_law.nd rfl (Or.inl rfl) (pe_callTy (call_listK (K := K) rfl) (by rfl) T.b_list (by decide +kernel) (pa_cons (pv 8) pa_nil))))
        (pss_cons (ps_asS (ps_set (i := 11) sc_law.nd rfl (Or.inl rfl) (pe_call D_is_ring.F (hr.mono (by decide)) (by rfl) D_is_ring.g D_is_ring.kp D_is_ring.b .nil pass0 (pa_cons (pv 9) (pa_cons (pv 10) pa_nil)))))
        (pss_one (ps_if (pw_or (pt_not (pt_val (pe_callB (call_isiK' (K := K) rfl) (by rfl) T.b_isinstance (by decide +kernel) (pa_cons (pv 11) (pa_cons (pe_bltn (v := .ty "bool") (by rfl) T.b_bool (by decide +kernel) rfl) pa_nil))))) (pw_or (pt_cmpR op_ne (pv 11) (pe_call D_l_is_ring.F (hr.mono (by decide)) (by rfl) D_l_is_ring.g D_l_is_ring.kp D_l_is_ring.b .nil pass0 (pa_cons (pv 2) (pa_cons (pv 8) pa_nil))) (nomark _)) (pw_or (pt_cmpR (op_neDK (K := K) rfl hr.units) (pv 9) (pv 2) (nomark _)) (pw_or1 (pt_cmpR (op_neDK (K := K) rfl hr.units) (pv 10) (pv 8) (nomark _)))))).pt
          (pss_one (ps_ret pe_bl))
          pss_nil))))))
      (pss_one (ps_ret (pe_and (pe_cmpR op_isBl (pe_call D_is_ring.F (hr.mono (by decide)) (by rfl) D_is_ring.g D_is_ring.kp D_is_ring.b .nil pass0 (pa_cons (pv 2) (pa_cons (pv 5) pa_nil))) pe_bl (nomark _)) (pe_one (pe_cmpR op_isBl (pe_call D_is_ring.F (hr.mono (by decide)) (by rfl) D_is_ring.g D_is_ring.kp D_is_ring.b .nil pass0 (pa_cons (pe_lst pa_nil) (pa_cons (pe_lst pa_nil) pa_nil))) pe_bl (nomark _))))))))))))))), pfn_enter h ?_⟩
  rintro ds q B0 H0 ⟨ns, rfl, hn, hq⟩
  walk_at "xo"
  refine u_order fun o ok l2 l24 => ?_
  walk_at "xo"
  have lp : 2 ≤ (o.take 8).length ∧ (o.take 8).length ≤ 8 := by rw [List.length_take]; omega
  have ndp : (o.take 8).Nodup := ok.1.sublist (List.take_sublist _ _)
  rw [cutQ _ (by decide), show (8 : Int).toNat = 8 from rfl]
  generalize o.take 8 = p at *
  refine u_rows ⟨by decide, by decide⟩ (by omega) fun rss h12 h1 hs => ?_
  walk_at "xo"
  refine u_shuffled ⟨by decide, by decide⟩ (by omega) fun ys pr => ?_
  have m0 : 0 ≤ mix (cellOf ns 11) 0 4 := mix_nn (by decide)
  have m1 : mix (cellOf ns 11) 0 4 < 4 := mix_lt (by decide)
  walk_at "xo"
  have e1 : cut ys none (some (2 + mix (cellOf ns 11) 0 4)) = ys.take (2 + mix (cellOf ns 11) 0 4).toNat := cutQ _ (by omega)
  rw [e1]
  generalize hn : ys.take (2 + mix (cellOf ns 11) 0 4).toNat = nm
  have ly := pr.length_eq
  have ln : 2 ≤ nm.length ∧ nm.length ≤ 5 := by rw [← hn, List.length_take]; omega
  have ndn : nm.Nodup := by rw [← hn]; exact (pr.nodup_iff.mpr ndp).sublist (List.take_sublist _ _)
  have mo : ∀ z ∈ nm, z ∈ p := fun z m => pr.subset (List.mem_of_mem_take (by rw [← hn] at m; exact m))
  walk_at "xo"
  refine aforR0 (fun i ρ => i ≤ nm.length ∧ ∃ (rs : Rws) (cs : List Cl), ρ = [.sh (.fls (ns.map .int)), .sh (eNs p), .own (eRs rs), .sh (.int (cellOf ns 11)), .sh (eNs nm), .own (eCls cs), .un, .un, .un, .un, .un, .un, .un] ∧ cs.length = i ∧ Laid nm rss.length rs cs)
    ⟨_, by walk_at "wk", Nat.zero_le _, rss, [], rfl, rfl, ⟨by simp, fun r m => ⟨ndp.sublist (hs r m), Nat.le_trans (hs r m).length_le (by omega)⟩, fun k c h => by simp at h⟩⟩ ?_ ?_
  · rintro i ρ' hi ⟨hle, rs, cs, rfl, lc, hL⟩
    have hi : i < nm.length := by simpa using hi
    have lrs := hL.ln
    obtain ⟨x, hx, ax⟩ := atI_pv (f := D.str) hi
    have hy := List.getElem?_eq_getElem hi
    walk_at "xo"
    refine a2_ixL ax ?_
    walk_at "xo"
    refine a2_ixN (x := nm[i]) hy ?_
    walk_at "xo"
    refine a2_ixL ax ?_
    walk_at "xo"
    refine a2_ixN (x := nm[i]) hy ?_
    walk_at "xo"
    have nxy : x ≠ nm[i] := fun e => by
      have hl : pvI nm.length i < nm.length := (List.getElem?_eq_some_iff.mp hx).1
      have e2 : nm[pvI nm.length i] = nm[i] := by rw [← e]; exact (List.getElem?_eq_some_iff.mp hx).2
      have pw := List.pairwise_iff_getElem.mp ndn
      have ne : pvI nm.length i ≠ i := by unfold pvI; split <;> omega
      rcases Nat.lt_or_gt_of_ne ne with g | g
      · exact pw _ _ hl hi g e2
      · exact pw _ _ hi hl g e2.symm
    refine u_with ndp (mo _ (List.mem_of_getElem? hx)) (mo _ (List.getElem_mem hi)) nxy (by omega) fun r rnd rin rb => ?_
    have lr : r.length ≤ 8 := Nat.le_trans (len_le_sub rnd rin) lp.2
    walk_at "xo"
    have e1 : D.lst (cs.map eCl ++ [D.tup [.str x, .str nm[i], .int (rs.length : Int)]]) = eCls (cs ++ [(x, nm[i], rs.length)]) := by
      show _ = D.lst _
      rw [List.map_append]
      rfl
    have e2 : D.lst (rs.map (fun r => D.lst (r.map D.str)) ++ [eNs r]) = eRs (rs ++ [r]) := by
      show _ = D.lst _
      rw [List.map_append]
      rfl
    subst lc
    rw [e1, e2]
    exact ⟨_, by walk_at "wk", ⟨by omega, rs ++ [r], cs ++ [(x, nm[cs.length], rs.length)], rfl, by simp, hL.step hy hx ⟨rnd, by omega⟩ rb⟩, rfl⟩
  · rintro ρ' ⟨hle, rs, cs, rfl, lc, hL⟩
    rw [show Int.toNat (nm.length : Int) = nm.length from Int.toNat_natCast _] at lc
    have lrs := hL.ln
    have k0 : 0 ≤ mix (cellOf ns 17) 0 cs.length := mix_nn (by omega)
    have k1 : mix (cellOf ns 17) 0 cs.length < cs.length := mix_lt (by omega)
    have hk : (mix (cellOf ns 17) 0 cs.length).toNat < cs.length := by omega
    refine s_frz 5 rfl ?_
    walk_at "xo"
    generalize mix (cellOf ns 17) 0 cs.length = at_ at *
    have hg := List.getElem?_eq_getElem hk
    generalize cs[at_.toNat] = st at *
    refine a2_ixM (x := st) k0 hg ?_
    walk_at "xo"
    refine a2_ixTP (d := .str st.2.1) (by decide) rfl ?_
    walk_at "xo"
    refine a2_ixM (x := st) k0 hg ?_
    walk_at "xo"
    refine a2_ixTP (d := .str st.1) (by decide) rfl ?_
    refine aa_nil ⟨by simp, by omega, ?_⟩
    have e2 : D.lst (rs.map (fun r => D.lst (r.map D.str)) ++ [D.lst [D.str st.2.1, D.str st.1]]) = eRs (rs ++ [[st.2.1, st.1]]) := by
      show _ = D.lst _
      rw [List.map_append]
      rfl
    have hR := hL.more lc ln.1 ndn [st.2.1, st.1]
    have lrs2 : (rs ++ [[st.2.1, st.1]]).length ≤ 18 := by rw [List.length_append, List.length_singleton]; omega
    have hrow : ∀ c ∈ cs, ∃ row : List Str, (rs ++ [[st.2.1, st.1]])[c.2.2]? = some row ∧ 0 < row.length ∧ row.length ≤ 100 := fun c m => by
      obtain ⟨row, h1, h2, _⟩ := hR.cl c m
      refine ⟨row, h1, List.length_pos_of_mem h2, ?_⟩
      rcases List.mem_append.mp (List.mem_of_getElem? h1) with m | m
      · have := (hL.nd row m).2
        omega
      · rw [List.mem_singleton.mp m]
        simp
    rw [e2]
    generalize rs ++ [[st.2.1, st.1]] = rt at *
    refine s_frz 2 rfl ?_
    walk_at "xo"
    refine u_spoilt (by omega) (by omega) (by omega) hrow fun L lL gL => ?_
    walk_at "xo"
    have eL : [eCls cs] ++ L.map D.lst = (cs.map eCl :: L).map D.lst := rfl
    rw [eL]
    refine aforM (f := D.lst) (fun i ρ => ρ = [.sh (.fls (ns.map .int)), .un, .sh (eRs rt), .un, .un, .sh (eCls cs), .un, .un, .un, .un, .un, .un, .un]) ⟨_, by walk_at "wk", rfl⟩ ?_ ?_
    · rintro i xs ρ hi rfl
      have gs : GS xs := by
        rcases List.mem_cons.mp (List.mem_of_getElem? hi) with rfl | m
        · exact gs_cls (by omega)
        · exact gL xs m
      obtain ⟨sts, rfl, hst⟩ := form_of (f := D.tup) (P := fun s => s.length ≤ 100 ∧ ∀ x ∈ s, Od x) (ys := xs) fun j y hy => gs.2 y (List.mem_of_getElem? hy)
      have lst : sts.length ≤ 20 := by have := gs.1; rwa [List.length_map] at this
      have hp : pln (D.lst (List.map D.tup sts)) = true := by
        rw [pln]
        exact plns_map fun s m => by
          rw [pln]
          exact plns_all fun x mx => ((hst s m).2 x mx).pl
      have hd : dep (D.lst (List.map D.tup sts)) ≤ 64 := Nat.le_trans (dep_lst (n := 2) sts fun s m => dep_tup fun x mx => ((hst s m).2 x mx).dp) (by decide)
      have dr := deq_refl _ hp
      walk_at "xo"
      refine alcA (fun r : List Str => eNs r) (by omega) (fun r m q hq => by walk_at "xo"; exact hq) ?_
      walk_at "xo"
      by_cases hI : IR rt sts
      · refine u_is_ring (by omega) (by omega) hst (fun _ => ?_) (fun h => absurd hI h)
        walk_at "xo"
        refine u_l_is_ring (by omega) (by omega) hst (fun _ => ?_) (fun h => absurd hI h)
        walk_at "xo"
        rw [show decide (rt = rt) = true by simp]
        walk_at "xo"
        rw [dr]
        walk_at "xo"
        exact ⟨_, by walk_at "wk", rfl, rfl⟩
      · refine u_is_ring (by omega) (by omega) hst (fun h => absurd h hI) (fun _ => ?_)
        walk_at "xo"
        refine u_l_is_ring (by omega) (by omega) hst (fun h => absurd h hI) (fun _ => ?_)
        walk_at "xo"
        rw [show decide (rt = rt) = true by simp]
        walk_at "xo"
        rw [dr]
        walk_at "xo"
        exact ⟨_, by walk_at "wk", rfl, rfl⟩
    · rintro ρ rfl
      have hcs : ∀ s ∈ cs.map clT, s.length ≤ 100 ∧ ∀ x ∈ s, Od x := fun s m => by
        obtain ⟨c, _, rfl⟩ := List.mem_map.mp m
        exact ⟨by simp [clT], by unfold clT; walk_at "od"⟩
      walk_at "xo"
      rw [← eSt_cls]
      refine u_is_ring (by omega) (by rw [List.length_map]; omega) hcs (fun _ => ?_) (fun h => absurd (ir_iff.mpr hR) h)
      walk_at "xo"
      refine ⟨[], [], rfl, by simp, by simp, (fun _ m => nomatch m), fun h => ?_, fun _ => ?_⟩
      · obtain ⟨cs', e, h'⟩ := h
        have := h'.ne
        have e := congrArg List.length e
        rw [List.length_map] at e
        simp at e
        omega
      walk_at "xo"
      exact hq

end
theorem all_mk {l : PySem.W.OpenLaw} {w : World} {K : PySem.W.Frag} {h : Heap} {mg : Str → Option Value} {fa : Addr} (X : K.In h) (G : h.Ns mainGlobals mg) (hfa : mg "law" = some (.ref fa))
    {f_is_claim : Addr} {od_is_claim an_is_claim : Option Addr} {sl_is_claim : Array (Option Value)} {oc_is_claim kV_is_claim dc_is_claim pm_is_claim cd_is_claim ct_is_claim : Value}
    (a_is_claim : PySem.W.nsIn K mainGlobals "is_claim" = some (some (.ref f_is_claim)))
    (l_is_claim : K.lookup f_is_claim = some ⟨oc_is_claim, od_is_claim, .func (PySem.W.fnOf "is_claim" "is_claim" (defArgs s_is_claim) (defBody s_is_claim) (defScope s_is_claim) .none kV_is_claim dc_is_claim pm_is_claim an_is_claim cd_is_claim ct_is_claim), sl_is_claim⟩) (c_is_claim : PySem.W.codeIn K cd_is_claim "is_claim" = true) (k_is_claim : PySem.W.keepIn K (.ref f_is_claim) = true)
    {f_is_ring : Addr} {od_is_ring an_is_ring : Option Addr} {sl_is_ring : Array (Option Value)} {oc_is_ring kV_is_ring dc_is_ring pm_is_ring cd_is_ring ct_is_ring : Value}
    (a_is_ring : PySem.W.nsIn K mainGlobals "is_ring" = some (some (.ref f_is_ring)))
    (l_is_ring : K.lookup f_is_ring = some ⟨oc_is_ring, od_is_ring, .func (PySem.W.fnOf "is_ring" "is_ring" (defArgs s_is_ring) (defBody s_is_ring) (defScope s_is_ring) .none kV_is_ring dc_is_ring pm_is_ring an_is_ring cd_is_ring ct_is_ring), sl_is_ring⟩) (c_is_ring : PySem.W.codeIn K cd_is_ring "is_ring" = true) (k_is_ring : PySem.W.keepIn K (.ref f_is_ring) = true)
    {f_l_cell : Addr} {od_l_cell an_l_cell : Option Addr} {sl_l_cell : Array (Option Value)} {oc_l_cell kV_l_cell dc_l_cell pm_l_cell cd_l_cell ct_l_cell : Value}
    (a_l_cell : PySem.W.nsIn K mainGlobals "_law_cell" = some (some (.ref f_l_cell)))
    (l_l_cell : K.lookup f_l_cell = some ⟨oc_l_cell, od_l_cell, .func (PySem.W.fnOf "_law_cell" "_law_cell" (defArgs s_l_cell) (defBody s_l_cell) (defScope s_l_cell) .none kV_l_cell dc_l_cell pm_l_cell an_l_cell cd_l_cell ct_l_cell), sl_l_cell⟩) (c_l_cell : PySem.W.codeIn K cd_l_cell "_law_cell" = true) (k_l_cell : PySem.W.keepIn K (.ref f_l_cell) = true)
    {f_l_mix : Addr} {od_l_mix an_l_mix : Option Addr} {sl_l_mix : Array (Option Value)} {oc_l_mix kV_l_mix dc_l_mix pm_l_mix cd_l_mix ct_l_mix : Value}
    (a_l_mix : PySem.W.nsIn K mainGlobals "_law_mix" = some (some (.ref f_l_mix)))
    (l_l_mix : K.lookup f_l_mix = some ⟨oc_l_mix, od_l_mix, .func (PySem.W.fnOf "_law_mix" "_law_mix" (defArgs s_l_mix) (defBody s_l_mix) (defScope s_l_mix) .none kV_l_mix dc_l_mix pm_l_mix an_l_mix cd_l_mix ct_l_mix), sl_l_mix⟩) (c_l_mix : PySem.W.codeIn K cd_l_mix "_law_mix" = true) (k_l_mix : PySem.W.keepIn K (.ref f_l_mix) = true)
    {f_l_names : Addr} {od_l_names an_l_names : Option Addr} {sl_l_names : Array (Option Value)} {oc_l_names kV_l_names dc_l_names pm_l_names cd_l_names ct_l_names : Value}
    (a_l_names : PySem.W.nsIn K mainGlobals "_law_names" = some (some (.ref f_l_names)))
    (l_l_names : K.lookup f_l_names = some ⟨oc_l_names, od_l_names, .func (PySem.W.fnOf "_law_names" "_law_names" (defArgs s_l_names) (defBody s_l_names) (defScope s_l_names) .none kV_l_names dc_l_names pm_l_names an_l_names cd_l_names ct_l_names), sl_l_names⟩) (c_l_names : PySem.W.codeIn K cd_l_names "_law_names" = true) (k_l_names : PySem.W.keepIn K (.ref f_l_names) = true)
    {f_l_shuffled : Addr} {od_l_shuffled an_l_shuffled : Option Addr} {sl_l_shuffled : Array (Option Value)} {oc_l_shuffled kV_l_shuffled dc_l_shuffled pm_l_shuffled cd_l_shuffled ct_l_shuffled : Value}
    (a_l_shuffled : PySem.W.nsIn K mainGlobals "_law_shuffled" = some (some (.ref f_l_shuffled)))
    (l_l_shuffled : K.lookup f_l_shuffled = some ⟨oc_l_shuffled, od_l_shuffled, .func (PySem.W.fnOf "_law_shuffled" "_law_shuffled" (defArgs s_l_shuffled) (defBody s_l_shuffled) (defScope s_l_shuffled) .none kV_l_shuffled dc_l_shuffled pm_l_shuffled an_l_shuffled cd_l_shuffled ct_l_shuffled), sl_l_shuffled⟩) (c_l_shuffled : PySem.W.codeIn K cd_l_shuffled "_law_shuffled" = true) (k_l_shuffled : PySem.W.keepIn K (.ref f_l_shuffled) = true)
    {f_l_part : Addr} {od_l_part an_l_part : Option Addr} {sl_l_part : Array (Option Value)} {oc_l_part kV_l_part dc_l_part pm_l_part cd_l_part ct_l_part : Value}
    (a_l_part : PySem.W.nsIn K mainGlobals "_law_part" = some (some (.ref f_l_part)))
    (l_l_part : K.lookup f_l_part = some ⟨oc_l_part, od_l_part, .func (PySem.W.fnOf "_law_part" "_law_part" (defArgs s_l_part) (defBody s_l_part) (defScope s_l_part) .none kV_l_part dc_l_part pm_l_part an_l_part cd_l_part ct_l_part), sl_l_part⟩) (c_l_part : PySem.W.codeIn K cd_l_part "_law_part" = true) (k_l_part : PySem.W.keepIn K (.ref f_l_part) = true)
    {f_l_order : Addr} {od_l_order an_l_order : Option Addr} {sl_l_order : Array (Option Value)} {oc_l_order kV_l_order dc_l_order pm_l_order cd_l_order ct_l_order : Value}
    (a_l_order : PySem.W.nsIn K mainGlobals "_law_order" = some (some (.ref f_l_order)))
    (l_l_order : K.lookup f_l_order = some ⟨oc_l_order, od_l_order, .func (PySem.W.fnOf "_law_order" "_law_order" (defArgs s_l_order) (defBody s_l_order) (defScope s_l_order) .none kV_l_order dc_l_order pm_l_order an_l_order cd_l_order ct_l_order), sl_l_order⟩) (c_l_order : PySem.W.codeIn K cd_l_order "_law_order" = true) (k_l_order : PySem.W.keepIn K (.ref f_l_order) = true)
    {f_l_rows : Addr} {od_l_rows an_l_rows : Option Addr} {sl_l_rows : Array (Option Value)} {oc_l_rows kV_l_rows dc_l_rows pm_l_rows cd_l_rows ct_l_rows : Value}
    (a_l_rows : PySem.W.nsIn K mainGlobals "_law_rows" = some (some (.ref f_l_rows)))
    (l_l_rows : K.lookup f_l_rows = some ⟨oc_l_rows, od_l_rows, .func (PySem.W.fnOf "_law_rows" "_law_rows" (defArgs s_l_rows) (defBody s_l_rows) (defScope s_l_rows) .none kV_l_rows dc_l_rows pm_l_rows an_l_rows cd_l_rows ct_l_rows), sl_l_rows⟩) (c_l_rows : PySem.W.codeIn K cd_l_rows "_law_rows" = true) (k_l_rows : PySem.W.keepIn K (.ref f_l_rows) = true)
    {f_l_whole : Addr} {od_l_whole an_l_whole : Option Addr} {sl_l_whole : Array (Option Value)} {oc_l_whole kV_l_whole dc_l_whole pm_l_whole cd_l_whole ct_l_whole : Value}
    (a_l_whole : PySem.W.nsIn K mainGlobals "_law_whole" = some (some (.ref f_l_whole)))
    (l_l_whole : K.lookup f_l_whole = some ⟨oc_l_whole, od_l_whole, .func (PySem.W.fnOf "_law_whole" "_law_whole" (defArgs s_l_whole) (defBody s_l_whole) (defScope s_l_whole) .none kV_l_whole dc_l_whole pm_l_whole an_l_whole cd_l_whole ct_l_whole), sl_l_whole⟩) (c_l_whole : PySem.W.codeIn K cd_l_whole "_law_whole" = true) (k_l_whole : PySem.W.keepIn K (.ref f_l_whole) = true)
    {f_l_is_claim : Addr} {od_l_is_claim an_l_is_claim : Option Addr} {sl_l_is_claim : Array (Option Value)} {oc_l_is_claim kV_l_is_claim dc_l_is_claim pm_l_is_claim cd_l_is_claim ct_l_is_claim : Value}
    (a_l_is_claim : PySem.W.nsIn K mainGlobals "_law_is_claim" = some (some (.ref f_l_is_claim)))
    (l_l_is_claim : K.lookup f_l_is_claim = some ⟨oc_l_is_claim, od_l_is_claim, .func (PySem.W.fnOf "_law_is_claim" "_law_is_claim" (defArgs s_l_is_claim) (defBody s_l_is_claim) (defScope s_l_is_claim) .none kV_l_is_claim dc_l_is_claim pm_l_is_claim an_l_is_claim cd_l_is_claim ct_l_is_claim), sl_l_is_claim⟩) (c_l_is_claim : PySem.W.codeIn K cd_l_is_claim "_law_is_claim" = true) (k_l_is_claim : PySem.W.keepIn K (.ref f_l_is_claim) = true)
    {f_l_is_ring : Addr} {od_l_is_ring an_l_is_ring : Option Addr} {sl_l_is_ring : Array (Option Value)} {oc_l_is_ring kV_l_is_ring dc_l_is_ring pm_l_is_ring cd_l_is_ring ct_l_is_ring : Value}
    (a_l_is_ring : PySem.W.nsIn K mainGlobals "_law_is_ring" = some (some (.ref f_l_is_ring)))
    (l_l_is_ring : K.lookup f_l_is_ring = some ⟨oc_l_is_ring, od_l_is_ring, .func (PySem.W.fnOf "_law_is_ring" "_law_is_ring" (defArgs s_l_is_ring) (defBody s_l_is_ring) (defScope s_l_is_ring) .none kV_l_is_ring dc_l_is_ring pm_l_is_ring an_l_is_ring cd_l_is_ring ct_l_is_ring), sl_l_is_ring⟩) (c_l_is_ring : PySem.W.codeIn K cd_l_is_ring "_law_is_ring" = true) (k_l_is_ring : PySem.W.keepIn K (.ref f_l_is_ring) = true)
    {f_l_with : Addr} {od_l_with an_l_with : Option Addr} {sl_l_with : Array (Option Value)} {oc_l_with kV_l_with dc_l_with pm_l_with cd_l_with ct_l_with : Value}
    (a_l_with : PySem.W.nsIn K mainGlobals "_law_with" = some (some (.ref f_l_with)))
    (l_l_with : K.lookup f_l_with = some ⟨oc_l_with, od_l_with, .func (PySem.W.fnOf "_law_with" "_law_with" (defArgs s_l_with) (defBody s_l_with) (defScope s_l_with) .none kV_l_with dc_l_with pm_l_with an_l_with cd_l_with ct_l_with), sl_l_with⟩) (c_l_with : PySem.W.codeIn K cd_l_with "_law_with" = true) (k_l_with : PySem.W.keepIn K (.ref f_l_with) = true)
    {f_l_spoilt : Addr} {od_l_spoilt an_l_spoilt : Option Addr} {sl_l_spoilt : Array (Option Value)} {oc_l_spoilt kV_l_spoilt dc_l_spoilt pm_l_spoilt cd_l_spoilt ct_l_spoilt : Value}
    (a_l_spoilt : PySem.W.nsIn K mainGlobals "_law_spoilt" = some (some (.ref f_l_spoilt)))
    (l_l_spoilt : K.lookup f_l_spoilt = some ⟨oc_l_spoilt, od_l_spoilt, .func (PySem.W.fnOf "_law_spoilt" "_law_spoilt" (defArgs s_l_spoilt) (defBody s_l_spoilt) (defScope s_l_spoilt) .none kV_l_spoilt dc_l_spoilt pm_l_spoilt an_l_spoilt cd_l_spoilt ct_l_spoilt), sl_l_spoilt⟩) (c_l_spoilt : PySem.W.codeIn K cd_l_spoilt "_law_spoilt" = true) (k_l_spoilt : PySem.W.keepIn K (.ref f_l_spoilt) = true)
    {f_law : Addr} {od_law an_law : Option Addr} {sl_law : Array (Option Value)} {oc_law kV_law dc_law pm_law cd_law ct_law : Value}
    (a_law : PySem.W.nsIn K mainGlobals "law" = some (some (.ref f_law)))
    (l_law : K.lookup f_law = some ⟨oc_law, od_law, .func (PySem.W.fnOf "law" "law" (defArgs s_law) (defBody s_law) (defScope s_law) .none kV_law dc_law pm_law an_law cd_law ct_law), sl_law⟩) (c_law : PySem.W.codeIn K cd_law "law" = true) (k_law : PySem.W.keepIn K (.ref f_law) = true)
    (z_len : PySem.W.nsIn K mainGlobals "len" = some none)
    (z_int : PySem.W.nsIn K mainGlobals "int" = some none)
    (z_isinstance : PySem.W.nsIn K mainGlobals "isinstance" = some none)
    (z_bool : PySem.W.nsIn K mainGlobals "bool" = some none)
    (z_set : PySem.W.nsIn K mainGlobals "set" = some none)
    (z_range : PySem.W.nsIn K mainGlobals "range" = some none)
    (z_list : PySem.W.nsIn K mainGlobals "list" = some none)
    (z_min : PySem.W.nsIn K mainGlobals "min" = some none)
    (z_tuple : PySem.W.nsIn K mainGlobals "tuple" = some none)
    (z_reversed : PySem.W.nsIn K mainGlobals "reversed" = some none) :
    ∃ fd : FuncData, (∀ (s : Shared) (v : Value), BindsTo s fd ⟨[v], []⟩ [("_law_script", v)]) ∧ ∀ base : Heap, K.In base → base.Ns mainGlobals mg → FnOk l.prog w K mg base CX0 4 fa fd ["_law_script"] (sp_law K) := by
  have e := hfa.symm.trans (PySem.W.mg_of X G a_law)
  cases e
  have T : Txt K mg := ⟨PySem.W.mg_none_of X G z_len, PySem.W.mg_none_of X G z_int, PySem.W.mg_none_of X G z_isinstance, PySem.W.mg_none_of X G z_bool, PySem.W.mg_none_of X G z_set, PySem.W.mg_none_of X G z_range, PySem.W.mg_none_of X G z_list, PySem.W.mg_none_of X G z_min, PySem.W.mg_none_of X G z_tuple, PySem.W.mg_none_of X G z_reversed⟩
  have F_is_claim := fun_mk (st := s_is_claim) l_is_claim c_is_claim k_is_claim
  have B_is_claim := F_is_claim.binds (ps := ["rows", "step"]) fun _ _ _ _ _ _ us hl => match us, hl with | [_, _], _ => rfl
  have F_is_ring := fun_mk (st := s_is_ring) l_is_ring c_is_ring k_is_ring
  have B_is_ring := F_is_ring.binds (ps := ["rows", "steps"]) fun _ _ _ _ _ _ us hl => match us, hl with | [_, _], _ => rfl
  have F_l_cell := fun_mk (st := s_l_cell) l_l_cell c_l_cell k_l_cell
  have B_l_cell := F_l_cell.binds (ps := ["_law_script", "_law_k"]) fun _ _ _ _ _ _ us hl => match us, hl with | [_, _], _ => rfl
  have F_l_mix := fun_mk (st := s_l_mix) l_l_mix c_l_mix k_l_mix
  have B_l_mix := F_l_mix.binds (ps := ["_law_cell_here", "_law_turn", "_law_many"]) fun _ _ _ _ _ _ us hl => match us, hl with | [_, _, _], _ => rfl
  have F_l_names := fun_mk (st := s_l_names) l_l_names c_l_names k_l_names
  have B_l_names := F_l_names.binds (ps := ["_law_cell_here", "_law_many"]) fun _ _ _ _ _ _ us hl => match us, hl with | [_, _], _ => rfl
  have F_l_shuffled := fun_mk (st := s_l_shuffled) l_l_shuffled c_l_shuffled k_l_shuffled
  have B_l_shuffled := F_l_shuffled.binds (ps := ["_law_cell_here", "_law_turn", "_law_names_here"]) fun _ _ _ _ _ _ us hl => match us, hl with | [_, _, _], _ => rfl
  have F_l_part := fun_mk (st := s_l_part) l_l_part c_l_part k_l_part
  have B_l_part := F_l_part.binds (ps := ["_law_cell_here", "_law_order_here"]) fun _ _ _ _ _ _ us hl => match us, hl with | [_, _], _ => rfl
  have F_l_order := fun_mk (st := s_l_order) l_l_order c_l_order k_l_order
  have B_l_order := F_l_order.binds (ps := ["_law_script"]) fun _ _ _ _ _ _ us hl => match us, hl with | [_], _ => rfl
  have F_l_rows := fun_mk (st := s_l_rows) l_l_rows c_l_rows k_l_rows
  have B_l_rows := F_l_rows.binds (ps := ["_law_script", "_law_order_here", "_law_most"]) fun _ _ _ _ _ _ us hl => match us, hl with | [_, _, _], _ => rfl
  have F_l_whole := fun_mk (st := s_l_whole) l_l_whole c_l_whole k_l_whole
  have B_l_whole := F_l_whole.binds (ps := ["_law_found"]) fun _ _ _ _ _ _ us hl => match us, hl with | [_], _ => rfl
  have F_l_is_claim := fun_mk (st := s_l_is_claim) l_l_is_claim c_l_is_claim k_l_is_claim
  have B_l_is_claim := F_l_is_claim.binds (ps := ["_law_rows_here", "_law_step"]) fun _ _ _ _ _ _ us hl => match us, hl with | [_, _], _ => rfl
  have F_l_is_ring := fun_mk (st := s_l_is_ring) l_l_is_ring c_l_is_ring k_l_is_ring
  have B_l_is_ring := F_l_is_ring.binds (ps := ["_law_rows_here", "_law_steps"]) fun _ _ _ _ _ _ us hl => match us, hl with | [_, _], _ => rfl
  have F_l_with := fun_mk (st := s_l_with) l_l_with c_l_with k_l_with
  have B_l_with := F_l_with.binds (ps := ["_law_cell_here", "_law_one", "_law_other", "_law_order_here"]) fun _ _ _ _ _ _ us hl => match us, hl with | [_, _, _, _], _ => rfl
  have F_l_spoilt := fun_mk (st := s_l_spoilt) l_l_spoilt c_l_spoilt k_l_spoilt
  have B_l_spoilt := F_l_spoilt.binds (ps := ["_law_steps", "_law_rows_here", "_law_cell_here"]) fun _ _ _ _ _ _ us hl => match us, hl with | [_, _, _], _ => rfl
  have F_law := fun_mk (st := s_law) l_law c_law k_law
  refine ⟨PySem.W.fnOf "law" "law" (defArgs s_law) (defBody s_law) (defScope s_law) .none kV_law dc_law pm_law an_law cd_law ct_law, fun s v => .of_eq rfl, fun base _ _ => ?_⟩
  have D_is_claim : Dk l.prog w K mg base CX0 1 f_is_claim _ "is_claim" ["rows", "step"] [] (sp_is_claim K) := ⟨(ok_is_claim F_is_claim T ), PySem.W.mg_of X G a_is_claim, F_is_claim.kp, B_is_claim⟩
  have D_l_cell : Dk l.prog w K mg base CX0 1 f_l_cell _ "_law_cell" ["_law_script", "_law_k"] [] (sp_l_cell K) := ⟨(ok_l_cell F_l_cell T ), PySem.W.mg_of X G a_l_cell, F_l_cell.kp, B_l_cell⟩
  have D_l_mix : Dk l.prog w K mg base CX0 1 f_l_mix _ "_law_mix" ["_law_cell_here", "_law_turn", "_law_many"] [] (sp_l_mix K) := ⟨(ok_l_mix F_l_mix T ), PySem.W.mg_of X G a_l_mix, F_l_mix.kp, B_l_mix⟩
  have D_l_whole : Dk l.prog w K mg base CX0 1 f_l_whole _ "_law_whole" ["_law_found"] [] (sp_l_whole K) := ⟨(ok_l_whole F_l_whole T ), PySem.W.mg_of X G a_l_whole, F_l_whole.kp, B_l_whole⟩
  have D_is_ring : Dk l.prog w K mg base CX0 2 f_is_ring _ "is_ring" ["rows", "steps"] [] (sp_is_ring K) := ⟨(ok_is_ring F_is_ring T D_is_claim), PySem.W.mg_of X G a_is_ring, F_is_ring.kp, B_is_ring⟩
  have D_l_names : Dk l.prog w K mg base CX0 2 f_l_names _ "_law_names" ["_law_cell_here", "_law_many"] [] (sp_l_names K) := ⟨(ok_l_names F_l_names T D_l_mix), PySem.W.mg_of X G a_l_names, F_l_names.kp, B_l_names⟩
  have D_l_shuffled : Dk l.prog w K mg base CX0 2 f_l_shuffled _ "_law_shuffled" ["_law_cell_here", "_law_turn", "_law_names_here"] [] (sp_l_shuffled K) := ⟨(ok_l_shuffled F_l_shuffled T D_l_mix), PySem.W.mg_of X G a_l_shuffled, F_l_shuffled.kp, B_l_shuffled⟩
  have D_l_part : Dk l.prog w K mg base CX0 2 f_l_part _ "_law_part" ["_law_cell_here", "_law_order_here"] [] (sp_l_part K) := ⟨(ok_l_part F_l_part T D_l_mix), PySem.W.mg_of X G a_l_part, F_l_part.kp, B_l_part⟩
  have D_l_is_claim : Dk l.prog w K mg base CX0 2 f_l_is_claim _ "_law_is_claim" ["_law_rows_here", "_law_step"] [] (sp_l_is_claim K) := ⟨(ok_l_is_claim F_l_is_claim T D_l_whole), PySem.W.mg_of X G a_l_is_claim, F_l_is_claim.kp, B_l_is_claim⟩
  have D_l_spoilt : Dk l.prog w K mg base CX0 2 f_l_spoilt _ "_law_spoilt" ["_law_steps", "_law_rows_here", "_law_cell_here"] [] (sp_l_spoilt K) := ⟨(ok_l_spoilt F_l_spoilt T D_l_mix), PySem.W.mg_of X G a_l_spoilt, F_l_spoilt.kp, B_l_spoilt⟩
  have D_l_order : Dk l.prog w K mg base CX0 3 f_l_order _ "_law_order" ["_law_script"] [] (sp_l_order K) := ⟨(ok_l_order F_l_order T D_l_cell D_l_mix D_l_names D_l_shuffled), PySem.W.mg_of X G a_l_order, F_l_order.kp, B_l_order⟩
  have D_l_rows : Dk l.prog w K mg base CX0 3 f_l_rows _ "_law_rows" ["_law_script", "_law_order_here", "_law_most"] [] (sp_l_rows K) := ⟨(ok_l_rows F_l_rows T D_l_cell D_l_mix D_l_part), PySem.W.mg_of X G a_l_rows, F_l_rows.kp, B_l_rows⟩
  have D_l_is_ring : Dk l.prog w K mg base CX0 3 f_l_is_ring _ "_law_is_ring" ["_law_rows_here", "_law_steps"] [] (sp_l_is_ring K) := ⟨(ok_l_is_ring F_l_is_ring T D_l_is_claim), PySem.W.mg_of X G a_l_is_ring, F_l_is_ring.kp, B_l_is_ring⟩
  have D_l_with : Dk l.prog w K mg base CX0 3 f_l_with _ "_law_with" ["_law_cell_here", "_law_one", "_law_other", "_law_order_here"] [] (sp_l_with K) := ⟨(ok_l_with F_l_with T D_l_shuffled D_l_mix), PySem.W.mg_of X G a_l_with, F_l_with.kp, B_l_with⟩
  have R_law := (ok_law F_law T D_l_order D_l_rows D_l_cell D_l_shuffled D_l_mix D_l_with D_l_spoilt D_is_ring D_l_is_ring)
  exact R_law
end Tg
open PySem PySem.W PyProof.Rows
set_option maxHeartbeats 0 in
theorem PySem.Challenge.cw_taglook_k17_rings_looked_at_holds : PySem.Challenge.rw_taglook_k17_rings_looked_at.Holds := by
  w_on; o_law; k_head; (case hw => w_witness2)
  k_fill
  refine L2.walk_of (l := PySem.Challenge.rw_taglook_k17_rings_looked_at) (n := 63) (k := 4) (x := "_law_script") (CX := fun _ => L2.CX0) (sp := fun w => Tg.sp_law _) rfl (by decide) rfl ⟨rfl, by decide, by decide⟩ (fun w h Y => PySem.W.kIn_of Y) ?F (fun _ _ a ns hl ho hS => Tg.law_enter hl hS) (fun _ _ _ _ _ h => h)
  case F =>
    intro w mg fa h KX G hmg
    refine' Tg.all_mk KX G hmg ?a_is_claim ?l_is_claim ?c_is_claim ?k_is_claim ?a_is_ring ?l_is_ring ?c_is_ring ?k_is_ring ?a_l_cell ?l_l_cell ?c_l_cell ?k_l_cell ?a_l_mix ?l_l_mix ?c_l_mix ?k_l_mix ?a_l_names ?l_l_names ?c_l_names ?k_l_names ?a_l_shuffled ?l_l_shuffled ?c_l_shuffled ?k_l_shuffled ?a_l_part ?l_l_part ?c_l_part ?k_l_part ?a_l_order ?l_l_order ?c_l_order ?k_l_order ?a_l_rows ?l_l_rows ?c_l_rows ?k_l_rows ?a_l_whole ?l_l_whole ?c_l_whole ?k_l_whole ?a_l_is_claim ?l_l_is_claim ?c_l_is_claim ?k_l_is_claim ?a_l_is_ring ?l_l_is_ring ?c_l_is_ring ?k_l_is_ring ?a_l_with ?l_l_with ?c_l_with ?k_l_with ?a_l_spoilt ?l_l_spoilt ?c_l_spoilt ?k_l_spoilt ?a_law ?l_law ?c_law ?k_law ?z_len ?z_int ?z_isinstance ?z_bool ?z_set ?z_range ?z_list ?z_min ?z_tuple ?z_reversed
    (case a_is_claim => k_is); (case l_is_claim => k_is); (case c_is_claim => k_is); (case k_is_claim => k_is); (case a_is_ring => k_is); (case l_is_ring => k_is); (case c_is_ring => k_is); (case k_is_ring => k_is); (case a_l_cell => k_is); (case l_l_cell => k_is); (case c_l_cell => k_is); (case k_l_cell => k_is); (case a_l_mix => k_is); (case l_l_mix => k_is); (case c_l_mix => k_is); (case k_l_mix => k_is); (case a_l_names => k_is); (case l_l_names => k_is); (case c_l_names => k_is); (case k_l_names => k_is); (case a_l_shuffled => k_is); (case l_l_shuffled => k_is); (case c_l_shuffled => k_is); (case k_l_shuffled => k_is); (case a_l_part => k_is); (case l_l_part => k_is); (case c_l_part => k_is); (case k_l_part => k_is); (case a_l_order => k_is); (case l_l_order => k_is); (case c_l_order => k_is); (case k_l_order => k_is); (case a_l_rows => k_is); (case l_l_rows => k_is); (case c_l_rows => k_is); (case k_l_rows => k_is); (case a_l_whole => k_is); (case l_l_whole => k_is); (case c_l_whole => k_is); (case k_l_whole => k_is); (case a_l_is_claim => k_is); (case l_l_is_claim => k_is); (case c_l_is_claim => k_is); (case k_l_is_claim => k_is); (case a_l_is_ring => k_is); (case l_l_is_ring => k_is); (case c_l_is_ring => k_is); (case k_l_is_ring => k_is); (case a_l_with => k_is); (case l_l_with => k_is); (case c_l_with => k_is); (case k_l_with => k_is); (case a_l_spoilt => k_is); (case l_l_spoilt => k_is); (case c_l_spoilt => k_is); (case k_l_spoilt => k_is); (case a_law => k_is); (case l_law => k_is); (case c_law => k_is); (case k_law => k_is); (case z_len => k_is); (case z_int => k_is); (case z_isinstance => k_is); (case z_bool => k_is); (case z_set => k_is); (case z_range => k_is); (case z_list => k_is); (case z_min => k_is); (case z_tuple => k_is); (case z_reversed => k_is)
#print axioms PySem.Challenge.cw_taglook_k17_rings_looked_at_holds
