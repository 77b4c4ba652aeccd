import PyProof.Rows.All
import Wide.All
import OpenK.AllK
import Wide.FinOn
import HandS.ForMost
import HandS.IsInst
import HandS.Style
import HandS.More
import HandS.TupLen
import KE.KNestM
import HandS.Exc
import HandS.TryOnly
import HandS.TryMany
import HandS.ExcInit
import HandS.ExcField
import HandS.ExcIs
import HandS.WordsExc
import HandS.CallSlots
import HandS.Nested
import HandS.EndTab
import HandS.IsInst
import KE.KExcIs
import HandS.Iter
import HandS.Walk
import HandS.Words
import HandS.Deep
import HandS.Conv
import HandS.Style
import HandS.TupAny
import HandS.Replace
import KE.KStateDown
import HandS.Base
import HandS.Call
import HandS.Head0
import HandS.Head1
import HandS.Head2
import HandS.HeadEnd
import HandS.HeadHook1
import HandS.HeadWalk
import PySem.Challenge.RW_taglook_k32_asked_in_order
set_option Elab.async true
set_option linter.all false
set_option maxRecDepth 100000
set_option maxHeartbeats 4000000
/-! The engine: a law's head: the top run by the kernel once for each lot of looks, its facts told of a part of the heap -/
namespace HdX
open PySem PySem.Spec PyProof.Rows L2
/-- (the run) what f sees behind the top, at a world -/
def RunP (r : PySem.W.OpenRow) (M : Nat) {β : Type} (f : PySem.W.SharedT → β) (v : β) (w : World) : Prop :=
  ∀ os : OsState, (HandSHeadRun.endF (HandSHeadRun.stepQ (HandSHeadRun.denQ HandSHeadRun.tabQ) r.prog w) M r.prog w os).map f = some v
theorem run_pair {r : PySem.W.OpenRow} {M : Nat} {β γ : Type} {f : PySem.W.SharedT → β} {g : PySem.W.SharedT → γ} {v : β} {u : γ} {w : World} (a : RunP r M f v w) (b : RunP r M g u w) : RunP r M (fun s => (f s, g s)) (v, u) w := fun os => by
  have ha := a os
  have hb := b os
  cases e : HandSHeadRun.endF (HandSHeadRun.stepQ (HandSHeadRun.denQ HandSHeadRun.tabQ) r.prog w) M r.prog w os with
  | none =>
    rw [e] at ha
    cases ha
  | some s =>
    rw [e] at ha hb
    have h1 : f s = v := Option.some.inj ha
    have h2 : g s = u := Option.some.inj hb
    show some (f s, g s) = some (v, u)
    rw [h1, h2]
in #guard_msgs in open Nat
theorem frG_not {g : Addr → Option Obj} {T : Addr} : ∀ {as : List Addr}, T ∉ as → (He.frG g as).lookup T = none
  | [], _ => rfl
  | b :: r, h => by
    have ih := frG_not (g := g) (T := T) (as := r) fun m => h (List.mem_cons_of_mem _ m)
    have nb : (T == b) = false := beq_eq_false_iff_ne.mpr fun e => h (by rw [e]; exact List.mem_cons_self)
    unfold He.frG at ih ⊢
    rw [List.filterMap_cons]
    cases e : g b with
    | none => exact ih
    | some o =>
      show (match T == b with | true => some o | false => _) = none
      rw [nb]
      exact ih
in #guard_msgs in open Nat
/-- the Hook: what obs tells of the part of the heap at as; empty tables at tabs, which are not of that part -/
def hookZ {α : Type} (as tabs : List Addr) (hd : ∀ T ∈ tabs, T ∉ as) (obs : PySem.W.Frag → α) (val : α) : PySem.W.Hook where
  α := α × List (Option Obj)
  obs := fun s => (obs (He.frG s.heap.get? as), tabs.map s.heap.get?)
  val := fun _ => (val, tabs.map fun _ => some (PySem.W.tabObj #[]))
  says := fun _ h => ∃ K : PySem.W.Frag, K.In h ∧ obs K = val ∧ (∀ T ∈ tabs, h.get? T = some (PySem.W.tabObj #[])) ∧ ∀ T ∈ tabs, K.lookup T = none
  of := fun _ s e => ⟨_, He.frG_in, congrArg (·.1) e, fun T m => by
    have h : tabs.map s.heap.get? = tabs.map fun _ => some (PySem.W.tabObj #[]) := congrArg (·.2) e
    exact List.map_inj_left.mp h T m, fun T m => frG_not (hd T m)⟩
  keeps := fun _ _ _ ⟨K, hK, c, t, n⟩ k => ⟨K, PySem.W.Frag.In.keeps hK k, c, fun T m => k _ _ (t T m), n⟩
/-- what the hook sees, off the tree -/
def obT {α : Type} (as tabs : List Addr) (obs : PySem.W.Frag → α) (s : PySem.W.SharedT) : α × List (Option Obj) := (obs (He.frG (HandSHeadRun.getT s) as), tabs.map (HandSHeadRun.getT s))
theorem obT_eq {α : Type} {as tabs : List Addr} {hd : ∀ T ∈ tabs, T ∉ as} {obs : PySem.W.Frag → α} {val : α} (s : PySem.W.SharedT) : obT as tabs obs s = (hookZ as tabs hd obs val).obs s.abs := by
  have e : HandSHeadRun.getT s = s.abs.heap.get? := funext (HandSHeadRun.getT_eq s)
  unfold obT
  rw [e]
  rfl
in #guard_msgs in open Nat
/-- the looks of the head itself -/
noncomputable def seenT (r : PySem.W.OpenRow) (q : Program) (loose : List Str) (w : World) (s : PySem.W.SharedT) := (HandSHeadRun.looksF r.prog (PySem.W.boot_heap w.params) s.abs, HandSHeadRun.seenQ q loose (PySem.importedModules r.prog.main.body) (fun s => PySem.W.xlAt q [] s && PySem.W.recOk r.toRowW.records s) s.abs)
/-! ### facts by Bools -/
abbrev FnV : Type := Option (Str × Str × Arguments × FuncBody × Scope × Addr × List (Str × Addr) × Value × Addr)
def fnAt (K : PySem.W.Frag) (f : Addr) : FnV := match K.lookup f with
  | some ⟨_, _, .func fd, _⟩ => some (fd.name, fd.qualname, fd.params, fd.body, fd.scope, fd.globals, fd.closure, fd.defaults, fd.builtins)
  | _ => none
abbrev fnV (x q : Str) (st : Stmt) (dV : Value) : FnV := some (x, q, defArgs st, .stmts (defBody st), defScope st, mainGlobals, [], dV, builtinsNs)
/-- the code of the function at f -/
def cdB (K : PySem.W.Frag) (f : Addr) (q : Str) : Bool := match K.lookup f with
  | some ⟨_, _, .func fd, _⟩ => PySem.W.codeIn K fd.code q
  | _ => false
def refB (co : Addr) : Value → Bool
  | .ref c => decide (c = co)
  | _ => false
theorem ref_ok {co : Addr} {v : Value} (h : refB co v = true) : v = .ref co := by
  cases v with
  | ref c => rw [show c = co from of_decide_eq_true h]
  | _ => cases h
in #guard_msgs in open Nat
def cdR (K : PySem.W.Frag) (f co : Addr) (q : Str) : Bool := match K.lookup f with
  | some ⟨_, _, .func fd, _⟩ => refB co fd.code && PySem.W.codeIn K (.ref co) q
  | _ => false
theorem fn_ok {K : PySem.W.Frag} {f : Addr} {x q : Str} {st : Stmt} {dV : Value} (e : fnAt K f = fnV x q st dV) (c : cdB K f q = true) :
    ∃ oc od osl kV doc pm an cdv ct, K.lookup f = some ⟨oc, od, .func (PySem.W.fnOf x q (defArgs st) (defBody st) (defScope st) dV kV doc pm an cdv ct), osl⟩ ∧ PySem.W.codeIn K cdv q = true := by
  unfold fnAt at e
  unfold cdB at c
  cases h : K.lookup f with
  | none =>
    rw [h] at e
    cases e
  | some o =>
    obtain ⟨oc, od, dt, osl⟩ := o
    rw [h] at e c
    cases dt with
    | func fd =>
      obtain ⟨n1, n2, n3, n4, n5, n6, n7, n8, n9, n10, n11, n12, n13, n14, n15⟩ := fd
      have c2 : PySem.W.codeIn K n13 q = true := c
      have e2 : (some (n1, n2, n3, n4, n5, n6, n7, n8, n15) : FnV) = some (x, q, defArgs st, .stmts (defBody st), defScope st, mainGlobals, [], dV, builtinsNs) := e
      simp only [Option.some.injEq, Prod.mk.injEq] at e2
      obtain ⟨h1, h2, h3, h4, h5, h6, h7, h8, h9⟩ := e2
      subst h1 h2 h3 h4 h5 h6 h7 h8 h9
      exact ⟨oc, od, osl, n9, n10, n11, n12, n13, n14, rfl, c2⟩
    | _ => cases e
in #guard_msgs in open Nat
theorem fnR_ok {K : PySem.W.Frag} {f co : Addr} {x q : Str} {st : Stmt} {dV : Value} (e : fnAt K f = fnV x q st dV) (c : cdR K f co q = true) :
    ∃ oc od osl kV doc pm an ct, K.lookup f = some ⟨oc, od, .func (PySem.W.fnOf x q (defArgs st) (defBody st) (defScope st) dV kV doc pm an (.ref co) ct), osl⟩ ∧ PySem.W.codeIn K (.ref co) q = true := by
  unfold fnAt at e
  unfold cdR at c
  cases h : K.lookup f with
  | none =>
    rw [h] at e
    cases e
  | some o =>
    obtain ⟨oc, od, dt, osl⟩ := o
    rw [h] at e c
    cases dt with
    | func fd =>
      obtain ⟨n1, n2, n3, n4, n5, n6, n7, n8, n9, n10, n11, n12, n13, n14, n15⟩ := fd
      have c0 : (refB co n13 && PySem.W.codeIn K (.ref co) q) = true := c
      have e2 : (some (n1, n2, n3, n4, n5, n6, n7, n8, n15) : FnV) = some (x, q, defArgs st, .stmts (defBody st), defScope st, mainGlobals, [], dV, builtinsNs) := e
      simp only [Option.some.injEq, Prod.mk.injEq] at e2
      obtain ⟨h1, h2, h3, h4, h5, h6, h7, h8, h9⟩ := e2
      subst h1 h2 h3 h4 h5 h6 h7 h8 h9
      obtain ⟨c1, c2⟩ := Bool.and_eq_true_iff.mp c0
      rw [ref_ok c1]
      exact ⟨oc, od, osl, n9, n10, n11, n12, n14, rfl, c2⟩
    | _ => cases e
in #guard_msgs in open Nat
theorem tab_ok {K : PySem.W.Frag} {co T : Addr} (h : PySem.W.codeHdIn K co T = true) : ∃ od vs sl, K.lookup co = some ⟨.type "code", od, .fields vs, sl⟩ ∧ (vs[11]? : Option Value) = some (.ref T) := by
  unfold PySem.W.codeHdIn at h
  split at h
  · rename_i od vs sl hk
    refine ⟨_, vs, _, hk, ?_⟩
    simp only [Bool.and_eq_true] at h
    have h1 := h.1.1.1.1.1
    split at h1
    · rename_i P' e
      rw [e, beq_iff_eq.mp h1]
    · cases h1
  · cases h
in #guard_msgs in open Nat
/-- a tuple of one None -/
def dflB1 (K : PySem.W.Frag) (T : Addr) : Bool := match K.lookup T with
  | some ⟨_, _, .seq its _, _⟩ => (match its.toList with
    | [.none] => true
    | _ => false)
  | _ => false
theorem dfl1_ok {K : PySem.W.Frag} {T : Addr} (h : dflB1 K T = true) : ∃ o od n sl, K.lookup T = some ⟨o, od, .seq #[Value.none] n, sl⟩ := by
  unfold dflB1 at h
  split at h
  · rename_i its n sl hk
    split at h
    · rename_i e
      obtain ⟨l⟩ := its
      simp only at e
      subst e
      exact ⟨_, _, _, _, hk⟩
    · cases h
  · cases h
in #guard_msgs in open Nat
/-- an own exception's class -/
def excB (K : PySem.W.Frag) (C : Addr) : Bool := match K.lookup C with
  | some ⟨.type "type", _, .cls cd, sl⟩ => (match cd.mro, sl.toList with
    | .ref C' :: bm, [_, _, _, _, some (.builtin n), _] => decide (C' = C) && (decide (n = "ValueError.__new__") && (!cd.hasDel && (cd.hasDict && PySem.HandSPX.refsVE bm)))
    | _, _ => false)
  | _ => false
theorem exc_ok {K : PySem.W.Frag} {C : Addr} (h : excB K C = true) : ∃ nm q N bs bm sn sub ab col dd k0 k1 k2 k3 k5, K.lookup C = some (excClassObj nm q C N bs bm true sn sub ab col dd k0 k1 k2 k3 k5 "ValueError.__new__") ∧ PySem.HandSPX.refsVE bm = true := by
  unfold excB at h
  split at h
  · rename_i dd cd sl hk
    split at h
    · rename_i C' bm k0 k1 k2 k3 n k5 hm hs
      simp only [Bool.and_eq_true, decide_eq_true_eq, Bool.not_eq_true'] at h
      obtain ⟨rfl, rfl, hdel, hdict, hv⟩ := h
      obtain ⟨nm, bs, mro, ns, qn, hd, sn, sub, ab, col, del⟩ := cd
      dsimp only at hm hdel hdict
      subst hm hdel hdict
      have hsl : sl = #[k0, k1, k2, k3, some (.builtin "ValueError.__new__"), k5] := by
        obtain ⟨l⟩ := sl
        simp only at hs
        rw [hs]
      subst hsl
      exact ⟨_, _, _, _, bm, _, _, _, _, _, _, _, _, _, _, hk, hv⟩
    · cases h
  · cases h
in #guard_msgs in open Nat
def intB (K : PySem.W.Frag) (x : Str) (i : Int) : Bool := match PySem.W.nsIn K mainGlobals x with
  | some (some (.int j _)) => decide (j = i)
  | _ => false
theorem int_ok {K : PySem.W.Frag} {x : Str} {i : Int} (h : intB K x i = true) : ∃ t, PySem.W.nsIn K mainGlobals x = some (some (.int i t)) := by
  unfold intB at h
  split at h
  · rename_i j t e
    exact ⟨t, by rw [e, of_decide_eq_true h]⟩
  · cases h
in #guard_msgs in open Nat
def strB (K : PySem.W.Frag) (x z : Str) : Bool := match PySem.W.nsIn K mainGlobals x with
  | some (some (.str y _)) => decide (y = z)
  | _ => false
theorem str_ok {K : PySem.W.Frag} {x z : Str} (h : strB K x z = true) : ∃ t, PySem.W.nsIn K mainGlobals x = some (some (.str z t)) := by
  unfold strB at h
  split at h
  · rename_i y t e
    exact ⟨t, by rw [e, of_decide_eq_true h]⟩
  · cases h
in #guard_msgs in open Nat
theorem allAt {l : List Bool} (h : l.all id = true) (i : Nat) {b : Bool} (e : l[i]? = some b) : b = true := List.all_eq_true.mp h b (List.mem_of_getElem? e)
theorem eqAt {α : Type} {l r : List α} (h : l = r) (i : Nat) {a b : α} (ha : l[i]? = some a) (hb : r[i]? = some b) : a = b := by
  rw [h, hb] at ha
  exact (Option.some.inj ha).symm
in #guard_msgs in open Nat
theorem run_eq {r : PySem.W.OpenRow} {q : Program} {H : PySem.W.Hook} {ob : PySem.W.SharedT → H.α} {M : Nat} {loose : List Str} {w : World} (a : RunP r M (seenT r q loose w) (true, PySem.W.openGood q loose) w) (b : RunP r M ob (H.val w) w) : HandSHeadRun.RunEq r q H ob M loose w := fun os => by
  have h := run_pair a b os
  cases e : HandSHeadRun.endF (HandSHeadRun.stepQ (HandSHeadRun.denQ HandSHeadRun.tabQ) r.prog w) M r.prog w os with
  | none =>
    rw [e] at h
    cases h
  | some s =>
    rw [e] at h
    have h1 : (seenT r q loose w s, ob s) = ((true, PySem.W.openGood q loose), H.val w) := Option.some.inj h
    obtain ⟨h2, h3⟩ := Prod.mk.inj h1
    obtain ⟨h4, h5⟩ := Prod.mk.inj h2
    show some (_, _, _) = some (_, _, _)
    rw [h4, h5, h3]
in #guard_msgs in open Nat
def xcBh (K : PySem.W.Frag) (C : Addr) : Bool := xfB K C && ((PySem.W.clsIn K C).isSome && (decide (PySem.W.findIn K (.ref C) "__class__" = some (some (.builtin "object.__class__"))) && (decide (PySem.W.specialIn K (.builtin "object.__class__") "__get__" = some (some (.builtin "getset_descriptor.__get__"))) && (decide (PySem.W.takesIn K (.builtin "object.__class__") = some true) && decide (PySem.W.mroIn K C (.type "object") = some true)))))
def ecBh (K : PySem.W.Frag) (C0 : Addr) (Cs : List Addr) : Bool := xcBh K C0 && (Cs.all (fun C => xcBh K C && (decide (PySem.W.kitOne K (.ref C) (.ref C0) = some true) && (decide (PySem.W.exmOne K (.ref C) (.ref C0) = some true) && decide (PySem.W.kitOne K (.ref C) (.type "ValueError") = some true)))) &&
  Cs.all fun C => Cs.all fun C' => decide (PySem.W.kitOne K (.ref C) (.ref C') = some (decide (C = C'))) && decide (PySem.W.exmOne K (.ref C) (.ref C') = some (decide (C = C'))))
end HdX
namespace HdL
open PySem PySem.Spec PyProof.Rows L2
def topS (i : Nat) : Stmt := PySem.Challenge.pw_taglook_k32_asked_in_order.main.body.getD i (.Pass ⟨0, 0, 0, 0⟩)
abbrev R : PySem.W.OpenRow := PySem.W.OpenLaw.row PySem.Challenge.rw_taglook_k32_asked_in_order
abbrev qv : Program := PySem.W.view R.prog [11]
def names : List Str := (["paper_of", "found_all", "wrong_at", "_law_mix", "_law_drawn", "_law_names", "_law_table", "_law_paper", "_law_cut_short"] : List Str)
def as : List Addr := ([2, 3, 6, 15, 17, 18, 20, 21, 22, 25, 26, 27, 29, 30, 32, 33, 34, 36, 37, 39, 40, 41, 43, 44, 46, 47, 48, 51, 52, 53, 55, 56, 58, 59, 60, 62, 63, 65, 66, 67, 70, 71, 72, 75, 76] : List Addr)
def tabs : List Addr := [73]
theorem apart : ∀ T ∈ tabs, T ∉ as := by decide
def lsA (K : PySem.W.Frag) : List (Option (Option Value)) := [PySem.W.nsIn K mainGlobals "found_all", PySem.W.nsIn K mainGlobals "paper_of", PySem.W.nsIn K mainGlobals "wrong_at", PySem.W.nsIn K mainGlobals "_law_mix", PySem.W.nsIn K mainGlobals "_law_drawn", PySem.W.nsIn K mainGlobals "_law_names", PySem.W.nsIn K mainGlobals "_law_table", PySem.W.nsIn K mainGlobals "_law_paper", PySem.W.nsIn K mainGlobals "_law_cut_short", PySem.W.nsIn K mainGlobals "law", PySem.W.nsIn K mainGlobals "tuple", PySem.W.nsIn K mainGlobals "len", PySem.W.nsIn K mainGlobals "range", PySem.W.nsIn K mainGlobals "min"]
def rsA : List (Option (Option Value)) := [some (some (.ref 26)), some (some (.ref 21)), some (some (.ref 33)), some (some (.ref 40)), some (some (.ref 47)), some (some (.ref 52)), some (some (.ref 59)), some (some (.ref 66)), some (some (.ref 71)), some (some (.ref 76)), some none, some none, some none, some none]
def lsB (K : PySem.W.Frag) : List Bool := [HdX.cdB K 26 "found_all", PySem.W.keepIn K (.ref 26), HdX.cdB K 21 "paper_of", PySem.W.keepIn K (.ref 21), HdX.cdB K 33 "wrong_at", PySem.W.keepIn K (.ref 33), HdX.cdB K 40 "_law_mix", PySem.W.keepIn K (.ref 40), HdX.cdB K 47 "_law_drawn", PySem.W.keepIn K (.ref 47), HdX.cdB K 52 "_law_names", PySem.W.keepIn K (.ref 52), HdX.cdB K 59 "_law_table", PySem.W.keepIn K (.ref 59), HdX.cdB K 66 "_law_paper", PySem.W.keepIn K (.ref 66), HdX.cdB K 71 "_law_cut_short", PySem.W.keepIn K (.ref 71), HdX.cdR K 76 75 "law", PySem.W.codeHdIn K 75 73, PySem.W.keepIn K (.ref 76)]
def lsC (K : PySem.W.Frag) : List HdX.FnV := [HdX.fnAt K 26, HdX.fnAt K 21, HdX.fnAt K 33, HdX.fnAt K 40, HdX.fnAt K 47, HdX.fnAt K 52, HdX.fnAt K 59, HdX.fnAt K 66, HdX.fnAt K 71, HdX.fnAt K 76]
def rsC : List HdX.FnV := [HdX.fnV "found_all" "found_all" (topS 2) .none, HdX.fnV "paper_of" "paper_of" (topS 1) .none, HdX.fnV "wrong_at" "wrong_at" (topS 3) .none, HdX.fnV "_law_mix" "_law_mix" (topS 5) .none, HdX.fnV "_law_drawn" "_law_drawn" (topS 6) .none, HdX.fnV "_law_names" "_law_names" (topS 7) .none, HdX.fnV "_law_table" "_law_table" (topS 8) .none, HdX.fnV "_law_paper" "_law_paper" (topS 9) .none, HdX.fnV "_law_cut_short" "_law_cut_short" (topS 10) .none, HdX.fnV "law" "law" (topS 11) .none]
def obs (K : PySem.W.Frag) : List (Option (Option Value)) × Bool × List HdX.FnV := (lsA K, (lsB K).all id, lsC K)
def val : List (Option (Option Value)) × Bool × List HdX.FnV := (rsA, true, rsC)
def hk : PySem.W.Hook := HdX.hookZ as tabs apart obs val
set_option maxHeartbeats 0 in
theorem run1 (w : World) : HdX.RunP R 450 (HdX.seenT R qv names w) (true, PySem.W.openGood qv names) w := by
  intro os
  kernel_rfl
set_option maxHeartbeats 0 in
theorem run2 (w : World) : HdX.RunP R 450 (HdX.obT as tabs obs) (val, tabs.map fun _ => some (PySem.W.tabObj #[])) w := by
  intro os
  kernel_rfl
end HdL
section
open PySem PySem.W PySem.Calls PyProof.Rows
set_option maxHeartbeats 0 in
theorem HdL.head (call : WalkO HdL.qv HdL.names (XL HdL.qv []) HdL.hk.says HdL.R.toRowW (HandSHeadRun.topDef HdL.R.prog 11) [] fun f vs => PySem.call f vs) : PySem.Challenge.rw_taglook_k32_asked_in_order.Holds := by
  w_on; o_law
  refine HandSHeadRun.head_any (r := HdL.R) (q := HdL.qv) (H := HdL.hk) (ob := HdX.obT HdL.as HdL.tabs HdL.obs) (M := 450) (loose := HdL.names) (d := HandSHeadRun.topDef HdL.R.prog 11) (kwd := []) (fun s => HdX.obT_eq s) (by kernel_rfl) (fun s => by kernel_rfl) (fun w => HdX.run_eq (HdL.run1 w) (HdL.run2 w)) (by kernel_rfl) (by kernel_rfl) (by kernel_rfl) (by rfl) (by first | assumption | decide +kernel) (by decide +kernel) ⟨rfl, rfl, rfl, rfl, rfl, by decide +kernel⟩ ?hw call
  case hw => w_witness2
in #guard_msgs in open Nat
end
/-! The engine: one lemma a reading, so that a body is walked by «refine» alone. -/
namespace Tg
open PySem PySem.Spec L2
section
variable {K : PySem.W.Frag} {σ σ' : St} {H : Hp} {Q : VK} {n b c : St → Hp → Prop} {r : VK} {te ta tb tc : TE} {t u : TS} {tt tu : TT} {v x y : V}
/-! ### statements -/
theorem w_seq (h : t ⟨u ⟨n, r, b, c⟩, r, b, c⟩ σ H) : tSeq t u ⟨n, r, b, c⟩ σ H := h
theorem w_next (h : n σ H) : tNext ⟨n, r, b, c⟩ σ H := h
theorem w_brk (h : b σ H) : tBreak ⟨n, r, b, c⟩ σ H := h
theorem w_cont (h : c σ H) : tCont ⟨n, r, b, c⟩ σ H := h
theorem w_asg {g : TG} (h : te σ H fun x H1 => g x σ H1 n) : tAsg te g ⟨n, r, b, c⟩ σ H := h
theorem w_ret (h : te σ H r) : tRet te ⟨n, r, b, c⟩ σ H := h
theorem w_retN (h : r .non H) : tRetN ⟨n, r, b, c⟩ σ H := h
theorem w_drop (h : te σ H fun _ H1 => n σ H1) : tDrop te ⟨n, r, b, c⟩ σ H := h
theorem w_if (h : tt σ H fun k H1 => if k = true then t ⟨n, r, b, c⟩ σ H1 else u ⟨n, r, b, c⟩ σ H1) : tIfS tt t u ⟨n, r, b, c⟩ σ H := h
theorem w_aug {i : Nat} {ti : TIp} (hx : σ[i]? = some (some x)) (h : te σ H fun y H1 => ti x y H1 fun z H2 => n (σ.set i (some z)) H2) : tAug i te ti ⟨n, r, b, c⟩ σ H := ⟨x, hx, h⟩
in #guard_msgs in open Nat
theorem w_ipI {f : Int → Int → Int} {i j : Int} (h : Q (.int (f i j)) H) : ipI f (.int i) (.int j) H Q := ⟨i, j, rfl, rfl, h⟩
/-! ### targets -/
theorem w_name {i : Nat} {Qs : St → Hp → Prop} (h : Qs (σ.set i (some v)) H) : gName i v σ H Qs := h
theorem w_gnil {Qs : St → Hp → Prop} (h : Qs σ H) : gNil [] σ H Qs := ⟨rfl, h⟩
theorem w_gcons {g : TG} {gs : TGs} {vs : List V} {Qs : St → Hp → Prop} (h : g v σ H fun σ' H' => gs vs σ' H' Qs) : gCons g gs (v :: vs) σ H Qs := ⟨v, vs, rfl, h⟩
in #guard_msgs in open Nat
theorem w_gtup {k : Nat} {gs : TGs} {a : Addr} {vs : List V} {Qs : St → Hp → Prop} (hS : SqT K H a vs) (hl : vs.length = k) (h : gs vs σ H Qs) : gTup K k gs (.ref a) σ H Qs := ⟨a, vs, rfl, hS, hl, h⟩
in #guard_msgs in open Nat
/-! ### values -/
theorem w_var {i : Nat} (hx : σ[i]? = some (some v)) (h : Q v H) : tVar i σ H Q := ⟨v, hx, h⟩
theorem w_c (h : Q v H) : tC v σ H Q := h
theorem w_op {o : R2} (h : ta σ H fun x H1 => tb σ H1 fun y H2 => o x y H2 Q) : tOp o ta tb σ H Q := h
theorem w_un {o : V → Hp → VK → Prop} (h : ta σ H fun x H1 => o x H1 Q) : tUn o ta σ H Q := h
theorem w_rI0 {g : Int → Int → V} {i j : Int} (h : Q (g i j) H) : rI0 g (.int i) (.int j) H Q := ⟨i, j, rfl, rfl, h⟩
theorem w_rI {C : Int → Int → Prop} {g : Int → Int → V} {i j : Int} (hc : C i j) (h : Q (g i j) H) : rI C g (.int i) (.int j) H Q := ⟨i, j, rfl, rfl, hc, h⟩
theorem w_rU {g : Int → V} {i : Int} (h : Q (g i) H) : rU g (.int i) H Q := ⟨i, rfl, h⟩
theorem w_rEq (hs : scal x y = true) (h : Q (.bl (decide (x = y))) H) : rEq x y H Q := ⟨hs, h⟩
theorem w_rNe (hs : scal x y = true) (h : Q (.bl (!decide (x = y))) H) : rNe x y H Q := ⟨hs, h⟩
def NewT (Q : VK) (xs : List V) (H1 : Hp) : Prop := xs.length ≤ sizeLine ∧ ∀ p, H1 p = none → Q (.ref p) (upd H1 p (.tup xs))
def NewL (Q : VK) (xs : List V) (H1 : Hp) : Prop := xs.length ≤ sizeLine ∧ ∀ p, H1 p = none → Q (.ref p) (upd H1 p (.lst xs))
theorem w_tup {ts : TA} (h : ts σ H fun xs H1 => NewT Q xs H1) : tTup ts σ H Q := h
theorem w_lst {ts : TA} (h : ts σ H fun xs H1 => NewL Q xs H1) : tLst ts σ H Q := h
theorem same_upd {H : Hp} {p : Addr} {o : HO} (h : H p = none) : Same H (upd H p o) := fun b x e => by
  rw [upd_ne (ne_of_none e h)]
  exact e
/-- a new object: the heap behind is any that keeps what was and has it -/
theorem w_newT {xs : List V} (h1 : xs.length ≤ sizeLine) (h : ∀ p H', H p = none → Same H H' → H' p = some (.tup xs) → Q (.ref p) H') : NewT Q xs H := ⟨h1, fun p np => h p _ np (same_upd np) upd_same⟩
in #guard_msgs in open Nat
theorem w_newL {xs : List V} (h1 : xs.length ≤ sizeLine) (h : ∀ p H', H p = none → Same H H' → H' p = some (.lst xs) → Q (.ref p) H') : NewL Q xs H := ⟨h1, fun p np => h p _ np (same_upd np) upd_same⟩
in #guard_msgs in open Nat
theorem w_ifE (h : tt σ H fun k H1 => if k = true then ta σ H1 Q else tb σ H1 Q) : tIf tt ta tb σ H Q := h
theorem w_andV (h : ta σ H fun x H1 => ∃ k, x = .bl k ∧ if k = true then tb σ H1 Q else Q (.bl false) H1) : tAndV ta tb σ H Q := h
theorem w_orV (h : ta σ H fun x H1 => ∃ k, x = .bl k ∧ if k = true then Q (.bl true) H1 else tb σ H1 Q) : tOrV ta tb σ H Q := h
theorem w_notV (h : ta σ H fun x H1 => ∃ k, x = .bl k ∧ Q (.bl (!k)) H1) : tNotV ta σ H Q := h
theorem w_bl {k : Bool} {P : Bool → Prop} (h : P k) : ∃ k', V.bl k = .bl k' ∧ P k' := ⟨k, rfl, h⟩
theorem w_ixL {p : Addr} {xs : List V} {i : Int} (hS : SqL K H p xs) (ha : atI xs i = some v) (h : Q v H) : rIxL K (.ref p) (.int i) H Q := ⟨p, xs, i, v, rfl, rfl, hS, ha, h⟩
in #guard_msgs in open Nat
theorem w_ixT {p : Addr} {xs : List V} {i : Int} (hS : SqT K H p xs) (ha : atI xs i = some v) (h : Q v H) : rIxT K (.ref p) (.int i) H Q := ⟨p, xs, i, v, rfl, rfl, hS, ha, h⟩
in #guard_msgs in open Nat
theorem w_ixS {z : Str} {i : Int} {c : Nat} (hl : z.length ≤ sizeLine) (ha : atI z.cps.toList i = some c) (h : Q (.str ⟨#[c]⟩) H) : rIxS (.str z) (.int i) H Q := ⟨z, i, c, rfl, rfl, hl, ha, h⟩
in #guard_msgs in open Nat
theorem w_fld {f : Str} (h : ta σ H fun x H1 => ∃ a C dx fs v, x = .ref a ∧ H1 a = some (.ins C dx fs) ∧ Cls K C ∧ NoAttr K C f ∧ fs.lookup f = some v ∧ Q v H1) : tFld K ta f σ H Q := h
in #guard_msgs in open Nat
theorem w_ins {a C dx : Addr} {fs : List (Str × V)} {f : Str} (hp : H a = some (.ins C dx fs)) (hc : Cls K C) (hn : NoAttr K C f) (hl : fs.lookup f = some v) (h : Q v H) :
    ∃ a' C dx fs v', V.ref a = .ref a' ∧ H a' = some (.ins C dx fs) ∧ Cls K C ∧ NoAttr K C f ∧ fs.lookup f = some v' ∧ Q v' H := ⟨a, C, dx, fs, v, rfl, hp, hc, hn, hl, h⟩
in #guard_msgs in open Nat
/-! ### slices -/
theorem w_sl {o : V → Option Int → Option Int → Hp → VK → Prop} {tl th : TO} (h : te σ H fun x H1 => tl σ H1 fun l H2 => th σ H2 fun u H3 => o x l u H3 Q) : tSl o te tl th σ H Q := h
in #guard_msgs in open Nat
theorem w_nopart {Qo : Option Int → Hp → Prop} (h : Qo none H) : tNoPart σ H Qo := h
theorem w_part {Qo : Option Int → Hp → Prop} (h : te σ H fun x H1 => ∃ i, x = .int i ∧ Qo (some i) H1) : tPart te σ H Qo := h
theorem w_int {i : Int} {P : Int → Prop} (h : P i) : ∃ i', V.int i = .int i' ∧ P i' := ⟨i, rfl, h⟩
theorem w_str {z : Str} {P : Str → Prop} (h : P z) : ∃ z', V.str z = .str z' ∧ P z' := ⟨z, rfl, h⟩
theorem w_slL {a : Addr} {xs : List V} {lo hi : Option Int} (hS : SqL K H a xs) (h : ∀ p H', H p = none → Same H H' → H' p = some (.lst (cutV xs lo hi)) → Q (.ref p) H') : rSlL K (.ref a) lo hi H Q := ⟨a, xs, rfl, hS, fun p np => h p _ np (same_upd np) upd_same⟩
in #guard_msgs in open Nat
theorem w_slS {z : Str} {lo hi : Option Int} (hl : z.length ≤ sizeLine) (h : Q (.str (cutS z lo hi)) H) : rSlS (.str z) lo hi H Q := ⟨z, rfl, hl, h⟩
/-! ### tests -/
theorem w_test (h : te σ H fun x H' => ∃ k, x = .bl k ∧ Q (.bl k) H') : te σ H fun x H' => ∃ k, x = .bl k ∧ Q (.bl k) H' := h
theorem w_tTest {Qb : Bool → Hp → Prop} (h : te σ H fun x H' => ∃ k, x = .bl k ∧ Qb k H') : tTest te σ H Qb := h
theorem w_tB {Qb : Bool → Hp → Prop} (h : te σ H fun x H' => ∃ k, x = .bl k ∧ Qb k H') : tB te σ H Qb := h
theorem w_tAnd {Qb : Bool → Hp → Prop} (h : tt σ H fun k H1 => if k = true then tu σ H1 Qb else Qb false H1) : tAnd tt tu σ H Qb := h
theorem w_tOr {Qb : Bool → Hp → Prop} (h : tt σ H fun k H1 => if k = true then Qb true H1 else tu σ H1 Qb) : tOr tt tu σ H Qb := h
theorem w_tNot {Qb : Bool → Hp → Prop} (h : tt σ H fun k H1 => Qb (!k) H1) : tNot tt σ H Qb := h
theorem w_chain {o o' : R2} (h : ta σ H fun x H1 => tb σ H1 fun y H2 => o x y H2 fun z H3 => ∃ k, z = .bl k ∧ (if k = true then tc σ H3 fun w' H4 => o' y w' H4 Q else Q (.bl false) H3)) : tChain o o' ta tb tc σ H Q := h
in #guard_msgs in open Nat
theorem w_isN (h : ta σ H fun x H1 => Q (.bl (decide (x = .non))) H1) : tIsN ta σ H Q := h
theorem w_notN (h : ta σ H fun x H1 => Q (.bl (!decide (x = .non))) H1) : tNotN ta σ H Q := h
theorem w_ite {k : Bool} {A B : Prop} (h1 : k = true → A) (h2 : k = false → B) : if k = true then A else B := by
  cases k
  · rw [if_neg Bool.false_ne_true]; exact h2 rfl
  · rw [if_pos rfl]; exact h1 rfl
in #guard_msgs in open Nat
theorem w_iteT {k : Bool} {A B : Prop} (e : k = true) (h : A) : if k = true then A else B := by rw [if_pos e]; exact h
theorem w_iteF {k : Bool} {A B : Prop} (e : k = false) (h : B) : if k = true then A else B := by rw [e, if_neg Bool.false_ne_true]; exact h
/-! ### calls -/
theorem w_nil {Qa : List V → Hp → Prop} (h : Qa [] H) : tNil σ H Qa := h
theorem w_cons {tr : TA} {Qa : List V → Hp → Prop} (h : ta σ H fun x H1 => tr σ H1 fun xs H2 => Qa (x :: xs) H2) : tCons ta tr σ H Qa := h
theorem w_call {sp : Sp} {dvs : List V} {E : XK} {ts : TA} (h : ts σ H fun vs H1 => sp (vs ++ dvs) H1 Q E) : tCall sp dvs E ts σ H Q := h
theorem w_cb {o : List V → Hp → VK → Prop} {ts : TA} (h : ts σ H fun vs H1 => o vs H1 Q) : tCB o ts σ H Q := h
theorem w_meth {C a dx : Addr} {m : Str} {sp : Sp} {dvs : List V} {E : XK} {ts : TA} {fs : List (Str × V)} (h : ta σ H fun x H1 => ∃ a dx fs, x = .ref a ∧ H1 a = some (.ins C dx fs) ∧ fs.lookup m = none ∧ ts σ H1 fun vs H2 => sp (x :: (vs ++ dvs)) H2 Q E) :
    tMeth C m sp dvs E ta ts σ H Q := h
in #guard_msgs in open Nat
theorem w_bm {T : String} {o : V → List V → Hp → VK → Prop} {ts : TA} (h : ta σ H fun x H1 => tyV K T x H1 ∧ ts σ H1 fun xs H2 => o x xs H2 Q) : tBM K T o ta ts σ H Q := h
in #guard_msgs in open Nat
theorem w_bm0 {T : String} {o : V → List V → Hp → VK → Prop} (h : ta σ H fun x H1 => tyV K T x H1 ∧ o x [] H1 Q) : tBM0 K T o ta σ H Q := h
/-! ### loops -/
def ForL (K : PySem.W.Frag) (x : V) (g : TG) (tb : TS) (D : Ends) (σ : St) (H : Hp) : Prop := ∃ a, x = .ref a ∧ (∃ xs, SqL K H a xs) ∧ ∃ W : Nat → Nat → St → Hp → Prop, (∃ m, W 0 m σ H) ∧ ∀ i m σ H, W i m σ H →
      ((Itl K a).stop i H ∧ D.nx σ H) ∨ ((Itl K a).go i H ∧ ∃ N : St → Hp → Prop, (∀ σ' H', N σ' H' → ∃ m', m' < m ∧ W (i + 1) m' σ' H') ∧ ∀ x H', (Itl K a).yld i H x H' → g x σ H' fun σ2 H2 => tb { D with nx := N, ct := N, bk := D.nx } σ2 H2)
theorem w_forL {tl : TE} {g : TG} {D : Ends} (h : tl σ H fun x H1 => ForL K x g t D σ H1) : tFor (iList K tl) g t D σ H := h
theorem forL {a : Addr} {xs : List V} {g : TG} (hS : SqL K H a xs) (Pv : Nat → St → Hp → Prop) (h0 : Pv 0 σ H) (hl : ∀ i σ H, i ≤ xs.length → Pv i σ H → SqL K H a xs)
    (hs : ∀ i x σ H, xs[i]? = some x → Pv i σ H → g x σ H fun σ2 H2 => t ⟨Pv (i + 1), r, n, Pv (i + 1)⟩ σ2 H2) (hd : ∀ σ H, Pv xs.length σ H → n σ H) : ForL K (.ref a) g t ⟨n, r, b, c⟩ σ H :=
  ⟨a, rfl, ⟨xs, hS⟩, for_list (K := K) (a := a) (xs := xs) Pv h0 hl hs hd⟩
in #guard_msgs in open Nat
def ForT (K : PySem.W.Frag) (x : V) (g : TG) (tb : TS) (D : Ends) (σ : St) (H : Hp) : Prop := ∃ a, x = .ref a ∧ (∃ xs, SqT K H a xs) ∧ ∃ W : Nat → Nat → St → Hp → Prop, (∃ m, W 0 m σ H) ∧ ∀ i m σ H, W i m σ H →
      ((Itt K a).stop i H ∧ D.nx σ H) ∨ ((Itt K a).go i H ∧ ∃ N : St → Hp → Prop, (∀ σ' H', N σ' H' → ∃ m', m' < m ∧ W (i + 1) m' σ' H') ∧ ∀ x H', (Itt K a).yld i H x H' → g x σ H' fun σ2 H2 => tb { D with nx := N, ct := N, bk := D.nx } σ2 H2)
theorem w_forT {tl : TE} {g : TG} {D : Ends} (h : tl σ H fun x H1 => ForT K x g t D σ H1) : tFor (iTup K tl) g t D σ H := h
theorem forT {a : Addr} {xs : List V} {g : TG} (hS : SqT K H a xs) (Pv : Nat → St → Hp → Prop) (h0 : Pv 0 σ H) (hl : ∀ i σ H, i ≤ xs.length → Pv i σ H → SqT K H a xs)
    (hs : ∀ i x σ H, xs[i]? = some x → Pv i σ H → g x σ H fun σ2 H2 => t ⟨Pv (i + 1), r, n, Pv (i + 1)⟩ σ2 H2) (hd : ∀ σ H, Pv xs.length σ H → n σ H) : ForT K (.ref a) g t ⟨n, r, b, c⟩ σ H :=
  ⟨a, rfl, ⟨xs, hS⟩, for_tup (K := K) (a := a) (xs := xs) Pv h0 hl hs hd⟩
in #guard_msgs in open Nat
def ForR (lo : Int) (m : Nat) (g : TG) (tb : TS) (D : Ends) (σ : St) (H : Hp) : Prop := ∃ W : Nat → Nat → St → Hp → Prop, (∃ m, W 0 m σ H) ∧ ∀ i m' σ H, W i m' σ H →
      ((Itr lo m).stop i H ∧ D.nx σ H) ∨ ((Itr lo m).go i H ∧ ∃ N : St → Hp → Prop, (∀ σ' H', N σ' H' → ∃ m'', m'' < m' ∧ W (i + 1) m'' σ' H') ∧ ∀ x H', (Itr lo m).yld i H x H' → g x σ H' fun σ2 H2 => tb { D with nx := N, ct := N, bk := D.nx } σ2 H2)
theorem w_forR1 {ts : TA} {g : TG} {D : Ends} (h : ts σ H fun vs H1 => ∃ j : Int, vs = [.int j] ∧ -(2 ^ 62) ≤ j ∧ j < 2 ^ 62 ∧ ForR 0 j.toNat g t D σ H1) : tFor (iRng1 ts) g t D σ H := h
in #guard_msgs in open Nat
theorem w_forR2 {ts : TA} {g : TG} {D : Ends} (h : ts σ H fun vs H1 => ∃ i j : Int, vs = [.int i, .int j] ∧ (-(2 ^ 62) ≤ i ∧ i < 2 ^ 62 ∧ -(2 ^ 62) ≤ j ∧ j < 2 ^ 62) ∧ ForR i (j - i).toNat g t D σ H1) : tFor (iRng2 ts) g t D σ H := h
in #guard_msgs in open Nat
theorem forR {lo : Int} {m : Nat} {g : TG} (Pv : Nat → St → Hp → Prop) (h0 : Pv 0 σ H)
    (hs : ∀ i σ H, i < m → Pv i σ H → g (.int (lo + i)) σ H fun σ2 H2 => t ⟨Pv (i + 1), r, n, Pv (i + 1)⟩ σ2 H2) (hd : ∀ σ H, Pv m σ H → n σ H) : ForR lo m g t ⟨n, r, b, c⟩ σ H :=
  for_range (lo := lo) (n := m) Pv h0 hs hd
in #guard_msgs in open Nat
def ForS (z : Str) (g : TG) (tb : TS) (D : Ends) (σ : St) (H : Hp) : Prop := ∃ W : Nat → Nat → St → Hp → Prop, (∃ m, W 0 m σ H) ∧ ∀ i m' σ H, W i m' σ H →
      ((Its z).stop i H ∧ D.nx σ H) ∨ ((Its z).go i H ∧ ∃ N : St → Hp → Prop, (∀ σ' H', N σ' H' → ∃ m'', m'' < m' ∧ W (i + 1) m'' σ' H') ∧ ∀ x H', (Its z).yld i H x H' → g x σ H' fun σ2 H2 => tb { D with nx := N, ct := N, bk := D.nx } σ2 H2)
theorem w_forS {tl : TE} {g : TG} {D : Ends} (h : tl σ H fun x H1 => ∃ z, x = .str z ∧ ForS z g t D σ H1) : tFor (iStr tl) g t D σ H := h
theorem forS {z : Str} {g : TG} (Pv : Nat → St → Hp → Prop) (h0 : Pv 0 σ H)
    (hs : ∀ i k σ H, z.cps.toList[i]? = some k → Pv i σ H → g (.str ⟨#[k]⟩) σ H fun σ2 H2 => t ⟨Pv (i + 1), r, n, Pv (i + 1)⟩ σ2 H2) (hd : ∀ σ H, Pv z.cps.toList.length σ H → n σ H) : ForS z g t ⟨n, r, b, c⟩ σ H := by
  refine ⟨fun i m σ H => m = z.cps.size - i ∧ i ≤ z.cps.size ∧ Pv i σ H, ⟨z.cps.size, by simp, Nat.zero_le _, h0⟩, ?_⟩
  rintro i m σ H ⟨rfl, hi, p⟩
  by_cases hlt : i < z.cps.size
  · refine .inr ⟨hlt, Pv (i + 1), fun σ' H' p' => ⟨z.cps.size - (i + 1), by omega, rfl, hlt, p'⟩, fun x H' y => ?_⟩
    obtain ⟨e, k, ek, rfl⟩ := y
    subst e
    exact hs i k σ _ (by rw [Array.getElem?_toList]; exact ek) p
  · have e : i = z.cps.size := by omega
    subst e
    exact .inl ⟨Nat.le_refl _, hd σ H (by rw [Array.length_toList]; exact p)⟩
in #guard_msgs in open Nat
/-! ### comprehensions -/
def LcL (K : PySem.W.Frag) (x : V) (g : TG) (tt : TT) (te : TE) (vs : List Nat) (σ : St) (H1 : Hp) (Q : VK) : Prop := ∃ a, x = .ref a ∧ (∃ xs, SqL K H1 a xs) ∧ ∀ D, H1 D = none → ∃ W : Nat → Nat → Hp → Prop, (∃ m, W 0 m (upd H1 D (.lst []))) ∧ ∀ i m H, W i m H →
  ((Itl K a).stop i H ∧ Q (.ref D) H) ∨ ((Itl K a).go i H ∧ ∃ Nx : Hp → Prop, (∀ H', Nx H' → ∃ m', m' < m ∧ W (i + 1) m' H') ∧ ∀ x H', (Itl K a).yld i H x H' → g x (wipe σ vs) H' fun σ2 H2 => wipe σ2 vs = wipe σ vs ∧ tt σ2 H2 fun b H3 =>
    if b = true then te σ2 H3 fun y H4 => ∃ acc, H4 D = some (.lst acc) ∧ acc.length < sizeLine ∧ Nx (upd H4 D (.lst (acc ++ [y]))) else Nx H3)
theorem w_lcL {tl : TE} {g : TG} {vs : List Nat} (h : tl σ H fun x H1 => LcL K x g tt te vs σ H1 Q) : tLc (iList K tl) g tt te vs σ H Q := h
theorem lcL {a : Addr} {xs : List V} {g : TG} {vs : List Nat} (hS : SqL K H a xs) (Pv : Addr → Nat → Hp → Prop) (h0 : ∀ D, H D = none → Pv D 0 (upd H D (.lst []))) (hl : ∀ D i H, i ≤ xs.length → Pv D i H → SqL K H a xs)
    (hs : ∀ D i x H, xs[i]? = some x → Pv D i H → g x (wipe σ vs) H fun σ2 H2 => wipe σ2 vs = wipe σ vs ∧ tt σ2 H2 fun b H3 =>
      if b = true then te σ2 H3 fun y H4 => ∃ acc, H4 D = some (.lst acc) ∧ acc.length < sizeLine ∧ Pv D (i + 1) (upd H4 D (.lst (acc ++ [y]))) else Pv D (i + 1) H3) (hd : ∀ D H', H D = none → Pv D xs.length H' → Q (.ref D) H') : LcL K (.ref a) g tt te vs σ H Q :=
  ⟨a, rfl, ⟨xs, hS⟩, fun D hD => lc_list (K := K) (a := a) (xs := xs) (Qd := fun H' => Q (.ref D) H') (Pv D) (h0 D hD) (hl D) (hs D) (fun H' => hd D H' hD)⟩
in #guard_msgs in open Nat
def LcR (lo : Int) (k : Nat) (g : TG) (tt : TT) (te : TE) (vs : List Nat) (σ : St) (H1 : Hp) (Q : VK) : Prop := ∀ D, H1 D = none → ∃ W : Nat → Nat → Hp → Prop, (∃ m, W 0 m (upd H1 D (.lst []))) ∧ ∀ i m H, W i m H →
  ((Itr lo k).stop i H ∧ Q (.ref D) H) ∨ ((Itr lo k).go i H ∧ ∃ Nx : Hp → Prop, (∀ H', Nx H' → ∃ m', m' < m ∧ W (i + 1) m' H') ∧ ∀ x H', (Itr lo k).yld i H x H' → g x (wipe σ vs) H' fun σ2 H2 => wipe σ2 vs = wipe σ vs ∧ tt σ2 H2 fun b H3 =>
    if b = true then te σ2 H3 fun y H4 => ∃ acc, H4 D = some (.lst acc) ∧ acc.length < sizeLine ∧ Nx (upd H4 D (.lst (acc ++ [y]))) else Nx H3)
theorem w_lcR1 {ts : TA} {g : TG} {vs : List Nat} (h : ts σ H fun ws H1 => ∃ j : Int, ws = [.int j] ∧ -(2 ^ 62) ≤ j ∧ j < 2 ^ 62 ∧ LcR 0 j.toNat g tt te vs σ H1 Q) : tLc (iRng1 ts) g tt te vs σ H Q := h
in #guard_msgs in open Nat
theorem lcR {lo : Int} {k : Nat} {g : TG} {vs : List Nat} (Pv : Addr → Nat → Hp → Prop) (h0 : ∀ D, H D = none → Pv D 0 (upd H D (.lst [])))
    (hs : ∀ D i H, i < k → Pv D i H → g (.int (lo + i)) (wipe σ vs) H fun σ2 H2 => wipe σ2 vs = wipe σ vs ∧ tt σ2 H2 fun b H3 =>
      if b = true then te σ2 H3 fun y H4 => ∃ acc, H4 D = some (.lst acc) ∧ acc.length < sizeLine ∧ Pv D (i + 1) (upd H4 D (.lst (acc ++ [y]))) else Pv D (i + 1) H3) (hd : ∀ D H', H D = none → Pv D k H' → Q (.ref D) H') : LcR lo k g tt te vs σ H Q :=
  fun D hD => lc_range (Qd := fun H' => Q (.ref D) H') (Pv D) (h0 D hD) (hs D) (fun H' => hd D H' hD)
in #guard_msgs in open Nat
def LcS (z : Str) (g : TG) (tt : TT) (te : TE) (vs : List Nat) (σ : St) (H1 : Hp) (Q : VK) : Prop := ∀ D, H1 D = none → ∃ W : Nat → Nat → Hp → Prop, (∃ m, W 0 m (upd H1 D (.lst []))) ∧ ∀ i m H, W i m H →
  ((Its z).stop i H ∧ Q (.ref D) H) ∨ ((Its z).go i H ∧ ∃ Nx : Hp → Prop, (∀ H', Nx H' → ∃ m', m' < m ∧ W (i + 1) m' H') ∧ ∀ x H', (Its z).yld i H x H' → g x (wipe σ vs) H' fun σ2 H2 => wipe σ2 vs = wipe σ vs ∧ tt σ2 H2 fun b H3 =>
    if b = true then te σ2 H3 fun y H4 => ∃ acc, H4 D = some (.lst acc) ∧ acc.length < sizeLine ∧ Nx (upd H4 D (.lst (acc ++ [y]))) else Nx H3)
theorem w_lcS {tl : TE} {g : TG} {vs : List Nat} (h : tl σ H fun x H1 => ∃ z, x = .str z ∧ LcS z g tt te vs σ H1 Q) : tLc (iStr tl) g tt te vs σ H Q := by
  have h' : tl σ H fun x H1 => ∃ z, x = .str z ∧ LcS z g tt te vs σ H1 Q := h
  exact h'
in #guard_msgs in open Nat
theorem lcS {z : Str} {g : TG} {vs : List Nat} (Pv : Addr → Nat → Hp → Prop) (h0 : ∀ D, H D = none → Pv D 0 (upd H D (.lst [])))
    (hs : ∀ D i k H, z.cps.toList[i]? = some k → Pv D i H → g (.str ⟨#[k]⟩) (wipe σ vs) H fun σ2 H2 => wipe σ2 vs = wipe σ vs ∧ tt σ2 H2 fun b H3 =>
      if b = true then te σ2 H3 fun y H4 => ∃ acc, H4 D = some (.lst acc) ∧ acc.length < sizeLine ∧ Pv D (i + 1) (upd H4 D (.lst (acc ++ [y]))) else Pv D (i + 1) H3) (hd : ∀ D H', H D = none → Pv D z.cps.toList.length H' → Q (.ref D) H') : LcS z g tt te vs σ H Q := by
  intro D hD
  refine ⟨fun i m H => m = z.cps.size - i ∧ i ≤ z.cps.size ∧ Pv D i H, ⟨z.cps.size, by simp, Nat.zero_le _, h0 D hD⟩, ?_⟩
  rintro i m H ⟨rfl, hi, p⟩
  by_cases hlt : i < z.cps.size
  · refine .inr ⟨hlt, Pv D (i + 1), fun H' p' => ⟨z.cps.size - (i + 1), by omega, rfl, hlt, p'⟩, fun x H' y => ?_⟩
    obtain ⟨e, k, ek, rfl⟩ := y
    subst e
    exact hs D i k _ (by rw [Array.getElem?_toList]; exact ek) p
  · have e : i = z.cps.size := by omega
    subst e
    exact .inl ⟨Nat.le_refl _, hd D H hD (by rw [Array.length_toList]; exact p)⟩
in #guard_msgs in open Nat
end
/-! ### heaps -/
theorem same_new {H H1 : Hp} {p : Addr} {o : HO} (s : Same H H1) (h : H1 p = none) : Same H (upd H1 p o) := s.trans (same_upd h)
/-- an object that H does not know may change -/
theorem same_mut {H H1 : Hp} {p : Addr} {o : HO} (s : Same H H1) (h : H p = none) : Same H (upd H1 p o) := fun b x e => by
  rw [upd_ne (ne_of_none e h)]
  exact s b x e
in #guard_msgs in open Nat
theorem Sq_of {K : PySem.W.Frag} {H : Hp} {a : Addr} {xs : List V} (h : H a = some (.lst xs)) : SqL K H a xs := Or.inl (Or.inl h)
theorem St_of {K : PySem.W.Frag} {H : Hp} {a : Addr} {xs : List V} (h : H a = some (.tup xs)) : SqT K H a xs := Or.inl (Or.inl h)
theorem small {n : Nat} (h : n ≤ 100000) : n ≤ sizeLine := Nat.le_trans h (by decide)
theorem smallL {n : Nat} (h : n < 100000) : n < sizeLine := Nat.lt_of_lt_of_le h (by decide)
theorem same_t {K : PySem.W.Frag} {H H' : Hp} {a : Addr} {xs : List V} (e : Same H H') (h : SqT K H a xs) : SqT K H' a xs := by
  rcases h with (h | ⟨o, h⟩) | h
  · exact .inl (.inl (e _ _ h))
  · exact .inl (.inr ⟨o, e _ _ h⟩)
  · exact .inr h
in #guard_msgs in open Nat
/-- a def of the text: what a caller is handed -/
structure Dk (P : Program) (w : World) (K : PySem.W.Frag) (mg : Str → Option Value) (base : Heap) (CX : CXT) (k : Nat) (f : Addr) (fd : FuncData) (x : Str) (ps : List Str) (ds : List Value) (sp : Sp) : Prop where
  F : FnOk P w K mg base CX k f fd ps sp
  g : mg x = some (.ref f)
  kp : PySem.W.keepIn K (.ref f) = true
  b : Binds K fd ps ds

section
variable {K : PySem.W.Frag} {H : Hp} {Q : VK} {x y v : V}
theorem w_isi {c : V} {t u : Value} {b : Bool} (k : ClsV c u) (ty : TyX K H x t) (e : PySem.W.kitOne K t u = some b) (h : Q (.bl b) H) : rIsi K [x, c] H Q := ⟨x, c, t, u, b, rfl, k, ty, e, h⟩
in #guard_msgs in open Nat
/-! rules under names, so that a reading shows which it is -/
def qLenS : List V → Hp → VK → Prop := fun xs H Q => ∃ z, xs = [.str z] ∧ z.length ≤ sizeLine ∧ Q (.int z.length) H
theorem call_lenS {X : Cx} : CallR X (.builtin "len") qLenS := call_len_str
theorem w_lenS {z : Str} (hl : z.length ≤ sizeLine) (h : Q (.int z.length) H) : qLenS [V.str z] H Q := ⟨z, rfl, hl, h⟩
def qLenQ (K : PySem.W.Frag) : List V → Hp → VK → Prop := fun xs H Q => ∃ p ys, xs = [.ref p] ∧ (SqL K H p ys ∨ SqT K H p ys) ∧ Q (.int ys.length) H
theorem call_lenQ {X : Cx} : CallR X (.builtin "len") (qLenQ X.K) := call_len_seq
theorem w_lenL {a : Addr} {xs : List V} (hS : SqL K H a xs) (h : Q (.int xs.length) H) : qLenQ K [V.ref a] H Q := ⟨a, xs, rfl, .inl hS, h⟩
theorem w_lenT {a : Addr} {xs : List V} (hS : SqT K H a xs) (h : Q (.int xs.length) H) : qLenQ K [V.ref a] H Q := ⟨a, xs, rfl, .inr hS, h⟩
def qAddS : R2 := fun x y H Q => ∃ i j, x = .str i ∧ y = .str j ∧ i.length + j.length ≤ sizeLine ∧ Q (.str (i ++ j)) H
theorem op_addS {X : Cx} : OpR X (binaryOp .Add) qAddS := op_add_str
theorem w_addS {a b : Str} (hl : a.length + b.length ≤ sizeLine) (h : Q (.str (a ++ b)) H) : qAddS (.str a) (.str b) H Q := ⟨a, b, rfl, rfl, hl, h⟩
def qInS : R2 := fun x y H Q => ∃ (c : Nat) (z : Str), x = .str ⟨#[c]⟩ ∧ y = .str z ∧ Q (.bl (decide (c ∈ z.cps.toList))) H
theorem op_inSg {X : Cx} : OpR X (compareOp .In) qInS := op_in_sign
theorem w_inS {k : Nat} {z : Str} (h : Q (.bl (decide (k ∈ z.cps.toList))) H) : qInS (.str ⟨#[k]⟩) (.str z) H Q := ⟨k, z, rfl, rfl, h⟩
def qNinS : R2 := fun x y H Q => ∃ (c : Nat) (z : Str), x = .str ⟨#[c]⟩ ∧ y = .str z ∧ Q (.bl (!decide (c ∈ z.cps.toList))) H
theorem op_ninSg {X : Cx} : OpR X (compareOp .NotIn) qNinS := op_notIn_sign
theorem w_ninS {k : Nat} {z : Str} (h : Q (.bl (!decide (k ∈ z.cps.toList))) H) : qNinS (.str ⟨#[k]⟩) (.str z) H Q := ⟨k, z, rfl, rfl, h⟩
def qMin : List V → Hp → VK → Prop := fun xs H Q => ∃ i j, xs = [.int i, .int j] ∧ Q (.int (if j < i then j else i)) H
theorem call_minI {X : Cx} (hc : X.calm = true) : CallR X (.builtin "min") qMin := call_min2 hc
theorem w_min {i j : Int} (h : Q (.int (if j < i then j else i)) H) : qMin [.int i, .int j] H Q := ⟨i, j, rfl, h⟩
def qIntB : List V → Hp → VK → Prop := fun xs H Q => (∃ i, xs = [.int i] ∧ Q (.int i) H) ∨ ∃ k, xs = [.bl k] ∧ Q (.int (if k then 1 else 0)) H
theorem call_intB {X : Cx} : CallR X (.type "int") qIntB := call_int1
theorem w_intB {k : Bool} (h : Q (.int (if k then 1 else 0)) H) : qIntB [.bl k] H Q := .inr ⟨k, rfl, h⟩
def qListOf (K : PySem.W.Frag) : List V → Hp → VK → Prop := fun xs H Q => ∃ p ys, xs = [.ref p] ∧ (SqL K H p ys ∨ SqT K H p ys) ∧ ∀ l, H l = none → Q (.ref l) (upd H l (.lst ys))
theorem call_listQ {X : Cx} : CallR X (.type "list") (qListOf X.K) := call_list_of
theorem w_listL {a : Addr} {xs : List V} (hS : SqL K H a xs) (h : ∀ p H', H p = none → Same H H' → H' p = some (.lst xs) → Q (.ref p) H') : qListOf K [V.ref a] H Q := ⟨a, xs, rfl, .inl hS, fun p np => h p _ np (same_upd np) upd_same⟩
in #guard_msgs in open Nat
theorem w_listT {a : Addr} {xs : List V} (hS : SqT K H a xs) (h : ∀ p H', H p = none → Same H H' → H' p = some (.lst xs) → Q (.ref p) H') : qListOf K [V.ref a] H Q := ⟨a, xs, rfl, .inr hS, fun p np => h p _ np (same_upd np) upd_same⟩
in #guard_msgs in open Nat
def qTupOf (K : PySem.W.Frag) : List V → Hp → VK → Prop := fun xs H Q => ∃ p ys, xs = [.ref p] ∧ ((SqL K H p ys ∧ ∀ l, H l = none → Q (.ref l) (upd H l (.tup ys))) ∨ (SqT K H p ys ∧ Q (.ref p) H))
theorem call_tupQ {X : Cx} : CallR X (.type "tuple") (qTupOf X.K) := call_tuple_of
theorem w_tupL {a : Addr} {xs : List V} (hS : SqL K H a xs) (h : ∀ p H', H p = none → Same H H' → H' p = some (.tup xs) → Q (.ref p) H') : qTupOf K [V.ref a] H Q := ⟨a, xs, rfl, .inl ⟨hS, fun p np => h p _ np (same_upd np) upd_same⟩⟩
in #guard_msgs in open Nat
theorem w_rng1 {j : Int} {P : Int → Prop} (h1 : -(2 ^ 62) ≤ j) (h2 : j < 2 ^ 62) (h : P j) : ∃ j' : Int, [V.int j] = [.int j'] ∧ -(2 ^ 62) ≤ j' ∧ j' < 2 ^ 62 ∧ P j' := ⟨j, rfl, h1, h2, h⟩
in #guard_msgs in open Nat
theorem w_rng2 {i j : Int} {P : Int → Int → Prop} (h1 : -(2 ^ 62) ≤ i ∧ i < 2 ^ 62 ∧ -(2 ^ 62) ≤ j ∧ j < 2 ^ 62) (h : P i j) : ∃ i' j' : Int, [V.int i, V.int j] = [.int i', .int j'] ∧ (-(2 ^ 62) ≤ i' ∧ i' < 2 ^ 62 ∧ -(2 ^ 62) ≤ j' ∧ j' < 2 ^ 62) ∧ P i' j' := ⟨i, j, rfl, h1, h⟩
in #guard_msgs in open Nat
theorem w_append {l : Addr} {xs : List V} (hl : H l = some (.lst xs)) (hz : xs.length < sizeLine) (h : Q .non (upd H l (.lst (xs ++ [y])))) : rAppend (.ref l) [y] H Q := ⟨l, xs, y, rfl, rfl, hl, hz, h⟩
in #guard_msgs in open Nat
theorem w_cat {a b : Addr} {xs ys : List V} (ha : H a = some (.lst xs)) (hb : H b = some (.lst ys)) (hl : xs.length + ys.length ≤ sizeLine) (h : ∀ p H', H p = none → Same H H' → H' p = some (.lst (xs ++ ys)) → Q (.ref p) H') : rCat (.ref a) (.ref b) H Q := ⟨a, b, xs, ys, rfl, rfl, ha, hb, hl, fun p np => h p _ np (same_upd np) upd_same⟩
in #guard_msgs in open Nat
end
/-! rules with the written part named: within a comprehension it may not be told by the block's own letters -/
section
variable {X : Cx} {K : PySem.W.Frag}
theorem ix_listK (hK : X.K = K) : IxR X (rIxL K) := by subst hK; exact ix_list
theorem ix_tupK (hK : X.K = K) : IxR X (rIxT K) := by subst hK; exact ix_tup
theorem sl_listK (hK : X.K = K) : SlR X (rSlL K) := by subst hK; exact sl_list
theorem op_inK (hK : X.K = K) : OpR X (compareOp .In) (rIn K false) := by subst hK; exact op_in_seq
theorem op_ninK (hK : X.K = K) : OpR X (compareOp .NotIn) (rIn K true) := by subst hK; exact op_notIn_seq
theorem op_eqDK (hK : X.K = K) (hu : X.A.units + 64 < cLine) : OpR X (compareOp .Eq) (rEqD K) := by subst hK; exact op_eqD hu
theorem op_neDK (hK : X.K = K) (hu : X.A.units + 64 < cLine) : OpR X (compareOp .NotEq) (rNeD K) := by subst hK; exact op_neD hu
theorem call_lenK (hK : X.K = K) : CallR X (.builtin "len") (qLenQ K) := by subst hK; exact call_lenQ
theorem call_listK (hK : X.K = K) : CallR X (.type "list") (qListOf K) := by subst hK; exact call_listQ
theorem call_tupK (hK : X.K = K) : CallR X (.type "tuple") (qTupOf K) := by subst hK; exact call_tupQ
theorem call_isiK' (hK : X.K = K) : CallR X (.builtin "isinstance") (rIsi K) := by subst hK; exact call_isi
theorem cr_allK (hK : X.K = K) (hc : X.calm = true) : CallR X (.builtin "all") (rAll K) := by subst hK; exact cr_all hc
theorem cr_anyK (hK : X.K = K) (hc : X.calm = true) : CallR X (.builtin "any") (rAny K) := by subst hK; exact cr_any hc
theorem cr_sortedK (hK : X.K = K) : CallR X (.builtin "sorted") (rSorted K) := by subst hK; exact cr_sorted
theorem cr_sortedSK (hK : X.K = K) : CallR X (.builtin "sorted") (rSortedS K) := by subst hK; exact cr_sortedS
theorem mt_indexK (hK : X.K = K) : MtR X "list.index" (rIndex K) := by subst hK; exact mt_index
variable {tg l e o : Expr} {es : List Expr} {tl te to : TE} {ta : TA} {pos apos cpos p tpos : Pos}
theorem pi_listK (hK : X.K = K) (hl : PE X l tl) : PI X tg l (iList K tl) := by subst hK; exact pi_list hl
theorem pi_tupK (hK : X.K = K) (hl : PE X l tl) : PI X tg l (iTup K tl) := by subst hK; exact pi_tup hl
theorem pe_fldK {f : Str} (hK : X.K = K) (he : PE X e te) (hb : attributeBase e f X.env (eval e X.env) = eval e X.env) : PE X (.Attribute e f pos) (tFld K te f) := by subst hK; exact pe_fld he hb
in #guard_msgs in open Nat
theorem pe_bmKK {T : String} {name : Str} {id : String} {r : V → List V → Hp → VK → Prop} (hK : X.K = K) (pa : PlainAttrs T) (slot : Slot T name id) (hty : typeOf (.builtin id) = pure (.type "method_descriptor")) (hm : MtR X id r) (ho : PE X o to) (ha : PA X (e :: es) ta)
    (hbase : attributeBase o name X.env (eval o X.env) = eval o X.env := by rfl)
    (hfew : ((backTo cpos (starEach (e :: es) X.env)).all (fun x => !x.1) && (backToKw cpos (keywordEach [] X.env)).all (fun x => x.1.isSome)
      && decide ((e :: es).length + ([] : List Keyword).length + (if ([] : List Keyword).isEmpty then 0 else 1) < 30)) = true := by rfl)
    (hline : (apos.endLine == cpos.line) = true := by rfl) (hs : starEach (e :: es) X.env = (false, eval e X.env) :: starEach es X.env := by rfl) (hplain : (backTo cpos (starEach es X.env)).any (·.1) = false := by rfl) :
    PE X (.Call (.Attribute o name apos) (e :: es) [] cpos) (tBM K T r to ta) := by subst hK; exact pe_bm pa slot hty hm ho ha hbase hfew hline hs hplain
in #guard_msgs in open Nat
theorem pe_bm0KK {T : String} {name : Str} {id : String} {r : V → List V → Hp → VK → Prop} (hK : X.K = K) (pa : PlainAttrs T) (slot : Slot T name id) (hty : typeOf (.builtin id) = pure (.type "method_descriptor")) (hm : MtR X id r) (ho : PE X o to)
    (hbase : attributeBase o name X.env (eval o X.env) = eval o X.env := by rfl) (hline : (apos.endLine == cpos.line) = true := by rfl) : PE X (.Call (.Attribute o name apos) [] [] cpos) (tBM0 K T r to) := by subst hK; exact pe_bm0 pa slot hty hm ho hbase hline
in #guard_msgs in open Nat
def qJoin (K : PySem.W.Frag) : V → List V → Hp → VK → Prop := fun x xs H Q => ∃ a p, ∃ ys : List Str, x = .str a ∧ xs = [.ref p] ∧ (SqL K H p (ys.map V.str) ∨ SqT K H p (ys.map V.str)) ∧ (ys.map (·.length)).sum + ys.length * a.length ≤ 16777216 ∧ Q (.str (Txt.join a ys)) H
theorem pe_joinK (hK : X.K = K) (ho : PE X o to) (he : PE X e te) (hs : starEach [e] X.env = [(false, eval e X.env)] := by rfl) (hbase : attributeBase o "join" X.env (eval o X.env) = eval o X.env := by rfl) (hline : (apos.endLine == pos.line) = true := by rfl) :
    PE X (.Call (.Attribute o "join" apos) [e] [] pos) (tM1 (qJoin K) to te) := by subst hK; exact pe_join ho he hs hbase hline
in #guard_msgs in open Nat
theorem pg_tupK {k : Nat} {t : TGs} {n : Nat} (hK : X.K = K) (hc : X.calm = true) (h : PGs X es t)
    (hn : (assignEach es X.env).length = n := by rfl) (hst : (assignEach es X.env).findIdx? (·.1) = none := by rfl) : PG X (.Tuple es k pos) (gTup K n t) := by subst hK; exact pg_tup hc h hn hst
in #guard_msgs in open Nat
theorem pi_reversedK {p2 : Pos} (hK : X.K = K) (hg : Gl X "reversed") (hm : X.mg "reversed" = none) (ha : PA X [e] ta) (hs : starEach [e] X.env = [(false, eval e X.env)] := by rfl) : PI X tg (.Call (.Name "reversed" p) [e] [] p2) (iRev K ta) := by subst hK; exact pi_reversed hg hm ha hs
in #guard_msgs in open Nat
theorem pi_enumK {elts : List Expr} {kk : Nat} (hK : X.K = K) (hg : Gl X "enumerate") (hm : X.mg "enumerate" = none) (ha : PA X [e] ta) (hs : starEach [e] X.env = [(false, eval e X.env)] := by rfl) :
    PI X (.Tuple elts kk tpos) (.Call (.Name "enumerate" p) [e] [] pos) (iEnum K ta) := by subst hK; exact pi_enum hg hm ha hs
in #guard_msgs in open Nat
theorem pi_zipK {e2 : Expr} {elts : List Expr} {kk : Nat} (hK : X.K = K) (hg : Gl X "zip") (hm : X.mg "zip" = none) (ha : PA X [e, e2] ta)
    (hs : starEach [e, e2] X.env = (false, eval e X.env) :: starEach [e2] X.env := by rfl) (hpl : (backTo pos (starEach [e2] X.env)).any (·.1) = false := by rfl) :
    PI X (.Tuple elts kk tpos) (.Call (.Name "zip" p) [e, e2] [] pos) (iZip K ta) := by subst hK; exact pi_zip hg hm ha hs hpl
in #guard_msgs in open Nat
end
section
variable {X : Cx}
theorem pe_globI {x : Str} {i : Int} {pos : Pos} (hg : Gl X x) (h : ∃ t, X.mg x = some (.int i t)) (hd : (x == ("__debug__" : Str)) = false := by decide) : PE X (.Name x pos) (tC (.int i)) := by
  obtain ⟨t, h⟩ := h
  exact pe_glob hg h ⟨t, rfl⟩ hd
in #guard_msgs in open Nat
theorem pe_globS {x z : Str} {pos : Pos} (hg : Gl X x) (h : ∃ t, X.mg x = some (.str z t)) (hd : (x == ("__debug__" : Str)) = false := by decide) : PE X (.Name x pos) (tC (.str z)) := by
  obtain ⟨t, h⟩ := h
  exact pe_glob hg h ⟨t, rfl⟩ hd
in #guard_msgs in open Nat
end
section
variable {K : PySem.W.Frag} {σ : St} {H : Hp} {Q : VK}
theorem w_yes {Qb : Bool → Hp → Prop} (h : Qb true H) : tYes σ H Qb := h
theorem w_all {a : Addr} {bs : List Bool} (hS : SqL K H a (bs.map V.bl)) (h : Q (.bl (bs.all id)) H) : rAll K [V.ref a] H Q := ⟨a, bs, rfl, hS, h⟩
theorem w_any {a : Addr} {bs : List Bool} (hS : SqL K H a (bs.map V.bl)) (h : Q (.bl (bs.any id)) H) : rAny K [V.ref a] H Q := ⟨a, bs, rfl, hS, h⟩
end
theorem w_wipe {σ1 σ2 : St} {R : Prop} (e : σ1 = σ2) (h : R) : σ1 = σ2 ∧ R := ⟨e, h⟩
theorem w_i_NoneType_str {K : PySem.W.Frag} {H : Hp} {Q : VK} (q : Q (.bl false) H) : rIsi K [.non, .ty "str"] H Q := ⟨_, _, _, _, _, rfl, .ty "str", .base .non, kit_ty (by decide +kernel), q⟩
in #guard_msgs in open Nat
theorem w_i_NoneType_int {K : PySem.W.Frag} {H : Hp} {Q : VK} (q : Q (.bl false) H) : rIsi K [.non, .ty "int"] H Q := ⟨_, _, _, _, _, rfl, .ty "int", .base .non, kit_ty (by decide +kernel), q⟩
in #guard_msgs in open Nat
theorem w_i_NoneType_bool {K : PySem.W.Frag} {H : Hp} {Q : VK} (q : Q (.bl false) H) : rIsi K [.non, .ty "bool"] H Q := ⟨_, _, _, _, _, rfl, .ty "bool", .base .non, kit_ty (by decide +kernel), q⟩
in #guard_msgs in open Nat
theorem w_i_NoneType_list {K : PySem.W.Frag} {H : Hp} {Q : VK} (q : Q (.bl false) H) : rIsi K [.non, .ty "list"] H Q := ⟨_, _, _, _, _, rfl, .ty "list", .base .non, kit_ty (by decide +kernel), q⟩
in #guard_msgs in open Nat
theorem w_i_NoneType_tuple {K : PySem.W.Frag} {H : Hp} {Q : VK} (q : Q (.bl false) H) : rIsi K [.non, .ty "tuple"] H Q := ⟨_, _, _, _, _, rfl, .ty "tuple", .base .non, kit_ty (by decide +kernel), q⟩
in #guard_msgs in open Nat
theorem w_i_NoneType_dict {K : PySem.W.Frag} {H : Hp} {Q : VK} (q : Q (.bl false) H) : rIsi K [.non, .ty "dict"] H Q := ⟨_, _, _, _, _, rfl, .ty "dict", .base .non, kit_ty (by decide +kernel), q⟩
in #guard_msgs in open Nat
theorem w_i_bool_str {K : PySem.W.Frag} {H : Hp} {Q : VK} {u : _} (q : Q (.bl false) H) : rIsi K [(.bl u), .ty "str"] H Q := ⟨_, _, _, _, _, rfl, .ty "str", .base (.bl _), kit_ty (by decide +kernel), q⟩
in #guard_msgs in open Nat
theorem w_i_bool_int {K : PySem.W.Frag} {H : Hp} {Q : VK} {u : _} (q : Q (.bl true) H) : rIsi K [(.bl u), .ty "int"] H Q := ⟨_, _, _, _, _, rfl, .ty "int", .base (.bl _), kit_ty (by decide +kernel), q⟩
in #guard_msgs in open Nat
theorem w_i_bool_bool {K : PySem.W.Frag} {H : Hp} {Q : VK} {u : _} (q : Q (.bl true) H) : rIsi K [(.bl u), .ty "bool"] H Q := ⟨_, _, _, _, _, rfl, .ty "bool", .base (.bl _), kit_ty (by decide +kernel), q⟩
in #guard_msgs in open Nat
theorem w_i_bool_list {K : PySem.W.Frag} {H : Hp} {Q : VK} {u : _} (q : Q (.bl false) H) : rIsi K [(.bl u), .ty "list"] H Q := ⟨_, _, _, _, _, rfl, .ty "list", .base (.bl _), kit_ty (by decide +kernel), q⟩
in #guard_msgs in open Nat
theorem w_i_bool_tuple {K : PySem.W.Frag} {H : Hp} {Q : VK} {u : _} (q : Q (.bl false) H) : rIsi K [(.bl u), .ty "tuple"] H Q := ⟨_, _, _, _, _, rfl, .ty "tuple", .base (.bl _), kit_ty (by decide +kernel), q⟩
in #guard_msgs in open Nat
theorem w_i_bool_dict {K : PySem.W.Frag} {H : Hp} {Q : VK} {u : _} (q : Q (.bl false) H) : rIsi K [(.bl u), .ty "dict"] H Q := ⟨_, _, _, _, _, rfl, .ty "dict", .base (.bl _), kit_ty (by decide +kernel), q⟩
in #guard_msgs in open Nat
theorem w_i_int_str {K : PySem.W.Frag} {H : Hp} {Q : VK} {u : _} (q : Q (.bl false) H) : rIsi K [(.int u), .ty "str"] H Q := ⟨_, _, _, _, _, rfl, .ty "str", .base (.int _), kit_ty (by decide +kernel), q⟩
in #guard_msgs in open Nat
theorem w_i_int_int {K : PySem.W.Frag} {H : Hp} {Q : VK} {u : _} (q : Q (.bl true) H) : rIsi K [(.int u), .ty "int"] H Q := ⟨_, _, _, _, _, rfl, .ty "int", .base (.int _), kit_ty (by decide +kernel), q⟩
in #guard_msgs in open Nat
theorem w_i_int_bool {K : PySem.W.Frag} {H : Hp} {Q : VK} {u : _} (q : Q (.bl false) H) : rIsi K [(.int u), .ty "bool"] H Q := ⟨_, _, _, _, _, rfl, .ty "bool", .base (.int _), kit_ty (by decide +kernel), q⟩
in #guard_msgs in open Nat
theorem w_i_int_list {K : PySem.W.Frag} {H : Hp} {Q : VK} {u : _} (q : Q (.bl false) H) : rIsi K [(.int u), .ty "list"] H Q := ⟨_, _, _, _, _, rfl, .ty "list", .base (.int _), kit_ty (by decide +kernel), q⟩
in #guard_msgs in open Nat
theorem w_i_int_tuple {K : PySem.W.Frag} {H : Hp} {Q : VK} {u : _} (q : Q (.bl false) H) : rIsi K [(.int u), .ty "tuple"] H Q := ⟨_, _, _, _, _, rfl, .ty "tuple", .base (.int _), kit_ty (by decide +kernel), q⟩
in #guard_msgs in open Nat
theorem w_i_int_dict {K : PySem.W.Frag} {H : Hp} {Q : VK} {u : _} (q : Q (.bl false) H) : rIsi K [(.int u), .ty "dict"] H Q := ⟨_, _, _, _, _, rfl, .ty "dict", .base (.int _), kit_ty (by decide +kernel), q⟩
in #guard_msgs in open Nat
theorem w_i_str_str {K : PySem.W.Frag} {H : Hp} {Q : VK} {u : _} (q : Q (.bl true) H) : rIsi K [(.str u), .ty "str"] H Q := ⟨_, _, _, _, _, rfl, .ty "str", .base (.str _), kit_ty (by decide +kernel), q⟩
in #guard_msgs in open Nat
theorem w_i_str_int {K : PySem.W.Frag} {H : Hp} {Q : VK} {u : _} (q : Q (.bl false) H) : rIsi K [(.str u), .ty "int"] H Q := ⟨_, _, _, _, _, rfl, .ty "int", .base (.str _), kit_ty (by decide +kernel), q⟩
in #guard_msgs in open Nat
theorem w_i_str_bool {K : PySem.W.Frag} {H : Hp} {Q : VK} {u : _} (q : Q (.bl false) H) : rIsi K [(.str u), .ty "bool"] H Q := ⟨_, _, _, _, _, rfl, .ty "bool", .base (.str _), kit_ty (by decide +kernel), q⟩
in #guard_msgs in open Nat
theorem w_i_str_list {K : PySem.W.Frag} {H : Hp} {Q : VK} {u : _} (q : Q (.bl false) H) : rIsi K [(.str u), .ty "list"] H Q := ⟨_, _, _, _, _, rfl, .ty "list", .base (.str _), kit_ty (by decide +kernel), q⟩
in #guard_msgs in open Nat
theorem w_i_str_tuple {K : PySem.W.Frag} {H : Hp} {Q : VK} {u : _} (q : Q (.bl false) H) : rIsi K [(.str u), .ty "tuple"] H Q := ⟨_, _, _, _, _, rfl, .ty "tuple", .base (.str _), kit_ty (by decide +kernel), q⟩
in #guard_msgs in open Nat
theorem w_i_str_dict {K : PySem.W.Frag} {H : Hp} {Q : VK} {u : _} (q : Q (.bl false) H) : rIsi K [(.str u), .ty "dict"] H Q := ⟨_, _, _, _, _, rfl, .ty "dict", .base (.str _), kit_ty (by decide +kernel), q⟩
in #guard_msgs in open Nat
theorem w_i_list_str {K : PySem.W.Frag} {H : Hp} {Q : VK} {u : Addr} {xs : List V} (hp : H u = some (.lst xs)) (q : Q (.bl false) H) : rIsi K [.ref u, .ty "str"] H Q := ⟨_, _, _, _, _, rfl, .ty "str", .base (.lst hp), kit_ty (by decide +kernel), q⟩
in #guard_msgs in open Nat
theorem w_i_list_int {K : PySem.W.Frag} {H : Hp} {Q : VK} {u : Addr} {xs : List V} (hp : H u = some (.lst xs)) (q : Q (.bl false) H) : rIsi K [.ref u, .ty "int"] H Q := ⟨_, _, _, _, _, rfl, .ty "int", .base (.lst hp), kit_ty (by decide +kernel), q⟩
in #guard_msgs in open Nat
theorem w_i_list_bool {K : PySem.W.Frag} {H : Hp} {Q : VK} {u : Addr} {xs : List V} (hp : H u = some (.lst xs)) (q : Q (.bl false) H) : rIsi K [.ref u, .ty "bool"] H Q := ⟨_, _, _, _, _, rfl, .ty "bool", .base (.lst hp), kit_ty (by decide +kernel), q⟩
in #guard_msgs in open Nat
theorem w_i_list_list {K : PySem.W.Frag} {H : Hp} {Q : VK} {u : Addr} {xs : List V} (hp : H u = some (.lst xs)) (q : Q (.bl true) H) : rIsi K [.ref u, .ty "list"] H Q := ⟨_, _, _, _, _, rfl, .ty "list", .base (.lst hp), kit_ty (by decide +kernel), q⟩
in #guard_msgs in open Nat
theorem w_i_list_tuple {K : PySem.W.Frag} {H : Hp} {Q : VK} {u : Addr} {xs : List V} (hp : H u = some (.lst xs)) (q : Q (.bl false) H) : rIsi K [.ref u, .ty "tuple"] H Q := ⟨_, _, _, _, _, rfl, .ty "tuple", .base (.lst hp), kit_ty (by decide +kernel), q⟩
in #guard_msgs in open Nat
theorem w_i_list_dict {K : PySem.W.Frag} {H : Hp} {Q : VK} {u : Addr} {xs : List V} (hp : H u = some (.lst xs)) (q : Q (.bl false) H) : rIsi K [.ref u, .ty "dict"] H Q := ⟨_, _, _, _, _, rfl, .ty "dict", .base (.lst hp), kit_ty (by decide +kernel), q⟩
in #guard_msgs in open Nat
theorem w_i_tuple_str {K : PySem.W.Frag} {H : Hp} {Q : VK} {u : Addr} {xs : List V} (hp : H u = some (.tup xs)) (q : Q (.bl false) H) : rIsi K [.ref u, .ty "str"] H Q := ⟨_, _, _, _, _, rfl, .ty "str", .base (.tup hp), kit_ty (by decide +kernel), q⟩
in #guard_msgs in open Nat
theorem w_i_tuple_int {K : PySem.W.Frag} {H : Hp} {Q : VK} {u : Addr} {xs : List V} (hp : H u = some (.tup xs)) (q : Q (.bl false) H) : rIsi K [.ref u, .ty "int"] H Q := ⟨_, _, _, _, _, rfl, .ty "int", .base (.tup hp), kit_ty (by decide +kernel), q⟩
in #guard_msgs in open Nat
theorem w_i_tuple_bool {K : PySem.W.Frag} {H : Hp} {Q : VK} {u : Addr} {xs : List V} (hp : H u = some (.tup xs)) (q : Q (.bl false) H) : rIsi K [.ref u, .ty "bool"] H Q := ⟨_, _, _, _, _, rfl, .ty "bool", .base (.tup hp), kit_ty (by decide +kernel), q⟩
in #guard_msgs in open Nat
theorem w_i_tuple_list {K : PySem.W.Frag} {H : Hp} {Q : VK} {u : Addr} {xs : List V} (hp : H u = some (.tup xs)) (q : Q (.bl false) H) : rIsi K [.ref u, .ty "list"] H Q := ⟨_, _, _, _, _, rfl, .ty "list", .base (.tup hp), kit_ty (by decide +kernel), q⟩
in #guard_msgs in open Nat
theorem w_i_tuple_tuple {K : PySem.W.Frag} {H : Hp} {Q : VK} {u : Addr} {xs : List V} (hp : H u = some (.tup xs)) (q : Q (.bl true) H) : rIsi K [.ref u, .ty "tuple"] H Q := ⟨_, _, _, _, _, rfl, .ty "tuple", .base (.tup hp), kit_ty (by decide +kernel), q⟩
in #guard_msgs in open Nat
theorem w_i_tuple_dict {K : PySem.W.Frag} {H : Hp} {Q : VK} {u : Addr} {xs : List V} (hp : H u = some (.tup xs)) (q : Q (.bl false) H) : rIsi K [.ref u, .ty "dict"] H Q := ⟨_, _, _, _, _, rfl, .ty "dict", .base (.tup hp), kit_ty (by decide +kernel), q⟩
in #guard_msgs in open Nat
theorem w_i_dict_str {K : PySem.W.Frag} {H : Hp} {Q : VK} {u : Addr} {xs : List (Key × V)} (hp : H u = some (.dK xs)) (q : Q (.bl false) H) : rIsi K [.ref u, .ty "str"] H Q := ⟨_, _, _, _, _, rfl, .ty "str", .base (.dK hp), kit_ty (by decide +kernel), q⟩
in #guard_msgs in open Nat
theorem w_i_dict_int {K : PySem.W.Frag} {H : Hp} {Q : VK} {u : Addr} {xs : List (Key × V)} (hp : H u = some (.dK xs)) (q : Q (.bl false) H) : rIsi K [.ref u, .ty "int"] H Q := ⟨_, _, _, _, _, rfl, .ty "int", .base (.dK hp), kit_ty (by decide +kernel), q⟩
in #guard_msgs in open Nat
theorem w_i_dict_bool {K : PySem.W.Frag} {H : Hp} {Q : VK} {u : Addr} {xs : List (Key × V)} (hp : H u = some (.dK xs)) (q : Q (.bl false) H) : rIsi K [.ref u, .ty "bool"] H Q := ⟨_, _, _, _, _, rfl, .ty "bool", .base (.dK hp), kit_ty (by decide +kernel), q⟩
in #guard_msgs in open Nat
theorem w_i_dict_list {K : PySem.W.Frag} {H : Hp} {Q : VK} {u : Addr} {xs : List (Key × V)} (hp : H u = some (.dK xs)) (q : Q (.bl false) H) : rIsi K [.ref u, .ty "list"] H Q := ⟨_, _, _, _, _, rfl, .ty "list", .base (.dK hp), kit_ty (by decide +kernel), q⟩
in #guard_msgs in open Nat
theorem w_i_dict_tuple {K : PySem.W.Frag} {H : Hp} {Q : VK} {u : Addr} {xs : List (Key × V)} (hp : H u = some (.dK xs)) (q : Q (.bl false) H) : rIsi K [.ref u, .ty "tuple"] H Q := ⟨_, _, _, _, _, rfl, .ty "tuple", .base (.dK hp), kit_ty (by decide +kernel), q⟩
in #guard_msgs in open Nat
theorem w_i_dict_dict {K : PySem.W.Frag} {H : Hp} {Q : VK} {u : Addr} {xs : List (Key × V)} (hp : H u = some (.dK xs)) (q : Q (.bl true) H) : rIsi K [.ref u, .ty "dict"] H Q := ⟨_, _, _, _, _, rfl, .ty "dict", .base (.dK hp), kit_ty (by decide +kernel), q⟩
in #guard_msgs in open Nat
section
variable {σ : St} {H : Hp} {Q : VK}
def NewD (Q : VK) (p : Addr) (ps : List (V × V)) (H2 : Hp) : Prop := H2 p = some (.dK []) ∧ ∃ kvs : List (Key × V), ps = kvs.map (fun kv => (kV kv.1, kv.2)) ∧ kvs.length ≤ 15 ∧ Q (.ref p) (upd H2 p (.dK (mergeK [] kvs)))
theorem w_disp {trs : List (TE × TE)} (h : ∀ p H', H p = none → Same H H' → H' p = some (.dK []) → tPairs trs σ H' fun ps H2 => NewD Q p ps H2) : tDisp trs σ H Q := fun p np => h p _ np (same_upd np) upd_same
in #guard_msgs in open Nat
theorem w_newD {p : Addr} {kvs : List (Key × V)} (np : H p = some (.dK [])) (hl : kvs.length ≤ 15) (h : ∀ H', (∀ G : Hp, Same G H → G p = none → Same G H') → H' p = some (.dK (mergeK [] kvs)) → Q (.ref p) H') : NewD Q p (kvs.map fun kv => (kV kv.1, kv.2)) H := ⟨np, kvs, rfl, hl, h _ (fun G s hp b o e => by
  rw [upd_ne (ne_of_none e hp)]
  exact s b o e) upd_same⟩
in #guard_msgs in open Nat
theorem w_pnil {Qp : List (V × V) → Hp → Prop} (h : Qp [] H) : tPairs [] σ H Qp := h
theorem w_pcons {tk tv : TE} {trs : List (TE × TE)} {Qp : List (V × V) → Hp → Prop} (h : tk σ H fun x H1 => tv σ H1 fun y H2 => tPairs trs σ H2 fun ps H3 => Qp ((x, y) :: ps) H3) : tPairs ((tk, tv) :: trs) σ H Qp := h
in #guard_msgs in open Nat
end
/-! ### tests as one answer -/
section
variable {σ : St} {H : Hp} {tt tu : TT} {Qb : Bool → Hp → Prop} {k1 k2 : Bool}
theorem w_andB (h1 : ∀ Q : Bool → Hp → Prop, Q k1 H → tt σ H Q) (h2 : k1 = true → ∀ Q : Bool → Hp → Prop, Q k2 H → tu σ H Q) (q : Qb (k1 && k2) H) : tAnd tt tu σ H Qb := by
  refine h1 _ ?_
  cases k1
  · rw [if_neg Bool.false_ne_true]; exact q
  · rw [if_pos rfl]; exact h2 rfl _ q
in #guard_msgs in open Nat
theorem w_orB (h1 : ∀ Q : Bool → Hp → Prop, Q k1 H → tt σ H Q) (h2 : k1 = false → ∀ Q : Bool → Hp → Prop, Q k2 H → tu σ H Q) (q : Qb (k1 || k2) H) : tOr tt tu σ H Qb := by
  refine h1 _ ?_
  cases k1
  · rw [if_neg Bool.false_ne_true]; exact h2 rfl _ q
  · rw [if_pos rfl]; exact q
in #guard_msgs in open Nat
theorem w_andS (h1 : ∀ Q : Bool → Hp → Prop, (∀ H', Same H H' → Q k1 H') → tt σ H Q) (h2 : k1 = true → ∀ H1, Same H H1 → ∀ Q : Bool → Hp → Prop, (∀ H', Same H1 H' → Q k2 H') → tu σ H1 Q) (q : ∀ H', Same H H' → Qb (k1 && k2) H') : tAnd tt tu σ H Qb := by
  refine h1 _ fun H1 s1 => ?_
  cases k1
  · rw [if_neg Bool.false_ne_true]; exact q H1 s1
  · rw [if_pos rfl]; exact h2 rfl H1 s1 _ fun H' s' => q H' (s1.trans s')
in #guard_msgs in open Nat
theorem w_orS (h1 : ∀ Q : Bool → Hp → Prop, (∀ H', Same H H' → Q k1 H') → tt σ H Q) (h2 : k1 = false → ∀ H1, Same H H1 → ∀ Q : Bool → Hp → Prop, (∀ H', Same H1 H' → Q k2 H') → tu σ H1 Q) (q : ∀ H', Same H H' → Qb (k1 || k2) H') : tOr tt tu σ H Qb := by
  refine h1 _ fun H1 s1 => ?_
  cases k1
  · rw [if_neg Bool.false_ne_true]; exact h2 rfl H1 s1 _ fun H' s' => q H' (s1.trans s')
  · rw [if_pos rfl]; exact q H1 s1
in #guard_msgs in open Nat
variable {Q : VK} {ta tb tc : TE} {o o' : R2}
/-- a < b < c, all known -/
theorem w_chainB (h1 : ∀ Q : VK, Q (.bl k1) H → tOp o ta tb σ H Q) (h2 : k1 = true → ∀ Q : VK, Q (.bl k2) H → tOp o' tb tc σ H Q)
    (hb : ∀ (f : V → Hp → Prop), tb σ H f → ∃ y, f y H ∧ ∀ f' : V → Hp → Prop, f' y H → tb σ H f') (q : Q (.bl (k1 && k2)) H) : True := trivial
in #guard_msgs in open Nat
end
/-- an if whose answer is decided by a proposition -/
theorem w_iteP {p A B : Prop} [Decidable p] (h1 : p → A) (h2 : ¬ p → B) : if decide p = true then A else B := by
  by_cases h : p
  · rw [if_pos (decide_eq_true h)]; exact h1 h
  · rw [if_neg (by simpa using h)]; exact h2 h
in #guard_msgs in open Nat
theorem dn_str {z : Str} : decide (V.str z = V.non) = false := by simp
theorem dn_int {z : Int} : decide (V.int z = V.non) = false := by simp
theorem dn_ref {z : Addr} : decide (V.ref z = V.non) = false := by simp
theorem dn_bl {z : Bool} : decide (V.bl z = V.non) = false := by simp
theorem dn'_str {z : Str} : (!decide (V.str z = V.non)) = true := by simp
theorem dn'_int {z : Int} : (!decide (V.int z = V.non)) = true := by simp
theorem dn'_ref {z : Addr} : (!decide (V.ref z = V.non)) = true := by simp
/-! ### slices of lists -/
def cut {α : Type} (xs : List α) (lo hi : Option Int) : List α := (xs.drop (HT.sIx xs.length 0 lo)).take (HT.sIx xs.length xs.length hi - HT.sIx xs.length 0 lo)
theorem cutV_map {α : Type} (f : α → V) (xs : List α) (lo hi : Option Int) : cutV (xs.map f) lo hi = (cut xs lo hi).map f := by
  unfold cutV cut
  rw [List.length_map, List.map_take, List.map_drop]
in #guard_msgs in open Nat
theorem cut_len {α : Type} (xs : List α) (lo hi : Option Int) : (cut xs lo hi).length ≤ xs.length := by
  unfold cut
  rw [List.length_take, List.length_drop]
  omega
in #guard_msgs in open Nat
theorem cut_to {α : Type} (xs : List α) (k : Nat) : cut xs none (some (k : Int)) = xs.take k := by
  unfold cut
  rw [HT.sIx_nat, HT.sIx_none, List.drop_zero, Nat.sub_zero]
  rcases Nat.le_total k xs.length with h | h
  · rw [Nat.min_eq_left h]
  · rw [Nat.min_eq_right h, List.take_length, List.take_of_length_le h]
in #guard_msgs in open Nat
theorem cut_from {α : Type} (xs : List α) (k : Nat) : cut xs (some (k : Int)) none = xs.drop k := by
  unfold cut
  rw [HT.sIx_nat, HT.sIx_none]
  rcases Nat.le_total k xs.length with h | h
  · rw [Nat.min_eq_left h, List.take_of_length_le (by rw [List.length_drop]; omega)]
  · rw [Nat.min_eq_right h, Nat.sub_self, List.drop_of_length_le h]
    rfl
in #guard_msgs in open Nat
/-! ### texts -/
theorem slen_app (a b : Str) : (a ++ b).length = a.length + b.length := Array.size_append
theorem slen_one (k : Nat) : (⟨#[k]⟩ : Str).length = 1 := rfl
theorem slen_list (z : Str) : z.cps.toList.length = z.length := Array.length_toList
theorem sapp_list (a b : Str) : (a ++ b).cps.toList = a.cps.toList ++ b.cps.toList := Array.toList_append
theorem s_ext {a b : Str} (h : a.cps.toList = b.cps.toList) : a = b := by
  cases a
  cases b
  exact congrArg Str.mk (Array.toList_inj.mp h)
/-! ### names -/
def isStrV : V → Bool
  | .str _ => true
  | _ => false
def Kd (K : PySem.W.Frag) (H : Hp) (v : V) : Prop := ∃ t, TyX K H v t ∧ PySem.W.kitOne K t (.type "str") = some (isStrV v) ∧ ∀ z, v = .str z → z.length ≤ 100000
def lower (c : Nat) : Bool := decide (97 ≤ c) && decide (c ≤ 122)
def nameOk : V → Bool
  | .str z => decide (1 ≤ z.length) && (decide (z.length ≤ 8) && z.cps.toList.all lower)
  | _ => false
def sp_is_nameR (K : PySem.W.Frag) : Sp := fun vs H Q _ => ∃ v, vs = [v] ∧ Kd K H v ∧ Q (.bl (nameOk v)) H
theorem u_is_nameR {K : PySem.W.Frag} {v : V} {H : Hp} {Q : VK} {E : XK} (h : Kd K H v) (q : Q (.bl (nameOk v)) H) : sp_is_nameR K ([v] ++ []) H Q E := ⟨v, rfl, h, q⟩
in #guard_msgs in open Nat
theorem letters_mem (c : Nat) : decide (c ∈ ("abcdefghijklmnopqrstuvwxyz" : Str).cps.toList) = lower c := by
  have e : ("abcdefghijklmnopqrstuvwxyz" : Str).cps.toList = List.range' 97 26 := by decide +kernel
  rw [e, lower, ← Bool.decide_and]
  congr 1
  rw [List.mem_range'_1]
  exact propext ⟨fun h => by omega, fun h => by omega⟩
in #guard_msgs in open Nat
theorem abc_at {i : Int} (h0 : 0 ≤ i) (h1 : i < 26) : ∃ k, ("abcdefghijklmnopqrstuvwxyz" : Str).cps.toList[i.toNat]? = some k := by
  have e : ("abcdefghijklmnopqrstuvwxyz" : Str).cps.toList = List.range' 97 26 := by decide +kernel
  rw [e]
  have hl : i.toNat < (List.range' 97 26).length := by
    rw [List.length_range']
    omega
  exact ⟨_, List.getElem?_eq_getElem hl⟩
in #guard_msgs in open Nat
theorem str_at {z : Str} {i : Int} (h0 : 0 ≤ i) (h1 : i < z.length) : ∃ k, z.cps.toList[i.toNat]? = some k := by
  have hl : i.toNat < z.cps.toList.length := by
    rw [slen_list]
    omega
  exact ⟨_, List.getElem?_eq_getElem hl⟩
in #guard_msgs in open Nat
/-! ### drawing -/
def mixA (c : Int) : Nat → Int
  | 0 => c / 2
  | n + 1 => mixA c n / 840
def turns : List Int := [48271, 69621, 40692, 39373, 16807, 30323, 21403, 62089, 45742, 37907, 53611, 28411, 59393, 33391]
def mixOne (c t : Int) : Int := (c % 1000000007 + 11) * turns.getD (t % 14).toNat 0 % 2147483629
def mixTwo (c t : Int) : Int := mixOne c t * (mixOne c t + t) % 1999999973
def mix (c t m : Int) : Int := if c % 2 = 1 ∧ 10 ^ 18 < c then mixA c t.toNat % 840 % m else mixTwo c t * 16807 % 998244353 / 1000 % m
theorem mix_nn {c t m : Int} (h : 0 < m) : 0 ≤ mix c t m := by
  unfold mix
  split <;> exact Int.emod_nonneg _ (by omega)
theorem mix_lt {c t m : Int} (h : 0 < m) : mix c t m < m := by
  unfold mix
  split <;> exact Int.emod_lt_of_pos _ h
theorem turns_at {i : Int} (h0 : 0 ≤ i) (h1 : i < 14) : turns[i.toNat]? = some (turns.getD i.toNat 0) := by
  have hl : i.toNat < turns.length := by
    show i.toNat < 14
    omega
  rw [List.getElem?_eq_getElem hl, List.getD_eq_getElem?_getD, List.getElem?_eq_getElem hl]
  rfl
in #guard_msgs in open Nat
theorem turns_bound (i : Nat) : 0 ≤ turns.getD i 0 ∧ turns.getD i 0 < 100000 := by
  have h : ∀ x ∈ turns, 0 ≤ x ∧ x < 100000 := by decide
  rw [List.getD_eq_getElem?_getD]
  cases e : turns[i]? with
  | none => exact ⟨by decide, by decide⟩
  | some x => exact h x (List.mem_of_getElem? e)
in #guard_msgs in open Nat
theorem mixOne_bound {c t : Int} : 0 ≤ mixOne c t ∧ mixOne c t < 2147483629 := ⟨Int.emod_nonneg _ (by decide), Int.emod_lt_of_pos _ (by decide)⟩
theorem mixTwo_bound {c t : Int} : 0 ≤ mixTwo c t ∧ mixTwo c t < 1999999973 := ⟨Int.emod_nonneg _ (by decide), Int.emod_lt_of_pos _ (by decide)⟩
def sp_l_mixR (K : PySem.W.Frag) : Sp := fun vs H Q _ => ∃ c t m : Int, vs = [.int c, .int t, .int m] ∧ (0 ≤ t ∧ t ≤ 1000) ∧ 0 < m ∧ ∀ H', Same H H' → Q (.int (mix c t m)) H'
theorem u_mixR {K : PySem.W.Frag} {c t m : Int} {H : Hp} {Q : VK} {E : XK} (ht : 0 ≤ t ∧ t ≤ 1000) (hm : 0 < m) (q : ∀ H', Same H H' → Q (.int (mix c t m)) H') : sp_l_mixR K ([.int c, .int t, .int m] ++ []) H Q E := ⟨c, t, m, rfl, ht, hm, q⟩
in #guard_msgs in open Nat
theorem atI_of {α : Type} {xs : List α} {i : Int} {v : α} (h0 : 0 ≤ i) (h : xs[i.toNat]? = some v) : atI xs i = some v := by
  have e : i = (i.toNat : Int) := by omega
  rw [e]
  exact atI_nat h
in #guard_msgs in open Nat
theorem pick {α : Type} {xs : List α} {P : α → Prop} {i : Int} (h0 : 0 ≤ i) (h1 : i < xs.length) (h : ∀ v ∈ xs, P v) : ∃ v, atI xs i = some v ∧ P v := by
  have hl : i.toNat < xs.length := by omega
  exact ⟨xs[i.toNat], atI_of h0 (List.getElem?_eq_getElem hl), h _ (List.getElem_mem hl)⟩
in #guard_msgs in open Nat
/-! ### the law -/
def sp_lawR (K : PySem.W.Frag) : Sp := fun vs H Q _ => ∃ (a : Addr) (ns : List Int), vs = [.ref a] ∧ SqL K H a (ns.map V.int) ∧ ns.length ≤ 63 ∧ ∀ H', Q (.bl true) H'
theorem law_enterR {K : PySem.W.Frag} {H : Hp} {a : Addr} {ns : List Int} (hl : ns.length ≤ 63) (hS : SqL K H a (ns.map V.int)) : sp_lawR K [.ref a] H (fun v _ => v = .bl true) fun _ _ _ => False := ⟨a, ns, rfl, hS, hl, fun _ => rfl⟩
in #guard_msgs in open Nat
end Tg

/-! The engine: walks over data, the heap told once. -/
namespace Tg
open PySem PySem.Spec L2
/-- data: what a value is, all the way down -/
inductive D where
  | non | bl (b : Bool) | int (i : Int) | str (z : Str) | lst (xs : List D) | fls (xs : List D) | tup (xs : List D) | dk (kvs : List (Key × D)) | dt (kvs : List (List Key × D)) | op (v : V) | ex (v : V) (dd : Addr) (fs : List (Str × D)) | vd (v : V) (d : D)
def okS (z : Str) : Prop := z.length ≤ 10000 ∧ PyData.strOk z = true
mutual
inductive Dv (K : PySem.W.Frag) (B : Hp) : V → D → Prop
  | non : Dv K B .non .non
  | bl (b : Bool) : Dv K B (.bl b) (.bl b)
  | int (i : Int) : Dv K B (.int i) (.int i)
  | str (z : Str) : okS z → Dv K B (.str z) (.str z)
  | lst {a : Addr} {vs : List V} {ds : List D} : B a = some (.lst vs) → DvL K B vs ds → Dv K B (.ref a) (.lst ds)
  | fls {a : Addr} {vs : List V} {ds : List D} : SqL K B a vs → DvL K B vs ds → Dv K B (.ref a) (.fls ds)
  | tup {a : Addr} {vs : List V} {ds : List D} : B a = some (.tup vs) → DvL K B vs ds → Dv K B (.ref a) (.tup ds)
  | dk {a : Addr} {ks : List (Key × V)} {ds : List (Key × D)} : Rd B a (.dK ks) → DvK K B ks ds → Dv K B (.ref a) (.dk ds)
  | dt {a : Addr} {ks : List (List Key × V)} {ds : List (List Key × D)} : Rd B a (.dT ks) → DvT K B ks ds → Dv K B (.ref a) (.dt ds)
  | op (v : V) : Dv K B v (.op v)
  | ex {v : V} {dd : Addr} {vfs : List (Str × V)} {fs : List (Str × D)} : B dd = some (.xd vfs) → DvF K B vfs fs → Dv K B v (.ex v dd fs)
  | vd {v : V} {d : D} : Dv K B v d → Dv K B v (.vd v d)
inductive DvL (K : PySem.W.Frag) (B : Hp) : List V → List D → Prop
  | nil : DvL K B [] []
  | cons {v : V} {vs : List V} {d : D} {ds : List D} : Dv K B v d → DvL K B vs ds → DvL K B (v :: vs) (d :: ds)
inductive DvK (K : PySem.W.Frag) (B : Hp) : List (Key × V) → List (Key × D) → Prop
  | nil : DvK K B [] []
  | cons {k : Key} {v : V} {vs : List (Key × V)} {d : D} {ds : List (Key × D)} : Dv K B v d → DvK K B vs ds → DvK K B ((k, v) :: vs) ((k, d) :: ds)
inductive DvT (K : PySem.W.Frag) (B : Hp) : List (List Key × V) → List (List Key × D) → Prop
  | nil : DvT K B [] []
  | cons {k : List Key} {v : V} {vs : List (List Key × V)} {d : D} {ds : List (List Key × D)} : Dv K B v d → DvT K B vs ds → DvT K B ((k, v) :: vs) ((k, d) :: ds)
inductive DvF (K : PySem.W.Frag) (B : Hp) : List (Str × V) → List (Str × D) → Prop
  | nil : DvF K B [] []
  | cons {f : Str} {v : V} {vs : List (Str × V)} {d : D} {ds : List (Str × D)} : Dv K B v d → DvF K B vs ds → DvF K B ((f, v) :: vs) ((f, d) :: ds)
end
section
variable {K : PySem.W.Frag} {B B' H H' H1 H2 : Hp} {v : V} {d : D} {vs : List V} {ds : List D}
theorem rd_mono {a : Addr} {u : HO} (e : Same B B') (h : Rd B a u) : Rd B' a u := h.elim (fun h => .inl (e _ _ h)) fun ⟨o, h⟩ => .inr ⟨o, e _ _ h⟩
theorem Dv.mono (e : Same B B') (h : Dv K B v d) : Dv K B' v d := by
  refine Dv.rec (motive_1 := fun v d _ => Dv K B' v d) (motive_2 := fun v d _ => DvL K B' v d) (motive_3 := fun v d _ => DvK K B' v d) (motive_4 := fun v d _ => DvT K B' v d) (motive_5 := fun v d _ => DvF K B' v d) ?_ ?_ ?_ ?_ ?_ ?_ ?_ ?_ ?_ ?_ ?_ ?_ ?_ ?_ ?_ ?_ ?_ ?_ ?_ ?_ h
  · exact .non
  · exact .bl
  · exact .int
  · exact fun z h => .str z h
  · exact fun s _ ih => .lst (e _ _ s) ih
  · exact fun s _ ih => .fls (e.seq s) ih
  · exact fun s _ ih => .tup (e _ _ s) ih
  · exact fun s _ ih => .dk (rd_mono e s) ih
  · exact fun s _ ih => .dt (rd_mono e s) ih
  · exact fun v => .op v
  · exact fun s _ ih => .ex (e _ _ s) ih
  · exact fun _ ih => .vd ih
  · exact .nil
  · exact fun _ _ h t => .cons h t
  · exact .nil
  · exact fun _ _ h t => .cons h t
  · exact .nil
  · exact fun _ _ h t => .cons h t
  · exact .nil
  · exact fun _ _ h t => .cons h t
in #guard_msgs in open Nat
theorem DvL.mono (e : Same B B') : ∀ {vs : List V} {ds : List D}, DvL K B vs ds → DvL K B' vs ds
  | _, _, .nil => .nil
  | _, _, .cons h t => .cons (h.mono e) (DvL.mono e t)
in #guard_msgs in open Nat
theorem DvK.mono (e : Same B B') : ∀ {vs : List (Key × V)} {ds : List (Key × D)}, DvK K B vs ds → DvK K B' vs ds
  | _, _, .nil => .nil
  | _, _, .cons h t => .cons (h.mono e) (DvK.mono e t)
in #guard_msgs in open Nat
theorem DvT.mono (e : Same B B') : ∀ {vs : List (List Key × V)} {ds : List (List Key × D)}, DvT K B vs ds → DvT K B' vs ds
  | _, _, .nil => .nil
  | _, _, .cons h t => .cons (h.mono e) (DvT.mono e t)
in #guard_msgs in open Nat
theorem DvL.len : ∀ {vs : List V} {ds : List D}, DvL K B vs ds → vs.length = ds.length
  | _, _, .nil => rfl
  | _, _, .cons _ t => by rw [List.length_cons, List.length_cons, DvL.len t]
in #guard_msgs in open Nat
theorem DvL.at : ∀ {vs : List V} {ds : List D}, DvL K B vs ds → ∀ {i : Nat} {d : D}, ds[i]? = some d → ∃ v, vs[i]? = some v ∧ Dv K B v d
  | _, _, .nil, i, d, h => by simp at h
  | _, _, .cons h _, 0, d, e => by
    cases e
    exact ⟨_, rfl, h⟩
  | _, _, .cons _ t, i + 1, d, e => by
    obtain ⟨v, h1, h2⟩ := DvL.at t (i := i) (d := d) e
    exact ⟨v, h1, h2⟩
in #guard_msgs in open Nat
theorem DvL.at' : ∀ {vs : List V} {ds : List D}, DvL K B vs ds → ∀ {i : Nat} {v : V}, vs[i]? = some v → ∃ d, ds[i]? = some d ∧ Dv K B v d
  | _, _, .nil, i, d, h => by simp at h
  | _, _, .cons h _, 0, d, e => by
    cases e
    exact ⟨_, rfl, h⟩
  | _, _, .cons _ t, i + 1, v, e => by
    obtain ⟨d, h1, h2⟩ := DvL.at' t (i := i) (v := v) e
    exact ⟨d, h1, h2⟩
in #guard_msgs in open Nat
theorem DvL.append : ∀ {vs ws : List V} {ds es : List D}, DvL K B vs ds → DvL K B ws es → DvL K B (vs ++ ws) (ds ++ es)
  | _, _, _, _, .nil, h => h
  | _, _, _, _, .cons h t, q => .cons h (DvL.append t q)
in #guard_msgs in open Nat
theorem DvL.take : ∀ {vs : List V} {ds : List D} (n : Nat), DvL K B vs ds → DvL K B (vs.take n) (ds.take n)
  | _, _, 0, _ => .nil
  | _, _, _ + 1, .nil => .nil
  | _, _, n + 1, .cons h t => .cons h (DvL.take n t)
in #guard_msgs in open Nat
theorem DvL.drop : ∀ {vs : List V} {ds : List D} (n : Nat), DvL K B vs ds → DvL K B (vs.drop n) (ds.drop n)
  | _, _, 0, h => h
  | _, _, _ + 1, .nil => .nil
  | _, _, n + 1, .cons h t => DvL.drop n t
in #guard_msgs in open Nat
theorem DvL.set : ∀ {vs : List V} {ds : List D} (n : Nat), Dv K B v d → DvL K B vs ds → DvL K B (vs.set n v) (ds.set n d)
  | _, _, _, _, .nil => .nil
  | _, _, 0, q, .cons h t => .cons q t
  | _, _, n + 1, q, .cons h t => .cons h (DvL.set n q t)
in #guard_msgs in open Nat
theorem DvL.erase : ∀ {vs : List V} {ds : List D} (n : Nat), DvL K B vs ds → DvL K B (vs.eraseIdx n) (ds.eraseIdx n)
  | _, _, _, .nil => .nil
  | _, _, 0, .cons h t => t
  | _, _, n + 1, .cons h t => .cons h (DvL.erase n t)
in #guard_msgs in open Nat
theorem DvL.rev : ∀ {vs : List V} {ds : List D}, DvL K B vs ds → DvL K B vs.reverse ds.reverse
  | _, _, .nil => .nil
  | _, _, .cons h t => by
    rw [List.reverse_cons, List.reverse_cons]
    exact (DvL.rev t).append (.cons h .nil)
in #guard_msgs in open Nat
theorem DvL.cut {lo hi : Option Int} (h : DvL K B vs ds) : DvL K B (cutV vs lo hi) (cut ds lo hi) := by
  unfold cutV Tg.cut
  rw [h.len]
  exact (h.drop _).take _
/-! ### the heap's frozen part -/
def ext (B H H' : Hp) : Hp := fun b => match H b with
  | none => H' b
  | some _ => B b
def rem (B : Hp) (p : Addr) : Hp := fun b => if b = p then none else B b
theorem ext_new {b : Addr} (h : H b = none) : ext B H H' b = H' b := by unfold ext; rw [h]
theorem ext_old {b : Addr} (h : H b ≠ none) : ext B H H' b = B b := by
  unfold ext
  cases e : H b with
  | none => exact absurd e h
  | some o => rfl
theorem ne_none {b : Addr} {o : HO} (h : H b = some o) : H b ≠ none := by rw [h]; exact fun z => by cases z
theorem ext_l (s : Same B H) : Same B (ext B H H') := fun b o e => by
  rw [ext_old (ne_none (s b o e))]
  exact e
theorem ext_r (s : Same B H) (t : Same H H') : Same (ext B H H') H' := fun b o e => by
  cases h : H b with
  | none =>
    rw [ext_new h] at e
    exact e
  | some u =>
    rw [ext_old (ne_none h)] at e
    exact t b o (s b o e)
in #guard_msgs in open Nat
theorem ext_ext (t : Same H H1) (u : Same H1 H2) : ext (ext B H H1) H1 H2 = ext B H H2 := by
  funext b
  cases h1 : H1 b with
  | none => rw [ext_new h1, ext_new (t.free h1)]
  | some o =>
    rw [ext_old (ne_none h1)]
    cases h : H b with
    | none => rw [ext_new h, ext_new h, h1, u b o h1]
    | some o' => rw [ext_old (ne_none h), ext_old (ne_none h)]
in #guard_msgs in open Nat
theorem ext_self (s : Same B H) : ext B H H = B := by
  funext b
  cases h : H b with
  | none => rw [ext_new h, h, s.free h]
  | some o => rw [ext_old (ne_none h)]
theorem rem_same {p : Addr} : Same (rem B p) B := fun b o e => by
  unfold rem at e
  split at e
  · cases e
  · exact e
theorem same_rem {p : Addr} (s : Same B B') (h : B p = none) : Same B (rem B' p) := fun b o e => by
  unfold rem
  rw [if_neg (ne_of_none e h)]
  exact s b o e
/-! ### slots -/
inductive Sl where
  | un | sh (d : D) | own (d : D) | ow2 (dss : List (List D)) | bo (d : D)
def Cell (K : PySem.W.Frag) (B H : Hp) (a : Addr) : D → Prop
  | .lst ds => ∃ vs, H a = some (.lst vs) ∧ DvL K B vs ds
  | .dk ds => ∃ ks, H a = some (.dK ks) ∧ DvK K B ks ds
  | .dt ds => ∃ ks, H a = some (.dT ks) ∧ DvT K B ks ds
  | _ => False
theorem Cell.mono {a : Addr} (e : Same B B') (h : H' a = H a) (c : Cell K B H a d) : Cell K B' H' a d := by
  cases d <;> first | exact c | (obtain ⟨vs, h1, h2⟩ := c; exact ⟨vs, h.trans h1, h2.mono e⟩)
in #guard_msgs in open Nat
theorem Cell.there {a : Addr} (c : Cell K B H a d) : H a ≠ none := by
  cases d <;> first | exact False.elim c | (obtain ⟨vs, h1, h2⟩ := c; rw [h1]; exact fun z => by cases z)
in #guard_msgs in open Nat
theorem Cell.dv {a : Addr} (c : Cell K B H a d) (e : Same B B') (h : B' a = H a) : Dv K B' (.ref a) d := by
  cases d <;> first | exact False.elim c | skip
  · obtain ⟨vs, h1, h2⟩ := c
    exact .lst (h.trans h1) (h2.mono e)
  · obtain ⟨vs, h1, h2⟩ := c
    exact .dk (.inl (h.trans h1)) (h2.mono e)
  · obtain ⟨vs, h1, h2⟩ := c
    exact .dt (.inl (h.trans h1)) (h2.mono e)
in #guard_msgs in open Nat
/-- something stands there, and no tuple -/
def Hard (o : Option HO) : Prop := o ≠ none ∧ ∀ xs, o ≠ some (.tup xs)
theorem Hard.ne {o : Option HO} (h : Hard o) : o ≠ none := h.1
theorem hard_lst {o : Option HO} {xs : List V} (h : o = some (.lst xs)) : Hard o := by rw [h]; exact ⟨(fun z => by cases z), (fun _ z => by cases z)⟩
theorem Cell.hard {a : Addr} (c : Cell K B H a d) : Hard (H a) := by
  cases d <;> first | exact False.elim c | (obtain ⟨vs, h1, h2⟩ := c; rw [h1]; exact ⟨(fun z => by cases z), (fun _ z => by cases z)⟩)
in #guard_msgs in open Nat
theorem hard_up {a : Addr} (s : Same H H') (h : Hard (H a)) : Hard (H' a) := by
  cases e : H a with
  | none => exact absurd e h.1
  | some o =>
    rw [s a o e, ← e]
    exact h
in #guard_msgs in open Nat
/-- lists at ps -/
def Cells (K : PySem.W.Frag) (B H : Hp) (ps : List Addr) (dss : List (List D)) : Prop := Paired (fun p ds => Cell K B H p (.lst ds)) ps dss
theorem Cells.mono (e : Same B B') : ∀ {ps : List Addr} {dss : List (List D)}, (∀ p ∈ ps, H' p = H p) → Cells K B H ps dss → Cells K B' H' ps dss
  | _, _, _, .nil => .nil
  | _, _, h, .cons c t => .cons (c.mono e (h _ List.mem_cons_self)) (Cells.mono e (fun p m => h p (List.mem_cons_of_mem _ m)) t)
in #guard_msgs in open Nat
theorem Cells.there : ∀ {ps : List Addr} {dss : List (List D)}, Cells K B H ps dss → ∀ p ∈ ps, H p ≠ none
  | _, _, .nil, p, m => by cases m
  | _, _, .cons c t, p, m => (List.mem_cons.mp m).elim (fun e => e ▸ Cell.there c) (Cells.there t p)
in #guard_msgs in open Nat
theorem Cells.hard : ∀ {ps : List Addr} {dss : List (List D)}, Cells K B H ps dss → ∀ p ∈ ps, Hard (H p)
  | _, _, .nil, p, m => by cases m
  | _, _, .cons c t, p, m => (List.mem_cons.mp m).elim (fun e => e ▸ Cell.hard c) (Cells.hard t p)
in #guard_msgs in open Nat
theorem Cells.dv (e : Same B B') : ∀ {ps : List Addr} {dss : List (List D)}, (∀ p ∈ ps, B' p = H p) → Cells K B H ps dss → DvL K B' (ps.map V.ref) (dss.map .lst)
  | _, _, _, .nil => .nil
  | _, _, h, .cons c t => .cons (Cell.dv c e (h _ List.mem_cons_self)) (Cells.dv e (fun p m => h p (List.mem_cons_of_mem _ m)) t)
in #guard_msgs in open Nat
/-- what is readable of the slots -/
def EnvS (K : PySem.W.Frag) (B : Hp) (σ : L2.St) (ρ : List Sl) : Prop := ρ.length = σ.length ∧ ∀ (i : Nat) (d : D), ρ[i]? = some (Sl.sh d) → ∃ v, σ[i]? = some (some v) ∧ Dv K B v d
/-- own slots: their addresses are A -/
inductive EnvR (K : PySem.W.Frag) (B H : Hp) : L2.St → List Sl → List Addr → Prop
  | nil : EnvR K B H [] [] []
  | un {o : Option V} {σ : L2.St} {ρ : List Sl} {A : List Addr} : EnvR K B H σ ρ A → EnvR K B H (o :: σ) (.un :: ρ) A
  | sh {v : V} {d : D} {σ : L2.St} {ρ : List Sl} {A : List Addr} : Dv K B v d → EnvR K B H σ ρ A → EnvR K B H (some v :: σ) (.sh d :: ρ) A
  | own {a : Addr} {d : D} {σ : L2.St} {ρ : List Sl} {A : List Addr} : a ∉ A → B a = none → Cell K B H a d → EnvR K B H σ ρ A → EnvR K B H (some (.ref a) :: σ) (.own d :: ρ) (a :: A)
  | ow2 {a : Addr} {ps : List Addr} {dss : List (List D)} {σ : L2.St} {ρ : List Sl} {A : List Addr} : (∀ p ∈ a :: ps, p ∉ A) → (∀ p ∈ a :: ps, B p = none) → (a :: ps).Nodup → H a = some (.lst (ps.map V.ref)) → Cells K B H ps dss → EnvR K B H σ ρ A → EnvR K B H (some (.ref a) :: σ) (.ow2 dss :: ρ) ((a :: ps) ++ A)
def fz1 : Sl → Sl
  | .own d => .sh d
  | .ow2 dss => .sh (.lst (dss.map .lst))
  | s => s
def fz (ρ : List Sl) : List Sl := ρ.map fz1
variable {σ : L2.St} {ρ : List Sl} {A : List Addr}
theorem EnvR.mono (e : Same B B') : ∀ {σ : L2.St} {ρ : List Sl} {A : List Addr}, EnvR K B H σ ρ A → (∀ a ∈ A, B' a = none) → (∀ a ∈ A, H' a = H a) → EnvR K B' H' σ ρ A
  | _, _, _, .nil, _, _ => .nil
  | _, _, _, .un t, h1, h2 => .un (EnvR.mono e t h1 h2)
  | _, _, _, .sh h t, h1, h2 => .sh (h.mono e) (EnvR.mono e t h1 h2)
  | _, _, _, .own n b c t, h1, h2 => .own n (h1 _ List.mem_cons_self) (c.mono e (h2 _ List.mem_cons_self)) (EnvR.mono e t (fun a m => h1 a (List.mem_cons_of_mem _ m)) fun a m => h2 a (List.mem_cons_of_mem _ m))
  | _, _, _, .ow2 n b nd c cs t, h1, h2 => .ow2 n (fun p m => h1 p (List.mem_append_left _ m)) nd ((h2 _ (List.mem_append_left _ List.mem_cons_self)).trans c) (cs.mono e fun p m => h2 p (List.mem_append_left _ (List.mem_cons_of_mem _ m)))
    (EnvR.mono e t (fun a m => h1 a (List.mem_append_right _ m)) fun a m => h2 a (List.mem_append_right _ m))
in #guard_msgs in open Nat
theorem EnvR.len : ∀ {σ : L2.St} {ρ : List Sl} {A : List Addr}, EnvR K B H σ ρ A → ρ.length = σ.length
  | _, _, _, .nil => rfl
  | _, _, _, .un t => by rw [List.length_cons, List.length_cons, EnvR.len t]
  | _, _, _, .sh _ t => by rw [List.length_cons, List.length_cons, EnvR.len t]
  | _, _, _, .own _ _ _ t => by rw [List.length_cons, List.length_cons, EnvR.len t]
  | _, _, _, .ow2 _ _ _ _ _ t => by rw [List.length_cons, List.length_cons, EnvR.len t]
in #guard_msgs in open Nat
theorem EnvR.get : ∀ {σ : L2.St} {ρ : List Sl} {A : List Addr}, EnvR K B H σ ρ A → ∀ {i : Nat} {d : D}, ρ[i]? = some (.sh d) → ∃ v, σ[i]? = some (some v) ∧ Dv K B v d
  | _, _, _, .nil, i, d, h => by simp at h
  | _, _, _, .un t, 0, d, h => by simp at h
  | _, _, _, .sh q t, 0, d, h => by
    simp at h
    subst h
    exact ⟨_, rfl, q⟩
  | _, _, _, .own _ _ _ t, 0, d, h => by simp at h
  | _, _, _, .un t, i + 1, d, h => EnvR.get t (i := i) h
  | _, _, _, .sh _ t, i + 1, d, h => EnvR.get t (i := i) h
  | _, _, _, .own _ _ _ t, i + 1, d, h => EnvR.get t (i := i) h
  | _, _, _, .ow2 _ _ _ _ _ t, 0, d, h => by simp at h
  | _, _, _, .ow2 _ _ _ _ _ t, i + 1, d, h => EnvR.get t (i := i) h
in #guard_msgs in open Nat
theorem EnvR.envS (h : EnvR K B H σ ρ A) : EnvS K B σ ρ := ⟨h.len, fun _ _ e => h.get e⟩
theorem EnvR.there : ∀ {σ : L2.St} {ρ : List Sl} {A : List Addr}, EnvR K B H σ ρ A → ∀ a ∈ A, B a = none ∧ H a ≠ none
  | _, _, _, .nil, a, h => by cases h
  | _, _, _, .un t, a, h => EnvR.there t a h
  | _, _, _, .sh _ t, a, h => EnvR.there t a h
  | _, _, _, .own n b c t, a, h => by
    rcases List.mem_cons.mp h with rfl | h
    · exact ⟨b, c.there⟩
    · exact EnvR.there t a h
  | _, _, _, .ow2 n b nd c cs t, a, h => by
    rcases List.mem_append.mp h with h | h
    · refine ⟨b a h, ?_⟩
      rcases List.mem_cons.mp h with rfl | h
      · exact ne_none c
      · exact cs.there a h
    · exact EnvR.there t a h
in #guard_msgs in open Nat
theorem EnvR.hard : ∀ {σ : L2.St} {ρ : List Sl} {A : List Addr}, EnvR K B H σ ρ A → ∀ a ∈ A, Hard (H a)
  | _, _, _, .nil, a, h => by cases h
  | _, _, _, .un t, a, h => EnvR.hard t a h
  | _, _, _, .sh _ t, a, h => EnvR.hard t a h
  | _, _, _, .own n b c t, a, h => by
    rcases List.mem_cons.mp h with rfl | h
    · exact c.hard
    · exact EnvR.hard t a h
  | _, _, _, .ow2 n b nd c cs t, a, h => by
    rcases List.mem_append.mp h with h | h
    · rcases List.mem_cons.mp h with rfl | h
      · exact hard_lst c
      · exact cs.hard a h
    · exact EnvR.hard t a h
in #guard_msgs in open Nat
theorem EnvR.getOwn : ∀ {σ : L2.St} {ρ : List Sl} {A : List Addr}, EnvR K B H σ ρ A → ∀ {i : Nat} {d : D}, ρ[i]? = some (.own d) → ∃ a, σ[i]? = some (some (.ref a)) ∧ a ∈ A ∧ B a = none ∧ Cell K B H a d
  | _, _, _, .nil, i, d, h => by simp at h
  | _, _, _, .un t, 0, d, h => by simp at h
  | _, _, _, .sh q t, 0, d, h => by simp at h
  | _, _, _, .own n b c t, 0, d, h => by
    simp at h
    subst h
    exact ⟨_, rfl, List.mem_cons_self, b, c⟩
  | _, _, _, .un t, i + 1, d, h => EnvR.getOwn t (i := i) h
  | _, _, _, .sh _ t, i + 1, d, h => EnvR.getOwn t (i := i) h
  | _, _, _, .own _ _ _ t, i + 1, d, h => by
    obtain ⟨a, h1, h2, h3⟩ := EnvR.getOwn t (i := i) h
    exact ⟨a, h1, List.mem_cons_of_mem _ h2, h3⟩
  | _, _, _, .ow2 _ _ _ _ _ t, 0, d, h => by simp at h
  | _, _, _, .ow2 _ _ _ _ _ t, i + 1, d, h => by
    obtain ⟨a, h1, h2, h3⟩ := EnvR.getOwn t (i := i) h
    exact ⟨a, h1, List.mem_append_right _ h2, h3⟩
in #guard_msgs in open Nat
theorem EnvR.setSh {v : V} {d : D} (q : Dv K B v d) : ∀ {σ : L2.St} {ρ : List Sl} {A : List Addr}, EnvR K B H σ ρ A → ∀ i, ∃ A', (∀ a ∈ A', a ∈ A) ∧ EnvR K B H (σ.set i (some v)) (ρ.set i (.sh d)) A'
  | _, _, _, .nil, i => ⟨[], fun _ h => h, .nil⟩
  | _, _, _, .un t, 0 => ⟨_, fun _ h => h, .sh q t⟩
  | _, _, _, .sh _ t, 0 => ⟨_, fun _ h => h, .sh q t⟩
  | _, _, _, .own _ _ _ t, 0 => ⟨_, fun _ h => List.mem_cons_of_mem _ h, .sh q t⟩
  | _, _, _, .ow2 _ _ _ _ _ t, 0 => ⟨_, fun _ h => List.mem_append_right _ h, .sh q t⟩
  | _, _, _, .un t, i + 1 => by
    obtain ⟨A', h1, h2⟩ := EnvR.setSh q t i
    exact ⟨A', h1, .un h2⟩
  | _, _, _, .sh p t, i + 1 => by
    obtain ⟨A', h1, h2⟩ := EnvR.setSh q t i
    exact ⟨A', h1, .sh p h2⟩
  | _, _, _, .own (a := a) n b c t, i + 1 => by
    obtain ⟨A', h1, h2⟩ := EnvR.setSh q t i
    refine ⟨a :: A', fun x h => ?_, .own (fun m => n (h1 a m)) b c h2⟩
    rcases List.mem_cons.mp h with rfl | h
    · exact List.mem_cons_self
    · exact List.mem_cons_of_mem _ (h1 x h)
  | _, _, _, .ow2 n b nd c cs t, i + 1 => by
    obtain ⟨A', h1, h2⟩ := EnvR.setSh q t i
    refine ⟨_, fun x h => ?_, .ow2 (fun p m z => n p m (h1 p z)) b nd c cs h2⟩
    exact (List.mem_append.mp h).elim (List.mem_append_left _) fun m => List.mem_append_right _ (h1 x m)
in #guard_msgs in open Nat
theorem EnvR.setUn : ∀ {σ : L2.St} {ρ : List Sl} {A : List Addr}, EnvR K B H σ ρ A → ∀ i, ∃ A', (∀ a ∈ A', a ∈ A) ∧ EnvR K B H σ (ρ.set i .un) A'
  | _, _, _, .nil, i => ⟨[], fun _ h => h, .nil⟩
  | _, _, _, .un t, 0 => ⟨_, fun _ h => h, .un t⟩
  | _, _, _, .sh _ t, 0 => ⟨_, fun _ h => h, .un t⟩
  | _, _, _, .own _ _ _ t, 0 => ⟨_, fun _ h => List.mem_cons_of_mem _ h, .un t⟩
  | _, _, _, .ow2 _ _ _ _ _ t, 0 => ⟨_, fun _ h => List.mem_append_right _ h, .un t⟩
  | _, _, _, .un t, i + 1 => by
    obtain ⟨A', h1, h2⟩ := EnvR.setUn t i
    exact ⟨A', h1, .un h2⟩
  | _, _, _, .sh p t, i + 1 => by
    obtain ⟨A', h1, h2⟩ := EnvR.setUn t i
    exact ⟨A', h1, .sh p h2⟩
  | _, _, _, .own (a := a) n b c t, i + 1 => by
    obtain ⟨A', h1, h2⟩ := EnvR.setUn t i
    refine ⟨a :: A', fun x h => ?_, .own (fun m => n (h1 a m)) b c h2⟩
    rcases List.mem_cons.mp h with rfl | h
    · exact List.mem_cons_self
    · exact List.mem_cons_of_mem _ (h1 x h)
  | _, _, _, .ow2 n b nd c cs t, i + 1 => by
    obtain ⟨A', h1, h2⟩ := EnvR.setUn t i
    refine ⟨_, fun x h => ?_, .ow2 (fun p m z => n p m (h1 p z)) b nd c cs h2⟩
    exact (List.mem_append.mp h).elim (List.mem_append_left _) fun m => List.mem_append_right _ (h1 x m)
in #guard_msgs in open Nat
theorem EnvR.setNone : ∀ {σ : L2.St} {ρ : List Sl} {A : List Addr}, EnvR K B H σ ρ A → ∀ i, ∃ A', (∀ a ∈ A', a ∈ A) ∧ EnvR K B H (σ.set i none) (ρ.set i .un) A'
  | _, _, _, .nil, i => ⟨[], fun _ h => h, .nil⟩
  | _, _, _, .un t, 0 => ⟨_, fun _ h => h, .un t⟩
  | _, _, _, .sh _ t, 0 => ⟨_, fun _ h => h, .un t⟩
  | _, _, _, .own _ _ _ t, 0 => ⟨_, fun _ h => List.mem_cons_of_mem _ h, .un t⟩
  | _, _, _, .ow2 _ _ _ _ _ t, 0 => ⟨_, fun _ h => List.mem_append_right _ h, .un t⟩
  | _, _, _, .un t, i + 1 => by
    obtain ⟨A', h1, h2⟩ := EnvR.setNone t i
    exact ⟨A', h1, .un h2⟩
  | _, _, _, .sh p t, i + 1 => by
    obtain ⟨A', h1, h2⟩ := EnvR.setNone t i
    exact ⟨A', h1, .sh p h2⟩
  | _, _, _, .own (a := a) n b c t, i + 1 => by
    obtain ⟨A', h1, h2⟩ := EnvR.setNone t i
    refine ⟨a :: A', fun x h => ?_, .own (fun m => n (h1 a m)) b c h2⟩
    rcases List.mem_cons.mp h with rfl | h
    · exact List.mem_cons_self
    · exact List.mem_cons_of_mem _ (h1 x h)
  | _, _, _, .ow2 n b nd c cs t, i + 1 => by
    obtain ⟨A', h1, h2⟩ := EnvR.setNone t i
    refine ⟨_, fun x h => ?_, .ow2 (fun p m z => n p m (h1 p z)) b nd c cs h2⟩
    exact (List.mem_append.mp h).elim (List.mem_append_left _) fun m => List.mem_append_right _ (h1 x m)
in #guard_msgs in open Nat
theorem EnvR.setOwn {p : Addr} {d : D} (np : B p = none) (q : Cell K B H p d) : ∀ {σ : L2.St} {ρ : List Sl} {A : List Addr}, EnvR K B H σ ρ A → p ∉ A → ∀ i, ∃ A', (∀ a ∈ A', a = p ∨ a ∈ A) ∧ EnvR K B H (σ.set i (some (.ref p))) (ρ.set i (.own d)) A'
  | _, _, _, .nil, _, i => ⟨[], (fun _ h => by cases h), EnvR.nil⟩
  | _, _, _, .un t, n, 0 => ⟨_, fun _ h => List.mem_cons.mp h, .own n np q t⟩
  | _, _, _, .sh _ t, n, 0 => ⟨_, fun _ h => List.mem_cons.mp h, .own n np q t⟩
  | _, _, _, .own _ _ _ t, n, 0 => ⟨_, fun _ h => (List.mem_cons.mp h).imp id (List.mem_cons_of_mem _), .own (fun m => n (List.mem_cons_of_mem _ m)) np q t⟩
  | _, _, _, .ow2 _ _ _ _ _ t, n, 0 => ⟨_, fun _ h => (List.mem_cons.mp h).imp id (List.mem_append_right _), .own (fun m => n (List.mem_append_right _ m)) np q t⟩
  | _, _, _, .un t, n, i + 1 => by
    obtain ⟨A', h1, h2⟩ := EnvR.setOwn np q t n i
    exact ⟨A', h1, .un h2⟩
  | _, _, _, .sh p t, n, i + 1 => by
    obtain ⟨A', h1, h2⟩ := EnvR.setOwn np q t n i
    exact ⟨A', h1, .sh p h2⟩
  | _, _, _, .own (a := a) n' b c t, n, i + 1 => by
    obtain ⟨A', h1, h2⟩ := EnvR.setOwn np q t (fun m => n (List.mem_cons_of_mem _ m)) i
    refine ⟨a :: A', fun x h => ?_, .own (fun m => ?_) b c h2⟩
    · rcases List.mem_cons.mp h with rfl | h
      · exact .inr List.mem_cons_self
      · exact (h1 x h).imp id (List.mem_cons_of_mem _)
    · rcases h1 a m with e | m'
      · exact n (e ▸ List.mem_cons_self)
      · exact n' m'
  | _, _, _, .ow2 n' b nd c cs t, n, i + 1 => by
    obtain ⟨A', h1, h2⟩ := EnvR.setOwn np q t (fun m => n (List.mem_append_right _ m)) i
    refine ⟨_, fun x h => ?_, .ow2 (fun p m z => ?_) b nd c cs h2⟩
    · exact (List.mem_append.mp h).elim (fun m => .inr (List.mem_append_left _ m)) fun m => (h1 x m).imp id (List.mem_append_right _)
    · rcases h1 p z with e | m'
      · exact n (e ▸ List.mem_append_left _ m)
      · exact n' p m m'
in #guard_msgs in open Nat
/-- the cell of an own slot changes -/
theorem EnvR.mut {d d' : D} : ∀ {σ : L2.St} {ρ : List Sl} {A : List Addr}, EnvR K B H σ ρ A → ∀ {i : Nat} {a : Addr}, ρ[i]? = some (.own d) → σ[i]? = some (some (.ref a)) → (∀ b ∈ A, b ≠ a → H' b = H b) → Cell K B H' a d' → EnvR K B H' σ (ρ.set i (.own d')) A
  | _, _, _, .nil, i, a, h, _, _, _ => by simp at h
  | _, _, _, .un t, 0, a, h, _, _, _ => by simp at h
  | _, _, _, .sh q t, 0, a, h, _, _, _ => by simp at h
  | _, _, _, .own n b c t, 0, a, h, e, k, q => by
    simp at e
    subst e
    exact .own n b q (t.mono (Same.refl _) (fun x m => (t.there x m).1) fun x m => k x (List.mem_cons_of_mem _ m) fun z => n (z ▸ m))
  | _, _, _, .un t, i + 1, a, h, e, k, q => .un (EnvR.mut t (i := i) h e k q)
  | _, _, _, .sh p t, i + 1, a, h, e, k, q => .sh p (EnvR.mut t (i := i) h e k q)
  | _, _, _, .own (a := a') n b c t, i + 1, a, h, e, k, q => by
    obtain ⟨a2, h1, h2, _⟩ := t.getOwn (i := i) h
    have e' : a2 = a := by
      have e2 : _ = some (some (V.ref a)) := e
      simp only [List.getElem?_cons_succ] at e2
      rw [h1] at e2
      simpa using e2
    subst e'
    have ne : a' ≠ a2 := fun z => n (z ▸ h2)
    exact .own n b (c.mono (Same.refl _) (k a' List.mem_cons_self ne)) (EnvR.mut t (i := i) h e (fun x m => k x (List.mem_cons_of_mem _ m)) q)
  | _, _, _, .ow2 _ _ _ _ _ t, 0, a, h, _, _, _ => by simp at h
  | _, _, _, .ow2 n b nd c cs t, i + 1, a, h, e, k, q => by
    obtain ⟨a2, h1, h2, _⟩ := t.getOwn (i := i) h
    have e' : a2 = a := by
      have e2 : _ = some (some (V.ref a)) := e
      simp only [List.getElem?_cons_succ] at e2
      rw [h1] at e2
      simpa using e2
    subst e'
    have kk : ∀ p ∈ _, H' p = H p := fun p m => k p (List.mem_append_left _ m) fun z => n p m (z ▸ h2)
    exact .ow2 n b nd ((kk _ List.mem_cons_self).trans c) (cs.mono (Same.refl _) fun p m => kk p (List.mem_cons_of_mem _ m)) (EnvR.mut t (i := i) h e (fun x m => k x (List.mem_append_right _ m)) q)
in #guard_msgs in open Nat
theorem EnvR.own_at : ∀ {σ : L2.St} {ρ : List Sl} {A : List Addr}, EnvR K B H σ ρ A → ∀ {i : Nat} {d : D} {a : Addr}, ρ[i]? = some (.own d) → σ[i]? = some (some (.ref a)) → a ∈ A := fun h i d a e e' => by
  obtain ⟨a', h1, h2, _⟩ := h.getOwn e
  rw [e'] at h1
  cases h1
  exact h2
in #guard_msgs in open Nat
theorem EnvR.own_ne : ∀ {σ : L2.St} {ρ : List Sl} {A : List Addr}, EnvR K B H σ ρ A → ∀ {i j : Nat} {d e : D} {a b : Addr}, ρ[i]? = some (.own d) → ρ[j]? = some (.own e) → σ[i]? = some (some (.ref a)) → σ[j]? = some (some (.ref b)) → i ≠ j → a ≠ b
  | _, _, _, .nil, i, j, d, e, a, b, h, _, _, _, _ => by simp at h
  | _, _, _, .un t, 0, j, d, e, a, b, h, _, _, _, _ => by simp at h
  | _, _, _, .sh _ t, 0, j, d, e, a, b, h, _, _, _, _ => by simp at h
  | _, _, _, .un t, _, 0, d, e, a, b, _, h, _, _, _ => by simp at h
  | _, _, _, .sh _ t, _, 0, d, e, a, b, _, h, _, _, _ => by simp at h
  | _, _, _, .own _ _ _ t, 0, 0, d, e, a, b, _, _, _, _, n => absurd rfl n
  | _, _, _, .own n _ _ t, 0, j + 1, d, e, a, b, _, h2, h3, h4, _ => fun z => by
    simp at h3
    subst h3
    subst z
    exact n (t.own_at (i := j) h2 h4)
  | _, _, _, .own n _ _ t, i + 1, 0, d, e, a, b, h1, _, h3, h4, _ => fun z => by
    simp at h4
    subst h4
    subst z
    exact n (t.own_at (i := i) h1 h3)
  | _, _, _, .un t, i + 1, j + 1, d, e, a, b, h1, h2, h3, h4, n => EnvR.own_ne t (i := i) (j := j) h1 h2 h3 h4 fun z => n (by rw [z])
  | _, _, _, .sh _ t, i + 1, j + 1, d, e, a, b, h1, h2, h3, h4, n => EnvR.own_ne t (i := i) (j := j) h1 h2 h3 h4 fun z => n (by rw [z])
  | _, _, _, .ow2 _ _ _ _ _ t, 0, j, d, e, a, b, h, _, _, _, _ => by simp at h
  | _, _, _, .ow2 _ _ _ _ _ t, _, 0, d, e, a, b, _, h, _, _, _ => by simp at h
  | _, _, _, .ow2 _ _ _ _ _ t, i + 1, j + 1, d, e, a, b, h1, h2, h3, h4, n => EnvR.own_ne t (i := i) (j := j) h1 h2 h3 h4 fun z => n (by rw [z])
  | _, _, _, .own _ _ _ t, i + 1, j + 1, d, e, a, b, h1, h2, h3, h4, n => EnvR.own_ne t (i := i) (j := j) h1 h2 h3 h4 fun z => n (by rw [z])
in #guard_msgs in open Nat
/-- all own slots frozen -/
def fzB (B H : Hp) (A : List Addr) : Hp := fun b => if b ∈ A then H b else B b
theorem fzB_l (h : ∀ a ∈ A, B a = none) : Same B (fzB B H A) := fun b o e => by
  unfold fzB
  rw [if_neg fun m => by rw [h b m] at e; cases e]
  exact e
theorem fzB_r (s : Same B H) : Same (fzB B H A) H := fun b o e => by
  unfold fzB at e
  split at e
  · exact e
  · exact s b o e
theorem EnvR.fzS : ∀ {σ : L2.St} {ρ : List Sl} {A : List Addr}, EnvR K B H σ ρ A → Same B B' → (∀ a ∈ A, B' a = H a) → EnvR K B' H σ (fz ρ) []
  | _, _, _, .nil, _, _ => .nil
  | _, _, _, .un t, e, h => .un (EnvR.fzS t e h)
  | _, _, _, .sh q t, e, h => .sh (q.mono e) (EnvR.fzS t e h)
  | _, _, _, .own n b c t, e, h => .sh (c.dv e (h _ List.mem_cons_self)) (EnvR.fzS t e fun a m => h a (List.mem_cons_of_mem _ m))
  | _, _, _, .ow2 n b nd c cs t, e, h => .sh (.lst ((h _ (List.mem_append_left _ List.mem_cons_self)).trans c) (cs.dv e fun p m => h p (List.mem_append_left _ (List.mem_cons_of_mem _ m)))) (EnvR.fzS t e fun a m => h a (List.mem_append_right _ m))
in #guard_msgs in open Nat
theorem EnvR.fz (h : EnvR K B H σ ρ A) : EnvR K (fzB B H A) H σ (fz ρ) [] := h.fzS (fzB_l fun a m => (h.there a m).1) fun a m => by
  unfold fzB
  rw [if_pos m]
/-- one own slot frozen -/
theorem EnvR.fz1 {d : D} : ∀ {σ : L2.St} {ρ : List Sl} {A : List Addr}, EnvR K B H σ ρ A → ∀ {i : Nat}, ρ[i]? = some (.own d) → ∃ a A', σ[i]? = some (some (.ref a)) ∧ a ∈ A ∧ (∀ b ∈ A', b ∈ A ∧ b ≠ a) ∧ ∀ B', Same B B' → B' a = H a → (∀ b ∈ A', B' b = none) → EnvR K B' H σ (ρ.set i (.sh d)) A'
  | _, _, _, .nil, i, h => by simp at h
  | _, _, _, .un t, 0, h => by simp at h
  | _, _, _, .sh q t, 0, h => by simp at h
  | _, _, _, .own (a := a) (A := A) n b c t, 0, h => by
    simp at h
    subst h
    exact ⟨a, A, rfl, List.mem_cons_self, fun x m => ⟨List.mem_cons_of_mem _ m, fun z => n (z ▸ m)⟩, fun B' s e1 e2 => .sh (c.dv s e1) (t.mono s e2 fun _ _ => rfl)⟩
  | _, _, _, .un t, i + 1, h => by
    obtain ⟨a, A', h1, h2, h3, h4⟩ := EnvR.fz1 t (i := i) h
    exact ⟨a, A', h1, h2, h3, fun B' s e1 e2 => .un (h4 B' s e1 e2)⟩
  | _, _, _, .sh q t, i + 1, h => by
    obtain ⟨a, A', h1, h2, h3, h4⟩ := EnvR.fz1 t (i := i) h
    exact ⟨a, A', h1, h2, h3, fun B' s e1 e2 => .sh (q.mono s) (h4 B' s e1 e2)⟩
  | _, _, _, .own (a := a0) n b c t, i + 1, h => by
    obtain ⟨a, A', h1, h2, h3, h4⟩ := EnvR.fz1 t (i := i) h
    have ne : a0 ≠ a := fun z => n (z ▸ h2)
    refine ⟨a, a0 :: A', h1, List.mem_cons_of_mem _ h2, fun x m => ?_, fun B' s e1 e2 => .own (fun m => n (h3 a0 m).1) (e2 a0 List.mem_cons_self) (c.mono s rfl) (h4 B' s e1 fun b m => e2 b (List.mem_cons_of_mem _ m))⟩
    rcases List.mem_cons.mp m with rfl | m
    · exact ⟨List.mem_cons_self, ne⟩
    · exact ⟨List.mem_cons_of_mem _ (h3 x m).1, (h3 x m).2⟩
  | _, _, _, .ow2 _ _ _ _ _ t, 0, h => by simp at h
  | _, _, _, .ow2 (a := a0) (ps := ps) n b nd c cs t, i + 1, h => by
    obtain ⟨a, A', h1, h2, h3, h4⟩ := EnvR.fz1 t (i := i) h
    refine ⟨a, (a0 :: ps) ++ A', h1, List.mem_append_right _ h2, fun x m => ?_, fun B' s e1 e2 => .ow2 (fun p m z => n p m (h3 p z).1) (fun p m => e2 p (List.mem_append_left _ m)) nd c (cs.mono s fun _ _ => rfl) (h4 B' s e1 fun b m => e2 b (List.mem_append_right _ m))⟩
    rcases List.mem_append.mp m with m | m
    · exact ⟨List.mem_append_left _ m, fun z => n x m (z ▸ h2)⟩
    · exact ⟨List.mem_append_right _ (h3 x m).1, (h3 x m).2⟩
in #guard_msgs in open Nat
end
/-! ### expressions -/
/-- what an expression asks: q of its data -/
def AE (K : PySem.W.Frag) (te : TE) (ρ : List Sl) (q : D → Prop) : Prop := ∀ (B H : Hp) (σ : L2.St), Same B H → EnvS K B σ ρ → ∀ Q : VK, (∀ d v H', q d → Same H H' → Dv K (ext B H H') v d → Q v H') → te σ H Q
def AA (K : PySem.W.Frag) (ta : TA) (ρ : List Sl) (q : List D → Prop) : Prop := ∀ (B H : Hp) (σ : L2.St), Same B H → EnvS K B σ ρ → ∀ Q : List V → Hp → Prop, (∀ d v H', q d → Same H H' → DvL K (ext B H H') v d → Q v H') → ta σ H Q
def AT (tt : TT) (K : PySem.W.Frag) (ρ : List Sl) (q : Bool → Prop) : Prop := ∀ (B H : Hp) (σ : L2.St), Same B H → EnvS K B σ ρ → ∀ Q : Bool → Hp → Prop, (∀ b H', q b → Same H H' → Q b H') → tt σ H Q
/-- the parts of a new object at p -/
def NewC (K : PySem.W.Frag) (B H : Hp) (p : Addr) (d : D) : Prop := Cell K (rem B p) H p d
/-- .. that it is a new list, or dict -/
def AN (K : PySem.W.Frag) (te : TE) (ρ : List Sl) (q : D → Prop) : Prop := ∀ (B H : Hp) (σ : L2.St), Same B H → EnvS K B σ ρ → ∀ Q : VK, (∀ d p H', q d → H p = none → Same H H' → NewC K (ext B H H') H' p d → Q (.ref p) H') → te σ H Q
/-- two values -/
def A2 (K : PySem.W.Frag) (r : R2) (a b : D) (q : D → Prop) : Prop := ∀ (B H : Hp) (x y : V), Same B H → Dv K B x a → Dv K B y b → ∀ Q : VK, (∀ d v H', q d → Same H H' → Dv K (ext B H H') v d → Q v H') → r x y H Q
def A1 (K : PySem.W.Frag) (r : V → Hp → VK → Prop) (a : D) (q : D → Prop) : Prop := ∀ (B H : Hp) (x : V), Same B H → Dv K B x a → ∀ Q : VK, (∀ d v H', q d → Same H H' → Dv K (ext B H H') v d → Q v H') → r x H Q
/-- an argument list's values -/
def AL (K : PySem.W.Frag) (r : List V → Hp → VK → Prop) (ds : List D) (q : D → Prop) : Prop := ∀ (B H : Hp) (vs : List V), Same B H → DvL K B vs ds → ∀ Q : VK, (∀ d v H', q d → Same H H' → Dv K (ext B H H') v d → Q v H') → r vs H Q
def A2N (K : PySem.W.Frag) (r : R2) (a b : D) (q : D → Prop) : Prop := ∀ (B H : Hp) (x y : V), Same B H → Dv K B x a → Dv K B y b → ∀ Q : VK, (∀ d p H', q d → H p = none → Same H H' → NewC K (ext B H H') H' p d → Q (.ref p) H') → r x y H Q
def ALN (K : PySem.W.Frag) (r : List V → Hp → VK → Prop) (ds : List D) (q : D → Prop) : Prop := ∀ (B H : Hp) (vs : List V), Same B H → DvL K B vs ds → ∀ Q : VK, (∀ d p H', q d → H p = none → Same H H' → NewC K (ext B H H') H' p d → Q (.ref p) H') → r vs H Q
section
variable {K : PySem.W.Frag} {B B' H H' H1 H2 : Hp} {v : V} {d : D} {vs : List V} {ds : List D} {σ : L2.St} {ρ : List Sl} {A : List Addr} {te ta tb tc : TE} {tl : TA} {tt tu : TT} {q : D → Prop} {i : Nat}
theorem EnvS.mono (e : Same B B') (h : EnvS K B σ ρ) : EnvS K B' σ ρ := ⟨h.1, fun i d x => by
  obtain ⟨v, h1, h2⟩ := h.2 i d x
  exact ⟨v, h1, h2.mono e⟩⟩
theorem EnvS.set (h : EnvS K B σ ρ) (q : Dv K B v d) : EnvS K B (σ.set i (some v)) (ρ.set i (.sh d)) := ⟨by rw [List.length_set, List.length_set]; exact h.1, fun j e x => by
  by_cases c : i = j
  · subst c
    have hl : i < ρ.length := by
      have := (List.getElem?_eq_some_iff.mp x).1
      rwa [List.length_set] at this
    rw [List.getElem?_set_self hl] at x
    cases x
    exact ⟨v, List.getElem?_set_self (h.1 ▸ hl), q⟩
  · rw [List.getElem?_set_ne c] at x
    rw [List.getElem?_set_ne c]
    exact h.2 j e x⟩
in #guard_msgs in open Nat
theorem newC_dv {p : Addr} (c : NewC K B H p d) (e : B p = H p) : Dv K B (.ref p) d := Cell.dv c rem_same e
theorem ae_var (h : ρ[i]? = some (.sh d)) (hq : q d) : AE K (tVar i) ρ q := fun B H σ s E Q k => by
  obtain ⟨v, h1, h2⟩ := E.2 i d h
  exact ⟨v, h1, k d v H hq (Same.refl _) (by rw [ext_self s]; exact h2)⟩
in #guard_msgs in open Nat
/-- a slot whose value is known, too -/
theorem ae_varD {v : V} (h : ρ[i]? = some (.sh (.vd v d))) (hq : q d) : AE K (tVar i) ρ q := fun B H σ s E Q k => by
  obtain ⟨u, h1, h2⟩ := E.2 i _ h
  cases h2 with
  | vd h3 => exact ⟨v, h1, k _ _ H hq (Same.refl _) (h3.mono (ext_l s))⟩
in #guard_msgs in open Nat
theorem ae_c (hq : q .non) : AE K (tC .non) ρ q := fun B H σ s E Q k => k _ _ H hq (Same.refl _) .non
theorem ae_int {n : Int} (hq : q (.int n)) : AE K (tC (.int n)) ρ q := fun B H σ s E Q k => k _ _ H hq (Same.refl _) (.int _)
theorem ae_bl {n : Bool} (hq : q (.bl n)) : AE K (tC (.bl n)) ρ q := fun B H σ s E Q k => k _ _ H hq (Same.refl _) (.bl _)
theorem ae_str {z : Str} (ok : okS z) (hq : q (.str z)) : AE K (tC (.str z)) ρ q := fun B H σ s E Q k => k _ _ H hq (Same.refl _) (.str _ ok)
theorem ae_ty {z : String} (hq : q (.op (.ty z))) : AE K (tC (.ty z)) ρ q := fun B H σ s E Q k => k _ _ H hq (Same.refl _) (.op _)
/-- an expression, then something by its value -/
theorem ae_bind {r : V → Hp → VK → Prop} {t : TE} (ht : ∀ σ H Q, ta σ H (fun x H1 => r x H1 Q) → t σ H Q) (h : AE K ta ρ fun a => A1 K r a q) : AE K t ρ q := fun B H σ s E Q k => ht _ _ _ (h B H σ s E _ fun a x H1 h1 s1 dx =>
  h1 (ext B H H1) H1 x (ext_r s s1) dx Q fun d v H' hq s2 dv => k d v H' hq (s1.trans s2) (by rw [ext_ext s1 s2] at dv; exact dv))
in #guard_msgs in open Nat
theorem ae_un {r : V → Hp → VK → Prop} (h : AE K ta ρ fun a => A1 K r a q) : AE K (tUn r ta) ρ q := ae_bind (r := r) (fun _ _ _ h => h) h
theorem ae_op {r : R2} (h : AE K ta ρ fun a => AE K tb ρ fun b => A2 K r a b q) : AE K (tOp r ta tb) ρ q := fun B H σ s E Q k => h B H σ s E _ fun a x H1 h1 s1 dx =>
  h1 (ext B H H1) H1 σ (ext_r s s1) (E.mono (ext_l s)) _ fun b y H2 h2 s2 dy => by
    rw [ext_ext s1 s2] at dy
    have s12 := s1.trans s2
    have dx' : Dv K (ext B H H2) x a := dx.mono (by rw [← ext_ext s1 s2]; exact ext_l (ext_r s s1))
    exact h2 (ext B H H2) H2 x y (ext_r s s12) dx' dy Q fun d v H' hq s3 dv => k d v H' hq (s12.trans s3) (by rw [ext_ext s12 s3] at dv; exact dv)
in #guard_msgs in open Nat
theorem an_op {r : R2} (h : AE K ta ρ fun a => AE K tb ρ fun b => A2N K r a b q) : AN K (tOp r ta tb) ρ q := fun B H σ s E Q k => h B H σ s E _ fun a x H1 h1 s1 dx =>
  h1 (ext B H H1) H1 σ (ext_r s s1) (E.mono (ext_l s)) _ fun b y H2 h2 s2 dy => by
    rw [ext_ext s1 s2] at dy
    have s12 := s1.trans s2
    have dx' : Dv K (ext B H H2) x a := dx.mono (by rw [← ext_ext s1 s2]; exact ext_l (ext_r s s1))
    exact h2 (ext B H H2) H2 x y (ext_r s s12) dx' dy Q fun d p H' hq np s3 dv => k d p H' hq (s12.free np) (s12.trans s3) (by rw [ext_ext s12 s3] at dv; exact dv)
in #guard_msgs in open Nat
theorem ae_of_an (h : AN K te ρ q) : AE K te ρ q := fun B H σ s E Q k => h B H σ s E Q fun d p H' hq np s1 c => k d _ H' hq s1 (newC_dv c (ext_new np))
theorem ae_mono {q' : D → Prop} (h : AE K te ρ q) (hq : ∀ d, q d → q' d) : AE K te ρ q' := fun B H σ s E Q k => h B H σ s E Q fun d v H' z => k d v H' (hq d z)
/-! arguments -/
theorem aa_nil {q : List D → Prop} (h : q []) : AA K tNil ρ q := fun B H σ s E Q k => k _ _ H h (Same.refl _) .nil
theorem aa_cons {q : List D → Prop} (h : AE K ta ρ fun a => AA K tl ρ fun ds => q (a :: ds)) : AA K (tCons ta tl) ρ q := fun B H σ s E Q k => h B H σ s E _ fun a x H1 h1 s1 dx =>
  h1 (ext B H H1) H1 σ (ext_r s s1) (E.mono (ext_l s)) _ fun ds vs H2 h2 s2 dy => by
    rw [ext_ext s1 s2] at dy
    have dx' : Dv K (ext B H H2) x a := dx.mono (by rw [← ext_ext s1 s2]; exact ext_l (ext_r s s1))
    exact k _ _ H2 h2 (s1.trans s2) (.cons dx' dy)
in #guard_msgs in open Nat
theorem ae_cb {r : List V → Hp → VK → Prop} (h : AA K tl ρ fun ds => AL K r ds q) : AE K (tCB r tl) ρ q := fun B H σ s E Q k => h B H σ s E _ fun ds vs H1 h1 s1 dx =>
  h1 (ext B H H1) H1 vs (ext_r s s1) dx Q fun d v H' hq s2 dv => k d v H' hq (s1.trans s2) (by rw [ext_ext s1 s2] at dv; exact dv)
in #guard_msgs in open Nat
theorem an_cb {r : List V → Hp → VK → Prop} (h : AA K tl ρ fun ds => ALN K r ds q) : AN K (tCB r tl) ρ q := fun B H σ s E Q k => h B H σ s E _ fun ds vs H1 h1 s1 dx =>
  h1 (ext B H H1) H1 vs (ext_r s s1) dx Q fun d v H' hq np s2 dv => k d v H' hq (s1.free np) (s1.trans s2) (by rw [ext_ext s1 s2] at dv; exact dv)
in #guard_msgs in open Nat
/-- the promise of a def that changes nothing: T asks by the data -/
def pfn (K : PySem.W.Frag) (T : List D → (D → Prop) → Prop) : Sp := fun vs H Q _ => ∃ (B : Hp) (ds : List D) (q : D → Prop), Same B H ∧ DvL K B vs ds ∧ T ds q ∧ ∀ d v H', q d → Same H H' → Dv K (ext B H H') v d → Q v H'
/-- .. and tells a new list or dict -/
def pfnN (K : PySem.W.Frag) (T : List D → (D → Prop) → Prop) : Sp := fun vs H Q _ => ∃ (B : Hp) (ds : List D) (q : D → Prop), Same B H ∧ DvL K B vs ds ∧ T ds q ∧ ∀ d p H', q d → H p = none → Same H H' → NewC K (ext B H H') H' p d → Q (.ref p) H'
theorem ae_call {T : List D → (D → Prop) → Prop} {E' : XK} (h : AA K tl ρ fun ds => T ds q) : AE K (tCall (pfn K T) [] E' tl) ρ q := fun B H σ s E Q k => h B H σ s E _ fun ds vs H1 h1 s1 dx => by
  refine ⟨ext B H H1, ds, q, ext_r s s1, by rw [List.append_nil]; exact dx, h1, fun d v H' hq s2 dv => ?_⟩
  rw [ext_ext s1 s2] at dv
  exact k d v H' hq (s1.trans s2) dv
in #guard_msgs in open Nat
theorem an_call {T : List D → (D → Prop) → Prop} {E' : XK} (h : AA K tl ρ fun ds => T ds q) : AN K (tCall (pfnN K T) [] E' tl) ρ q := fun B H σ s E Q k => h B H σ s E _ fun ds vs H1 h1 s1 dx => by
  refine ⟨ext B H H1, ds, q, ext_r s s1, by rw [List.append_nil]; exact dx, h1, fun d p H' hq np s2 dv => ?_⟩
  rw [ext_ext s1 s2] at dv
  exact k d p H' hq (s1.free np) (s1.trans s2) dv
in #guard_msgs in open Nat
/-! displays -/
theorem ae_tup (h : AA K tl ρ fun ds => ds.length ≤ 100000 ∧ q (.tup ds)) : AE K (tTup tl) ρ q := fun B H σ s E Q k => h B H σ s E _ fun ds vs H1 ⟨hl, h1⟩ s1 dx => by
  refine ⟨small (by rw [dx.len]; exact hl), fun p np => k _ _ _ h1 (s1.trans (same_upd np)) ?_⟩
  have s2 : Same H1 (upd H1 p (.tup vs)) := same_upd np
  refine .tup (by rw [ext_new (s1.free np), upd_same]) ?_
  rw [← ext_ext s1 s2]
  exact dx.mono (ext_l (ext_r s s1))
in #guard_msgs in open Nat
theorem same_remx {p : Addr} (s : Same B H) (np : H p = none) : Same B (rem (ext B H H') p) := same_rem (ext_l s) (s.free np)
theorem an_lst (h : AA K tl ρ fun ds => ds.length ≤ 100000 ∧ q (.lst ds)) : AN K (tLst tl) ρ q := fun B H σ s E Q k => h B H σ s E _ fun ds vs H1 ⟨hl, h1⟩ s1 dx => by
  refine ⟨small (by rw [dx.len]; exact hl), fun p np => k _ _ _ h1 (s1.free np) (s1.trans (same_upd np)) ?_⟩
  have s2 : Same H1 (upd H1 p (.lst vs)) := same_upd np
  refine ⟨vs, upd_same, ?_⟩
  rw [← ext_ext s1 s2]
  exact dx.mono (same_remx (ext_r s s1) np)
in #guard_msgs in open Nat
theorem an_dnew (hq : q (.dk [])) : AN K tDNewK ρ q := fun B H σ s E Q k p np => k _ _ _ hq np (same_upd np) ⟨[], upd_same, .nil⟩
/-! tests -/
theorem at_b {q : Bool → Prop} (h : AE K te ρ fun d => ∃ b, d = .bl b ∧ q b) : AT (tB te) K ρ q := fun B H σ s E Q k => h B H σ s E _ fun d v H' ⟨b, e, hb⟩ s1 dv => by
  subst e
  cases dv
  exact ⟨b, rfl, k b H' hb s1⟩
in #guard_msgs in open Nat
theorem at_test {q : Bool → Prop} (h : AE K te ρ fun d => ∃ b, d = .bl b ∧ q b) : AT (tTest te) K ρ q := fun B H σ s E Q k => h B H σ s E _ fun d v H' ⟨b, e, hb⟩ s1 dv => by
  subst e
  cases dv
  exact ⟨b, rfl, k b H' hb s1⟩
in #guard_msgs in open Nat
theorem at_not {q : Bool → Prop} (h : AT tt K ρ fun b => q (!b)) : AT (tNot tt) K ρ q := fun B H σ s E Q k => h B H σ s E _ fun b H' hb s1 => k _ H' hb s1
theorem at_and {q : Bool → Prop} (h : AT tt K ρ fun b => (b = true → AT tu K ρ q) ∧ (b = false → q false)) : AT (tAnd tt tu) K ρ q := fun B H σ s E Q k => h B H σ s E _ fun b H1 ⟨ht, hf⟩ s1 => by
  cases b with
  | true =>
    rw [if_pos rfl]
    exact ht rfl (ext B H H1) H1 σ (ext_r s s1) (E.mono (ext_l s)) Q fun b H' hb s2 => k b H' hb (s1.trans s2)
  | false =>
    rw [if_neg Bool.false_ne_true]
    exact k false H1 (hf rfl) s1
in #guard_msgs in open Nat
theorem at_or {q : Bool → Prop} (h : AT tt K ρ fun b => (b = false → AT tu K ρ q) ∧ (b = true → q true)) : AT (tOr tt tu) K ρ q := fun B H σ s E Q k => h B H σ s E _ fun b H1 ⟨hf, ht⟩ s1 => by
  cases b with
  | false =>
    rw [if_neg Bool.false_ne_true]
    exact hf rfl (ext B H H1) H1 σ (ext_r s s1) (E.mono (ext_l s)) Q fun b H' hb s2 => k b H' hb (s1.trans s2)
  | true =>
    rw [if_pos rfl]
    exact k true H1 (ht rfl) s1
in #guard_msgs in open Nat
/-- with the answers told as one -/
theorem at_andB {k1 k2 : Bool} {q : Bool → Prop} (h1 : ∀ q : Bool → Prop, q k1 → AT tt K ρ q) (h2 : k1 = true → ∀ q : Bool → Prop, q k2 → AT tu K ρ q) (hq : q (k1 && k2)) : AT (tAnd tt tu) K ρ q := at_and (h1 _ ⟨fun e => h2 e _ (by rw [e, Bool.true_and] at hq; exact hq), fun e => by rw [e, Bool.false_and] at hq; exact hq⟩)
in #guard_msgs in open Nat
theorem at_orB {k1 k2 : Bool} {q : Bool → Prop} (h1 : ∀ q : Bool → Prop, q k1 → AT tt K ρ q) (h2 : k1 = false → ∀ q : Bool → Prop, q k2 → AT tu K ρ q) (hq : q (k1 || k2)) : AT (tOr tt tu) K ρ q := at_or (h1 _ ⟨fun e => h2 e _ (by rw [e, Bool.false_or] at hq; exact hq), fun e => by rw [e, Bool.true_or] at hq; exact hq⟩)
in #guard_msgs in open Nat
theorem ae_andV (h : AE K ta ρ fun a => ∃ b, a = .bl b ∧ (b = true → AE K tb ρ q) ∧ (b = false → q (.bl false))) : AE K (tAndV ta tb) ρ q := fun B H σ s E Q k => h B H σ s E _ fun a x H1 ⟨b, e, ht, hf⟩ s1 dx => by
  subst e
  cases dx
  refine ⟨b, rfl, ?_⟩
  cases b with
  | true =>
    rw [if_pos rfl]
    exact ht rfl (ext B H H1) H1 σ (ext_r s s1) (E.mono (ext_l s)) Q fun d v H' hq s2 dv => k d v H' hq (s1.trans s2) (by rw [ext_ext s1 s2] at dv; exact dv)
  | false =>
    rw [if_neg Bool.false_ne_true]
    exact k _ _ H1 (hf rfl) s1 (.bl _)
in #guard_msgs in open Nat
theorem ae_orV (h : AE K ta ρ fun a => ∃ b, a = .bl b ∧ (b = false → AE K tb ρ q) ∧ (b = true → q (.bl true))) : AE K (tOrV ta tb) ρ q := fun B H σ s E Q k => h B H σ s E _ fun a x H1 ⟨b, e, ht, hf⟩ s1 dx => by
  subst e
  cases dx
  refine ⟨b, rfl, ?_⟩
  cases b with
  | false =>
    rw [if_neg Bool.false_ne_true]
    exact ht rfl (ext B H H1) H1 σ (ext_r s s1) (E.mono (ext_l s)) Q fun d v H' hq s2 dv => k d v H' hq (s1.trans s2) (by rw [ext_ext s1 s2] at dv; exact dv)
  | true =>
    rw [if_pos rfl]
    exact k _ _ H1 (hf rfl) s1 (.bl _)
in #guard_msgs in open Nat
theorem ae_andVB {k1 k2 : Bool} (h1 : ∀ q : D → Prop, q (.bl k1) → AE K ta ρ q) (h2 : k1 = true → ∀ q : D → Prop, q (.bl k2) → AE K tb ρ q) (hq : q (.bl (k1 && k2))) : AE K (tAndV ta tb) ρ q := ae_andV (h1 _ ⟨k1, rfl, fun e => h2 e _ (by rw [e, Bool.true_and] at hq; exact hq), fun e => by rw [e, Bool.false_and] at hq; exact hq⟩)
in #guard_msgs in open Nat
theorem ae_orVB {k1 k2 : Bool} (h1 : ∀ q : D → Prop, q (.bl k1) → AE K ta ρ q) (h2 : k1 = false → ∀ q : D → Prop, q (.bl k2) → AE K tb ρ q) (hq : q (.bl (k1 || k2))) : AE K (tOrV ta tb) ρ q := ae_orV (h1 _ ⟨k1, rfl, fun e => h2 e _ (by rw [e, Bool.false_or] at hq; exact hq), fun e => by rw [e, Bool.true_or] at hq; exact hq⟩)
in #guard_msgs in open Nat
theorem ae_notV (h : AE K ta ρ fun a => ∃ b, a = .bl b ∧ q (.bl (!b))) : AE K (tNotV ta) ρ q := fun B H σ s E Q k => h B H σ s E _ fun a x H1 ⟨b, e, hq⟩ s1 dx => by
  subst e
  cases dx
  exact ⟨b, rfl, k _ _ H1 hq s1 (.bl _)⟩
in #guard_msgs in open Nat
theorem ae_ifE (h : AT tt K ρ fun b => (b = true → AE K ta ρ q) ∧ (b = false → AE K tb ρ q)) : AE K (tIf tt ta tb) ρ q := fun B H σ s E Q k => h B H σ s E _ fun b H1 ⟨ht, hf⟩ s1 => by
  cases b with
  | true =>
    rw [if_pos rfl]
    exact ht rfl (ext B H H1) H1 σ (ext_r s s1) (E.mono (ext_l s)) Q fun d v H' hq s2 dv => k d v H' hq (s1.trans s2) (by rw [ext_ext s1 s2] at dv; exact dv)
  | false =>
    rw [if_neg Bool.false_ne_true]
    exact hf rfl (ext B H H1) H1 σ (ext_r s s1) (E.mono (ext_l s)) Q fun d v H' hq s2 dv => k d v H' hq (s1.trans s2) (by rw [ext_ext s1 s2] at dv; exact dv)
in #guard_msgs in open Nat
def isNon : D → Bool
  | .non => true
  | _ => false
def noOp : D → Bool
  | .op _ | .ex _ _ _ | .vd _ _ => false
  | _ => true
theorem dv_non {x : V} {a : D} (h : Dv K B x a) (n : noOp a = true) : decide (x = V.non) = isNon a := by
  cases h <;> first | rfl | (cases n; done) | skip
  all_goals simp [isNon]
in #guard_msgs in open Nat
theorem ae_isN (h : AE K ta ρ fun a => noOp a = true ∧ q (.bl (isNon a))) : AE K (tIsN ta) ρ q := fun B H σ s E Q k => h B H σ s E _ fun a x H1 ⟨n, hq⟩ s1 dx => by
  rw [dv_non dx n]
  exact k _ _ H1 hq s1 (.bl _)
in #guard_msgs in open Nat
theorem ae_notN (h : AE K ta ρ fun a => noOp a = true ∧ q (.bl (!isNon a))) : AE K (tNotN ta) ρ q := fun B H σ s E Q k => h B H σ s E _ fun a x H1 ⟨n, hq⟩ s1 dx => by
  rw [dv_non dx n]
  exact k _ _ H1 hq s1 (.bl _)
in #guard_msgs in open Nat
/-- a < b < c -/
theorem ae_chain {o o' : R2} (h : AE K ta ρ fun a => AE K tb ρ fun b => A2 K o a b fun z => ∃ k, z = .bl k ∧ (k = true → AE K tc ρ fun c => A2 K o' b c q) ∧ (k = false → q (.bl false))) : AE K (tChain o o' ta tb tc) ρ q := fun B H σ s E Q k => h B H σ s E _ fun a x H1 h1 s1 dx =>
  h1 (ext B H H1) H1 σ (ext_r s s1) (E.mono (ext_l s)) _ fun b y H2 h2 s2 dy => by
    rw [ext_ext s1 s2] at dy
    have s12 := s1.trans s2
    have dx' : Dv K (ext B H H2) x a := dx.mono (by rw [← ext_ext s1 s2]; exact ext_l (ext_r s s1))
    refine h2 (ext B H H2) H2 x y (ext_r s s12) dx' dy _ fun d v H3 hd s3 dv => ?_
    obtain ⟨kk, e, ht, hf⟩ := hd
    subst e
    cases dv
    refine ⟨kk, rfl, ?_⟩
    have s13 := s12.trans s3
    cases kk with
    | false =>
      rw [if_neg Bool.false_ne_true]
      exact k _ _ H3 (hf rfl) s13 (.bl _)
    | true =>
      rw [if_pos rfl]
      refine ht rfl (ext B H H3) H3 σ (ext_r s s13) (E.mono (ext_l s)) _ fun c w H4 h4 s4 dw => ?_
      rw [ext_ext s13 s4] at dw
      have s14 := s13.trans s4
      have dy' : Dv K (ext B H H4) y b := dy.mono (by rw [← ext_ext s12 (s3.trans s4)]; exact ext_l (ext_r s s12))
      exact h4 (ext B H H4) H4 y w (ext_r s s14) dy' dw Q fun d v H' hq s5 dv => k d v H' hq (s14.trans s5) (by rw [ext_ext s14 s5] at dv; exact dv)
in #guard_msgs in open Nat
/-! slices' parts, methods -/
theorem ae_sl0 {o : V → Option Int → Option Int → Hp → VK → Prop} (h : AE K te ρ fun a => A1 K (fun x => o x none none) a q) : AE K (tSl o te tNoPart tNoPart) ρ q := ae_bind (r := fun x => o x none none) (fun _ _ _ h => h) h
in #guard_msgs in open Nat
theorem an_bind {r : V → Hp → VK → Prop} {t : TE} (ht : ∀ σ H Q, ta σ H (fun x H1 => r x H1 Q) → t σ H Q) (h : AE K ta ρ fun a => ∀ (B H : Hp) (x : V), Same B H → Dv K B x a → ∀ Q : VK, (∀ d p H', q d → H p = none → Same H H' → NewC K (ext B H H') H' p d → Q (.ref p) H') → r x H Q) : AN K t ρ q := fun B H σ s E Q k => ht _ _ _ (h B H σ s E _ fun a x H1 h1 s1 dx =>
  h1 (ext B H H1) H1 x (ext_r s s1) dx Q fun d p H' hq np s2 dv => k d p H' hq (s1.free np) (s1.trans s2) (by rw [ext_ext s1 s2] at dv; exact dv))
in #guard_msgs in open Nat
end
/-! ### what is held beside the slots; statements -/
structure Res where
  P : Hp → Hp → List Addr → Prop
  frame : ∀ {B H B' H' : Hp} {fp : List Addr}, P B H fp → Same B B' → (∀ a ∈ fp, H' a = H a) → P B' H' fp
inductive WR (B H : Hp) : List Res → List Addr → Prop
  | nil : WR B H [] []
  | cons {r : Res} {W : List Res} {fp G : List Addr} : r.P B H fp → (∀ a ∈ fp, a ∉ G) → (∀ a ∈ fp, B a = none ∧ Hard (H a)) → WR B H W G → WR B H (r :: W) (fp ++ G)
theorem WR.mono {B B' H H' : Hp} (e : Same B B') : ∀ {W : List Res} {G : List Addr}, WR B H W G → (∀ a ∈ G, B' a = none) → (∀ a ∈ G, H' a = H a) → WR B' H' W G
  | _, _, .nil, _, _ => .nil
  | _, _, .cons p d n t, h1, h2 => .cons (Res.frame _ p e fun a m => h2 a (List.mem_append_left _ m)) d (fun a m => ⟨h1 a (List.mem_append_left _ m), by rw [h2 a (List.mem_append_left _ m)]; exact (n a m).2⟩)
    (WR.mono e t (fun a m => h1 a (List.mem_append_right _ m)) fun a m => h2 a (List.mem_append_right _ m))
in #guard_msgs in open Nat
theorem WR.there {B H : Hp} : ∀ {W : List Res} {G : List Addr}, WR B H W G → ∀ a ∈ G, B a = none ∧ H a ≠ none
  | _, _, .nil, a, h => by cases h
  | _, _, .cons p d n t, a, h => (List.mem_append.mp h).elim (fun m => ⟨(n a m).1, (n a m).2.1⟩) (WR.there t a)
in #guard_msgs in open Nat
theorem WR.hard {B H : Hp} : ∀ {W : List Res} {G : List Addr}, WR B H W G → ∀ a ∈ G, Hard (H a)
  | _, _, .nil, a, h => by cases h
  | _, _, .cons p d n t, a, h => (List.mem_append.mp h).elim (fun m => (n a m).2) (WR.hard t a)
in #guard_msgs in open Nat
/-- where a def stands: the heap at its entry (what is frozen of it, all of it), what it may change of it -/
structure Zc where
  K : PySem.W.Frag
  B0 : Hp
  H0 : Hp
  F0 : List Addr
structure Rel (Z : Zc) (B H : Hp) (σ : L2.St) (ρ : List Sl) (W : List Res) (A G : List Addr) : Prop where
  b0 : Same Z.B0 B
  bh : Same B H
  hh : ∀ a o, Z.H0 a = some o → a ∉ Z.F0 → H a = some o
  dom : ∀ a, Z.H0 a ≠ none → H a ≠ none
  old : ∀ a, Z.H0 a ≠ none → B a = Z.B0 a
  env : EnvR Z.K B H σ ρ A
  res : WR B H W G
  nd : ∀ a ∈ A, a ∉ G
  na : ∀ a ∈ A, Z.H0 a = none
  ng : ∀ a ∈ G, a ∈ Z.F0 ∨ Z.H0 a = none
structure AEnds where
  nx : List Sl → List Res → Prop
  rt : D → List Res → Prop
  rn : D → List Res → Prop
  bk : List Sl → List Res → Prop
  ct : List Sl → List Res → Prop
structure EOk (Z : Zc) (F : Hp) (P : AEnds) (R : Ends) : Prop where
  nx : ∀ {B H σ ρ W A G}, P.nx ρ W → Same F B → Rel Z B H σ ρ W A G → R.nx σ H
  bk : ∀ {B H σ ρ W A G}, P.bk ρ W → Same F B → Rel Z B H σ ρ W A G → R.bk σ H
  ct : ∀ {B H σ ρ W A G}, P.ct ρ W → Same F B → Rel Z B H σ ρ W A G → R.ct σ H
  rt : ∀ {B H d v W G}, P.rt d W → Rel Z B H [] [] W [] G → Dv Z.K B v d → R.rt v H
  rn : ∀ {B H d p W G}, P.rn d W → Rel Z B H [] [] W [] G → Z.H0 p = none → B p = none → Cell Z.K B H p d → R.rt (.ref p) H
def AW (Z : Zc) (t : TS) (ρ : List Sl) (W : List Res) (P : AEnds) : Prop := ∀ (F : Hp) (R : Ends), EOk Z F P R → ∀ (B H : Hp) (σ : L2.St) (A G : List Addr), Same F B → Rel Z B H σ ρ W A G → t R σ H
section
variable {Z : Zc} {B B' H H' F : Hp} {σ : L2.St} {ρ : List Sl} {W : List Res} {A G : List Addr} {P : AEnds} {t u : TS} {te ti : TE} {tt : TT} {i j : Nat} {d : D}
theorem Rel.step (r : Rel Z B H σ ρ W A G) (s : Same H H') : Rel Z (ext B H H') H' σ ρ W A G where
  b0 := r.b0.trans (ext_l r.bh)
  bh := ext_r r.bh s
  hh := fun a o e n => s a o (r.hh a o e n)
  dom := fun a e z => r.dom a e (s.free z)
  old := fun a e => by rw [ext_old (r.dom a e)]; exact r.old a e
  env := r.env.mono (ext_l r.bh) (fun a m => by rw [ext_old (r.env.there a m).2]; exact (r.env.there a m).1) fun a m => by
    cases e : H a with
    | none => exact absurd e (r.env.there a m).2
    | some o => exact s a o e
  res := r.res.mono (ext_l r.bh) (fun a m => by rw [ext_old (r.res.there a m).2]; exact (r.res.there a m).1) fun a m => by
    cases e : H a with
    | none => exact absurd e (r.res.there a m).2
    | some o => exact s a o e
  nd := r.nd
  na := r.na
  ng := r.ng
in #guard_msgs in open Nat
/-- the slots changed, the heap as it is -/
theorem Rel.slots {σ' : L2.St} {ρ' : List Sl} {A' : List Addr} (r : Rel Z B H σ ρ W A G) (e : EnvR Z.K B H σ' ρ' A') (h : ∀ a ∈ A', a ∈ A) : Rel Z B H σ' ρ' W A' G := { r with env := e, nd := fun a m => r.nd a (h a m), na := fun a m => r.na a (h a m) }
in #guard_msgs in open Nat
theorem Rel.setSh {v : V} (r : Rel Z B H σ ρ W A G) (q : Dv Z.K B v d) (i : Nat) : ∃ A', Rel Z B H (σ.set i (some v)) (ρ.set i (.sh d)) W A' G := by
  obtain ⟨A', h1, h2⟩ := r.env.setSh q i
  exact ⟨A', r.slots h2 h1⟩
in #guard_msgs in open Nat
theorem Rel.noSlots (r : Rel Z B H σ ρ W A G) : Rel Z B H [] [] W [] G := r.slots .nil fun a m => by cases m
/-- a new object at p becomes an own slot's -/
theorem Rel.setOwn {p : Addr} (r : Rel Z B H σ ρ W A G) (np : H p = none) (s : Same H H') (c : NewC Z.K (ext B H H') H' p d) (i : Nat) : ∃ A', Rel Z (rem (ext B H H') p) H' (σ.set i (some (.ref p))) (ρ.set i (.own d)) W A' G := by
  have r1 := r.step s
  have bp : B p = none := r.bh.free np
  have s1 : Same B (rem (ext B H H') p) := same_remx r.bh np
  have off : ∀ a, H a ≠ none → rem (ext B H H') p a = B a := fun a h => by
    unfold rem
    rw [if_neg fun (z : a = p) => h (z ▸ np), ext_old h]
  have keep : ∀ a, H a ≠ none → H' a = H a := fun a h => by
    cases e : H a with
    | none => exact absurd e h
    | some o => exact s a o e
  have e1 : EnvR Z.K (rem (ext B H H') p) H' σ ρ A := r.env.mono s1 (fun a m => by rw [off a (r.env.there a m).2]; exact (r.env.there a m).1) fun a m => keep a (r.env.there a m).2
  have npA : p ∉ A := fun m => (r.env.there p m).2 np
  have np0 : Z.H0 p = none := by
    cases e : Z.H0 p with
    | none => rfl
    | some o => exact absurd np (r.dom p (ne_none e))
  obtain ⟨A', h1, h2⟩ := e1.setOwn (p := p) (by unfold rem; rw [if_pos rfl]) c npA i
  have nd : ∀ a ∈ A', a ∉ G := fun a m => (h1 a m).elim (fun z g => (r.res.there a g).2 (z ▸ np)) (r.nd a)
  have na : ∀ a ∈ A', Z.H0 a = none := fun a m => (h1 a m).elim (fun z => z ▸ np0) (r.na a)
  have res : WR (rem (ext B H H') p) H' W G := r.res.mono s1 (fun a m => (off a (r.res.there a m).2).trans (r.res.there a m).1) fun a m => keep a (r.res.there a m).2
  exact ⟨A', r.b0.trans s1, rem_same.trans (ext_r r.bh s), r1.hh, r1.dom, fun a e => (off a (r.dom a e)).trans (r.old a e), h2, res, nd, na, r.ng⟩
in #guard_msgs in open Nat
/-- the cell of an own slot changes -/
theorem Rel.mut {d' : D} {a : Addr} {o : HO} (r : Rel Z B H σ ρ W A G) (h : ρ[i]? = some (.own d)) (hs : σ[i]? = some (some (.ref a))) (ha : a ∈ A) (c : Cell Z.K B (upd H a o) a d') : Rel Z B (upd H a o) σ (ρ.set i (.own d')) W A G := by
  have ne : ∀ b, Z.H0 b ≠ none → b ≠ a := fun b n z => n (z ▸ r.na a ha)
  have nb : ∀ b o, B b = some o → b ≠ a := fun b o e z => by rw [z, (r.env.there a ha).1] at e; cases e
  exact { b0 := r.b0, bh := fun b o' e => by rw [upd_ne (nb b o' e)]; exact r.bh b o' e, hh := fun b o' e n => by rw [upd_ne (ne b (ne_none e))]; exact r.hh b o' e n,
          dom := fun b n => by rw [upd_ne (ne b n)]; exact r.dom b n, old := r.old, env := r.env.mut h hs (fun b m n => upd_ne n) c,
          res := r.res.mono (Same.refl _) (fun b m => (r.res.there b m).1) (fun b m => upd_ne fun z => r.nd a ha (z ▸ m)), nd := r.nd, na := r.na, ng := r.ng }
in #guard_msgs in open Nat
/-- all own slots frozen -/
theorem Rel.fz (r : Rel Z B H σ ρ W A G) : Rel Z (fzB B H A) H σ (fz ρ) W [] G where
  b0 := r.b0.trans (fzB_l fun a m => (r.env.there a m).1)
  bh := fzB_r r.bh
  hh := r.hh
  dom := r.dom
  old := fun a n => by
    unfold fzB
    rw [if_neg fun m => n (r.na a m)]
    exact r.old a n
  env := r.env.fz
  res := r.res.mono (fzB_l fun a m => (r.env.there a m).1) (fun a m => by
    unfold fzB
    rw [if_neg fun m' => r.nd a m' m]
    exact (r.res.there a m).1) fun _ _ => rfl
  nd := fun a m => by cases m
  na := fun a m => by cases m
  ng := r.ng
in #guard_msgs in open Nat
theorem Rel.fz1 (r : Rel Z B H σ ρ W A G) (h : ρ[i]? = some (.own d)) : ∃ B' A', Same B B' ∧ Rel Z B' H σ (ρ.set i (.sh d)) W A' G := by
  obtain ⟨a, A', h1, h2, h3, h4⟩ := r.env.fz1 h
  have ba := (r.env.there a h2).1
  have s1 : Same B (fun b => if b = a then H a else B b) := fun b o e => (if_neg fun (z : b = a) => by rw [z, ba] at e; cases e).trans e
  have res : WR (fun b => if b = a then H a else B b) H W G := r.res.mono s1 (fun b m => (if_neg fun (z : b = a) => r.nd a h2 (z ▸ m)).trans (r.res.there b m).1) fun _ _ => rfl
  have old : ∀ b, Z.H0 b ≠ none → (fun b => if b = a then H a else B b) b = Z.B0 b := fun b n => (if_neg fun (z : b = a) => n (z ▸ r.na a h2)).trans (r.old b n)
  have bh : Same (fun b => if b = a then H a else B b) H := fun b o e => by
    by_cases c : b = a
    · have e' : (if b = a then H a else B b) = some o := e
      rw [if_pos c] at e'
      rw [c]
      exact e'
    · have e' : (if b = a then H a else B b) = some o := e
      rw [if_neg c] at e'
      exact r.bh b o e'
  exact ⟨_, A', s1, r.b0.trans s1, bh, r.hh, r.dom, old, h4 _ s1 (if_pos rfl) (fun b m => (if_neg (h3 b m).2).trans (r.env.there b (h3 b m).1).1), res, fun b m => r.nd b (h3 b m).1, fun b m => r.na b (h3 b m).1, r.ng⟩
in #guard_msgs in open Nat
def scalD : D → Bool
  | .non | .bl _ | .int _ | .str _ | .op _ => true
  | _ => false
theorem dv_scal {K : PySem.W.Frag} {v : V} (h : Dv K B v d) (s : scalD d = true) : Dv K B' v d := by
  cases h <;> first | exact .non | exact .bl _ | exact .int _ | exact .op _ | (exact .str _ (by assumption)) | cases s
in #guard_msgs in open Nat
theorem dvl_scal {K : PySem.W.Frag} : ∀ {vs : List V} {ds : List D}, DvL K B vs ds → ds.all scalD = true → DvL K B' vs ds
  | _, _, .nil, _ => .nil
  | _, _, .cons h t, s => by
    rw [List.all_cons, Bool.and_eq_true] at s
    exact .cons (dv_scal h s.1) (dvl_scal t s.2)
in #guard_msgs in open Nat
def flatD : D → Bool
  | .lst ds => ds.all scalD
  | .dk ds => ds.isEmpty
  | _ => false
theorem newC_flat {K : PySem.W.Frag} {p : Addr} (h : NewC K B H p d) (s : flatD d = true) : NewC K B' H p d := by
  cases d <;> first | exact False.elim h | skip
  · obtain ⟨vs, h1, h2⟩ := h
    exact ⟨vs, h1, dvl_scal h2 s⟩
  · obtain ⟨ks, h1, h2⟩ := h
    cases h2 with
    | nil => exact ⟨[], h1, .nil⟩
    | cons _ _ => cases s
  · cases s
in #guard_msgs in open Nat
theorem aw_seq (h : AW Z t ρ W ⟨fun ρ W => AW Z u ρ W P, P.rt, P.rn, P.bk, P.ct⟩) : AW Z (tSeq t u) ρ W P := fun F R ok B H σ A G s r =>
  h F { R with nx := u R } ⟨fun hn s' r' => hn F R ok _ _ _ _ _ s' r', ok.bk, ok.ct, ok.rt, ok.rn⟩ B H σ A G s r
in #guard_msgs in open Nat
theorem aw_next (h : P.nx ρ W) : AW Z tNext ρ W P := fun F R ok B H σ A G s r => ok.nx h s r
theorem aw_brk (h : P.bk ρ W) : AW Z tBreak ρ W P := fun F R ok B H σ A G s r => ok.bk h s r
theorem aw_cont (h : P.ct ρ W) : AW Z tCont ρ W P := fun F R ok B H σ A G s r => ok.ct h s r
theorem aw_asgH (h : AE Z.K te ρ fun d => P.nx (ρ.set i (.sh d)) W) : AW Z (tAsg te (gName i)) ρ W P := fun F R ok B H σ A G s r =>
  h B H σ r.bh r.env.envS _ fun d v H' hq s1 dv => by
    obtain ⟨A', r'⟩ := (r.step s1).setSh dv i
    exact ok.nx hq (s.trans (ext_l r.bh)) r'
in #guard_msgs in open Nat
theorem aw_asgS (h : AE Z.K te (fz ρ) fun d => scalD d = true ∧ P.nx (ρ.set i (.sh d)) W) : AW Z (tAsg te (gName i)) ρ W P := fun F R ok B H σ A G s r =>
  h _ H σ r.fz.bh r.fz.env.envS _ fun d v H' hq s1 dv => by
    obtain ⟨A', r'⟩ := (r.step s1).setSh (dv_scal dv hq.1) i
    exact ok.nx hq.2 (s.trans (ext_l r.bh)) r'
in #guard_msgs in open Nat
theorem aw_asgN (h : AN Z.K te ρ fun d => P.nx (ρ.set i (.own d)) W) : AW Z (tAsg te (gName i)) ρ W P := fun F R ok B H σ A G s r =>
  h B H σ r.bh r.env.envS _ fun d p H' hq np s1 c => by
    obtain ⟨A', r'⟩ := r.setOwn np s1 c i
    exact ok.nx hq (s.trans (same_remx r.bh np)) r'
in #guard_msgs in open Nat
theorem aw_asgNF (h : AN Z.K te (fz ρ) fun d => flatD d = true ∧ P.nx (ρ.set i (.own d)) W) : AW Z (tAsg te (gName i)) ρ W P := fun F R ok B H σ A G s r =>
  h _ H σ r.fz.bh r.fz.env.envS _ fun d p H' hq np s1 c => by
    obtain ⟨A', r'⟩ := r.setOwn np s1 (newC_flat c hq.1) i
    exact ok.nx hq.2 (s.trans (same_remx r.bh np)) r'
in #guard_msgs in open Nat
theorem aw_asgE (h : AN Z.K te (fz ρ) fun d => flatD d = true ∧ P.nx (ρ.set i (.sh d)) W) : AW Z (tAsg te (gName i)) ρ W P := fun F R ok B H σ A G s r =>
  h _ H σ r.fz.bh r.fz.env.envS _ fun d p H' hq np s1 c => by
    have dv : Dv Z.K (ext B H H') (.ref p) d := newC_dv (newC_flat c hq.1) (ext_new np)
    obtain ⟨A', r'⟩ := (r.step s1).setSh dv i
    exact ok.nx hq.2 (s.trans (ext_l r.bh)) r'
in #guard_msgs in open Nat
theorem aw_frz (i : Nat) (e : ρ[i]? = some (.own d)) (h : AW Z t (ρ.set i (.sh d)) W P) : AW Z t ρ W P := fun F R ok B H σ A G s r => by
  obtain ⟨B', A', s', r'⟩ := r.fz1 e
  exact h F R ok B' H σ A' G (s.trans s') r'
in #guard_msgs in open Nat
theorem aw_ret (h : AE Z.K te (fz ρ) fun d => P.rt d W) : AW Z (tRet te) ρ W P := fun F R ok B H σ A G s r =>
  h _ H σ r.fz.bh r.fz.env.envS _ fun d v H' hq s1 dv => ok.rt hq (r.fz.step s1).noSlots dv
in #guard_msgs in open Nat
theorem aw_retNew (h : AN Z.K te ρ fun d => P.rn d W) : AW Z (tRet te) ρ W P := fun F R ok B H σ A G s r =>
  h B H σ r.bh r.env.envS _ fun d p H' hq np s1 c => by
    obtain ⟨A', r'⟩ := r.setOwn np s1 c 0
    have n0 : Z.H0 p = none := by
      cases e : Z.H0 p with
      | none => rfl
      | some o => exact absurd np (r.dom p (ne_none e))
    exact ok.rn hq r'.noSlots n0 (if_pos rfl) c
in #guard_msgs in open Nat
theorem aw_retOwn (e : ρ[i]? = some (.own d)) (h : P.rn d W) : AW Z (tRet (tVar i)) ρ W P := fun F R ok B H σ A G s r => by
  obtain ⟨a, h1, h2, h3, c⟩ := r.env.getOwn e
  exact ⟨_, h1, ok.rn h r.noSlots (r.na a h2) h3 c⟩
in #guard_msgs in open Nat
theorem aw_retN (h : P.rt .non W) : AW Z tRetN ρ W P := fun F R ok B H σ A G s r => ok.rt h r.noSlots .non
theorem aw_if (h : AT tt Z.K (fz ρ) fun b => (b = true → AW Z t ρ W P) ∧ (b = false → AW Z u ρ W P)) : AW Z (tIfS tt t u) ρ W P := fun F R ok B H σ A G s r =>
  h _ H σ r.fz.bh r.fz.env.envS _ fun b H' hq s1 => by
    cases b with
    | true =>
      rw [if_pos rfl]
      exact hq.1 rfl F R ok _ H' σ A G (s.trans (ext_l r.bh)) (r.step s1)
    | false =>
      rw [if_neg Bool.false_ne_true]
      exact hq.2 rfl F R ok _ H' σ A G (s.trans (ext_l r.bh)) (r.step s1)
in #guard_msgs in open Nat
theorem aw_drop (h : AE Z.K te (fz ρ) fun _ => P.nx ρ W) : AW Z (tDrop te) ρ W P := fun F R ok B H σ A G s r =>
  h _ H σ r.fz.bh r.fz.env.envS _ fun b v H' hq s1 dv => ok.nx hq (s.trans (ext_l r.bh)) (r.step s1)
in #guard_msgs in open Nat
/-! own lists changed -/
theorem aw_append {ds : List D} (e : ρ[i]? = some (.own (.lst ds))) (h : AE Z.K te ρ fun d => ds.length < 100000 ∧ P.nx (ρ.set i (.own (.lst (ds ++ [d])))) W) : AW Z (tDrop (tBM Z.K "list" rAppend (tVar i) (tCons te tNil))) ρ W P := fun F R ok B H σ A G s r => by
  obtain ⟨a, h1, h2, h3, vs, h4, h5⟩ := r.env.getOwn e
  refine ⟨_, h1, .inl ⟨rfl, _, Sq_of h4⟩, ?_⟩
  refine h B H σ r.bh r.env.envS _ fun d v H' hq s1 dv => ?_
  have r1 := r.step s1
  refine ⟨a, vs, v, rfl, rfl, s1 _ _ h4, smallL (by rw [h5.len]; exact hq.1), ok.nx hq.2 (s.trans (ext_l r.bh)) (r1.mut e h1 h2 ⟨_, upd_same, (h5.mono (ext_l r.bh)).append (.cons dv .nil)⟩)⟩
in #guard_msgs in open Nat
theorem aw_appendS {ds : List D} (e : ρ[i]? = some (.own (.lst ds))) (h : AE Z.K te (fz ρ) fun d => scalD d = true ∧ ds.length < 100000 ∧ P.nx (ρ.set i (.own (.lst (ds ++ [d])))) W) : AW Z (tDrop (tBM Z.K "list" rAppend (tVar i) (tCons te tNil))) ρ W P := fun F R ok B H σ A G s r => by
  obtain ⟨a, h1, h2, h3, vs, h4, h5⟩ := r.env.getOwn e
  refine ⟨_, h1, .inl ⟨rfl, _, Sq_of h4⟩, ?_⟩
  refine h _ H σ r.fz.bh r.fz.env.envS _ fun d v H' hq s1 dv => ?_
  have r1 := r.step s1
  refine ⟨a, vs, v, rfl, rfl, s1 _ _ h4, smallL (by rw [h5.len]; exact hq.2.1), ok.nx hq.2.2 (s.trans (ext_l r.bh)) (r1.mut e h1 h2 ⟨_, upd_same, (h5.mono (ext_l r.bh)).append (.cons (dv_scal dv hq.1) .nil)⟩)⟩
in #guard_msgs in open Nat
theorem aw_reverse {ds : List D} (e : ρ[i]? = some (.own (.lst ds))) (h : P.nx (ρ.set i (.own (.lst ds.reverse))) W) : AW Z (tDrop (tBM0 Z.K "list" rReverse (tVar i))) ρ W P := fun F R ok B H σ A G s r => by
  obtain ⟨a, h1, h2, h3, vs, h4, h5⟩ := r.env.getOwn e
  exact ⟨_, h1, .inl ⟨rfl, _, Sq_of h4⟩, a, vs, rfl, rfl, h4, ok.nx h s (r.mut e h1 h2 ⟨_, upd_same, h5.rev⟩)⟩
in #guard_msgs in open Nat
theorem aw_clear {ds : List D} (e : ρ[i]? = some (.own (.lst ds))) (h : P.nx (ρ.set i (.own (.lst []))) W) : AW Z (tDrop (tBM0 Z.K "list" rClear (tVar i))) ρ W P := fun F R ok B H σ A G s r => by
  obtain ⟨a, h1, h2, h3, vs, h4, h5⟩ := r.env.getOwn e
  exact ⟨_, h1, .inl ⟨rfl, _, Sq_of h4⟩, a, vs, rfl, rfl, h4, ok.nx h s (r.mut e h1 h2 ⟨_, upd_same, .nil⟩)⟩
in #guard_msgs in open Nat
theorem seq_nat {k n : Nat} (h : k < n) : seqIndex? (k : Int) n = some k := by
  unfold seqIndex?
  have h1 : ¬ ((k : Int) < 0) := by omega
  have h2 : (k : Int) < (n : Int) := by omega
  simp [h1, h]
in #guard_msgs in open Nat
/-- found.append(pool.pop(k)) -/
theorem aw_appendPop {ds es : List D} (e : ρ[i]? = some (.own (.lst ds))) (e2 : ρ[j]? = some (.own (.lst es))) (hij : i ≠ j)
    (h : AE Z.K te (fz ρ) fun d => ∃ k : Nat, ∃ x, d = .int k ∧ es[k]? = some x ∧ k < 1000000 ∧ ds.length < 100000 ∧ P.nx ((ρ.set j (.own (.lst (es.eraseIdx k)))).set i (.own (.lst (ds ++ [x])))) W) :
    AW Z (tDrop (tBM Z.K "list" rAppend (tVar i) (tCons (tBM Z.K "list" rPopAt (tVar j) (tCons te tNil)) tNil))) ρ W P := fun F R ok B H σ A G s r => by
  obtain ⟨a, h1, h2, h3, vs, h4, h5⟩ := r.env.getOwn e
  obtain ⟨b, g1, g2, g3, ws, g4, g5⟩ := r.env.getOwn e2
  refine ⟨_, h1, .inl ⟨rfl, _, Sq_of h4⟩, ⟨_, g1, .inl ⟨rfl, _, Sq_of g4⟩, ?_⟩⟩
  refine h _ H σ r.fz.bh r.fz.env.envS _ fun d v H' ⟨k, x, ek, ex, hk, hl, hn⟩ s1 dv => ?_
  subst ek
  cases dv
  obtain ⟨y, hy, dy⟩ := g5.at ex
  have hkl : k < ws.length := (List.getElem?_eq_some_iff.mp hy).1
  have r1 := r.step s1
  have r2 := r1.mut (d' := .lst (es.eraseIdx k)) (o := .lst (ws.eraseIdx k)) e2 g1 g2 ⟨_, upd_same, (g5.mono (ext_l r.bh)).erase k⟩
  have ab : a ≠ b := r.env.own_ne e e2 h1 g1 hij
  have hy' : ws[k]? = some y := hy
  refine ⟨b, ws, _, k, y, rfl, rfl, s1 _ _ g4, by omega, by omega, seq_nat hkl, hy, ?_⟩
  have e1 : (ρ.set j (.own (.lst (es.eraseIdx k))))[i]? = some (.own (.lst ds)) := by rw [List.getElem?_set_ne (Ne.symm hij)]; exact e
  have sh4 : upd H' b (.lst (ws.eraseIdx k)) a = some (.lst vs) := by rw [upd_ne ab]; exact s1 _ _ h4
  refine ⟨a, vs, y, rfl, rfl, sh4, smallL (by rw [h5.len]; exact hl), ok.nx hn (s.trans (ext_l r.bh)) (r2.mut e1 h1 h2 ⟨_, upd_same, (h5.mono (ext_l r.bh)).append (.cons (dy.mono (ext_l r.bh)) .nil)⟩)⟩
in #guard_msgs in open Nat
/-! slots let go -/
def Wk : List Sl → List Sl → Prop
  | [], [] => True
  | s :: ρ, s' :: ρ' => (s' = .un ∨ s' = s) ∧ Wk ρ ρ'
  | _, _ => False
theorem wk_nil : Wk [] [] := trivial
theorem wk_cons {s s' : Sl} {ρ ρ' : List Sl} (h : s' = .un ∨ s' = s) (t : Wk ρ ρ') : Wk (s :: ρ) (s' :: ρ') := ⟨h, t⟩
theorem wk_refl : ∀ ρ : List Sl, Wk ρ ρ
  | [] => trivial
  | _ :: ρ => ⟨.inr rfl, wk_refl ρ⟩
theorem EnvR.wk {K : PySem.W.Frag} {B H : Hp} : ∀ {σ : L2.St} {ρ : List Sl} {A : List Addr}, EnvR K B H σ ρ A → ∀ {ρ' : List Sl}, Wk ρ ρ' → ∃ A', (∀ a ∈ A', a ∈ A) ∧ EnvR K B H σ ρ' A'
  | _, _, _, .nil, [], _ => ⟨[], fun _ h => h, .nil⟩
  | _, _, _, .un t, s :: ρ', ⟨h, w⟩ => by
    obtain ⟨A', h1, h2⟩ := EnvR.wk t w
    rcases h with rfl | rfl <;> exact ⟨A', h1, .un h2⟩
  | _, _, _, .sh q t, s :: ρ', ⟨h, w⟩ => by
    obtain ⟨A', h1, h2⟩ := EnvR.wk t w
    rcases h with rfl | rfl
    · exact ⟨A', h1, .un h2⟩
    · exact ⟨A', h1, .sh q h2⟩
  | _, _, _, .own (a := a) n b c t, s :: ρ', ⟨h, w⟩ => by
    obtain ⟨A', h1, h2⟩ := EnvR.wk t w
    rcases h with rfl | rfl
    · exact ⟨A', fun x m => List.mem_cons_of_mem _ (h1 x m), .un h2⟩
    · refine ⟨a :: A', fun x m => ?_, .own (fun m => n (h1 a m)) b c h2⟩
      rcases List.mem_cons.mp m with rfl | m
      · exact List.mem_cons_self
      · exact List.mem_cons_of_mem _ (h1 x m)
  | _, _, _, .ow2 (a := a) (ps := ps) n b nd c cs t, s :: ρ', ⟨h, w⟩ => by
    obtain ⟨A', h1, h2⟩ := EnvR.wk t w
    rcases h with rfl | rfl
    · exact ⟨A', fun x m => List.mem_append_right _ (h1 x m), .un h2⟩
    · exact ⟨(a :: ps) ++ A', fun x m => (List.mem_append.mp m).elim (List.mem_append_left _) fun m => List.mem_append_right _ (h1 x m), .ow2 (fun p m z => n p m (h1 p z)) b nd c cs h2⟩
in #guard_msgs in open Nat
theorem Rel.wk {ρ' : List Sl} (r : Rel Z B H σ ρ W A G) (w : Wk ρ ρ') : ∃ A', Rel Z B H σ ρ' W A' G := by
  obtain ⟨A', h1, h2⟩ := r.env.wk w
  exact ⟨A', r.slots h2 h1⟩
in #guard_msgs in open Nat
theorem aw_wk {ρ' : List Sl} (w : Wk ρ ρ') (h : AW Z t ρ' W P) : AW Z t ρ W P := fun F R ok B H σ A G s r => by
  obtain ⟨A', r'⟩ := r.wk w
  exact h F R ok B H σ A' G s r'
in #guard_msgs in open Nat
/-- the slots behind a statement, told ahead -/
theorem aw_cut (ρ' : List Sl) (h : AW Z t ρ W ⟨fun ρ3 W3 => Wk ρ3 ρ' ∧ W3 = W, P.rt, P.rn, P.bk, P.ct⟩) (hn : P.nx ρ' W) : AW Z t ρ W P := fun F R ok B H σ A G s r =>
  h F R ⟨fun hw s' r' => by
    obtain ⟨w, e⟩ := hw
    subst e
    obtain ⟨A', r2⟩ := r'.wk w
    exact ok.nx hn s' r2, ok.bk, ok.ct, ok.rt, ok.rn⟩ B H σ A G s r
in #guard_msgs in open Nat
/-! loops -/
def AG (Z : Zc) (g : TG) (x : D) (ρ : List Sl) (W : List Res) (n : List Sl → List Res → Prop) : Prop := ∀ (B H : Hp) (σ : L2.St) (A G : List Addr) (v : V), Rel Z B H σ ρ W A G → Dv Z.K B v x → ∀ Qs : L2.St → Hp → Prop, (∀ ρ' W' B' H' σ' A' G', n ρ' W' → Same B B' → Rel Z B' H' σ' ρ' W' A' G' → Qs σ' H') → g v σ H Qs
def AGs (Z : Zc) (g : TGs) (xs : List D) (ρ : List Sl) (W : List Res) (n : List Sl → List Res → Prop) : Prop := ∀ (B H : Hp) (σ : L2.St) (A G : List Addr) (vs : List V), Rel Z B H σ ρ W A G → DvL Z.K B vs xs → ∀ Qs : L2.St → Hp → Prop, (∀ ρ' W' B' H' σ' A' G', n ρ' W' → Same B B' → Rel Z B' H' σ' ρ' W' A' G' → Qs σ' H') → g vs σ H Qs
theorem ag_name {x : D} {n : List Sl → List Res → Prop} (h : n (ρ.set j (.sh x)) W) : AG Z (gName j) x ρ W n := fun B H σ A G v r dv Qs k => by
  obtain ⟨A', r'⟩ := r.setSh dv j
  exact k _ _ _ _ _ _ _ h (Same.refl _) r'
in #guard_msgs in open Nat
theorem ags_nil {n : List Sl → List Res → Prop} (h : n ρ W) : AGs Z gNil [] ρ W n := fun B H σ A G v r dv Qs k => by
  cases dv
  exact ⟨rfl, k _ _ _ _ _ _ _ h (Same.refl _) r⟩
in #guard_msgs in open Nat
theorem ags_cons {g : TG} {gs : TGs} {x : D} {xs : List D} {n : List Sl → List Res → Prop} (h : AG Z g x ρ W fun ρ1 W1 => AGs Z gs xs ρ1 W1 n) : AGs Z (gCons g gs) (x :: xs) ρ W n := fun B H σ A G v r dv Qs k => by
  cases dv with
  | cons dx dxs => exact ⟨_, _, rfl, h B H σ A G _ r dx _ fun ρ' W' B' H' σ' A' G' h' s' r' => h' B' H' σ' A' G' _ r' (dxs.mono s') Qs fun ρ2 W2 B2 H2 σ2 A2 G2 h2 s2 r2 => k _ _ _ _ _ _ _ h2 (s'.trans s2) r2⟩
in #guard_msgs in open Nat
theorem ag_tup {k : Nat} {gs : TGs} {xs : List D} {n : List Sl → List Res → Prop} (hl : xs.length = k) (h : AGs Z gs xs ρ W n) : AG Z (gTup Z.K k gs) (.tup xs) ρ W n := fun B H σ A G v r dv Qs kk => by
  cases dv with
  | tup hs hv => exact ⟨_, _, rfl, St_of (r.bh _ _ hs), by rw [hv.len]; exact hl, h B H σ A G _ r hv Qs kk⟩
in #guard_msgs in open Nat
/-- where a loop stands -/
def LPv (Z : Zc) (F : Hp) (Iv : List Sl → List Res → Prop) (σ' : L2.St) (H' : Hp) : Prop := ∃ ρ' W' B' A' G', Iv ρ' W' ∧ Same F B' ∧ Rel Z B' H' σ' ρ' W' A' G'
theorem EOk.loop {Iv : List Sl → List Res → Prop} {F F' : Hp} {R : Ends} (ok : EOk Z F P R) (s : Same F F') : EOk Z F' ⟨Iv, P.rt, P.rn, P.nx, Iv⟩ ⟨LPv Z F' Iv, R.rt, R.nx, LPv Z F' Iv⟩ :=
  ⟨fun hn sn rn => ⟨_, _, _, _, _, hn, sn, rn⟩, fun hn sn rn => ok.nx hn (s.trans sn) rn, fun hn sn rn => ⟨_, _, _, _, _, hn, sn, rn⟩, ok.rt, ok.rn⟩
in #guard_msgs in open Nat
theorem lpv_wk {Iv : List Sl → List Res → Prop} {ρ' : List Sl} (h : ∃ ρ', Wk ρ ρ' ∧ Iv ρ' W) (s : Same F B) (r : Rel Z B H σ ρ W A G) : LPv Z F Iv σ H := by
  obtain ⟨ρ', w, hI⟩ := h
  obtain ⟨A', r'⟩ := r.wk w
  exact ⟨ρ', W, B, A', G, hI, s, r'⟩
in #guard_msgs in open Nat
theorem EOk.loopW {Iv : List Sl → List Res → Prop} {F F' : Hp} {R : Ends} (ok : EOk Z F P R) (s : Same F F') : EOk Z F' ⟨fun ρ W => ∃ ρ', Wk ρ ρ' ∧ Iv ρ' W, P.rt, P.rn, P.nx, fun ρ W => ∃ ρ', Wk ρ ρ' ∧ Iv ρ' W⟩ ⟨LPv Z F' Iv, R.rt, R.nx, LPv Z F' Iv⟩ :=
  ⟨fun hn sn rn => lpv_wk (ρ' := []) hn sn rn, fun hn sn rn => ok.nx hn (s.trans sn) rn, fun hn sn rn => lpv_wk (ρ' := []) hn sn rn, ok.rt, ok.rn⟩
in #guard_msgs in open Nat
def AFor (Z : Zc) (xs : List D) (g : TG) (tb : TS) (ρ : List Sl) (W : List Res) (P : AEnds) : Prop := ∃ Iv : Nat → List Sl → List Res → Prop, (∃ ρ', Wk ρ ρ' ∧ Iv 0 ρ' W) ∧
  (∀ i x ρ' W', xs[i]? = some x → Iv i ρ' W' → AG Z g x ρ' W' fun ρ2 W2 => AW Z tb ρ2 W2 ⟨fun ρ W => ∃ ρ', Wk ρ ρ' ∧ Iv (i + 1) ρ' W, P.rt, P.rn, P.nx, fun ρ W => ∃ ρ', Wk ρ ρ' ∧ Iv (i + 1) ρ' W⟩) ∧ ∀ ρ' W', Iv xs.length ρ' W' → P.nx ρ' W'
theorem dv_seq {K : PySem.W.Frag} {a : Addr} {xs : List D} (h : Dv K B (.ref a) (.lst xs) ∨ Dv K B (.ref a) (.fls xs)) : ∃ vs, SqL K B a vs ∧ DvL K B vs xs := by
  rcases h with h | h
  · cases h with
    | lst h1 h2 => exact ⟨_, Sq_of h1, h2⟩
  · cases h with
    | fls h1 h2 => exact ⟨_, h1, h2⟩
in #guard_msgs in open Nat
theorem dv_ref {K : PySem.W.Frag} {v : V} {xs : List D} (h : Dv K B v (.lst xs) ∨ Dv K B v (.fls xs)) : ∃ a, v = .ref a := by
  rcases h with h | h <;> cases h <;> exact ⟨_, rfl⟩
in #guard_msgs in open Nat
theorem aw_forL {tl : TE} {g : TG} {tb : TS} (h : AE Z.K tl ρ fun d => ∃ xs, (d = .lst xs ∨ d = .fls xs) ∧ AFor Z xs g tb ρ W P) : AW Z (tFor (iList Z.K tl) g tb) ρ W P := fun F R ok B H σ A G s r => by
  refine w_forL (h B H σ r.bh r.env.envS _ fun d v H1 ⟨xs, ed, Iv, h0, hs, hd⟩ s1 dv => ?_)
  have r1 := r.step s1
  have dv' : Dv Z.K (ext B H H1) v (.lst xs) ∨ Dv Z.K (ext B H H1) v (.fls xs) := ed.imp (fun (e : d = .lst xs) => e ▸ dv) fun (e : d = .fls xs) => e ▸ dv
  obtain ⟨a, rfl⟩ := dv_ref dv'
  obtain ⟨vs, h1, h2⟩ := dv_seq dv'
  have sF : Same F (ext B H H1) := s.trans (ext_l r.bh)
  refine forL (K := Z.K) (r1.bh.seq h1) (fun i => LPv Z (ext B H H1) (Iv i)) (lpv_wk (ρ' := []) h0 (Same.refl _) r1) (fun i σ' H' _ ⟨ρ', W', B', A', G', _, s', r'⟩ => (s'.trans r'.bh).seq h1) ?_ ?_
  · rintro i x σ' H' hi ⟨ρ', W', B', A', G', hI, s', r'⟩
    obtain ⟨dx, e1, e2⟩ := h2.at' hi
    refine hs i dx ρ' W' e1 hI B' H' σ' A' G' x r' (e2.mono s') _ fun ρ2 W2 B2 H2 σ2 A2 G2 h2 s2 r2 => ?_
    exact h2 (ext B H H1) ⟨LPv Z (ext B H H1) (Iv (i + 1)), R.rt, R.nx, LPv Z (ext B H H1) (Iv (i + 1))⟩ (ok.loopW sF) B2 H2 σ2 A2 G2 (s'.trans s2) r2
  · rintro σ' H' ⟨ρ', W', B', A', G', hI, s', r'⟩
    rw [h2.len] at hI
    exact ok.nx (hd _ _ hI) (sF.trans s') r'
in #guard_msgs in open Nat
def AForR (Z : Zc) (lo : Int) (m : Nat) (g : TG) (tb : TS) (ρ : List Sl) (W : List Res) (P : AEnds) : Prop := ∃ Iv : Nat → List Sl → List Res → Prop, (∃ ρ', Wk ρ ρ' ∧ Iv 0 ρ' W) ∧
  (∀ i ρ' W', i < m → Iv i ρ' W' → AG Z g (.int (lo + i)) ρ' W' fun ρ2 W2 => AW Z tb ρ2 W2 ⟨fun ρ W => ∃ ρ', Wk ρ ρ' ∧ Iv (i + 1) ρ' W, P.rt, P.rn, P.nx, fun ρ W => ∃ ρ', Wk ρ ρ' ∧ Iv (i + 1) ρ' W⟩) ∧ ∀ ρ' W', Iv m ρ' W' → P.nx ρ' W'
theorem forR_of {g : TG} {tb : TS} {lo : Int} {m : Nat} {R : Ends} (ok : EOk Z F P R) (s : Same F B) (r : Rel Z B H σ ρ W A G) (h : AForR Z lo m g tb ρ W P) : ForR lo m g tb R σ H := by
  obtain ⟨Iv, h0, hs, hd⟩ := h
  refine forR (fun i => LPv Z F (Iv i)) (lpv_wk (ρ' := []) h0 s r) ?_ ?_
  · rintro i σ' H' hi ⟨ρ', W', B', A', G', hI, s', r'⟩
    refine hs i ρ' W' hi hI B' H' σ' A' G' _ r' (.int _) _ fun ρ2 W2 B2 H2 σ2 A2 G2 h2 s2 r2 => ?_
    exact h2 F ⟨LPv Z F (Iv (i + 1)), R.rt, R.nx, LPv Z F (Iv (i + 1))⟩ (ok.loopW (Same.refl F)) B2 H2 σ2 A2 G2 (s'.trans s2) r2
  · rintro σ' H' ⟨ρ', W', B', A', G', hI, s', r'⟩
    exact ok.nx (hd _ _ hI) s' r'
in #guard_msgs in open Nat
theorem dvl_int {K : PySem.W.Frag} {vs : List V} {j : Int} (h : DvL K B vs [.int j]) : vs = [.int j] := by
  cases h with
  | cons a b =>
    cases a
    cases b
    rfl
in #guard_msgs in open Nat
theorem dvl_int2 {K : PySem.W.Frag} {vs : List V} {i j : Int} (h : DvL K B vs [.int i, .int j]) : vs = [.int i, .int j] := by
  cases h with
  | cons a b =>
    cases a
    rw [dvl_int b]
in #guard_msgs in open Nat
theorem aw_forR1 {tl : TA} {g : TG} {tb : TS} (h : AA Z.K tl (fz ρ) fun ds => ∃ j : Int, ds = [.int j] ∧ (-(2 ^ 62) ≤ j ∧ j < 2 ^ 62) ∧ AForR Z 0 j.toNat g tb ρ W P) : AW Z (tFor (iRng1 tl) g tb) ρ W P := fun F R ok B H σ A G s r =>
  w_forR1 (h _ H σ r.fz.bh r.fz.env.envS _ fun ds vs H1 ⟨j, e, hb, hf⟩ s1 dv => by
    subst e
    exact ⟨j, dvl_int dv, hb.1, hb.2, forR_of ok (s.trans (ext_l r.bh)) (r.step s1) hf⟩)
in #guard_msgs in open Nat
theorem aw_forR2 {tl : TA} {g : TG} {tb : TS} (h : AA Z.K tl (fz ρ) fun ds => ∃ i j : Int, ds = [.int i, .int j] ∧ (-(2 ^ 62) ≤ i ∧ i < 2 ^ 62 ∧ -(2 ^ 62) ≤ j ∧ j < 2 ^ 62) ∧ AForR Z i (j - i).toNat g tb ρ W P) : AW Z (tFor (iRng2 tl) g tb) ρ W P := fun F R ok B H σ A G s r =>
  w_forR2 (h _ H σ r.fz.bh r.fz.env.envS _ fun ds vs H1 ⟨i, j, e, hb, hf⟩ s1 dv => by
    subst e
    exact ⟨i, j, dvl_int2 dv, hb, forR_of ok (s.trans (ext_l r.bh)) (r.step s1) hf⟩)
in #guard_msgs in open Nat
theorem aw_while {c : TT} {tb : TS} (Pv : Nat → List Sl → List Res → Prop) (m : Nat) (h0 : ∃ ρ', Wk ρ ρ' ∧ Pv m ρ' W)
    (hs : ∀ m ρ W, Pv m ρ W → AT c Z.K (fz ρ) fun b => (b = true → AW Z tb ρ W ⟨fun ρ W => ∃ ρ', Wk ρ ρ' ∧ ∃ m', m' < m ∧ Pv m' ρ' W, P.rt, P.rn, P.nx, fun ρ W => ∃ ρ', Wk ρ ρ' ∧ ∃ m', m' < m ∧ Pv m' ρ' W⟩) ∧ (b = false → P.nx ρ W)) : AW Z (tWhile c tb) ρ W P := fun F R ok B H σ A G s r => by
  refine ⟨fun m => LPv Z F (Pv m), ⟨m, lpv_wk (ρ' := []) h0 s r⟩, ?_⟩
  rintro m σ' H' ⟨ρ', W', B', A', G', hP, s', r'⟩
  refine hs m ρ' W' hP _ H' σ' r'.fz.bh r'.fz.env.envS _ fun b H1 hb s1 => ?_
  have r1 := r'.step s1
  have sF := s'.trans (ext_l (H := H') (H' := H1) r'.bh)
  cases b with
  | false =>
    rw [if_neg Bool.false_ne_true]
    exact ok.nx (hb.2 rfl) sF r1
  | true =>
    rw [if_pos rfl]
    refine ⟨LPv Z F fun ρ' W' => ∃ m', m' < m ∧ Pv m' ρ' W', fun σ' H' ⟨ρ', W', B', A', G', ⟨m', l, hp⟩, s', r'⟩ => ⟨m', l, ρ', W', B', A', G', hp, s', r'⟩, ?_⟩
    exact hb.1 rfl F ⟨_, R.rt, R.nx, _⟩ (ok.loopW (Same.refl F)) _ H1 σ' A' G' sF r1
in #guard_msgs in open Nat
/-! comprehensions -/
def ALc (K : PySem.W.Frag) (xs : List D) (j : Nat) (tt : TT) (te : TE) (ρ : List Sl) (q : D → Prop) : Prop := ∃ Iv : Nat → List D → Prop, Iv 0 [] ∧
  (∀ i x acc, xs[i]? = some x → Iv i acc → AT tt K (ρ.set j (.sh x)) fun b => (b = true → AE K te (ρ.set j (.sh x)) fun y => acc.length < 100000 ∧ Iv (i + 1) (acc ++ [y])) ∧ (b = false → Iv (i + 1) acc)) ∧ ∀ ys, Iv xs.length ys → q (.lst ys)
theorem EnvS.wipe {K : PySem.W.Frag} (h : EnvS K B σ ρ) (j : Nat) : EnvS K B (L2.wipe σ [j]) (ρ.set j .un) := ⟨by rw [wipe_length, List.length_set]; exact h.1, fun k d e => by
  by_cases c : j = k
  · subst c
    have hl : j < ρ.length := by
      have := (List.getElem?_eq_some_iff.mp e).1
      rwa [List.length_set] at this
    rw [List.getElem?_set_self hl] at e
    cases e
  · rw [List.getElem?_set_ne c] at e
    show ∃ v, (σ.set j none)[k]? = _ ∧ _
    rw [List.getElem?_set_ne c]
    exact h.2 k d e⟩
in #guard_msgs in open Nat
theorem wipe_one (σ : L2.St) (j : Nat) (v : V) : L2.wipe ((L2.wipe σ [j]).set j (some v)) [j] = L2.wipe σ [j] := by
  show ((σ.set j none).set j (some v)).set j none = σ.set j none
  rw [List.set_set, List.set_set]
in #guard_msgs in open Nat
theorem lc_step {K : PySem.W.Frag} {H1 H' H4 : Hp} {D0 : Addr} (bh : Same B H1) (nD : H1 D0 = none) (s1 : Same H1 H') (s2 : Same H' H4) (hD : H' D0 ≠ none) : Same (ext (rem (ext B H1 H') D0) H' H4) (rem (ext B H1 H4) D0) := fun b o e => by
  cases h : H' b with
  | none =>
    rw [ext_new h] at e
    have nb : b ≠ D0 := fun z => hD (z ▸ h)
    unfold rem
    rw [if_neg nb, ext_new (s1.free h)]
    exact e
  | some u =>
    rw [ext_old (ne_none h)] at e
    unfold rem at e ⊢
    by_cases c : b = D0
    · rw [if_pos c] at e
      cases e
    · rw [if_neg c] at e ⊢
      cases h1 : H1 b with
      | none =>
        rw [ext_new h1] at e ⊢
        exact s2 b o e
      | some w =>
        rw [ext_old (ne_none h1)] at e ⊢
        exact e
in #guard_msgs in open Nat
theorem lc_of {K : PySem.W.Frag} {xs : List D} {vs : List V} {a : Addr} {tt : TT} {te : TE} {q : D → Prop} {Q : VK} (bh : Same B H) (E : EnvS K B σ ρ) (hS : SqL K B a vs) (hv : DvL K B vs xs) (h : ALc K xs j tt te ρ q)
    (k : ∀ d p H', q d → H p = none → Same H H' → NewC K (ext B H H') H' p d → Q (.ref p) H') : LcL K (.ref a) (gName j) tt te [j] σ H Q := by
  obtain ⟨Iv, h0, hs, hd⟩ := h
  refine lcL (K := K) (bh.seq hS) (fun D0 i H' => H D0 = none ∧ Same H H' ∧ ∃ acc ws, Iv i acc ∧ H' D0 = some (.lst ws) ∧ DvL K (rem (ext B H H') D0) ws acc) (fun D0 nD => ⟨nD, same_upd nD, [], [], h0, upd_same, .nil⟩) (fun D0 i H' _ p => p.2.1.seq (bh.seq hS)) ?_ ?_
  · rintro D0 i x H' hi ⟨nD, s1, acc, ws, hI, hw, hdv⟩
    obtain ⟨dx, e1, e2⟩ := hv.at' hi
    have sB : Same B (rem (ext B H H') D0) := same_remx bh nD
    have sE : Same (rem (ext B H H') D0) H' := rem_same.trans (ext_r bh s1)
    have E1 : EnvS K (rem (ext B H H') D0) ((L2.wipe σ [j]).set j (some x)) (ρ.set j (.sh dx)) := by
      have := ((E.mono sB).wipe j).set (i := j) (e2.mono sB)
      rwa [List.set_set] at this
    refine ⟨wipe_one σ j x, hs i dx acc e1 hI _ H' _ sE E1 _ fun b H3 hb s3 => ?_⟩
    have hDn : H' D0 ≠ none := ne_none hw
    cases b with
    | false =>
      rw [if_neg Bool.false_ne_true]
      exact ⟨nD, s1.trans s3, acc, ws, hb.2 rfl, s3 _ _ hw, hdv.mono ((ext_l sE).trans (lc_step (K := K) bh nD s1 s3 hDn))⟩
    | true =>
      rw [if_pos rfl]
      refine hb.1 rfl (ext (rem (ext B H H') D0) H' H3) H3 _ (ext_r sE s3) (E1.mono (ext_l sE)) _ fun y v H4 ⟨hl, hy⟩ s4 dy => ?_
      rw [ext_ext s3 s4] at dy
      have s34 := s3.trans s4
      have st := lc_step (K := K) bh nD s1 s34 hDn
      have er : ∀ o, rem (ext B H (upd H4 D0 o)) D0 = rem (ext B H H4) D0 := fun o => by
        funext b
        unfold rem
        by_cases c : b = D0
        · rw [if_pos c, if_pos c]
        · rw [if_neg c, if_neg c]
          unfold ext
          cases H b with
          | none => exact upd_ne c
          | some _ => rfl
      have dw : DvL K (rem (ext B H H4) D0) ws acc := hdv.mono ((ext_l sE).trans st)
      refine ⟨ws, s34 _ _ hw, smallL (by rw [hdv.len]; exact hl), nD, same_mut (s1.trans s34) nD, acc ++ [y], _, hy, upd_same, ?_⟩
      rw [er]
      exact dw.append (.cons (dy.mono st) .nil)
  · rintro D0 H' nD ⟨_, s1, acc, ws, hI, hw, hdv⟩
    rw [hv.len] at hI
    exact k _ D0 H' (hd _ hI) nD s1 ⟨ws, hw, hdv⟩
in #guard_msgs in open Nat
theorem an_lcL {K : PySem.W.Frag} {tl te : TE} {tt : TT} {q : D → Prop} {vs : List Nat} (hv : vs = [j]) (h : AE K tl ρ fun d => ∃ xs, (d = .lst xs ∨ d = .fls xs) ∧ ALc K xs j tt te ρ q) : AN K (tLc (iList K tl) (gName j) tt te vs) ρ q := by
  subst hv
  exact fun B H σ s E Q k =>
  w_lcL (h B H σ s E _ fun d v H1 ⟨xs, ed, hc⟩ s1 dv => by
    have dv' : Dv K (ext B H H1) v (.lst xs) ∨ Dv K (ext B H H1) v (.fls xs) := ed.imp (fun (e : d = .lst xs) => e ▸ dv) fun (e : d = .fls xs) => e ▸ dv
    obtain ⟨a, rfl⟩ := dv_ref dv'
    obtain ⟨vs, h1, h2⟩ := dv_seq dv'
    exact lc_of (ext_r s s1) (E.mono (ext_l s)) h1 h2 hc fun d p H' hq np s2 c => k d p H' hq (s1.free np) (s1.trans s2) (by rw [ext_ext s1 s2] at c; exact c))
in #guard_msgs in open Nat
theorem lc_ofR {K : PySem.W.Frag} {lo : Int} {m : Nat} {tt : TT} {te : TE} {q : D → Prop} {Q : VK} (bh : Same B H) (E : EnvS K B σ ρ) (h : ALc K ((List.range m).map fun (i : Nat) => D.int (lo + (i : Int))) j tt te ρ q)
    (k : ∀ d p H', q d → H p = none → Same H H' → NewC K (ext B H H') H' p d → Q (.ref p) H') : LcR lo m (gName j) tt te [j] σ H Q := by
  obtain ⟨Iv, h0, hs, hd⟩ := h
  refine lcR (fun D0 i H' => H D0 = none ∧ Same H H' ∧ ∃ acc ws, Iv i acc ∧ H' D0 = some (.lst ws) ∧ DvL K (rem (ext B H H') D0) ws acc) (fun D0 nD => ⟨nD, same_upd nD, [], [], h0, upd_same, .nil⟩) ?_ ?_
  · rintro D0 i H' hi ⟨nD, s1, acc, ws, hI, hw, hdv⟩
    have e1 : ((List.range m).map fun (i : Nat) => D.int (lo + (i : Int)))[i]? = some (.int (lo + (i : Int))) := by rw [List.getElem?_map, List.getElem?_range hi]; rfl
    have e2 : Dv K B (.int (lo + (i : Int))) (.int (lo + (i : Int))) := .int _
    have sB : Same B (rem (ext B H H') D0) := same_remx bh nD
    have sE : Same (rem (ext B H H') D0) H' := rem_same.trans (ext_r bh s1)
    have E1 : EnvS K (rem (ext B H H') D0) ((L2.wipe σ [j]).set j (some (.int (lo + (i : Int))))) (ρ.set j (.sh (.int (lo + (i : Int))))) := by
      have := ((E.mono sB).wipe j).set (i := j) (e2.mono sB)
      rwa [List.set_set] at this
    refine ⟨wipe_one σ j _, hs i _ acc e1 hI _ H' _ sE E1 _ fun b H3 hb s3 => ?_⟩
    have hDn : H' D0 ≠ none := ne_none hw
    cases b with
    | false =>
      rw [if_neg Bool.false_ne_true]
      exact ⟨nD, s1.trans s3, acc, ws, hb.2 rfl, s3 _ _ hw, hdv.mono ((ext_l sE).trans (lc_step (K := K) bh nD s1 s3 hDn))⟩
    | true =>
      rw [if_pos rfl]
      refine hb.1 rfl (ext (rem (ext B H H') D0) H' H3) H3 _ (ext_r sE s3) (E1.mono (ext_l sE)) _ fun y v H4 ⟨hl, hy⟩ s4 dy => ?_
      rw [ext_ext s3 s4] at dy
      have s34 := s3.trans s4
      have st := lc_step (K := K) bh nD s1 s34 hDn
      have er : ∀ o, rem (ext B H (upd H4 D0 o)) D0 = rem (ext B H H4) D0 := fun o => by
        funext b
        unfold rem
        by_cases c : b = D0
        · rw [if_pos c, if_pos c]
        · rw [if_neg c, if_neg c]
          unfold ext
          cases H b with
          | none => exact upd_ne c
          | some _ => rfl
      have dw : DvL K (rem (ext B H H4) D0) ws acc := hdv.mono ((ext_l sE).trans st)
      refine ⟨ws, s34 _ _ hw, smallL (by rw [hdv.len]; exact hl), nD, same_mut (s1.trans s34) nD, acc ++ [y], _, hy, upd_same, ?_⟩
      rw [er]
      exact dw.append (.cons (dy.mono st) .nil)
  · rintro D0 H' nD ⟨_, s1, acc, ws, hI, hw, hdv⟩
    exact k _ D0 H' (hd _ (by rw [List.length_map, List.length_range]; exact hI)) nD s1 ⟨ws, hw, hdv⟩
in #guard_msgs in open Nat
theorem an_lcR1 {K : PySem.W.Frag} {tl : TA} {te : TE} {tt : TT} {q : D → Prop} {vs : List Nat} (hv : vs = [j]) (h : AA K tl ρ fun ds => ∃ n : Int, ds = [.int n] ∧ (-(2 ^ 62) ≤ n ∧ n < 2 ^ 62) ∧ ALc K ((List.range n.toNat).map fun (i : Nat) => D.int (i : Int)) j tt te ρ q) : AN K (tLc (iRng1 tl) (gName j) tt te vs) ρ q := by
  subst hv
  exact fun B H σ s E Q k =>
  w_lcR1 (h B H σ s E _ fun ds vs H1 ⟨n, ed, hb, hc⟩ s1 dv => by
    subst ed
    exact ⟨n, dvl_int dv, hb.1, hb.2, lc_ofR (ext_r s s1) (E.mono (ext_l s)) (by simp only [Int.zero_add]; exact hc) fun d p H' hq np s2 c => k d p H' hq (s1.free np) (s1.trans s2) (by rw [ext_ext s1 s2] at c; exact c)⟩)
in #guard_msgs in open Nat
end
/-! ### == -/
mutual
def PP : D → PyData
  | .non => .none
  | .bl b => .bool b
  | .int i => .int i
  | .str z => .str z
  | .lst xs => .list (PPs xs)
  | .fls xs => .list (PPs xs)
  | .tup xs => .tuple (PPs xs)
  | .dk _ => .dict []
  | .dt _ => .dict []
  | .op _ | .ex _ _ _ | .vd _ _ => .dict []
def PPs : List D → List PyData
  | [] => []
  | x :: xs => PP x :: PPs xs
end
mutual
def pln : D → Bool
  | .non | .bl _ | .int _ | .str _ => true
  | .lst xs | .fls xs | .tup xs => plns xs
  | .dk _ | .dt _ | .op _ | .ex _ _ _ | .vd _ _ => false
def plns : List D → Bool
  | [] => true
  | x :: xs => pln x && plns xs
end
mutual
/-- nothing in it that is == to something else -/
def cln : D → Bool
  | .non | .int _ | .str _ => true
  | .lst xs | .tup xs => clns xs
  | .bl _ | .fls _ | .dk _ | .dt _ | .op _ | .ex _ _ _ | .vd _ _ => false
def clns : List D → Bool
  | [] => true
  | x :: xs => cln x && clns xs
end
section
variable {K : PySem.W.Frag} {B : Hp}
mutual
theorem Dv.dp : ∀ (d : D) (v : V), pln d = true → Dv K B v d → Dp K B v (PP d) ∧ PyData.canLay0 (PP d) = true
  | .non, v, _, h => by
    cases h
    exact ⟨.non, rfl⟩
  | .bl b, v, _, h => by
    cases h
    exact ⟨.bl _, rfl⟩
  | .int i, v, _, h => by
    cases h
    exact ⟨.int _, rfl⟩
  | .str z, v, _, h => by
    cases h with
    | str _ ok => exact ⟨.str _, by rw [PP, PyData.canLay0]; exact ok.2⟩
  | .lst xs, v, p, h => by
    cases h with
    | lst h1 h2 =>
      have q := DvL.dp xs _ (by simpa [pln] using p) h2
      exact ⟨.lst (Sq_of h1) q.1, by rw [PP, PyData.canLay0]; exact q.2⟩
  | .fls xs, v, p, h => by
    cases h with
    | fls h1 h2 =>
      have q := DvL.dp xs _ (by simpa [pln] using p) h2
      exact ⟨.lst h1 q.1, by rw [PP, PyData.canLay0]; exact q.2⟩
  | .tup xs, v, p, h => by
    cases h with
    | tup h1 h2 =>
      have q := DvL.dp xs _ (by simpa [pln] using p) h2
      exact ⟨.tup (St_of h1) q.1, by rw [PP, PyData.canLay0]; exact q.2⟩
  | .dk _, v, p, h => by simp [pln] at p
  | .dt _, v, p, h => by simp [pln] at p
  | .op _, v, p, h => by simp [pln] at p
  | .ex _ _ _, v, p, h => by simp [pln] at p
  | .vd _ _, v, p, h => by simp [pln] at p
theorem DvL.dp : ∀ (ds : List D) (vs : List V), plns ds = true → DvL K B vs ds → DpAll K B vs (PPs ds) ∧ PyData.canLayAll0 (PPs ds) = true
  | [], vs, _, h => by
    cases h
    exact ⟨.nil, rfl⟩
  | d :: ds, vs, p, h => by
    rw [plns, Bool.and_eq_true] at p
    cases h with
    | cons h1 h2 =>
      have q1 := Dv.dp d _ p.1 h1
      have q2 := DvL.dp ds _ p.2 h2
      exact ⟨.cons q1.1 q2.1, by rw [PPs, PyData.canLayAll0, q1.2, q2.2]; rfl⟩
end
end
def deq (a b : D) : Bool := PyData.eqv (PP a) (PP b)
mutual
theorem deq_clean : ∀ (a b : D), cln a = true → cln b = true → (PyData.eqv (PP a) (PP b) = true ↔ a = b)
  | .non, b, _, h => by cases b <;> simp [cln] at h <;> simp [PP, PyData.eqv]
  | .int i, b, _, h => by cases b <;> simp [cln] at h <;> simp [PP, PyData.eqv]
  | .str i, b, _, h => by cases b <;> simp [cln] at h <;> simp [PP, PyData.eqv]
  | .lst xs, b, ha, h => by
    cases b with
    | lst ys =>
      rw [PP, PP, PyData.eqv, deqs_clean xs ys (by simpa [cln] using ha) (by simpa [cln] using h)]
      simp
    | _ => simp [cln] at h <;> simp [PP, PyData.eqv]
  | .tup xs, b, ha, h => by
    cases b with
    | tup ys =>
      rw [PP, PP, PyData.eqv, deqs_clean xs ys (by simpa [cln] using ha) (by simpa [cln] using h)]
      simp
    | _ => simp [cln] at h <;> simp [PP, PyData.eqv]
  | .bl _, b, ha, _ => by simp [cln] at ha
  | .fls _, b, ha, _ => by simp [cln] at ha
  | .dk _, b, ha, _ => by simp [cln] at ha
  | .dt _, b, ha, _ => by simp [cln] at ha
  | .op _, b, ha, _ => by simp [cln] at ha
  | .ex _ _ _, b, ha, _ => by simp [cln] at ha
  | .vd _ _, b, ha, _ => by simp [cln] at ha
theorem deqs_clean : ∀ (a b : List D), clns a = true → clns b = true → (PyData.eqvAll (PPs a) (PPs b) = true ↔ a = b)
  | [], [], _, _ => by simp [PPs, PyData.eqvAll]
  | [], _ :: _, _, _ => by simp [PPs, PyData.eqvAll]
  | _ :: _, [], _, _ => by simp [PPs, PyData.eqvAll]
  | x :: xs, y :: ys, ha, hb => by
    rw [clns, Bool.and_eq_true] at ha hb
    rw [PPs, PPs, PyData.eqvAll, Bool.and_eq_true, deq_clean x y ha.1 hb.1, deqs_clean xs ys ha.2 hb.2]
    simp
end
mutual
theorem pln_of_cln : ∀ a : D, cln a = true → pln a = true
  | .non, _ => rfl
  | .int _, _ => rfl
  | .str _, _ => rfl
  | .lst xs, h => by
    rw [pln]
    exact plns_of_clns xs (by simpa [cln] using h)
  | .tup xs, h => by
    rw [pln]
    exact plns_of_clns xs (by simpa [cln] using h)
  | .bl _, ha => by simp [cln] at ha
  | .fls _, ha => by simp [cln] at ha
  | .dk _, ha => by simp [cln] at ha
  | .dt _, ha => by simp [cln] at ha
  | .op _, ha => by simp [cln] at ha
  | .ex _ _ _, ha => by simp [cln] at ha
  | .vd _ _, ha => by simp [cln] at ha
theorem plns_of_clns : ∀ a : List D, clns a = true → plns a = true
  | [], _ => rfl
  | x :: xs, h => by
    rw [clns, Bool.and_eq_true] at h
    rw [plns, pln_of_cln x h.1, plns_of_clns xs h.2]
    rfl
end
theorem deq_enc {α : Type} [DecidableEq α] (f : α → D) (inj : ∀ a b, f a = f b → a = b) {x y : α} (hx : cln (f x) = true) (hy : cln (f y) = true) : deq (f x) (f y) = decide (x = y) := by
  have h := deq_clean (f x) (f y) hx hy
  unfold deq
  by_cases e : x = y
  · subst e
    rw [decide_eq_true rfl]
    exact h.mpr rfl
  · rw [decide_eq_false e]
    cases c : PyData.eqv (PP (f x)) (PP (f y)) with
    | false => rfl
    | true => exact absurd (inj _ _ (h.mp c)) e
in #guard_msgs in open Nat
def dep (d : D) : Nat := PyData.depth (PP d)
/-! data by type -/
def eO : Option Str → D
  | none => .non
  | some n => .str n
theorem eO_some (n : Str) : eO (some n) = .str n := rfl
theorem eO_none : eO none = .non := rfl
abbrev eNs (ns : List Str) : D := .lst (ns.map .str)
abbrev eIs (ns : List Int) : D := .lst (ns.map .int)
abbrev eRs (rs : List (List Str)) : D := .lst (rs.map fun r => .lst (r.map .str))
theorem flatD_eNs (a : List Str) : flatD (eNs a) = true := by
  show (a.map D.str).all scalD = true
  rw [List.all_map, List.all_eq_true]
  exact fun _ _ => rfl
theorem flatD_eIs (a : List Int) : flatD (eIs a) = true := by
  show (a.map D.int).all scalD = true
  rw [List.all_map, List.all_eq_true]
  exact fun _ _ => rfl
theorem eNs_snoc (a : List Str) (x : Str) : D.lst (a.map .str ++ [.str x]) = eNs (a ++ [x]) := by
  show _ = D.lst _
  rw [List.map_append]
  rfl
theorem clns_map {α : Type} {f : α → D} : ∀ xs : List α, (∀ x ∈ xs, cln (f x) = true) → clns (xs.map f) = true
  | [], _ => rfl
  | x :: xs, h => by rw [List.map_cons, clns, h x List.mem_cons_self, clns_map xs fun y m => h y (List.mem_cons_of_mem _ m)]; rfl
in #guard_msgs in open Nat
theorem map_inj {α : Type} {f : α → D} (inj : ∀ a b, f a = f b → a = b) : ∀ {xs ys : List α}, xs.map f = ys.map f → xs = ys
  | [], [], _ => rfl
  | [], _ :: _, h => by cases h
  | _ :: _, [], h => by cases h
  | x :: xs, y :: ys, h => by
    rw [List.map_cons, List.map_cons, List.cons.injEq] at h
    rw [inj _ _ h.1, map_inj inj h.2]
in #guard_msgs in open Nat
theorem cln_eNs (a : List Str) : cln (eNs a) = true := by
  show cln (.lst _) = true
  rw [cln]
  exact clns_map a fun _ _ => rfl
theorem cln_eIs (a : List Int) : cln (eIs a) = true := by
  show cln (.lst _) = true
  rw [cln]
  exact clns_map a fun _ _ => rfl
theorem cln_eRs (a : List (List Str)) : cln (eRs a) = true := by
  show cln (.lst _) = true
  rw [cln]
  exact clns_map a fun _ _ => cln_eNs _
theorem inj_str (a b : Str) (h : D.str a = D.str b) : a = b := by cases h; rfl
theorem inj_int (a b : Int) (h : D.int a = D.int b) : a = b := by cases h; rfl
theorem inj_eNs (a b : List Str) (h : eNs a = eNs b) : a = b := by
  injection h with h
  exact map_inj inj_str h
theorem inj_eIs (a b : List Int) (h : eIs a = eIs b) : a = b := by
  injection h with h
  exact map_inj inj_int h
theorem inj_eRs (a b : List (List Str)) (h : eRs a = eRs b) : a = b := by
  injection h with h
  exact map_inj inj_eNs h
theorem deq_eNs (a b : List Str) : deq (eNs a) (eNs b) = decide (a = b) := deq_enc eNs inj_eNs (cln_eNs a) (cln_eNs b)
theorem deq_eIs (a b : List Int) : deq (eIs a) (eIs b) = decide (a = b) := deq_enc eIs inj_eIs (cln_eIs a) (cln_eIs b)
theorem deq_eRs (a b : List (List Str)) : deq (eRs a) (eRs b) = decide (a = b) := deq_enc eRs inj_eRs (cln_eRs a) (cln_eRs b)
theorem deq_nil (a : List Str) : deq (.lst (a.map .str)) (.lst []) = decide (a = []) := deq_eNs a []
theorem deq_eN1 (a : List Str) (n : Str) : deq (.lst (a.map .str)) (.lst [.str n]) = decide (a = [n]) := deq_eNs a [n]
theorem eRs_map {α : Type} (f : α → List Str) (L : List α) : D.lst (L.map fun r => .lst ((f r).map .str)) = eRs (L.map f) := by
  show _ = D.lst _
  rw [List.map_map]
  rfl
in #guard_msgs in open Nat
theorem deq_nilR (a : List (List Str)) : deq (eRs a) (.lst []) = decide (a = []) := deq_eRs a []
theorem depAll_map {α : Type} {f : α → D} {n : Nat} : ∀ xs : List α, (∀ x ∈ xs, dep (f x) ≤ n) → PyData.depthAll (PPs (xs.map f)) ≤ n
  | [], _ => Nat.zero_le _
  | x :: xs, h => by
    rw [List.map_cons, PPs, PyData.depthAll]
    exact Nat.max_le.mpr ⟨h x List.mem_cons_self, depAll_map xs fun y m => h y (List.mem_cons_of_mem _ m)⟩
in #guard_msgs in open Nat
theorem dep_lst {α : Type} {f : α → D} {n : Nat} (xs : List α) (h : ∀ x ∈ xs, dep (f x) ≤ n) : dep (.lst (xs.map f)) ≤ n + 1 := by
  unfold dep
  rw [PP, PyData.depth]
  exact Nat.succ_le_succ (depAll_map xs h)
in #guard_msgs in open Nat
theorem dep_eNs (a : List Str) : dep (eNs a) ≤ 1 := dep_lst (n := 0) a fun _ _ => Nat.le_refl 0
theorem dep_eIs (a : List Int) : dep (eIs a) ≤ 1 := dep_lst (n := 0) a fun _ _ => Nat.le_refl 0
theorem dep_eRs (a : List (List Str)) : dep (eRs a) ≤ 2 := dep_lst (n := 1) a fun _ _ => dep_eNs _
/-! ### operators -/
section
variable {K : PySem.W.Frag} {a b d : D} {q : D → Prop} {i j : Int} {x y : D} {ds es : List D} {z w : Str}
theorem a2_I0 {g : Int → Int → V} {e : D} (hv : ∀ B, Dv K B (g i j) e) (hq : q e) : A2 K (rI0 g) (.int i) (.int j) q := fun B H u v s h1 h2 Q k => by
  cases h1
  cases h2
  exact ⟨i, j, rfl, rfl, k e _ H hq (Same.refl _) (hv _)⟩
in #guard_msgs in open Nat
theorem a2_I {C : Int → Int → Prop} {g : Int → Int → V} {e : D} (hv : ∀ B, Dv K B (g i j) e) (hc : C i j) (hq : q e) : A2 K (rI C g) (.int i) (.int j) q := fun B H u v s h1 h2 Q k => by
  cases h1
  cases h2
  exact ⟨i, j, rfl, rfl, hc, k e _ H hq (Same.refl _) (hv _)⟩
in #guard_msgs in open Nat
theorem a1_U {g : Int → V} {e : D} (hv : ∀ B, Dv K B (g i) e) (hq : q e) : A1 K (rU g) (.int i) q := fun B H u s h1 Q k => by
  cases h1
  exact ⟨i, rfl, k e _ H hq (Same.refl _) (hv _)⟩
in #guard_msgs in open Nat
theorem a2_eqI (hq : q (.bl (decide (i = j)))) : A2 K rEq (.int i) (.int j) q := fun B H u v s h1 h2 Q k => by
  cases h1
  cases h2
  refine ⟨rfl, k _ _ H hq (Same.refl _) ?_⟩
  rw [show decide (V.int i = V.int j) = decide (i = j) by simp]
  exact .bl _
in #guard_msgs in open Nat
theorem a2_neI (hq : q (.bl (!decide (i = j)))) : A2 K rNe (.int i) (.int j) q := fun B H u v s h1 h2 Q k => by
  cases h1
  cases h2
  refine ⟨rfl, k _ _ H hq (Same.refl _) ?_⟩
  rw [show decide (V.int i = V.int j) = decide (i = j) by simp]
  exact .bl _
in #guard_msgs in open Nat
theorem a2_eqS (hq : q (.bl (decide (z = w)))) : A2 K rEq (.str z) (.str w) q := fun B H u v s h1 h2 Q k => by
  cases h1
  cases h2
  refine ⟨rfl, k _ _ H hq (Same.refl _) ?_⟩
  rw [show decide (V.str z = V.str w) = decide (z = w) by simp]
  exact .bl _
in #guard_msgs in open Nat
theorem a2_neS (hq : q (.bl (!decide (z = w)))) : A2 K rNe (.str z) (.str w) q := fun B H u v s h1 h2 Q k => by
  cases h1
  cases h2
  refine ⟨rfl, k _ _ H hq (Same.refl _) ?_⟩
  rw [show decide (V.str z = V.str w) = decide (z = w) by simp]
  exact .bl _
in #guard_msgs in open Nat
theorem a2_eqB {m n : Bool} (hq : q (.bl (m == n))) : A2 K rEq (.bl m) (.bl n) q := fun B H u v s h1 h2 Q k => by
  cases h1
  cases h2
  refine ⟨rfl, k _ _ H hq (Same.refl _) ?_⟩
  rw [show decide (V.bl m = V.bl n) = (m == n) by cases m <;> cases n <;> rfl]
  exact .bl _
in #guard_msgs in open Nat
theorem a2_neB {m n : Bool} (hq : q (.bl (!(m == n)))) : A2 K rNe (.bl m) (.bl n) q := fun B H u v s h1 h2 Q k => by
  cases h1
  cases h2
  refine ⟨rfl, k _ _ H hq (Same.refl _) ?_⟩
  rw [show decide (V.bl m = V.bl n) = (m == n) by cases m <;> cases n <;> rfl]
  exact .bl _
in #guard_msgs in open Nat
theorem a2_notB {m n : Bool} (hq : q (.bl (!(m == n)))) : A2 K rNotB (.bl m) (.bl n) q := fun B H u v s h1 h2 Q k => by
  cases h1
  cases h2
  refine ⟨m, n, rfl, rfl, k _ _ H hq (Same.refl _) ?_⟩
  first | exact .bl _ | (cases m <;> cases n <;> exact .bl _)
in #guard_msgs in open Nat
theorem a2_isB {m n : Bool} (hq : q (.bl (m == n))) : A2 K rIsB (.bl m) (.bl n) q := fun B H u v s h1 h2 Q k => by
  cases h1
  cases h2
  refine ⟨m, n, rfl, rfl, k _ _ H hq (Same.refl _) ?_⟩
  first | exact .bl _ | (cases m <;> cases n <;> exact .bl _)
in #guard_msgs in open Nat
theorem a2_neNS (hq : q (.bl true)) : A2 K rNe .non (.str w) q := fun B H u v s h1 h2 Q k => by
  cases h1
  cases h2
  exact ⟨rfl, k _ _ H hq (Same.refl _) (by rw [show (!decide (V.non = V.str w)) = true by simp]; exact .bl _)⟩
in #guard_msgs in open Nat
theorem a2_eqNS (hq : q (.bl false)) : A2 K rEq .non (.str w) q := fun B H u v s h1 h2 Q k => by
  cases h1
  cases h2
  exact ⟨rfl, k _ _ H hq (Same.refl _) (by rw [show decide (V.non = V.str w) = false by simp]; exact .bl _)⟩
in #guard_msgs in open Nat
theorem a2_eqNI (hq : q (.bl false)) : A2 K rEq .non (.int i) q := fun B H u v s h1 h2 Q k => by
  cases h1
  cases h2
  exact ⟨rfl, k _ _ H hq (Same.refl _) (by rw [show decide (V.non = V.int i) = false by simp]; exact .bl _)⟩
in #guard_msgs in open Nat
theorem a2_neNI (hq : q (.bl true)) : A2 K rNe .non (.int i) q := fun B H u v s h1 h2 Q k => by
  cases h1
  cases h2
  exact ⟨rfl, k _ _ H hq (Same.refl _) (by rw [show (!decide (V.non = V.int i)) = true by simp]; exact .bl _)⟩
in #guard_msgs in open Nat
theorem sh_of {K : PySem.W.Frag} {B : Hp} {v : V} (h : Dv K B v d) (p : pln d = true) (z : dep d ≤ 64) : Dp K B v (PP d) ∧ SeqAt.shaped (PP d) = true := by
  have q := Dv.dp d v p h
  refine ⟨q.1, ?_⟩
  unfold SeqAt.shaped
  have z' : (PP d).depth ≤ 64 := z
  rw [q.2, decide_eq_true z']
  rfl
in #guard_msgs in open Nat
theorem dp_up {B H : Hp} {v : V} {d : PyData} (e : Same B H) : Dp K B v d → Dp K H v d := by
  intro h
  refine Dp.rec (motive_1 := fun v d _ => Dp K H v d) (motive_2 := fun vs ds _ => DpAll K H vs ds) .non .bl .int .str (fun s _ ih => .lst (e.seq s) ih) (fun s _ ih => .tup (same_t e s) ih) .nil (fun _ _ h t => .cons h t) h
in #guard_msgs in open Nat
theorem a2_eqD (pa : pln a = true) (pb : pln b = true) (za : dep a ≤ 64) (zb : dep b ≤ 64) (hq : q (.bl (deq a b))) : A2 K (rEqD K) a b q := fun B H u v s h1 h2 Q k => by
  have e1 := sh_of h1 pa za
  have e2 := sh_of h2 pb zb
  exact ⟨_, _, dp_up s e1.1, dp_up s e2.1, e1.2, e2.2, k _ _ H hq (Same.refl _) (.bl _)⟩
in #guard_msgs in open Nat
theorem a2_neD (pa : pln a = true) (pb : pln b = true) (za : dep a ≤ 64) (zb : dep b ≤ 64) (hq : q (.bl (!deq a b))) : A2 K (rNeD K) a b q := fun B H u v s h1 h2 Q k => by
  have e1 := sh_of h1 pa za
  have e2 := sh_of h2 pb zb
  exact ⟨_, _, dp_up s e1.1, dp_up s e2.1, e1.2, e2.2, k _ _ H hq (Same.refl _) (.bl _)⟩
in #guard_msgs in open Nat
theorem a2_ixL (h : atI ds i = some d) (hq : q d) : A2 K (rIxL K) (.lst ds) (.int i) q := fun B H u v s h1 h2 Q k => by
  cases h2
  cases h1 with
  | lst hs hv =>
    obtain ⟨j, e1, e2, e3, e4, e5⟩ := atI_get h
    obtain ⟨v, e6, dv⟩ := hv.at e2
    refine ⟨_, _, i, v, rfl, rfl, s.seq (Sq_of hs), ?_, k d v H hq (Same.refl _) (by rw [ext_self s]; exact dv)⟩
    unfold atI at h ⊢
    rw [hv.len]
    cases e : ixN ds.length i with
    | none => rw [e] at h; cases h
    | some j' =>
      have q1 := ixN_seq e
      rw [e1] at q1
      cases q1.1
      exact e6
in #guard_msgs in open Nat
theorem a2_ixP (h0 : 0 ≤ i) (h : ds[i.toNat]? = some d) (hq : q d) : A2 K (rIxL K) (.lst ds) (.int i) q := a2_ixL (atI_of h0 h) hq
theorem a2_ixM {α : Type} {f : α → D} {xs : List α} {x : α} (h0 : 0 ≤ i) (h : xs[i.toNat]? = some x) (hq : q (f x)) : A2 K (rIxL K) (.lst (xs.map f)) (.int i) q := a2_ixL (atI_of h0 (by rw [List.getElem?_map, h]; rfl)) hq
in #guard_msgs in open Nat
theorem a2_ixN {α : Type} {f : α → D} {xs : List α} {x : α} {n : Nat} (h : xs[n]? = some x) (hq : q (f x)) : A2 K (rIxL K) (.lst (xs.map f)) (.int (n : Int)) q := a2_ixM (Int.natCast_nonneg n) (by rw [Int.toNat_natCast]; exact h) hq
in #guard_msgs in open Nat
theorem a2_ixF (h : atI ds i = some d) (hq : q d) : A2 K (rIxL K) (.fls ds) (.int i) q := fun B H u v s h1 h2 Q k => by
  cases h2
  cases h1 with
  | fls hs hv =>
    obtain ⟨j, e1, e2, e3, e4, e5⟩ := atI_get h
    obtain ⟨v, e6, dv⟩ := hv.at e2
    refine ⟨_, _, i, v, rfl, rfl, s.seq hs, ?_, k d v H hq (Same.refl _) (by rw [ext_self s]; exact dv)⟩
    unfold atI at h ⊢
    rw [hv.len]
    cases e : ixN ds.length i with
    | none => rw [e] at h; cases h
    | some j' =>
      have q1 := ixN_seq e
      rw [e1] at q1
      cases q1.1
      exact e6
in #guard_msgs in open Nat
theorem a2_ixT (h : atI ds i = some d) (hq : q d) : A2 K (rIxT K) (.tup ds) (.int i) q := fun B H u v s h1 h2 Q k => by
  cases h2
  cases h1 with
  | tup hs hv =>
    obtain ⟨j, e1, e2, e3, e4, e5⟩ := atI_get h
    obtain ⟨v, e6, dv⟩ := hv.at e2
    refine ⟨_, _, i, v, rfl, rfl, St_of (s _ _ hs), ?_, k d v H hq (Same.refl _) (by rw [ext_self s]; exact dv)⟩
    unfold atI at h ⊢
    rw [hv.len]
    cases e : ixN ds.length i with
    | none => rw [e] at h; cases h
    | some j' =>
      have q1 := ixN_seq e
      rw [e1] at q1
      cases q1.1
      exact e6
in #guard_msgs in open Nat
theorem a2_ixFM {α : Type} {f : α → D} {xs : List α} {x : α} (h0 : 0 ≤ i) (h : xs[i.toNat]? = some x) (hq : q (f x)) : A2 K (rIxL K) (.fls (xs.map f)) (.int i) q := a2_ixF (atI_of h0 (by rw [List.getElem?_map, h]; rfl)) hq
in #guard_msgs in open Nat
theorem a2_ixTP (h0 : 0 ≤ i) (h : ds[i.toNat]? = some d) (hq : q d) : A2 K (rIxT K) (.tup ds) (.int i) q := a2_ixT (atI_of h0 h) hq
theorem okS_len {z : Str} (h : okS z) : z.length ≤ sizeLine := small (Nat.le_trans h.1 (by decide))
theorem strOk_iff {z : Str} : PyData.strOk z = true ↔ ∀ c ∈ z.cps.toList, c < 0x110000 := by
  unfold PyData.strOk
  rw [← Array.all_toList, List.all_eq_true]
  exact ⟨fun h c m => by simpa using h c m, fun h c m => by simpa using h c m⟩
in #guard_msgs in open Nat
theorem okS_of {z : Str} (h1 : z.length ≤ 10000) (h2 : ∀ c ∈ z.cps.toList, c < 0x110000) : okS z := ⟨h1, strOk_iff.mpr h2⟩
theorem okS_app {z w : Str} (h : okS z) (g : okS w) (l : z.length + w.length ≤ 10000) : okS (z ++ w) := okS_of (by rw [slen_app]; exact l) fun c m => by
  rw [sapp_list] at m
  exact (List.mem_append.mp m).elim (strOk_iff.mp h.2 c) (strOk_iff.mp g.2 c)
in #guard_msgs in open Nat
theorem okS_cut {z : Str} {lo hi : Option Int} (h : okS z) : okS (cutS z lo hi) := okS_of (Nat.le_trans (cutS_length z lo hi) h.1) fun c m => strOk_iff.mp h.2 c (by
  have e : (cutS z lo hi).cps.toList = (z.cps.toList.drop (HT.sIx z.length 0 lo)).take (HT.sIx z.length z.length hi - HT.sIx z.length 0 lo) := rfl
  rw [e] at m
  exact List.mem_of_mem_drop (List.mem_of_mem_take m))
in #guard_msgs in open Nat
theorem a2_ixS {c : Nat} (h : atI z.cps.toList i = some c) (hq : q (.str ⟨#[c]⟩)) : A2 K rIxS (.str z) (.int i) q := fun B H u v s h1 h2 Q k => by
  cases h2
  cases h1 with
  | str _ ok =>
    obtain ⟨j, _, e2, _⟩ := atI_get h
    exact ⟨z, i, c, rfl, rfl, okS_len ok, h, k _ _ H hq (Same.refl _) (.str _ (okS_of (by show 1 ≤ 10000; decide) fun c' m => by
      have e : c' = c := by simpa using m
      subst e
      exact strOk_iff.mp ok.2 _ (List.mem_of_getElem? e2)))⟩
in #guard_msgs in open Nat
theorem a2_addS (h : okS z → okS w → z.length + w.length ≤ 10000) (hq : q (.str (z ++ w))) : A2 K qAddS (.str z) (.str w) q := fun B H u v s h1 h2 Q k => by
  cases h1 with
  | str _ o1 =>
    cases h2 with
    | str _ o2 =>
      have hl := h o1 o2
      exact ⟨z, w, rfl, rfl, small (Nat.le_trans hl (by decide)), k _ _ H hq (Same.refl _) (.str _ (okS_app o1 o2 hl))⟩
in #guard_msgs in open Nat
theorem a2_inSg {c : Nat} (hq : q (.bl (decide (c ∈ z.cps.toList)))) : A2 K qInS (.str ⟨#[c]⟩) (.str z) q := fun B H u v s h1 h2 Q k => by
  cases h1
  cases h2
  exact ⟨c, z, rfl, rfl, k _ _ H hq (Same.refl _) (.bl _)⟩
in #guard_msgs in open Nat
theorem a2_ninSg {c : Nat} (hq : q (.bl (!decide (c ∈ z.cps.toList)))) : A2 K qNinS (.str ⟨#[c]⟩) (.str z) q := fun B H u v s h1 h2 Q k => by
  cases h1
  cases h2
  exact ⟨c, z, rfl, rfl, k _ _ H hq (Same.refl _) (.bl _)⟩
in #guard_msgs in open Nat
def fltD : D → Bool
  | .non | .bl _ | .int _ | .str _ => true
  | _ => false
theorem flat_dv {B : Hp} {v : V} (h : Dv K B v d) (f : fltD d = true) : flatV v = true := by
  cases h <;> first | rfl | cases f
theorem eqV_dv {B : Hp} {v u : V} {e : D} (h : Dv K B v d) (g : Dv K B u e) (f : fltD d = true) (f' : fltD e = true) : eqV v u = deq d e := by
  cases h <;> first | (cases f; done) | (cases g <;> first | (cases f'; done) | simp [eqV, deq, PP, PyData.eqv])
in #guard_msgs in open Nat
theorem flats_dv {B : Hp} : ∀ {vs : List V} {ds : List D}, DvL K B vs ds → ds.all fltD = true → vs.all flatV = true
  | _, _, .nil, _ => rfl
  | _, _, .cons h t, f => by
    rw [List.all_cons, Bool.and_eq_true] at f
    rw [List.all_cons, flat_dv h f.1, flats_dv t f.2]
    rfl
in #guard_msgs in open Nat
def inD (x : D) (ds : List D) : Bool := ds.any fun y => deq y x
theorem inV_dv {B : Hp} {v : V} (h : Dv K B v x) (f : fltD x = true) : ∀ {vs : List V} {ds : List D}, DvL K B vs ds → ds.all fltD = true → inV v vs = inD x ds
  | _, _, .nil, _ => rfl
  | _, _, .cons g t, f' => by
    rw [List.all_cons, Bool.and_eq_true] at f'
    unfold inV inD
    rw [List.any_cons, List.any_cons, eqV_dv g h f'.1 f]
    congr 1
    exact inV_dv h f t f'.2
in #guard_msgs in open Nat
theorem a2_inL (f : fltD x = true) (fs : ds.all fltD = true) (hq : q (.bl (inD x ds))) : A2 K (rIn K false) x (.lst ds) q := fun B H u v s h1 h2 Q k => by
  cases h2 with
  | lst hs hv =>
    refine ⟨_, _, rfl, .inl (s.seq (Sq_of hs)), flat_dv h1 f, flats_dv hv fs, ?_⟩
    rw [if_neg Bool.false_ne_true, inV_dv h1 f hv fs]
    exact k _ _ H hq (Same.refl _) (.bl _)
in #guard_msgs in open Nat
theorem a2_ninL (f : fltD x = true) (fs : ds.all fltD = true) (hq : q (.bl (!inD x ds))) : A2 K (rIn K true) x (.lst ds) q := fun B H u v s h1 h2 Q k => by
  cases h2 with
  | lst hs hv =>
    refine ⟨_, _, rfl, .inl (s.seq (Sq_of hs)), flat_dv h1 f, flats_dv hv fs, ?_⟩
    rw [if_pos rfl, inV_dv h1 f hv fs]
    exact k _ _ H hq (Same.refl _) (.bl _)
in #guard_msgs in open Nat
theorem a2_inT (f : fltD x = true) (fs : ds.all fltD = true) (hq : q (.bl (inD x ds))) : A2 K (rIn K false) x (.tup ds) q := fun B H u v s h1 h2 Q k => by
  cases h2 with
  | tup hs hv =>
    refine ⟨_, _, rfl, .inr (St_of (s _ _ hs)), flat_dv h1 f, flats_dv hv fs, ?_⟩
    rw [if_neg Bool.false_ne_true, inV_dv h1 f hv fs]
    exact k _ _ H hq (Same.refl _) (.bl _)
in #guard_msgs in open Nat
theorem a2_ninT (f : fltD x = true) (fs : ds.all fltD = true) (hq : q (.bl (!inD x ds))) : A2 K (rIn K true) x (.tup ds) q := fun B H u v s h1 h2 Q k => by
  cases h2 with
  | tup hs hv =>
    refine ⟨_, _, rfl, .inr (St_of (s _ _ hs)), flat_dv h1 f, flats_dv hv fs, ?_⟩
    rw [if_pos rfl, inV_dv h1 f hv fs]
    exact k _ _ H hq (Same.refl _) (.bl _)
in #guard_msgs in open Nat
theorem inD_str (n : Str) (ns : List Str) : inD (.str n) (ns.map .str) = decide (n ∈ ns) := by
  unfold inD
  rw [List.any_map]
  induction ns with
  | nil => rfl
  | cons m ns ih =>
    rw [List.any_cons, ih]
    show ((deq (.str m) (.str n)) || _) = _
    rw [show deq (.str m) (.str n) = decide (m = n) from deq_enc D.str inj_str rfl rfl, ← Bool.decide_or]
    congr 1
    rw [List.mem_cons]
    exact propext ⟨fun h => h.imp Eq.symm id, fun h => h.imp Eq.symm id⟩
in #guard_msgs in open Nat
theorem inD_int (n : Int) (ns : List Int) : inD (.int n) (ns.map .int) = decide (n ∈ ns) := by
  unfold inD
  rw [List.any_map]
  induction ns with
  | nil => rfl
  | cons m ns ih =>
    rw [List.any_cons, ih]
    show ((deq (.int m) (.int n)) || _) = _
    rw [show deq (.int m) (.int n) = decide (m = n) from deq_enc D.int inj_int rfl rfl, ← Bool.decide_or]
    congr 1
    rw [List.mem_cons]
    exact propext ⟨fun h => h.imp Eq.symm id, fun h => h.imp Eq.symm id⟩
in #guard_msgs in open Nat
theorem flts_map {α : Type} {f : α → D} (h : ∀ x, fltD (f x) = true) (xs : List α) : (xs.map f).all fltD = true := by
  rw [List.all_map, List.all_eq_true]
  exact fun x _ => h x
in #guard_msgs in open Nat
theorem a2_inNs {n : Str} {ns : List Str} (hq : q (.bl (decide (n ∈ ns)))) : A2 K (rIn K false) (.str n) (eNs ns) q := a2_inL rfl (flts_map (fun _ => rfl) ns) (by rw [inD_str]; exact hq)
in #guard_msgs in open Nat
theorem a2_ninNs {n : Str} {ns : List Str} (hq : q (.bl (!decide (n ∈ ns)))) : A2 K (rIn K true) (.str n) (eNs ns) q := a2_ninL rfl (flts_map (fun _ => rfl) ns) (by rw [inD_str]; exact hq)
in #guard_msgs in open Nat
theorem a2_inIs {n : Int} {ns : List Int} (hq : q (.bl (decide (n ∈ ns)))) : A2 K (rIn K false) (.int n) (eIs ns) q := a2_inL rfl (flts_map (fun _ => rfl) ns) (by rw [inD_int]; exact hq)
in #guard_msgs in open Nat
theorem a2n_cat (hl : ds.length + es.length ≤ 100000) (hq : q (.lst (ds ++ es))) : A2N K rCat (.lst ds) (.lst es) q := fun B H u v s h1 h2 Q k => by
  cases h1 with
  | lst hs hv =>
    cases h2 with
    | lst gs gv =>
      refine ⟨_, _, _, _, rfl, rfl, s _ _ hs, s _ _ gs, by rw [hv.len, gv.len]; exact small hl, fun p np => ?_⟩
      exact k _ p _ hq np (same_upd np) ⟨_, upd_same, (hv.append gv).mono (same_remx s np)⟩
in #guard_msgs in open Nat
/-! built-in functions -/
theorem dvl_one {K : PySem.W.Frag} {B : Hp} {vs : List V} (h : DvL K B vs [d]) : ∃ v, vs = [v] ∧ Dv K B v d := by
  cases h with
  | cons a b =>
    cases b
    exact ⟨_, rfl, a⟩
in #guard_msgs in open Nat
theorem dvl_two {K : PySem.W.Frag} {B : Hp} {vs : List V} (h : DvL K B vs [x, y]) : ∃ u v, vs = [u, v] ∧ Dv K B u x ∧ Dv K B v y := by
  cases h with
  | cons a b =>
    obtain ⟨v, rfl, h2⟩ := dvl_one b
    exact ⟨_, _, rfl, a, h2⟩
in #guard_msgs in open Nat
theorem al_lenL (hq : q (.int ds.length)) : AL K (qLenQ K) [.lst ds] q := fun B H vs s h Q k => by
  obtain ⟨v, rfl, h'⟩ := dvl_one h
  cases h' with
  | lst hs hv => exact ⟨_, _, rfl, .inl (s.seq (Sq_of hs)), by rw [hv.len]; exact k _ _ H hq (Same.refl _) (.int _)⟩
in #guard_msgs in open Nat
theorem al_lenF (hq : q (.int ds.length)) : AL K (qLenQ K) [.fls ds] q := fun B H vs s h Q k => by
  obtain ⟨v, rfl, h'⟩ := dvl_one h
  cases h' with
  | fls hs hv => exact ⟨_, _, rfl, .inl (s.seq hs), by rw [hv.len]; exact k _ _ H hq (Same.refl _) (.int _)⟩
in #guard_msgs in open Nat
theorem al_lenT (hq : q (.int ds.length)) : AL K (qLenQ K) [.tup ds] q := fun B H vs s h Q k => by
  obtain ⟨v, rfl, h'⟩ := dvl_one h
  cases h' with
  | tup hs hv => exact ⟨_, _, rfl, .inr (St_of (s _ _ hs)), by rw [hv.len]; exact k _ _ H hq (Same.refl _) (.int _)⟩
in #guard_msgs in open Nat
theorem al_lenS (hq : q (.int z.length)) : AL K qLenS [.str z] q := fun B H vs s h Q k => by
  obtain ⟨v, rfl, h'⟩ := dvl_one h
  cases h' with
  | str _ ok => exact ⟨_, rfl, okS_len ok, k _ _ H hq (Same.refl _) (.int _)⟩
in #guard_msgs in open Nat
theorem al_min (hq : q (.int (if j < i then j else i))) : AL K qMin [.int i, .int j] q := fun B H vs s h Q k => by
  obtain ⟨u, v, rfl, h1, h2⟩ := dvl_two h
  cases h1
  cases h2
  exact ⟨i, j, rfl, k _ _ H hq (Same.refl _) (.int _)⟩
in #guard_msgs in open Nat
theorem al_intB {m : Bool} (hq : q (.int (if m then 1 else 0))) : AL K qIntB [.bl m] q := fun B H vs s h Q k => by
  obtain ⟨v, rfl, h'⟩ := dvl_one h
  cases h'
  exact .inr ⟨m, rfl, k _ _ H hq (Same.refl _) (.int _)⟩
in #guard_msgs in open Nat
theorem aln_listL (hq : q (.lst ds)) : ALN K (qListOf K) [.lst ds] q := fun B H vs s h Q k => by
  obtain ⟨v, rfl, h'⟩ := dvl_one h
  cases h' with
  | lst hs hv => exact ⟨_, _, rfl, .inl (s.seq (Sq_of hs)), fun p np => k _ p _ hq np (same_upd np) ⟨_, upd_same, hv.mono (same_remx s np)⟩⟩
in #guard_msgs in open Nat
theorem aln_listT (hq : q (.lst ds)) : ALN K (qListOf K) [.tup ds] q := fun B H vs s h Q k => by
  obtain ⟨v, rfl, h'⟩ := dvl_one h
  cases h' with
  | tup hs hv => exact ⟨_, _, rfl, .inr (St_of (s _ _ hs)), fun p np => k _ p _ hq np (same_upd np) ⟨_, upd_same, hv.mono (same_remx s np)⟩⟩
in #guard_msgs in open Nat
theorem al_tupL (hq : q (.tup ds)) : AL K (qTupOf K) [.lst ds] q := fun B H vs s h Q k => by
  obtain ⟨v, rfl, h'⟩ := dvl_one h
  cases h' with
  | lst hs hv => exact ⟨_, _, rfl, .inl ⟨s.seq (Sq_of hs), fun p np => k _ _ _ hq (same_upd np) (.tup (by rw [ext_new np, upd_same]) (hv.mono (ext_l s)))⟩⟩
in #guard_msgs in open Nat
theorem bls_of {K : PySem.W.Frag} {B : Hp} : ∀ {vs : List V} {bs : List Bool}, DvL K B vs (bs.map .bl) → vs = bs.map V.bl
  | _, [], h => by
    cases h
    rfl
  | _, b :: bs, h => by
    cases h with
    | cons h1 h2 =>
      cases h1
      rw [bls_of h2]
      rfl
in #guard_msgs in open Nat
theorem al_all {bs : List Bool} (hq : q (.bl (bs.all id))) : AL K (rAll K) [.lst (bs.map .bl)] q := fun B H vs s h Q k => by
  obtain ⟨v, rfl, h'⟩ := dvl_one h
  cases h' with
  | lst hs hv => exact ⟨_, bs, rfl, by rw [← bls_of hv]; exact s.seq (Sq_of hs), k _ _ H hq (Same.refl _) (.bl _)⟩
in #guard_msgs in open Nat
theorem al_any {bs : List Bool} (hq : q (.bl (bs.any id))) : AL K (rAny K) [.lst (bs.map .bl)] q := fun B H vs s h Q k => by
  obtain ⟨v, rfl, h'⟩ := dvl_one h
  cases h' with
  | lst hs hv => exact ⟨_, bs, rfl, by rw [← bls_of hv]; exact s.seq (Sq_of hs), k _ _ H hq (Same.refl _) (.bl _)⟩
in #guard_msgs in open Nat
theorem al_allM {α : Type} {f : α → Bool} {xs : List α} (hq : q (.bl (xs.all f))) : AL K (rAll K) [.lst (xs.map fun x => .bl (f x))] q := by
  have e : (xs.map fun x => D.bl (f x)) = (xs.map f).map .bl := by rw [List.map_map]; rfl
  rw [e]
  exact al_all (by rw [List.all_map]; exact hq)
in #guard_msgs in open Nat
theorem al_anyM {α : Type} {f : α → Bool} {xs : List α} (hq : q (.bl (xs.any f))) : AL K (rAny K) [.lst (xs.map fun x => .bl (f x))] q := by
  have e : (xs.map fun x => D.bl (f x)) = (xs.map f).map .bl := by rw [List.map_map]; rfl
  rw [e]
  exact al_any (by rw [List.any_map]; exact hq)
in #guard_msgs in open Nat
/-- isinstance -/
def isiD : D → String → Option Bool
  | .non, t => some (t == "NoneType")
  | .bl _, t => if t == "bool" || t == "int" then some true else if t == "str" || t == "list" || t == "tuple" || t == "dict" then some false else none
  | .int _, t => if t == "int" then some true else if t == "str" || t == "list" || t == "tuple" || t == "dict" || t == "bool" then some false else none
  | .str _, t => if t == "str" then some true else if t == "int" || t == "list" || t == "tuple" || t == "dict" || t == "bool" then some false else none
  | .lst _, t => if t == "list" then some true else if t == "int" || t == "str" || t == "tuple" || t == "dict" || t == "bool" then some false else none
  | .tup _, t => if t == "tuple" then some true else if t == "int" || t == "str" || t == "list" || t == "dict" || t == "bool" then some false else none
  | .dk _, t => if t == "dict" then some true else if t == "int" || t == "str" || t == "list" || t == "tuple" || t == "bool" then some false else none
  | .dt _, t => if t == "dict" then some true else if t == "int" || t == "str" || t == "list" || t == "tuple" || t == "bool" then some false else none
  | _, _ => none
def tyN : D → Option String
  | .non => some "NoneType"
  | .bl _ => some "bool"
  | .int _ => some "int"
  | .str _ => some "str"
  | .lst _ => some "list"
  | .tup _ => some "tuple"
  | .dk _ => some "dict"
  | .dt _ => none
  | _ => none
theorem ty_dv {B H : Hp} {v : V} {t : String} (s : Same B H) (h : Dv K B v d) (e : tyN d = some t) : TyX K H v (.type t) := by
  cases h with
  | non => cases e; exact .base .non
  | bl => cases e; exact .base (.bl _)
  | int => cases e; exact .base (.int _)
  | str => cases e; exact .base (.str _)
  | lst h _ => cases e; exact .base (.lst (s _ _ h))
  | fls _ _ => cases e
  | tup h _ =>
    cases e
    exact .base (.tup (s _ _ h))
  | dk h _ =>
    cases e
    rcases rd_mono s h with h | ⟨o, h⟩
    · exact .base (.dK h)
    · exact .fDict h
  | dt h _ => cases e
  | op => cases e
  | ex _ _ => cases e
  | vd _ => cases e
in #guard_msgs in open Nat
theorem al_isi {t u : String} {r : Bool} (e : tyN d = some t) (kk : PySem.W.kitOne K (.type t) (.type u) = some r) (hq : q (.bl r)) : AL K (rIsi K) [d, .op (.ty u)] q := fun B H vs s h Q k => by
  obtain ⟨v, w, rfl, h1, h2⟩ := dvl_two h
  cases h2
  exact ⟨v, _, _, _, r, rfl, .ty u, ty_dv s h1 e, kk, k _ _ H hq (Same.refl _) (.bl _)⟩
in #guard_msgs in open Nat
theorem strs_of {B : Hp} : ∀ {vs : List V} {ys : List Str}, DvL K B vs (ys.map .str) → vs = ys.map V.str
  | _, [], h => by
    cases h
    rfl
  | _, y :: ys, h => by
    cases h with
    | cons h1 h2 =>
      cases h1
      rw [strs_of h2]
      rfl
in #guard_msgs in open Nat
/-- sep.join(texts) -/
theorem ae_join {ρ : List Sl} {to te : TE} (h : AE K to ρ fun a => ∃ z, a = .str z ∧ AE K te ρ fun b => ∃ ys : List Str, b = eNs ys ∧ (ys.map (·.length)).sum + ys.length * z.length ≤ 10000 ∧ okS (Txt.join z ys) ∧ q (.str (Txt.join z ys))) : AE K (tM1 (qJoin K) to te) ρ q := fun B H σ s E Q k => h B H σ s E _ fun a v H1 ⟨z, ez, h1⟩ s1 dv => by
  subst ez
  cases dv
  refine ⟨⟨z, rfl⟩, h1 (ext B H H1) H1 σ (ext_r s s1) (E.mono (ext_l s)) _ fun b w H2 ⟨ys, eb, hl, hok, hq⟩ s2 dw => ?_⟩
  subst eb
  cases dw with
  | lst hs hv =>
    have e' := strs_of hv
    subst e'
    exact ⟨z, _, ys, rfl, rfl, .inl (Sq_of ((ext_r (ext_r s s1) s2) _ _ hs)), Nat.le_trans hl (by decide), k _ _ H2 hq (s1.trans s2) (.str _ hok)⟩
in #guard_msgs in open Nat
/-! sorted, index -/
theorem perm_sorted {α : Type} {r : α → α → Prop} (anti : ∀ a b, r a b → r b a → a = b) : ∀ {xs ys : List α}, xs.Pairwise r → ys.Pairwise r → xs.Perm ys → xs = ys
  | [], ys, _, _, p => (List.nil_perm.mp p).symm ▸ rfl
  | x :: xs, [], _, _, p => by simp at p
  | x :: xs, y :: ys, h1, h2, p => by
    have e : x = y := by
      rw [List.pairwise_cons] at h1 h2
      rcases List.mem_cons.mp (p.subset List.mem_cons_self) with e | m
      · exact e
      · rcases List.mem_cons.mp (p.symm.subset List.mem_cons_self) with e | m'
        · exact e.symm
        · exact anti _ _ (h1.1 _ m') (h2.1 _ m)
    subst e
    rw [perm_sorted anti (List.pairwise_cons.mp h1).2 (List.pairwise_cons.mp h2).2 (List.Perm.cons_inv p)]
in #guard_msgs in open Nat
def leS (a b : Str) : Prop := a.cps.toList ≤ b.cps.toList
theorem rising_pw : ∀ (p : Str) (l : List Str), PyProof.Rows.risingS p l = true → (p :: l).Pairwise leS
  | p, [], _ => by simp
  | p, x :: r, h => by
    unfold PyProof.Rows.risingS at h
    rw [Bool.and_eq_true, PyProof.Rows.ltCps_eq] at h
    have ih := rising_pw x r h.2
    have h1 : leS p x := by
      have : ¬ x.cps.toList < p.cps.toList := by simpa using h.1
      exact this
    rw [List.pairwise_cons]
    refine ⟨fun y m => ?_, ih⟩
    rcases List.mem_cons.mp m with rfl | m
    · exact h1
    · exact List.le_trans h1 ((List.pairwise_cons.mp ih).1 y m)
in #guard_msgs in open Nat
theorem sortedS_pw {l : List Str} (h : PyProof.Rows.sortedS l = true) : l.Pairwise leS := by
  cases l with
  | nil => exact .nil
  | cons x r => exact rising_pw x r h
in #guard_msgs in open Nat
theorem leS_anti (a b : Str) (h : leS a b) (g : leS b a) : a = b := s_ext (List.le_antisymm h g)
theorem sortedS_one {a b xs ys : List Str} (ha : PyProof.Rows.sortedS a = true) (hb : PyProof.Rows.sortedS b = true) (pa : a.Perm xs) (pb : b.Perm ys) (p : xs.Perm ys) : a = b :=
  perm_sorted leS_anti (sortedS_pw ha) (sortedS_pw hb) (pa.trans (p.trans pb.symm))
in #guard_msgs in open Nat
theorem ints_of {B : Hp} : ∀ {vs : List V} {ys : List Int}, DvL K B vs (ys.map .int) → vs = ys.map V.int
  | _, [], h => by
    cases h
    rfl
  | _, y :: ys, h => by
    cases h with
    | cons h1 h2 =>
      cases h1
      rw [ints_of h2]
      rfl
in #guard_msgs in open Nat
theorem dvl_ints {B : Hp} : ∀ ys : List Int, DvL K B (ys.map V.int) (ys.map .int)
  | [] => .nil
  | _ :: ys => .cons (.int _) (dvl_ints ys)
theorem okS_all {B : Hp} : ∀ {vs : List V} {ys : List Str}, DvL K B vs (ys.map .str) → ∀ z ∈ ys, okS z
  | _, [], _, z, m => by cases m
  | _, y :: ys, h, z, m => by
    cases h with
    | cons h1 h2 =>
      cases h1 with
      | str _ ok => exact (List.mem_cons.mp m).elim (fun e => e ▸ ok) (okS_all h2 z)
in #guard_msgs in open Nat
theorem dvl_strs {B : Hp} : ∀ {ys : List Str}, (∀ z ∈ ys, okS z) → DvL K B (ys.map V.str) (ys.map .str)
  | [], _ => .nil
  | y :: ys, h => .cons (.str _ (h y List.mem_cons_self)) (dvl_strs fun z m => h z (List.mem_cons_of_mem _ m))
in #guard_msgs in open Nat
theorem aln_sortedS {xs : List Str} (hl : xs.length < 64) (hq : ∀ ys : List Str, ys.Perm xs → PyProof.Rows.sortedS ys = true → q (eNs ys)) : ALN K (rSortedS K) [eNs xs] q := fun B H vs s h Q k => by
  obtain ⟨v, rfl, h'⟩ := dvl_one h
  cases h' with
  | lst hs hv =>
    have e := strs_of hv
    subst e
    have ok := okS_all hv
    exact ⟨_, xs, rfl, s.seq (Sq_of hs), hl, fun ys p pm so np => k _ p _ (hq ys pm so) np (same_upd np) ⟨_, upd_same, dvl_strs fun z m => ok z (pm.subset m)⟩⟩
in #guard_msgs in open Nat
theorem aln_sortedI {xs : List Int} (hl : xs.length < 64) (hq : ∀ ys : List Int, ys.Perm xs → ys.Pairwise (· ≤ ·) → q (eIs ys)) : ALN K (rSorted K) [eIs xs] q := fun B H vs s h Q k => by
  obtain ⟨v, rfl, h'⟩ := dvl_one h
  cases h' with
  | lst hs hv =>
    have e := ints_of hv
    subst e
    exact ⟨_, xs, rfl, s.seq (Sq_of hs), hl, fun ys p pm so np => k _ p _ (hq ys pm so) np (same_upd np) ⟨_, upd_same, dvl_ints ys⟩⟩
in #guard_msgs in open Nat
/-- a list's method of one argument -/
def AM (K : PySem.W.Frag) (r : V → List V → Hp → VK → Prop) (a b : D) (q : D → Prop) : Prop := A2 K (fun x y H Q => r x [y] H Q) a b q
theorem ae_bmL {r : V → List V → Hp → VK → Prop} {ρ : List Sl} {to te : TE} (h : AE K to ρ fun a => ∃ ds, a = .lst ds ∧ AE K te ρ fun b => AM K r a b q) : AE K (tBM K "list" r to (tCons te tNil)) ρ q := fun B H σ s E Q k => h B H σ s E _ fun a v H1 ⟨ds, ea, h1⟩ s1 dv => by
  subst ea
  obtain ⟨p, rfl⟩ := dv_ref (.inl dv)
  obtain ⟨vs, g1, g2⟩ := dv_seq (.inl dv)
  refine ⟨.inl ⟨rfl, vs, (ext_r s s1).seq g1⟩, h1 (ext B H H1) H1 σ (ext_r s s1) (E.mono (ext_l s)) _ fun b w H2 h2 s2 dw => ?_⟩
  rw [ext_ext s1 s2] at dw
  have s12 := s1.trans s2
  have dv' : Dv K (ext B H H2) (.ref p) (.lst ds) := dv.mono (by rw [← ext_ext s1 s2]; exact ext_l (ext_r s s1))
  exact h2 (ext B H H2) H2 _ w (ext_r s s12) dv' dw Q fun d v H' hq s3 dv => k d v H' hq (s12.trans s3) (by rw [ext_ext s12 s3] at dv; exact dv)
in #guard_msgs in open Nat
theorem am_indexS {n : Str} {ns : List Str} (hm : n ∈ ns) (hq : q (.int (ns.idxOf n))) : AM K (rIndex K) (eNs ns) (.str n) q := fun B H u v s h1 h2 Q k => by
  cases h2
  cases h1 with
  | lst hs hv =>
    have e := strs_of hv
    subst e
    have hlt : ns.idxOf n < ns.length := List.idxOf_lt_length_iff.mpr hm
    refine ⟨_, _, _, ns.idxOf n, .str ns[ns.idxOf n], rfl, rfl, s.seq (Sq_of hs), rfl, ?_, by rw [List.getElem?_map, List.getElem?_eq_getElem hlt]; rfl, ?_, ?_, k _ _ H hq (Same.refl _) (.int _)⟩
    · rw [List.all_map, List.all_eq_true]
      exact fun _ _ => rfl
    · have := List.getElem_idxOf hlt
      simp [eqV, this]
    · intro m z hm' hz
      rw [List.getElem?_map] at hz
      cases e : ns[m]? with
      | none => rw [e] at hz; cases hz
      | some w =>
        rw [e] at hz
        cases hz
        have hml : m < ns.length := by omega
        have e2 : ns[m] = w := by
          rw [List.getElem?_eq_getElem hml] at e
          cases e
          rfl
        have := List.not_of_lt_findIdx (p := (· == n)) (xs := ns) (i := m) (by simpa [List.idxOf] using hm')
        simp only [e2] at this
        simpa [eqV] using this
in #guard_msgs in open Nat
theorem al_allT {α : Type} {xs : List α} (hq : q (.bl true)) : AL K (rAll K) [.lst (xs.map fun _ => .bl true)] q := al_allM (f := fun _ => true) (by rw [show (xs.all fun _ => true) = true by simp]; exact hq)
in #guard_msgs in open Nat
/-! slices -/
def AO (K : PySem.W.Frag) (t : TO) (ρ : List Sl) (q : Option Int → Prop) : Prop := ∀ (B H : Hp) (σ : L2.St), Same B H → EnvS K B σ ρ → ∀ Q : Option Int → Hp → Prop, (∀ o H', q o → Same H H' → Q o H') → t σ H Q
theorem ao_no {ρ : List Sl} {q : Option Int → Prop} (hq : q none) : AO K tNoPart ρ q := fun B H σ s E Q k => k _ H hq (Same.refl _)
theorem ao_some {ρ : List Sl} {te : TE} {q : Option Int → Prop} (h : AE K te ρ fun d => ∃ i, d = .int i ∧ q (some i)) : AO K (tPart te) ρ q := fun B H σ s E Q k => h B H σ s E _ fun d v H' ⟨i, e, hq⟩ s1 dv => by
  subst e
  cases dv
  exact ⟨i, rfl, k _ H' hq s1⟩
in #guard_msgs in open Nat
theorem an_slL {ρ : List Sl} {te : TE} {tl th : TO} (h : AE K te ρ fun d => AO K tl ρ fun lo => AO K th ρ fun hi => ∃ ds, (d = .lst ds ∨ d = .fls ds) ∧ q (.lst (cut ds lo hi))) : AN K (tSl (rSlL K) te tl th) ρ q := fun B H σ s E Q k => h B H σ s E _ fun d v H1 h1 s1 dv =>
  h1 _ H1 σ (ext_r s s1) (E.mono (ext_l s)) _ fun lo H2 h2 s2 => h2 (ext B H H2) H2 σ (ext_r s (s1.trans s2)) (E.mono (ext_l s)) _ fun hi H3 ⟨ds, ed, hq⟩ s3 => by
    have s13 := s1.trans (s2.trans s3)
    have dv' : Dv K (ext B H H3) v d := dv.mono (by rw [← ext_ext s1 (s2.trans s3)]; exact ext_l (ext_r s s1))
    have dv2 : Dv K (ext B H H3) v (.lst ds) ∨ Dv K (ext B H H3) v (.fls ds) := ed.imp (fun (e : d = .lst ds) => e ▸ dv') fun (e : d = .fls ds) => e ▸ dv'
    obtain ⟨a, rfl⟩ := dv_ref dv2
    obtain ⟨vs, g1, g2⟩ := dv_seq dv2
    refine ⟨a, vs, rfl, (ext_r s s13).seq g1, fun p np => k _ p _ hq (s13.free np) (s13.trans (same_upd np)) ⟨_, upd_same, ?_⟩⟩
    rw [← ext_ext s13 (same_upd np)]
    exact g2.cut.mono (same_remx (ext_r s s13) np)
in #guard_msgs in open Nat
theorem ae_slS {ρ : List Sl} {te : TE} {tl th : TO} (h : AE K te ρ fun d => AO K tl ρ fun lo => AO K th ρ fun hi => ∃ z, d = .str z ∧ q (.str (cutS z lo hi))) : AE K (tSl rSlS te tl th) ρ q := fun B H σ s E Q k => h B H σ s E _ fun d v H1 h1 s1 dv =>
  h1 _ H1 σ (ext_r s s1) (E.mono (ext_l s)) _ fun lo H2 h2 s2 => h2 (ext B H H2) H2 σ (ext_r s (s1.trans s2)) (E.mono (ext_l s)) _ fun hi H3 ⟨z, ed, hq⟩ s3 => by
    subst ed
    cases dv with
    | str _ ok => exact ⟨z, rfl, okS_len ok, k _ _ H3 hq (s1.trans (s2.trans s3)) (.str _ (okS_cut ok))⟩
in #guard_msgs in open Nat
end
theorem cut_map {α β : Type} (f : α → β) (xs : List α) (lo hi : Option Int) : cut (xs.map f) lo hi = (cut xs lo hi).map f := by
  unfold cut
  rw [List.length_map, List.map_take, List.map_drop]
in #guard_msgs in open Nat
theorem cut1 {α : Type} (xs : List α) : cut xs (some 1) none = xs.drop 1 := cut_from xs 1
theorem cutP {α : Type} (xs : List α) {i : Int} (h : 0 ≤ i) : cut xs (some i) none = xs.drop i.toNat := by
  have e : i = (i.toNat : Int) := by omega
  rw [e]
  exact cut_from xs _
in #guard_msgs in open Nat
theorem cutQ {α : Type} (xs : List α) {i : Int} (h : 0 ≤ i) : cut xs none (some i) = xs.take i.toNat := by
  have e : i = (i.toNat : Int) := by omega
  rw [e]
  exact cut_to xs _
in #guard_msgs in open Nat
/-- a test told whole -/
theorem ite_ok {p A B : Prop} [Decidable p] (h1 : p → A) (h2 : ¬ p → B) : (decide p = true → A) ∧ (decide p = false → B) := ⟨fun h => h1 (of_decide_eq_true h), fun h => h2 (of_decide_eq_false h)⟩
in #guard_msgs in open Nat
theorem ite_no {p A B : Prop} [Decidable p] (h1 : ¬ p → A) (h2 : p → B) : ((!decide p) = true → A) ∧ ((!decide p) = false → B) := ⟨fun h => h1 (by simpa using h), fun h => h2 (by simpa using h)⟩
in #guard_msgs in open Nat
theorem ite_b {p : Bool} {A B : Prop} (h1 : p = true → A) (h2 : p = false → B) : (p = true → A) ∧ (p = false → B) := ⟨h1, h2⟩
theorem ite_t {A B : Prop} (h : A) : (true = true → A) ∧ (true = false → B) := ⟨fun _ => h, fun z => Bool.noConfusion z⟩
theorem ite_f {A B : Prop} (h : B) : (false = true → A) ∧ (false = false → B) := ⟨fun z => Bool.noConfusion z, fun _ => h⟩
/-! ### the ends of a def -/
theorem envR_start {K : PySem.W.Frag} {B H : Hp} : ∀ {vs : List V} {ds : List D}, DvL K B vs ds → ∀ n, EnvR K B H (vs.map some ++ List.replicate n none) (ds.map .sh ++ List.replicate n .un) []
  | _, _, .nil, 0 => .nil
  | _, _, .nil, n + 1 => by
    rw [List.replicate_succ, List.replicate_succ]
    exact .un (envR_start (vs := []) (ds := []) .nil n)
  | _, _, .cons h t, n => .sh h (envR_start t n)
in #guard_msgs in open Nat
def ρ0 (N : List Str) (ds : List D) : List Sl := ds.map .sh ++ List.replicate (N.length - ds.length) .un
theorem rel_start {K : PySem.W.Frag} {B H : Hp} {vs : List V} {ds : List D} {N : List Str} (s : Same B H) (h : DvL K B vs ds) : Rel ⟨K, B, H, []⟩ B H (L2.start N vs) (ρ0 N ds) [] [] [] where
  b0 := Same.refl _
  bh := s
  hh := fun _ _ e _ => e
  dom := fun _ e => e
  old := fun _ _ => rfl
  env := by
    unfold L2.start ρ0
    rw [h.len]
    exact envR_start h _
  res := .nil
  nd := fun a m => by cases m
  na := fun a m => by cases m
  ng := fun a m => by cases m
in #guard_msgs in open Nat
theorem rel_back {K : PySem.W.Frag} {B0 H0 B H : Hp} {W : List Res} {G : List Addr} (r : Rel ⟨K, B0, H0, []⟩ B H [] [] W [] G) : Same H0 H ∧ Same B (ext B0 H0 H) := ⟨fun a o e => r.hh a o e (by simp), fun a o e => by
  cases h : H0 a with
  | none =>
    rw [ext_new h]
    exact r.bh a o e
  | some u =>
    rw [ext_old (ne_none h)]
    exact (r.old a (ne_none h)).symm.trans e⟩
in #guard_msgs in open Nat
theorem pfn_enter {K : PySem.W.Frag} {T : List D → (D → Prop) → Prop} {N : List Str} {vs : List V} {H : Hp} {Q : VK} {E : XK} {t : TS} (h : pfn K T vs H Q E)
    (hb : ∀ ds q B0 H0, T ds q → AW ⟨K, B0, H0, []⟩ t (ρ0 N ds) [] ⟨fun _ _ => q .non, fun d _ => q d, fun d _ => q d, fun _ _ => False, fun _ _ => False⟩) : t { nx := fun _ H' => Q .non H', rt := Q } (L2.start N vs) H := by
  obtain ⟨B, ds, q, s, dv, hT, k⟩ := h
  refine hb ds q B H hT B _ ⟨fun hq _ r => ?_, fun hq _ _ => False.elim hq, fun hq _ _ => False.elim hq, fun hq r dv => ?_, fun {B H d p W G} hq r n0 np c => ?_⟩ B H (L2.start N vs) [] [] (Same.refl _) (rel_start s dv)
  · exact k _ _ _ hq (rel_back r.noSlots).1 .non
  · exact k _ _ _ hq (rel_back r).1 (dv.mono (rel_back r).2)
  · refine k _ _ _ hq (rel_back r).1 (c.dv (rel_back r).2 (ext_new n0))
in #guard_msgs in open Nat
theorem pfnN_enter {K : PySem.W.Frag} {T : List D → (D → Prop) → Prop} {N : List Str} {vs : List V} {H : Hp} {Q : VK} {E : XK} {t : TS} (h : pfnN K T vs H Q E)
    (hb : ∀ ds q B0 H0, T ds q → AW ⟨K, B0, H0, []⟩ t (ρ0 N ds) [] ⟨fun _ _ => False, fun d _ => False, fun d _ => q d, fun _ _ => False, fun _ _ => False⟩) : t { nx := fun _ H' => Q .non H', rt := Q } (L2.start N vs) H := by
  obtain ⟨B, ds, q, s, dv, hT, k⟩ := h
  refine hb ds q B H hT B _ ⟨fun hq _ r => False.elim hq, fun hq _ _ => False.elim hq, fun hq _ _ => False.elim hq, fun hq r dv => False.elim hq, fun {B' H' d p W G} hq r n0 np c => ?_⟩ B H (L2.start N vs) [] [] (Same.refl _) (rel_start s dv)
  have rb := rel_back r
  exact k _ p H' hq n0 rb.1 (c.mono (same_rem rb.2 np) rfl)
in #guard_msgs in open Nat
/-! xs.insert(i, y) -/
def rInsertQ : V → List V → Hp → VK → Prop := fun x vs H Q => ∃ (l : Addr) (xs : List V) (i : Int) (y : V), x = .ref l ∧ vs = [.int i, y] ∧ H l = some (.lst xs) ∧ xs.length < sizeLine ∧ 0 ≤ i ∧ i < 2 ^ 63 ∧ Q .non (upd H l (.lst (xs.take i.toNat ++ [y] ++ xs.drop i.toNat)))
theorem mt_insertQ {X : Cx} : MtR X "list.insert" rInsertQ := mt_insert
def tInsH (K : PySem.W.Frag) (i : Nat) (ti te : TE) : TS := tDrop (tBM K "list" rInsertQ (tVar i) (tCons ti (tCons te tNil)))
theorem ps_inH {X : Cx} {st : Stmt} {ti te : TE} {i : Nat} {K : PySem.W.Frag} (h : PS X st (tDrop (tBM K "list" rInsertQ (tVar i) (tCons ti (tCons te tNil))))) : PS X st (tInsH K i ti te) := h
in #guard_msgs in open Nat
section
variable {Z : Zc} {ρ : List Sl} {W : List Res} {P : AEnds} {te ti : TE} {i : Nat} {d : D}
theorem aw_insert {ds : List D} (e : ρ[i]? = some (.own (.lst ds))) (h : AE Z.K ti (fz ρ) fun k => ∃ m : Int, k = .int m ∧ 0 ≤ m ∧ m < 2 ^ 63 ∧ AE Z.K te ρ fun d => ds.length < 100000 ∧ P.nx (ρ.set i (.own (.lst (ds.take m.toNat ++ [d] ++ ds.drop m.toNat)))) W) : AW Z (tInsH Z.K i ti te) ρ W P := fun F R ok B H σ A G s r => by
  obtain ⟨a, h1, h2, h3, vs, h4, h5⟩ := r.env.getOwn e
  refine ⟨_, h1, .inl ⟨rfl, _, Sq_of h4⟩, ?_⟩
  refine h _ H σ r.fz.bh r.fz.env.envS _ fun k v H1 ⟨n, ek, n0, n1, hk⟩ s1 dv => ?_
  subst ek
  cases dv
  have r1 := r.step s1
  refine hk _ H1 σ r1.bh r1.env.envS _ fun d v H' hq s2 dv => ?_
  have r2 := r1.step s2
  have sB := (ext_l r.bh).trans (ext_l (H := H1) (H' := H') r1.bh)
  exact ⟨a, vs, n, v, rfl, rfl, s2 _ _ (s1 _ _ h4), smallL (by rw [h5.len]; exact hq.1), n0, n1, ok.nx hq.2 (s.trans sB) (r2.mut e h1 h2 ⟨_, upd_same, ((((h5.mono sB).take _).append (.cons dv .nil)).append ((h5.mono sB).drop _))⟩)⟩
in #guard_msgs in open Nat
end
/-! ### how a value comes into a slot: as it is; a scalar; a new object that the slot owns -/
def tAsgH (te : TE) (i : Nat) : TS := tAsg te (gName i)
def tAsgS (te : TE) (i : Nat) : TS := tAsg te (gName i)
def tAsgN (te : TE) (i : Nat) : TS := tAsg te (gName i)
def tAsgF (te : TE) (i : Nat) : TS := tAsg te (gName i)
def tAsgE (te : TE) (i : Nat) : TS := tAsg te (gName i)
def tAppH (K : PySem.W.Frag) (i : Nat) (te : TE) : TS := tDrop (tBM K "list" rAppend (tVar i) (tCons te tNil))
def tAppS (K : PySem.W.Frag) (i : Nat) (te : TE) : TS := tDrop (tBM K "list" rAppend (tVar i) (tCons te tNil))
def tAppP (K : PySem.W.Frag) (i j : Nat) (te : TE) : TS := tDrop (tBM K "list" rAppend (tVar i) (tCons (tBM K "list" rPopAt (tVar j) (tCons te tNil)) tNil))
section
variable {X : Cx} {st : Stmt} {te : TE} {i j : Nat} {K : PySem.W.Frag}
theorem ps_asH (h : PS X st (tAsg te (gName i))) : PS X st (tAsgH te i) := h
theorem ps_asS (h : PS X st (tAsg te (gName i))) : PS X st (tAsgS te i) := h
theorem ps_asN (h : PS X st (tAsg te (gName i))) : PS X st (tAsgN te i) := h
theorem ps_asF (h : PS X st (tAsg te (gName i))) : PS X st (tAsgF te i) := h
theorem ps_asE (h : PS X st (tAsg te (gName i))) : PS X st (tAsgE te i) := h
theorem ps_apH (h : PS X st (tDrop (tBM K "list" rAppend (tVar i) (tCons te tNil)))) : PS X st (tAppH K i te) := h
theorem ps_apS (h : PS X st (tDrop (tBM K "list" rAppend (tVar i) (tCons te tNil)))) : PS X st (tAppS K i te) := h
theorem ps_apP (h : PS X st (tDrop (tBM K "list" rAppend (tVar i) (tCons (tBM K "list" rPopAt (tVar j) (tCons te tNil)) tNil)))) : PS X st (tAppP K i j te) := h
end
section
variable {Z : Zc} {ρ : List Sl} {W : List Res} {P : AEnds} {te : TE} {i j : Nat} {d : D}
theorem aw_retNewZ (h : AN Z.K te (fz ρ) fun d => P.rn d W) : AW Z (tRet te) ρ W P := fun F R ok B H σ A G s r => by
  refine h _ H σ r.fz.bh r.fz.env.envS _ fun d p H' hq np s1 c => ?_
  obtain ⟨A', r'⟩ := r.fz.setOwn np s1 c 0
  have n0 : Z.H0 p = none := by
    cases e : Z.H0 p with
    | none => rfl
    | some o => exact absurd np (r.dom p (ne_none e))
  exact ok.rn hq r'.noSlots n0 (if_pos rfl) c
in #guard_msgs in open Nat
end
/-! what the walker looks at first -/
theorem gAW {Z : Zc} {t : TS} {ρ : List Sl} {W : List Res} {P : AEnds} (h : AW Z t ρ W P) : AW Z t ρ W P := h
theorem gAG {Z : Zc} {g : TG} {x : D} {ρ : List Sl} {W : List Res} {n : List Sl → List Res → Prop} (h : AG Z g x ρ W n) : AG Z g x ρ W n := h
theorem gAGs {Z : Zc} {g : TGs} {x : List D} {ρ : List Sl} {W : List Res} {n : List Sl → List Res → Prop} (h : AGs Z g x ρ W n) : AGs Z g x ρ W n := h
theorem gAE {K : PySem.W.Frag} {te : TE} {ρ : List Sl} {q : D → Prop} (h : AE K te ρ q) : AE K te ρ q := h
theorem gAN {K : PySem.W.Frag} {te : TE} {ρ : List Sl} {q : D → Prop} (h : AN K te ρ q) : AN K te ρ q := h
theorem gAA {K : PySem.W.Frag} {te : TA} {ρ : List Sl} {q : List D → Prop} (h : AA K te ρ q) : AA K te ρ q := h
theorem gAO {K : PySem.W.Frag} {te : TO} {ρ : List Sl} {q : Option Int → Prop} (h : AO K te ρ q) : AO K te ρ q := h
theorem gAT {te : TT} {K : PySem.W.Frag} {ρ : List Sl} {q : Bool → Prop} (h : AT te K ρ q) : AT te K ρ q := h
theorem gA2 {K : PySem.W.Frag} {r : R2} {a b : D} {q : D → Prop} (h : A2 K r a b q) : A2 K r a b q := h
theorem gA1 {K : PySem.W.Frag} {r : V → Hp → VK → Prop} {a : D} {q : D → Prop} (h : A1 K r a q) : A1 K r a q := h
theorem gA2N {K : PySem.W.Frag} {r : R2} {a b : D} {q : D → Prop} (h : A2N K r a b q) : A2N K r a b q := h
theorem gAL {K : PySem.W.Frag} {r : List V → Hp → VK → Prop} {a : List D} {q : D → Prop} (h : AL K r a q) : AL K r a q := h
theorem gALN {K : PySem.W.Frag} {r : List V → Hp → VK → Prop} {a : List D} {q : D → Prop} (h : ALN K r a q) : ALN K r a q := h
theorem gAM {K : PySem.W.Frag} {r : V → List V → Hp → VK → Prop} {a b : D} {q : D → Prop} (h : AM K r a b q) : AM K r a b q := h
theorem aw_norm {Z : Zc} {t : TS} {ρ ρ' : List Sl} {W : List Res} {P : AEnds} (e : ρ = ρ') (h : AW Z t ρ' W P) : AW Z t ρ W P := e ▸ h
theorem gSet {Z : Zc} {t : TS} {ρ : List Sl} {i : Nat} {s : Sl} {W : List Res} {P : AEnds} (h : AW Z t (ρ.set i s) W P) : AW Z t (ρ.set i s) W P := h
end Tg

/-! The engine: walks over data, the rules to be used. -/
namespace Tg
open PySem PySem.Spec L2
/-! ### the rules with the ends written out -/
section
variable {K : PySem.W.Frag} {B0 H0 : Hp} {F0 : List Addr} {ρ : List Sl} {W : List Res} {n bk ct : List Sl → List Res → Prop} {r rn : D → List Res → Prop} {t u : TS} {te ti : TE} {tt : TT} {i j : Nat} {d : D}
theorem s_seq (h : AW ⟨K, B0, H0, F0⟩ t ρ W ⟨fun ρ W => AW ⟨K, B0, H0, F0⟩ u ρ W ⟨n, r, rn, bk, ct⟩, r, rn, bk, ct⟩) : AW ⟨K, B0, H0, F0⟩ (tSeq t u) ρ W ⟨n, r, rn, bk, ct⟩ := aw_seq h
in #guard_msgs in open Nat
theorem s_next (h : n ρ W) : AW ⟨K, B0, H0, F0⟩ tNext ρ W ⟨n, r, rn, bk, ct⟩ := aw_next h
theorem s_brk (h : bk ρ W) : AW ⟨K, B0, H0, F0⟩ tBreak ρ W ⟨n, r, rn, bk, ct⟩ := aw_brk h
theorem s_cont (h : ct ρ W) : AW ⟨K, B0, H0, F0⟩ tCont ρ W ⟨n, r, rn, bk, ct⟩ := aw_cont h
theorem s_asgH (h : AE K te ρ fun d => n (ρ.set i (.sh d)) W) : AW ⟨K, B0, H0, F0⟩ (tAsgH te i) ρ W ⟨n, r, rn, bk, ct⟩ := aw_asgH h
theorem s_asgS (h : AE K te (fz ρ) fun d => scalD d = true ∧ n (ρ.set i (.sh d)) W) : AW ⟨K, B0, H0, F0⟩ (tAsgS te i) ρ W ⟨n, r, rn, bk, ct⟩ := aw_asgS h
theorem s_asgN (h : AN K te ρ fun d => n (ρ.set i (.own d)) W) : AW ⟨K, B0, H0, F0⟩ (tAsgN te i) ρ W ⟨n, r, rn, bk, ct⟩ := aw_asgN h
theorem s_asgNF (h : AN K te (fz ρ) fun d => flatD d = true ∧ n (ρ.set i (.own d)) W) : AW ⟨K, B0, H0, F0⟩ (tAsgF te i) ρ W ⟨n, r, rn, bk, ct⟩ := aw_asgNF h
theorem s_asgE (h : AN K te (fz ρ) fun d => flatD d = true ∧ n (ρ.set i (.sh d)) W) : AW ⟨K, B0, H0, F0⟩ (tAsgE te i) ρ W ⟨n, r, rn, bk, ct⟩ := aw_asgE h
theorem s_frz (i : Nat) (e : ρ[i]? = some (.own d)) (h : AW ⟨K, B0, H0, F0⟩ t (ρ.set i (.sh d)) W ⟨n, r, rn, bk, ct⟩) : AW ⟨K, B0, H0, F0⟩ t ρ W ⟨n, r, rn, bk, ct⟩ := aw_frz i e h
in #guard_msgs in open Nat
theorem s_ret (h : AE K te (fz ρ) fun d => r d W) : AW ⟨K, B0, H0, F0⟩ (tRet te) ρ W ⟨n, r, rn, bk, ct⟩ := aw_ret h
theorem s_retNew (h : AN K te ρ fun d => rn d W) : AW ⟨K, B0, H0, F0⟩ (tRet te) ρ W ⟨n, r, rn, bk, ct⟩ := aw_retNew h
theorem s_retOwn (e : ρ[i]? = some (.own d)) (h : rn d W) : AW ⟨K, B0, H0, F0⟩ (tRet (tVar i)) ρ W ⟨n, r, rn, bk, ct⟩ := aw_retOwn e h
theorem s_retN (h : r .non W) : AW ⟨K, B0, H0, F0⟩ tRetN ρ W ⟨n, r, rn, bk, ct⟩ := aw_retN h
theorem s_if (h : AT tt K (fz ρ) fun b => (b = true → AW ⟨K, B0, H0, F0⟩ t ρ W ⟨n, r, rn, bk, ct⟩) ∧ (b = false → AW ⟨K, B0, H0, F0⟩ u ρ W ⟨n, r, rn, bk, ct⟩)) : AW ⟨K, B0, H0, F0⟩ (tIfS tt t u) ρ W ⟨n, r, rn, bk, ct⟩ := aw_if h
in #guard_msgs in open Nat
theorem s_drop (h : AE K te (fz ρ) fun _ => n ρ W) : AW ⟨K, B0, H0, F0⟩ (tDrop te) ρ W ⟨n, r, rn, bk, ct⟩ := aw_drop h
theorem s_append {ds : List D} (e : ρ[i]? = some (.own (.lst ds))) (h : AE K te ρ fun d => ds.length < 100000 ∧ n (ρ.set i (.own (.lst (ds ++ [d])))) W) : AW ⟨K, B0, H0, F0⟩ (tAppH K i te) ρ W ⟨n, r, rn, bk, ct⟩ := aw_append e h
in #guard_msgs in open Nat
theorem s_appendS {ds : List D} (e : ρ[i]? = some (.own (.lst ds))) (h : AE K te (fz ρ) fun d => scalD d = true ∧ ds.length < 100000 ∧ n (ρ.set i (.own (.lst (ds ++ [d])))) W) : AW ⟨K, B0, H0, F0⟩ (tAppS K i te) ρ W ⟨n, r, rn, bk, ct⟩ := aw_appendS e h
in #guard_msgs in open Nat
theorem s_reverse {ds : List D} (e : ρ[i]? = some (.own (.lst ds))) (h : n (ρ.set i (.own (.lst ds.reverse))) W) : AW ⟨K, B0, H0, F0⟩ (tDrop (tBM0 K "list" rReverse (tVar i))) ρ W ⟨n, r, rn, bk, ct⟩ := aw_reverse e h
in #guard_msgs in open Nat
theorem s_clear {ds : List D} (e : ρ[i]? = some (.own (.lst ds))) (h : n (ρ.set i (.own (.lst []))) W) : AW ⟨K, B0, H0, F0⟩ (tDrop (tBM0 K "list" rClear (tVar i))) ρ W ⟨n, r, rn, bk, ct⟩ := aw_clear e h
in #guard_msgs in open Nat
theorem s_appendPop {ds es : List D} (e : ρ[i]? = some (.own (.lst ds))) (e2 : ρ[j]? = some (.own (.lst es))) (hij : i ≠ j)
    (h : AE K te (fz ρ) fun d => ∃ k : Nat, ∃ x, d = .int k ∧ es[k]? = some x ∧ k < 1000000 ∧ ds.length < 100000 ∧ n ((ρ.set j (.own (.lst (es.eraseIdx k)))).set i (.own (.lst (ds ++ [x])))) W) : AW ⟨K, B0, H0, F0⟩ (tAppP K i j te) ρ W ⟨n, r, rn, bk, ct⟩ := aw_appendPop e e2 hij h
in #guard_msgs in open Nat
theorem s_wk {ρ' : List Sl} (w : Wk ρ ρ') (h : AW ⟨K, B0, H0, F0⟩ t ρ' W ⟨n, r, rn, bk, ct⟩) : AW ⟨K, B0, H0, F0⟩ t ρ W ⟨n, r, rn, bk, ct⟩ := aw_wk w h
theorem s_cut (ρ' : List Sl) (h : AW ⟨K, B0, H0, F0⟩ t ρ W ⟨fun ρ3 W3 => Wk ρ3 ρ' ∧ W3 = W, r, rn, bk, ct⟩) (hn : n ρ' W) : AW ⟨K, B0, H0, F0⟩ t ρ W ⟨n, r, rn, bk, ct⟩ := aw_cut ρ' h hn
in #guard_msgs in open Nat
theorem sg_name {x : D}  (h : n (ρ.set j (.sh x)) W) : AG ⟨K, B0, H0, F0⟩ (gName j) x ρ W n := ag_name h
theorem sgs_nil  (h : n ρ W) : AGs ⟨K, B0, H0, F0⟩ gNil [] ρ W n := ags_nil h
theorem sgs_cons {g : TG} {gs : TGs} {x : D} {xs : List D}  (h : AG ⟨K, B0, H0, F0⟩ g x ρ W fun ρ1 W1 => AGs ⟨K, B0, H0, F0⟩ gs xs ρ1 W1 n) : AGs ⟨K, B0, H0, F0⟩ (gCons g gs) (x :: xs) ρ W n := ags_cons h
in #guard_msgs in open Nat
theorem sg_tup {k : Nat} {gs : TGs} {xs : List D}  (hl : xs.length = k) (h : AGs ⟨K, B0, H0, F0⟩ gs xs ρ W n) : AG ⟨K, B0, H0, F0⟩ (gTup K k gs) (.tup xs) ρ W n := ag_tup hl h
in #guard_msgs in open Nat
theorem s_forL {tl : TE} {g : TG} {tb : TS} (h : AE K tl ρ fun d => ∃ xs, (d = .lst xs ∨ d = .fls xs) ∧ AFor ⟨K, B0, H0, F0⟩ xs g tb ρ W ⟨n, r, rn, bk, ct⟩) : AW ⟨K, B0, H0, F0⟩ (tFor (iList K tl) g tb) ρ W ⟨n, r, rn, bk, ct⟩ := aw_forL h
in #guard_msgs in open Nat
theorem s_forR1 {tl : TA} {g : TG} {tb : TS} (h : AA K tl (fz ρ) fun ds => ∃ j : Int, ds = [.int j] ∧ (-(2 ^ 62) ≤ j ∧ j < 2 ^ 62) ∧ AForR ⟨K, B0, H0, F0⟩ 0 j.toNat g tb ρ W ⟨n, r, rn, bk, ct⟩) : AW ⟨K, B0, H0, F0⟩ (tFor (iRng1 tl) g tb) ρ W ⟨n, r, rn, bk, ct⟩ := aw_forR1 h
in #guard_msgs in open Nat
theorem s_forR2 {tl : TA} {g : TG} {tb : TS} (h : AA K tl (fz ρ) fun ds => ∃ i j : Int, ds = [.int i, .int j] ∧ (-(2 ^ 62) ≤ i ∧ i < 2 ^ 62 ∧ -(2 ^ 62) ≤ j ∧ j < 2 ^ 62) ∧ AForR ⟨K, B0, H0, F0⟩ i (j - i).toNat g tb ρ W ⟨n, r, rn, bk, ct⟩) : AW ⟨K, B0, H0, F0⟩ (tFor (iRng2 tl) g tb) ρ W ⟨n, r, rn, bk, ct⟩ := aw_forR2 h
in #guard_msgs in open Nat
theorem s_while {c : TT} {tb : TS} (Pv : Nat → List Sl → List Res → Prop) (m : Nat) (h0 : ∃ ρ', Wk ρ ρ' ∧ Pv m ρ' W)
    (hs : ∀ m ρ W, Pv m ρ W → AT c K (fz ρ) fun b => (b = true → AW ⟨K, B0, H0, F0⟩ tb ρ W ⟨fun ρ W => ∃ ρ', Wk ρ ρ' ∧ ∃ m', m' < m ∧ Pv m' ρ' W, r, rn, n, fun ρ W => ∃ ρ', Wk ρ ρ' ∧ ∃ m', m' < m ∧ Pv m' ρ' W⟩) ∧ (b = false → n ρ W)) : AW ⟨K, B0, H0, F0⟩ (tWhile c tb) ρ W ⟨n, r, rn, bk, ct⟩ := aw_while Pv m h0 hs
in #guard_msgs in open Nat
theorem s_insert {ds : List D} (e : ρ[i]? = some (.own (.lst ds))) (h : AE K ti (fz ρ) fun k => ∃ m : Int, k = .int m ∧ 0 ≤ m ∧ m < 2 ^ 63 ∧ AE K te ρ fun d => ds.length < 100000 ∧ n (ρ.set i (.own (.lst (ds.take m.toNat ++ [d] ++ ds.drop m.toNat)))) W) : AW ⟨K, B0, H0, F0⟩ (tInsH K i ti te) ρ W ⟨n, r, rn, bk, ct⟩ := aw_insert e h
in #guard_msgs in open Nat
theorem s_retNewZ (h : AN K te (fz ρ) fun d => rn d W) : AW ⟨K, B0, H0, F0⟩ (tRet te) ρ W ⟨n, r, rn, bk, ct⟩ := aw_retNewZ h
theorem afor {xs : List D} {g : TG} {tb : TS} (Iv : Nat → List Sl → List Res → Prop) (h0 : ∃ ρ', Wk ρ ρ' ∧ Iv 0 ρ' W) (hs : ∀ i x ρ' W', xs[i]? = some x → Iv i ρ' W' → AG ⟨K, B0, H0, F0⟩ g x ρ' W' fun ρ2 W2 => AW ⟨K, B0, H0, F0⟩ tb ρ2 W2 ⟨fun ρ W => ∃ ρ', Wk ρ ρ' ∧ Iv (i + 1) ρ' W, r, rn, n, fun ρ W => ∃ ρ', Wk ρ ρ' ∧ Iv (i + 1) ρ' W⟩)
    (hd : ∀ ρ' W', Iv xs.length ρ' W' → n ρ' W') : AFor ⟨K, B0, H0, F0⟩ xs g tb ρ W ⟨n, r, rn, bk, ct⟩ := ⟨Iv, h0, hs, hd⟩
in #guard_msgs in open Nat
/-- a loop over the data of xs; the slots alone are told -/
theorem aforM {α : Type} {f : α → D} {xs : List α} {g : TG} {tb : TS} (Iv : Nat → List Sl → Prop) (h0 : ∃ ρ', Wk ρ ρ' ∧ Iv 0 ρ') (hs : ∀ i x ρ', xs[i]? = some x → Iv i ρ' → AG ⟨K, B0, H0, F0⟩ g (f x) ρ' W fun ρ2 W2 => AW ⟨K, B0, H0, F0⟩ tb ρ2 W2 ⟨fun ρ3 W3 => ∃ ρ4, Wk ρ3 ρ4 ∧ Iv (i + 1) ρ4 ∧ W3 = W, r, rn, n, fun ρ3 W3 => ∃ ρ4, Wk ρ3 ρ4 ∧ Iv (i + 1) ρ4 ∧ W3 = W⟩)
    (hd : ∀ ρ', Iv xs.length ρ' → n ρ' W) : AFor ⟨K, B0, H0, F0⟩ (xs.map f) g tb ρ W ⟨n, r, rn, bk, ct⟩ := ⟨fun i ρ W' => Iv i ρ ∧ W' = W, h0.elim fun ρ' h => ⟨ρ', h.1, h.2, rfl⟩, fun i x ρ' W' hx ⟨hI, e⟩ => by
      subst e
      rw [List.getElem?_map] at hx
      cases h : xs[i]? with
      | none => rw [h] at hx; cases hx
      | some y =>
        rw [h] at hx
        cases hx
        exact hs i y ρ' h hI, fun ρ' W' ⟨h, e⟩ => by
      rw [List.length_map] at h
      subst e
      exact hd ρ' h⟩
in #guard_msgs in open Nat
theorem aforR {lo : Int} {m : Nat} {g : TG} {tb : TS} (Iv : Nat → List Sl → Prop) (h0 : ∃ ρ', Wk ρ ρ' ∧ Iv 0 ρ') (hs : ∀ i ρ', i < m → Iv i ρ' → AG ⟨K, B0, H0, F0⟩ g (.int (lo + i)) ρ' W fun ρ2 W2 => AW ⟨K, B0, H0, F0⟩ tb ρ2 W2 ⟨fun ρ3 W3 => ∃ ρ4, Wk ρ3 ρ4 ∧ Iv (i + 1) ρ4 ∧ W3 = W, r, rn, n, fun ρ3 W3 => ∃ ρ4, Wk ρ3 ρ4 ∧ Iv (i + 1) ρ4 ∧ W3 = W⟩)
    (hd : ∀ ρ', Iv m ρ' → n ρ' W) : AForR ⟨K, B0, H0, F0⟩ lo m g tb ρ W ⟨n, r, rn, bk, ct⟩ := ⟨fun i ρ W' => Iv i ρ ∧ W' = W, h0.elim fun ρ' h => ⟨ρ', h.1, h.2, rfl⟩, fun i ρ' W' hx ⟨hI, e⟩ => by
      subst e
      exact hs i ρ' hx hI, fun ρ' W' ⟨h, e⟩ => by
      subst e
      exact hd ρ' h⟩
in #guard_msgs in open Nat
theorem aforR0 {m : Nat} {g : TG} {tb : TS} (Iv : Nat → List Sl → Prop) (h0 : ∃ ρ', Wk ρ ρ' ∧ Iv 0 ρ') (hs : ∀ i ρ', i < m → Iv i ρ' → AG ⟨K, B0, H0, F0⟩ g (.int (i : Int)) ρ' W fun ρ2 W2 => AW ⟨K, B0, H0, F0⟩ tb ρ2 W2 ⟨fun ρ3 W3 => ∃ ρ4, Wk ρ3 ρ4 ∧ Iv (i + 1) ρ4 ∧ W3 = W, r, rn, n, fun ρ3 W3 => ∃ ρ4, Wk ρ3 ρ4 ∧ Iv (i + 1) ρ4 ∧ W3 = W⟩)
    (hd : ∀ ρ', Iv m ρ' → n ρ' W) : AForR ⟨K, B0, H0, F0⟩ 0 m g tb ρ W ⟨n, r, rn, bk, ct⟩ := aforR Iv h0 (fun i ρ' hi h => by rw [Int.zero_add]; exact hs i ρ' hi h) hd
in #guard_msgs in open Nat
/-- .. the slots at each turn told by a function -/
theorem aforF {α : Type} {f : α → D} {xs : List α} {g : TG} {tb : TS} (st : Nat → List Sl) (h0 : Wk ρ (st 0)) (hs : ∀ i x, xs[i]? = some x → AG ⟨K, B0, H0, F0⟩ g (f x) (st i) W fun ρ2 W2 => AW ⟨K, B0, H0, F0⟩ tb ρ2 W2 ⟨fun ρ3 W3 => ∃ ρ4, Wk ρ3 ρ4 ∧ ρ4 = st (i + 1) ∧ W3 = W, r, rn, n, fun ρ3 W3 => ∃ ρ4, Wk ρ3 ρ4 ∧ ρ4 = st (i + 1) ∧ W3 = W⟩)
    (hd : n (st xs.length) W) : AFor ⟨K, B0, H0, F0⟩ (xs.map f) g tb ρ W ⟨n, r, rn, bk, ct⟩ := aforM (fun i ρ => ρ = st i) ⟨_, h0, rfl⟩ (fun i x ρ' hx e => by
      subst e
      exact hs i x hx) fun ρ' e => by
      subst e
      exact hd
in #guard_msgs in open Nat
theorem aforRF {m : Nat} {g : TG} {tb : TS} (st : Nat → List Sl) (h0 : Wk ρ (st 0)) (hs : ∀ i, i < m → AG ⟨K, B0, H0, F0⟩ g (.int (i : Int)) (st i) W fun ρ2 W2 => AW ⟨K, B0, H0, F0⟩ tb ρ2 W2 ⟨fun ρ3 W3 => ∃ ρ4, Wk ρ3 ρ4 ∧ ρ4 = st (i + 1) ∧ W3 = W, r, rn, n, fun ρ3 W3 => ∃ ρ4, Wk ρ3 ρ4 ∧ ρ4 = st (i + 1) ∧ W3 = W⟩)
    (hd : n (st m) W) : AForR ⟨K, B0, H0, F0⟩ 0 m g tb ρ W ⟨n, r, rn, bk, ct⟩ := aforR0 (fun i ρ => ρ = st i) ⟨_, h0, rfl⟩ (fun i ρ' hi e => by
      subst e
      exact hs i hi) fun ρ' e => by
      subst e
      exact hd
in #guard_msgs in open Nat
/-- a comprehension: each item's value -/
theorem alc {α : Type} {f : α → D} {xs : List α} {q : D → Prop} (P : α → Bool) (g : α → D) (hl : xs.length < 100000) (ht : ∀ x ∈ xs, ∀ q : Bool → Prop, q (P x) → AT tt K (ρ.set j (.sh (f x))) q)
    (he : ∀ x ∈ xs, P x = true → ∀ q : D → Prop, q (g x) → AE K te (ρ.set j (.sh (f x))) q) (hq : q (.lst ((xs.filter P).map g))) : ALc K (xs.map f) j tt te ρ q := by
  refine ⟨fun i acc => acc = ((xs.take i).filter P).map g, rfl, fun i x acc hx ha => ?_, fun ys h => ?_⟩
  · subst ha
    rw [List.getElem?_map] at hx
    cases h : xs[i]? with
    | none => rw [h] at hx; cases hx
    | some y =>
      rw [h] at hx
      cases hx
      have m : y ∈ xs := List.mem_of_getElem? h
      have et : xs.take (i + 1) = xs.take i ++ [y] := by rw [List.take_add_one, h]; rfl
      refine ht y m _ ⟨fun hp => he y m hp _ ⟨?_, ?_⟩, fun hp => ?_⟩
      · rw [List.length_map]
        have h1 := List.length_filter_le P (xs.take i)
        rw [List.length_take] at h1
        omega
      · show _ = _
        rw [et, List.filter_append, List.filter_cons_of_pos hp, List.filter_nil, List.map_append]
        rfl
      · show _ = _
        rw [et, List.filter_append, List.filter_cons_of_neg (by rw [hp]; decide), List.filter_nil, List.append_nil]
  · rw [List.length_map, List.take_length] at h
    subst h
    exact hq
in #guard_msgs in open Nat
theorem alcA {α : Type} {f : α → D} {xs : List α} {q : D → Prop} (g : α → D) (hl : xs.length < 100000) (he : ∀ x ∈ xs, ∀ q : D → Prop, q (g x) → AE K te (ρ.set j (.sh (f x))) q) (hq : q (.lst (xs.map g))) : ALc K (xs.map f) j tYes te ρ q :=
  alc (fun _ => true) g hl (fun x _ q h B H σ s E Q k => k true H h (Same.refl _)) (fun x m _ => he x m) (by rw [List.filter_eq_self.mpr (fun _ _ => rfl)]; exact hq)
in #guard_msgs in open Nat
/-- .. told by a relation -/
theorem alcP {xs : List D} {q : D → Prop} (Rl : Nat → D → Prop) (hl : xs.length < 100000) (he : ∀ (i : Nat) x, xs[i]? = some x → AE K te (ρ.set j (.sh x)) (Rl i)) (hq : ∀ ys : List D, ys.length = xs.length → (∀ (i : Nat) y, ys[i]? = some y → Rl i y) → q (.lst ys)) : ALc K xs j tYes te ρ q := by
  refine ⟨fun i acc => acc.length = i ∧ ∀ (k : Nat) y, acc[k]? = some y → Rl k y, ⟨rfl, fun k y h => by simp at h⟩, fun i x acc hx ⟨h1, h2⟩ B H σ s E Q k => k true H ⟨fun _ => ?_, fun z => by cases z⟩ (Same.refl _), fun ys ⟨h1, h2⟩ => hq ys h1 h2⟩
  have hlt := (List.getElem?_eq_some_iff.mp hx).1
  refine ae_mono (he i x hx) fun y hy => ⟨by omega, by rw [List.length_append, h1]; rfl, fun k z hz => ?_⟩
  by_cases c : k < acc.length
  · rw [List.getElem?_append_left c] at hz
    exact h2 k z hz
  · rw [List.getElem?_append_right (by omega)] at hz
    have e : k = i := by
      cases e : k - acc.length with
      | zero => omega
      | succ m => rw [e] at hz; simp at hz
    subst e
    rw [h1, Nat.sub_self] at hz
    cases hz
    exact hy
in #guard_msgs in open Nat
end

/-! ### the law -/
def T_law (ds : List D) (q : D → Prop) : Prop := ∃ ns : List Int, ds = [.fls (ns.map .int)] ∧ ns.length ≤ 63 ∧ q (.bl true)
theorem law_enter {K : PySem.W.Frag} {H : Hp} {a : Addr} {ns : List Int} (hl : ns.length ≤ 63) (hS : SqL K H a (ns.map V.int)) : pfn K T_law [.ref a] H (fun v _ => v = .bl true) fun _ _ _ => False :=
  ⟨H, [.fls (ns.map .int)], fun d => d = .bl true, Same.refl _, .cons (.fls hS (dvl_ints ns)) .nil, ⟨ns, rfl, hl, rfl⟩, fun d v H' e _ dv => by
    subst e
    cases dv
    rfl⟩
in #guard_msgs in open Nat
end Tg

/-! The engine: names that are drawn. -/
namespace Tg
open PySem PySem.Spec L2
def mkS (l : List Nat) : Str := ⟨l.toArray⟩
theorem mkS_list (l : List Nat) : (mkS l).cps.toList = l := rfl
theorem mkS_len (l : List Nat) : (mkS l).length = l.length := by rw [← slen_list, mkS_list]
theorem mkS_snoc (l : List Nat) (c : Nat) : mkS l ++ ⟨#[c]⟩ = mkS (l ++ [c]) := s_ext (by rw [sapp_list, mkS_list, mkS_list])
theorem mkS_next (f : Nat → Nat) (j : Nat) : mkS ((List.range j).map f) ++ ⟨#[f j]⟩ = mkS ((List.range (j + 1)).map f) := by
  rw [mkS_snoc, List.range_succ, List.map_append]
  rfl
in #guard_msgs in open Nat
theorem mkS_app (l m : List Nat) : mkS l ++ mkS m = mkS (l ++ m) := s_ext (by rw [sapp_list, mkS_list, mkS_list, mkS_list])
theorem mkS_inj {l m : List Nat} (h : mkS l = mkS m) : l = m := by
  rw [← mkS_list l, h, mkS_list]
theorem mkS_nil : Str.ofString "" = mkS [] := s_ext rfl
theorem mkS_of (z : Str) : z = mkS z.cps.toList := s_ext rfl
def lows (l : List Nat) : Prop := ∀ c ∈ l, 97 ≤ c ∧ c ≤ 122
theorem okS_mkS {l : List Nat} (hl : l.length ≤ 10000) (h : lows l) : okS (mkS l) := okS_of (by rw [mkS_len]; exact hl) fun c m => by
  have := h c m
  omega
theorem nameOk_mkS {l : List Nat} (h1 : 1 ≤ l.length) (h8 : l.length ≤ 8) (h : lows l) : nameOk (.str (mkS l)) = true := by
  have e1 : decide (1 ≤ (mkS l).length) = true := decide_eq_true (by rw [mkS_len]; exact h1)
  have e2 : decide ((mkS l).length ≤ 8) = true := decide_eq_true (by rw [mkS_len]; exact h8)
  show (decide (1 ≤ (mkS l).length) && (decide ((mkS l).length ≤ 8) && (mkS l).cps.toList.all lower)) = true
  rw [e1, e2, mkS_list]
  rw [Bool.true_and, Bool.true_and, List.all_eq_true]
  intro c m
  have := h c m
  simp [lower, this.1, this.2]
in #guard_msgs in open Nat
theorem nameOk_iff {z : Str} : nameOk (.str z) = true ↔ 1 ≤ z.length ∧ z.length ≤ 8 ∧ lows z.cps.toList := by
  unfold nameOk
  rw [Bool.and_eq_true, Bool.and_eq_true, decide_eq_true_eq, decide_eq_true_eq, List.all_eq_true]
  refine and_congr Iff.rfl (and_congr Iff.rfl ⟨fun h c m => ?_, fun h c m => ?_⟩)
  · have := h c m
    simpa [lower] using this
  · have := h c m
    simpa [lower] using this
in #guard_msgs in open Nat
theorem okS_name {z : Str} (h : nameOk (.str z) = true) : okS z := by
  obtain ⟨_, h2, h3⟩ := nameOk_iff.mp h
  exact okS_of (by omega) fun c m => by
    have := h3 c m
    omega
in #guard_msgs in open Nat
/-- letters -/
def sgn (i : Int) : Nat := 97 + i.toNat
theorem abc_sgn {i : Int} (h0 : 0 ≤ i) (h1 : i < 26) : atI ("abcdefghijklmnopqrstuvwxyz" : Str).cps.toList i = some (sgn i) := by
  have e : ("abcdefghijklmnopqrstuvwxyz" : Str).cps.toList = List.range' 97 26 := by decide +kernel
  rw [e]
  refine atI_of h0 ?_
  rw [List.getElem?_range' (by omega)]
  unfold sgn
  congr 1
  omega
in #guard_msgs in open Nat
theorem sgn_low {i : Int} (h0 : 0 ≤ i) (h1 : i < 26) : 97 ≤ sgn i ∧ sgn i ≤ 122 := by
  unfold sgn
  omega
theorem join_chars (cs : List Nat) : Txt.join (Str.ofString "") (cs.map fun c => ⟨#[c]⟩) = mkS cs := by
  refine (StrLaws.glued_eq_join _ _).trans ?_
  induction cs with
  | nil => rfl
  | cons c cs ih =>
    cases cs with
    | nil => rfl
    | cons c' cs =>
      show (⟨#[c]⟩ : Str) ++ Str.ofString "" ++ Str.join (Str.ofString "") ((c' :: cs).map fun c => (⟨#[c]⟩ : Str)) = _
      rw [ih]
      refine s_ext ?_
      rw [sapp_list, sapp_list, mkS_list, mkS_list, mkS_nil, mkS_list]
      rfl
in #guard_msgs in open Nat
theorem nodup_map {α β : Type} {f : α → β} {xs : List α} (nd : xs.Nodup) (h : ∀ a ∈ xs, ∀ b ∈ xs, f a = f b → a = b) : (xs.map f).Nodup := by
  unfold List.Nodup at nd ⊢
  rw [List.pairwise_map]
  exact nd.imp_of_mem fun {a b} ha hb ne e => ne (h a ha b hb e)
in #guard_msgs in open Nat
theorem erase_map {α β : Type} (f : α → β) : ∀ (xs : List α) (k : Nat), (xs.map f).eraseIdx k = (xs.eraseIdx k).map f
  | [], _ => rfl
  | _ :: _, 0 => rfl
  | x :: xs, k + 1 => by
    rw [List.map_cons, List.eraseIdx_cons_succ, List.eraseIdx_cons_succ, List.map_cons, erase_map f xs k]
in #guard_msgs in open Nat
theorem erase_perm {α : Type} : ∀ {xs : List α} {k : Nat} {x : α}, xs[k]? = some x → (x :: xs.eraseIdx k).Perm xs
  | [], k, x, h => by simp at h
  | y :: xs, 0, x, h => by
    simp at h
    subst h
    exact List.Perm.refl _
  | y :: xs, k + 1, x, h => by
    rw [List.eraseIdx_cons_succ]
    exact (List.Perm.swap y x _).trans (List.Perm.cons y (erase_perm (k := k) (by simpa using h)))
in #guard_msgs in open Nat
/-- data of a form, back -/
theorem form_of {α : Type} {f : α → D} {P : α → Prop} : ∀ {ys : List D}, (∀ (i : Nat) y, ys[i]? = some y → ∃ r, y = f r ∧ P r) → ∃ rs : List α, ys = rs.map f ∧ ∀ r ∈ rs, P r
  | [], _ => ⟨[], rfl, fun r m => by cases m⟩
  | y :: ys, h => by
    obtain ⟨r, e, p⟩ := h 0 y rfl
    obtain ⟨rs, e2, p2⟩ := form_of (ys := ys) fun i y hy => h (i + 1) y hy
    refine ⟨r :: rs, by rw [e, e2, List.map_cons], fun z m => ?_⟩
    rcases List.mem_cons.mp m with rfl | m
    · exact p
    · exact p2 z m
in #guard_msgs in open Nat
/-- places of names in an order -/
theorem idx_lt {t : List Str} (nd : t.Nodup) : t.Pairwise fun a b => t.idxOf a < t.idxOf b := by
  rw [List.pairwise_iff_getElem]
  intro i j hi hj h
  rw [nd.idxOf_getElem i hi, nd.idxOf_getElem j hj]
  exact h
in #guard_msgs in open Nat
theorem idx_sorted {t r : List Str} (nd : t.Nodup) (h : r.Sublist t) : (r.map fun n => (t.idxOf n : Int)).Pairwise (· ≤ ·) := by
  rw [List.pairwise_map]
  exact (List.Pairwise.sublist h (idx_lt nd)).imp fun h => by omega
in #guard_msgs in open Nat
theorem ints_one {a b : List Int} (ha : a.Pairwise (· ≤ ·)) (hb : b.Pairwise (· ≤ ·)) (p : a.Perm b) : a = b := perm_sorted (fun a b h g => by omega) ha hb p
theorem nodup_perm {a b : List Str} (ha : a.Nodup) (hb : b.Nodup) (h : ∀ x, x ∈ a ↔ x ∈ b) : a.Perm b := (List.perm_ext_iff_of_nodup ha hb).mpr h
theorem cut_last {α : Type} (xs : List α) : cut xs none (some (-1)) = xs.dropLast := by
  unfold cut
  rw [HT.sIx_none, List.drop_zero, Nat.sub_zero, List.dropLast_eq_take]
  congr 1
  unfold HT.sIx
  simp
  omega
in #guard_msgs in open Nat
def NamesOk (ns : List Str) : Prop := ns.Nodup ∧ ∀ z ∈ ns, nameOk (.str z) = true
theorem NamesOk.perm {a b : List Str} (h : NamesOk a) (p : b.Perm a) : NamesOk b := ⟨p.nodup_iff.mpr h.1, fun z m => h.2 z (p.subset m)⟩
theorem rot_perm {α : Type} (xs : List α) (k : Nat) : (xs.drop k ++ xs.take k).Perm xs := (List.perm_append_comm).trans (by rw [List.take_append_drop])
/-! names by a base (one place turned on), or its beginnings -/
def nmFull (c : Int) (size at' : Int) (k : Nat) : List Nat := (List.range size.toNat).map fun (j : Nat) => sgn ((mix c j 26 + k * (if (j : Int) = at' then 1 else 0)) % 26)
def nmPre (c : Int) (k : Nat) : List Nat := (List.range (k + 1)).map fun (j : Nat) => sgn (mix c j 26)
def nmSize (c : Int) : Int := 1 + mix c 8 8
def nmOne (c m : Int) (k : Nat) : List Nat := if mix c 10 4 = 1 ∧ m < 9 then nmPre c k else nmFull c (nmSize c) (mix c 9 (nmSize c)) k
def nmAll (c m : Int) : List Str := (List.range m.toNat).map fun k => mkS (nmOne c m k)
def namesM (c m : Int) : List Str := (nmAll c m).drop (mix c 11 m).toNat ++ (nmAll c m).take (mix c 11 m).toNat
theorem nmSize_b (c : Int) : 1 ≤ nmSize c ∧ nmSize c ≤ 8 := by
  have h1 : 0 ≤ mix c 8 8 := mix_nn (by decide)
  have h2 : mix c 8 8 < 8 := mix_lt (by decide)
  unfold nmSize
  omega
in #guard_msgs in open Nat
theorem mod26 (x : Int) : 0 ≤ x % 26 ∧ x % 26 < 26 := ⟨Int.emod_nonneg _ (by decide), Int.emod_lt_of_pos _ (by decide)⟩
theorem nmFull_low (c s a : Int) (k : Nat) : lows (nmFull c s a k) := fun x m => by
  obtain ⟨j, _, rfl⟩ := List.mem_map.mp m
  exact sgn_low (mod26 _).1 (mod26 _).2
in #guard_msgs in open Nat
theorem nmPre_low (c : Int) (k : Nat) : lows (nmPre c k) := fun x m => by
  obtain ⟨j, _, rfl⟩ := List.mem_map.mp m
  exact sgn_low (mix_nn (by decide)) (mix_lt (by decide))
in #guard_msgs in open Nat
theorem nmOne_low (c m : Int) (k : Nat) : lows (nmOne c m k) := by
  unfold nmOne
  split
  · exact nmPre_low c k
  · exact nmFull_low c (nmSize c) (mix c 9 (nmSize c)) k
in #guard_msgs in open Nat
theorem nmFull_len (c s a : Int) (k : Nat) : (nmFull c s a k).length = s.toNat := by rw [nmFull, List.length_map, List.length_range]
theorem nmPre_len (c : Int) (k : Nat) : (nmPre c k).length = k + 1 := by rw [nmPre, List.length_map, List.length_range]
theorem nmOne_len {c m : Int} {k : Nat} (hk : k < m.toNat) : 1 ≤ (nmOne c m k).length ∧ (nmOne c m k).length ≤ 8 := by
  have := nmSize_b c
  unfold nmOne
  split
  · rename_i h
    rw [nmPre_len]
    omega
  · rw [nmFull_len]
    omega
in #guard_msgs in open Nat
theorem nmOne_inj {c m : Int} (hm : m ≤ 26) {k l : Nat} (hk : k < m.toNat) (hl : l < m.toNat) (h : nmOne c m k = nmOne c m l) : k = l := by
  unfold nmOne at h
  split at h
  · have := congrArg List.length h
    rw [nmPre_len, nmPre_len] at this
    omega
  · have hs := nmSize_b c
    have a0 : 0 ≤ mix c 9 (nmSize c) := mix_nn (by omega)
    have a1 : mix c 9 (nmSize c) < nmSize c := mix_lt (by omega)
    have e := congrArg (fun x : List Nat => x[(mix c 9 (nmSize c)).toNat]?) h
    have hj : (mix c 9 (nmSize c)).toNat < (nmSize c).toNat := by omega
    simp only [nmFull, List.getElem?_map, List.getElem?_range hj, Option.map_some, Option.some.injEq, sgn] at e
    rw [if_pos (by omega)] at e
    have h1 := mod26 (mix c (mix c 9 (nmSize c)).toNat 26 + k * 1)
    have h2 := mod26 (mix c (mix c 9 (nmSize c)).toNat 26 + l * 1)
    omega
in #guard_msgs in open Nat
theorem nmAll_ok {c m : Int} (hm : m ≤ 26) : NamesOk (nmAll c m) := by
  refine ⟨?_, fun z h => ?_⟩
  · unfold nmAll
    refine nodup_map List.nodup_range fun a ha b hb e => ?_
    exact nmOne_inj hm (List.mem_range.mp ha) (List.mem_range.mp hb) (mkS_inj e)
  · obtain ⟨k, hk, rfl⟩ := List.mem_map.mp h
    have := nmOne_len (c := c) (List.mem_range.mp hk)
    exact nameOk_mkS this.1 this.2 (nmOne_low c m k)
in #guard_msgs in open Nat
theorem namesM_ok {c m : Int} (hm : m ≤ 26) : NamesOk (namesM c m) := (nmAll_ok hm).perm (rot_perm _ _)
theorem namesM_len {c m : Int} : (namesM c m).length = m.toNat := by
  unfold namesM
  rw [(rot_perm _ _).length_eq, nmAll, List.length_map, List.length_range]
/-! ### what is asked of the helpers of a law -/
def cellOf (ns : List Int) (k : Int) : Int := ns.getD k.toNat 0
def T_l_cell (ds : List D) (q : D → Prop) : Prop := ∃ (ns : List Int) (k : Int), ds = [.fls (ns.map .int), .int k] ∧ 0 ≤ k ∧ q (.int (cellOf ns k))
theorem u_cell {ns : List Int} {k : Int} {q : D → Prop} (h0 : 0 ≤ k) (h : q (.int (cellOf ns k))) : T_l_cell [.fls (ns.map .int), .int k] q := ⟨ns, k, rfl, h0, h⟩
in #guard_msgs in open Nat
def T_l_mix (ds : List D) (q : D → Prop) : Prop := ∃ c t m : Int, ds = [.int c, .int t, .int m] ∧ (0 ≤ t ∧ t ≤ 1000) ∧ 0 < m ∧ q (.int (mix c t m))
theorem u_mix {c t m : Int} {q : D → Prop} (h1 : 0 ≤ t ∧ t ≤ 1000) (h2 : 0 < m) (h : q (.int (mix c t m))) : T_l_mix [.int c, .int t, .int m] q := ⟨c, t, m, rfl, h1, h2, h⟩
in #guard_msgs in open Nat
def T_l_names (ds : List D) (q : D → Prop) : Prop := ∃ c m : Int, ds = [.int c, .int m] ∧ (1 ≤ m ∧ m ≤ 26) ∧ q (eNs (namesM c m))
theorem u_names {c m : Int} {q : D → Prop} (h1 : 1 ≤ m ∧ m ≤ 26) (h : q (eNs (namesM c m))) : T_l_names [.int c, .int m] q := ⟨c, m, rfl, h1, h⟩
theorem map_at {α β : Type} {f : α → β} {xs : List α} {i : Nat} {x : α} (h : xs[i]? = some x) : (xs.map f)[i]? = some (f x) := by rw [List.getElem?_map, h]; rfl
theorem abc_ok : okS "abcdefghijklmnopqrstuvwxyz" := okS_of (by decide +kernel) (by decide +kernel)
def T_l_shuffled (ds : List D) (q : D → Prop) : Prop := ∃ (c t : Int) (ns : List Str), ds = [.int c, .int t, eNs ns] ∧ (0 ≤ t ∧ t ≤ 500) ∧ ns.length ≤ 400 ∧ ∀ ys : List Str, ys.Perm ns → q (eNs ys)
theorem u_shuffled {c t : Int} {ns : List Str} {q : D → Prop} (h1 : 0 ≤ t ∧ t ≤ 500) (h2 : ns.length ≤ 400) (h : ∀ ys : List Str, ys.Perm ns → q (eNs ys)) : T_l_shuffled [.int c, .int t, eNs ns] q := ⟨c, t, ns, rfl, h1, h2, h⟩
in #guard_msgs in open Nat
end Tg

/-! The engine: names that are drawn, of another kind. -/
namespace Tg
open PySem PySem.Spec L2
def drwC (ns : List Int) (k : Int) : Int := if k % 63 < (ns.length : Int) then ns.getD (k % 63).toNat 0 else 2 * (7919 * k + 13)
def drw (ns : List Int) (k m : Int) : Int := mix (drwC ns k) (k / 63) m
theorem drw_nn {ns : List Int} {k m : Int} (h : 0 < m) : 0 ≤ drw ns k m := mix_nn h
theorem drw_lt {ns : List Int} {k m : Int} (h : 0 < m) : drw ns k m < m := mix_lt h
def T_l_drawn (ds : List D) (q : D → Prop) : Prop := ∃ (ns : List Int) (k m : Int), ds = [.fls (ns.map .int), .int k, .int m] ∧ (0 ≤ k ∧ k ≤ 60000) ∧ 0 < m ∧ q (.int (drw ns k m))
theorem u_drw {ns : List Int} {k m : Int} {q : D → Prop} (h1 : 0 ≤ k ∧ k ≤ 60000) (h2 : 0 < m) (h : q (.int (drw ns k m))) : T_l_drawn [.fls (ns.map .int), .int k, .int m] q := ⟨ns, k, m, rfl, h1, h2, h⟩
in #guard_msgs in open Nat
theorem cutS_mkS {l : List Nat} {lo hi : Option Int} : cutS (mkS l) lo hi = mkS (cut l lo hi) := s_ext rfl
theorem cutM {α : Type} (xs : List α) {i j : Int} (h0 : 0 ≤ i) (h : i ≤ j) : cut xs (some i) (some j) = (xs.drop i.toNat).take (j - i).toNat := by
  have e1 : HT.sIx xs.length 0 (some i) = min i.toNat xs.length := by unfold HT.sIx; simp; omega
  have e2 : HT.sIx xs.length xs.length (some j) = min j.toNat xs.length := by unfold HT.sIx; simp; omega
  unfold cut
  rw [e1, e2]
  by_cases c : i.toNat ≤ xs.length
  · rw [Nat.min_eq_left c]
    by_cases c2 : j.toNat ≤ xs.length
    · rw [Nat.min_eq_left c2]
      congr 1
      omega
    · rw [Nat.min_eq_right (by omega), List.take_of_length_le (by rw [List.length_drop]; omega), List.take_of_length_le (by rw [List.length_drop]; omega)]
  · rw [Nat.min_eq_right (by omega), List.drop_of_length_le (by omega), List.drop_of_length_le (by omega)]
    simp
in #guard_msgs in open Nat
def basN (f s : Int) : List Nat := (List.range 8).map fun (j : Nat) => sgn ((f + j * s) % 26)
def nmR (f s : Int) (size place : Int) (k : Nat) : List Nat := (basN f s).take place.toNat ++ [sgn ((f + place * s + k) % 26)] ++ ((basN f s).drop (place + 1).toNat).take (size - (place + 1)).toNat
def nmB (f s : Int) (k : Nat) : List Nat := (basN f s).take (k + 1)
theorem basN_low (f s : Int) : lows (basN f s) := fun x m => by
  obtain ⟨j, _, rfl⟩ := List.mem_map.mp m
  exact sgn_low (mod26 _).1 (mod26 _).2
theorem basN_len (f s : Int) : (basN f s).length = 8 := by rw [basN, List.length_map, List.length_range]
theorem nmR_low (f s size place : Int) (k : Nat) : lows (nmR f s size place k) := fun x m => by
  rcases List.mem_append.mp m with m | m
  · rcases List.mem_append.mp m with m | m
    · exact basN_low f s x (List.mem_of_mem_take m)
    · rw [List.mem_singleton.mp m]
      exact sgn_low (mod26 _).1 (mod26 _).2
  · exact basN_low f s x (List.mem_of_mem_drop (List.mem_of_mem_take m))
in #guard_msgs in open Nat
theorem nmR_len {f s size place : Int} {k : Nat} (h0 : 0 ≤ place) (h1 : place < size) (h8 : size ≤ 8) : (nmR f s size place k).length = size.toNat := by
  rw [nmR, List.length_append, List.length_append, List.length_take, List.length_take, List.length_drop, basN_len, List.length_singleton]
  omega
in #guard_msgs in open Nat
theorem nmB_low (f s : Int) (k : Nat) : lows (nmB f s k) := fun x m => basN_low f s x (List.mem_of_mem_take m)
theorem nmB_len {f s : Int} {k : Nat} (h : k < 8) : (nmB f s k).length = k + 1 := by
  rw [nmB, List.length_take, basN_len]
  omega
theorem nmR_inj {f s size place : Int} {k l : Nat} (h0 : 0 ≤ place) (h8 : place < 8) (hk : k < 26) (hl : l < 26) (h : nmR f s size place k = nmR f s size place l) : k = l := by
  unfold nmR at h
  rw [List.append_assoc, List.append_assoc] at h
  have h1 := List.append_cancel_left h
  have h2 : sgn ((f + place * s + k) % 26) = sgn ((f + place * s + l) % 26) := by
    rw [List.singleton_append, List.singleton_append] at h1
    exact (List.cons.inj h1).1
  have a := mod26 (f + place * s + k)
  have b := mod26 (f + place * s + l)
  unfold sgn at h2
  omega
in #guard_msgs in open Nat
theorem names_ok_of {m : Nat} {g : Nat → List Nat} (inj : ∀ a b, a < m → b < m → g a = g b → a = b) (hg : ∀ k, k < m → 1 ≤ (g k).length ∧ (g k).length ≤ 8 ∧ lows (g k)) : NamesOk ((List.range m).map fun k => mkS (g k)) := by
  refine ⟨nodup_map List.nodup_range fun a ha b hb e => inj a b (List.mem_range.mp ha) (List.mem_range.mp hb) (mkS_inj e), fun z h => ?_⟩
  obtain ⟨k, hk, rfl⟩ := List.mem_map.mp h
  obtain ⟨h1, h2, h3⟩ := hg k (List.mem_range.mp hk)
  exact nameOk_mkS h1 h2 h3
in #guard_msgs in open Nat
theorem namesR_ok {f s size place : Int} {m : Nat} (h0 : 0 ≤ place) (h1 : place < size) (h8 : size ≤ 8) (hm : m ≤ 26) : NamesOk ((List.range m).map fun k => mkS (nmR f s size place k)) :=
  names_ok_of (fun a b ha hb e => nmR_inj h0 (by omega) (by omega) (by omega) e) fun k _ => by
    rw [nmR_len h0 h1 h8]
    exact ⟨by omega, by omega, nmR_low _ _ _ _ _⟩
in #guard_msgs in open Nat
theorem namesB_ok {f s : Int} {m : Nat} (hm : m ≤ 8) : NamesOk ((List.range m).map fun k => mkS (nmB f s k)) :=
  names_ok_of (fun a b ha hb e => by
    have := congrArg List.length e
    rw [nmB_len (by omega), nmB_len (by omega)] at this
    omega) fun k hk => by
    rw [nmB_len (by omega)]
    exact ⟨by omega, by omega, nmB_low _ _ _⟩
in #guard_msgs in open Nat
theorem NamesOk.rev {zs : List Str} (h : NamesOk zs) : NamesOk zs.reverse := h.perm (List.reverse_perm zs)
def T_l_namesP (ds : List D) (q : D → Prop) : Prop := ∃ (ns : List Int) (a m : Int), ds = [.fls (ns.map .int), .int a, .int m] ∧ (0 ≤ a ∧ a ≤ 50000) ∧ (0 ≤ m ∧ m ≤ 26) ∧ ∀ zs : List Str, NamesOk zs → zs.length = m.toNat → q (eNs zs)
theorem u_namesP {ns : List Int} {a m : Int} {q : D → Prop} (h1 : 0 ≤ a ∧ a ≤ 50000) (h2 : 0 ≤ m ∧ m ≤ 26) (h : ∀ zs : List Str, NamesOk zs → zs.length = m.toNat → q (eNs zs)) : T_l_namesP [.fls (ns.map .int), .int a, .int m] q := ⟨ns, a, m, rfl, h1, h2, h⟩
in #guard_msgs in open Nat
end Tg

/-! The engine: comprehensions over tuples. -/
namespace Tg
open PySem PySem.Spec L2
section
variable {σ : St} {H H1 : Hp} {Q : VK} {tt : TT} {te : TE}
def LcT (K : PySem.W.Frag) (x : V) (g : TG) (tt : TT) (te : TE) (vs : List Nat) (σ : St) (H1 : Hp) (Q : VK) : Prop := ∃ a, x = .ref a ∧ (∃ xs, SqT K H1 a xs) ∧ ∀ D, H1 D = none → ∃ W : Nat → Nat → Hp → Prop, (∃ m, W 0 m (upd H1 D (.lst []))) ∧ ∀ i m H, W i m H →
  ((Itt K a).stop i H ∧ Q (.ref D) H) ∨ ((Itt K a).go i H ∧ ∃ Nx : Hp → Prop, (∀ H', Nx H' → ∃ m', m' < m ∧ W (i + 1) m' H') ∧ ∀ x H', (Itt K a).yld i H x H' → g x (wipe σ vs) H' fun σ2 H2 => wipe σ2 vs = wipe σ vs ∧ tt σ2 H2 fun b H3 =>
    if b = true then te σ2 H3 fun y H4 => ∃ acc, H4 D = some (.lst acc) ∧ acc.length < sizeLine ∧ Nx (upd H4 D (.lst (acc ++ [y]))) else Nx H3)
theorem w_lcT {tl : TE} {g : TG} {vs : List Nat} (h : tl σ H fun x H1 => LcT K x g tt te vs σ H1 Q) : tLc (iTup K tl) g tt te vs σ H Q := h
theorem lcT {a : Addr} {xs : List V} {g : TG} {vs : List Nat} (hS : SqT K H a xs) (Pv : Addr → Nat → Hp → Prop) (h0 : ∀ D, H D = none → Pv D 0 (upd H D (.lst []))) (hl : ∀ D i H, i ≤ xs.length → Pv D i H → SqT K H a xs)
    (hs : ∀ D i x H, xs[i]? = some x → Pv D i H → g x (wipe σ vs) H fun σ2 H2 => wipe σ2 vs = wipe σ vs ∧ tt σ2 H2 fun b H3 =>
      if b = true then te σ2 H3 fun y H4 => ∃ acc, H4 D = some (.lst acc) ∧ acc.length < sizeLine ∧ Pv D (i + 1) (upd H4 D (.lst (acc ++ [y]))) else Pv D (i + 1) H3) (hd : ∀ D H', H D = none → Pv D xs.length H' → Q (.ref D) H') : LcT K (.ref a) g tt te vs σ H Q :=
  ⟨a, rfl, ⟨xs, hS⟩, fun D hD => lc_tup (K := K) (a := a) (xs := xs) (Qd := fun H' => Q (.ref D) H') (Pv D) (h0 D hD) (hl D) (hs D) (fun H' => hd D H' hD)⟩
in #guard_msgs in open Nat
end
theorem seqT_up {K : PySem.W.Frag} {H H' : Hp} {a : Addr} {xs : List V} (e : Same H H') (h : SqT K H a xs) : SqT K H' a xs := h.elim (fun h => .inl (rd_mono e h)) .inr
in #guard_msgs in open Nat
section
variable {B H : Hp} {σ : L2.St} {ρ : List Sl} {j : Nat}
theorem lc_ofT {K : PySem.W.Frag} {xs : List D} {vs : List V} {a : Addr} {tt : TT} {te : TE} {q : D → Prop} {Q : VK} (bh : Same B H) (E : EnvS K B σ ρ) (hS : SqT K B a vs) (hv : DvL K B vs xs) (h : ALc K xs j tt te ρ q)
    (k : ∀ d p H', q d → H p = none → Same H H' → NewC K (ext B H H') H' p d → Q (.ref p) H') : LcT K (.ref a) (gName j) tt te [j] σ H Q := by
  obtain ⟨Iv, h0, hs, hd⟩ := h
  refine lcT (K := K) (seqT_up bh hS) (fun D0 i H' => H D0 = none ∧ Same H H' ∧ ∃ acc ws, Iv i acc ∧ H' D0 = some (.lst ws) ∧ DvL K (rem (ext B H H') D0) ws acc) (fun D0 nD => ⟨nD, same_upd nD, [], [], h0, upd_same, .nil⟩) (fun D0 i H' _ p => seqT_up p.2.1 (seqT_up bh hS)) ?_ ?_
  · rintro D0 i x H' hi ⟨nD, s1, acc, ws, hI, hw, hdv⟩
    obtain ⟨dx, e1, e2⟩ := hv.at' hi
    have sB : Same B (rem (ext B H H') D0) := same_remx bh nD
    have sE : Same (rem (ext B H H') D0) H' := rem_same.trans (ext_r bh s1)
    have E1 : EnvS K (rem (ext B H H') D0) ((L2.wipe σ [j]).set j (some x)) (ρ.set j (.sh dx)) := by
      have := ((E.mono sB).wipe j).set (i := j) (e2.mono sB)
      rwa [List.set_set] at this
    refine ⟨wipe_one σ j x, hs i dx acc e1 hI _ H' _ sE E1 _ fun b H3 hb s3 => ?_⟩
    have hDn : H' D0 ≠ none := ne_none hw
    cases b with
    | false =>
      rw [if_neg Bool.false_ne_true]
      exact ⟨nD, s1.trans s3, acc, ws, hb.2 rfl, s3 _ _ hw, hdv.mono ((ext_l sE).trans (lc_step (K := K) bh nD s1 s3 hDn))⟩
    | true =>
      rw [if_pos rfl]
      refine hb.1 rfl (ext (rem (ext B H H') D0) H' H3) H3 _ (ext_r sE s3) (E1.mono (ext_l sE)) _ fun y v H4 ⟨hl, hy⟩ s4 dy => ?_
      rw [ext_ext s3 s4] at dy
      have s34 := s3.trans s4
      have st := lc_step (K := K) bh nD s1 s34 hDn
      have er : ∀ o, rem (ext B H (upd H4 D0 o)) D0 = rem (ext B H H4) D0 := fun o => by
        funext b
        unfold rem
        by_cases c : b = D0
        · rw [if_pos c, if_pos c]
        · rw [if_neg c, if_neg c]
          unfold ext
          cases H b with
          | none => exact upd_ne c
          | some _ => rfl
      have dw : DvL K (rem (ext B H H4) D0) ws acc := hdv.mono ((ext_l sE).trans st)
      refine ⟨ws, s34 _ _ hw, smallL (by rw [hdv.len]; exact hl), nD, same_mut (s1.trans s34) nD, acc ++ [y], _, hy, upd_same, ?_⟩
      rw [er]
      exact dw.append (.cons (dy.mono st) .nil)
  · rintro D0 H' nD ⟨_, s1, acc, ws, hI, hw, hdv⟩
    rw [hv.len] at hI
    exact k _ D0 H' (hd _ hI) nD s1 ⟨ws, hw, hdv⟩
in #guard_msgs in open Nat
theorem an_lcT {K : PySem.W.Frag} {tl te : TE} {tt : TT} {q : D → Prop} {vs : List Nat} (hv : vs = [j]) (h : AE K tl ρ fun d => ∃ xs, d = .tup xs ∧ ALc K xs j tt te ρ q) : AN K (tLc (iTup K tl) (gName j) tt te vs) ρ q := by
  subst hv
  exact fun B H σ s E Q k =>
  w_lcT (h B H σ s E _ fun d v H1 ⟨xs, ed, hc⟩ s1 dv => by
    subst ed
    cases dv with
    | tup h1 h2 => exact lc_ofT (ext_r s s1) (E.mono (ext_l s)) (.inl (.inl h1)) h2 hc fun d p H' hq np s2 c => k d p H' hq (s1.free np) (s1.trans s2) (by rw [ext_ext s1 s2] at c; exact c))
in #guard_msgs in open Nat
end
end Tg

/-! The engine: refusals. -/
namespace Tg
open PySem PySem.Spec L2 PyProof.Rows
/-- what the written part tells of the class above the refusals, at C0 -/
structure TopC (K : PySem.W.Frag) (C0 : Addr) : Prop where
  ga : PySem.W.specialIn K (.ref C0) "__getattribute__" = some (some (.builtin "type.__getattribute__"))
  rd : PySem.W.readsIn K C0 (.type "type") = true
  ini : PySem.W.findCls K (.ref C0) (.type "type") "__init__" = some (.val (.builtin "ValueError.__init__"))
section
variable {X : Cx} {e : Expr} {es : List Expr} {ta : TA} {p1 p2 pos : Pos} {x : Str} {C0 : Addr}
/-- LookError.__init__(self, ..), LookError an own class straight over ValueError -/
theorem pe_cinit {pl : Sem Bool} (hg : Gl X x) (hm : X.mg x = some (.ref C0)) (T0 : TopC X.K C0) (ha : PA X (e :: es) ta)
    (hdb : (x == ("__debug__" : Str)) = false := by decide)
    (hc : eval (.Call (.Attribute (.Name x p1) "__init__" p2) (e :: es) [] pos) X.env = (do
      let ov ← eval (.Name x p1) X.env
      standAt p2.atName
      let (f, first) ← holding [ov] (getMethod ov "__init__" pl)
      callWith pos f first (backTo pos (starEach (e :: es) X.env)) (backToKw pos (keywordEach [] X.env))) := by rfl)
    (he : starEach (e :: es) X.env = (false, eval e X.env) :: starEach es X.env := by rfl) (hpl : (backTo pos (starEach es X.env)).any (·.1) = false := by rfl) :
    PE X (.Call (.Attribute (.Name x p1) "__init__" p2) (e :: es) [] pos) (tVeI X.K ta) := by
  refine ⟨fun pins s σ H Q I h => ?_⟩
  refine PySem.W.methodCall_KW (ld_glob I hg hm ?_ hdb) hc
  refine PySem.W.method_cls I.kIn T0.ga (PySem.W.cls_value I.kIn T0.rd T0.ini (by decide +kernel) ?_)
  show wpAny _ _ (callWith pos (Value.builtin "ValueError.__init__") [] (backTo pos (starEach (e :: es) X.env)) []) _ _ _
  refine PyProof.Rows.callWith_method1 (thn (ha.run pos pins _ σ H _ (I.tok _) h) fun us s1 ⟨vs, H1, I1, r1, a, C, ws, ev, hl, T, ea, q⟩ => ?_) he hpl
  subst ev
  cases r1 with
  | @cons _ u0 _ ur ra rw' =>
    obtain rfl : u0 = Value.ref a := ra
    have hlen : ur.length ≤ sizeLine := by
      rw [← Paired.length rw', sizeLine_eq]
      omega
    exact oinit_ok T I1 ea hlen fun s' J => ⟨.non, H1, J, rfl, q⟩
in #guard_msgs in open Nat
end
/-! ### what is told of a refusal -/
theorem DvF.mono {K : PySem.W.Frag} {B B' : Hp} (e : Same B B') : ∀ {vfs : List (Str × V)} {fs : List (Str × D)}, DvF K B vfs fs → DvF K B' vfs fs
  | _, _, .nil => .nil
  | _, _, .cons h t => .cons (h.mono e) (DvF.mono e t)
in #guard_msgs in open Nat
theorem look_put {α : Type} (f g : Str) (y : α) (fs : List (Str × α)) : ((f, y) :: fs).lookup g = if g = f then some y else fs.lookup g := by
  by_cases h : g = f
  · subst h
    simp [List.lookup]
  · have e : (g == f) = false := by simpa using h
    rw [if_neg h]
    simp [List.lookup, e]
in #guard_msgs in open Nat
theorem DvF.look {K : PySem.W.Frag} {B : Hp} {f : Str} {d : D} : ∀ {vfs : List (Str × V)} {fs : List (Str × D)}, DvF K B vfs fs → fs.lookup f = some d → ∃ v, vfs.lookup f = some v ∧ Dv K B v d
  | _, _, .nil, h => by cases h
  | (g, v) :: vfs, (g', e) :: fs, h, hl => by
    cases h with
    | cons h2 t =>
      rw [look_put] at hl
      rw [look_put]
      by_cases c : f = g
      · rw [if_pos c] at hl ⊢
        cases hl
        exact ⟨_, rfl, h2⟩
      · rw [if_neg c] at hl ⊢
        exact DvF.look t hl
in #guard_msgs in open Nat
/-- lists that are fields were made since -/
def FrL (H0 : Hp) (vfs : List (Str × V)) (fs : List (Str × D)) : Prop := ∀ f l xs, vfs.lookup f = some (.ref l) → fs.lookup f = some (.lst xs) → H0 l = none
theorem FrL.dom {H0 H1 : Hp} {vfs : List (Str × V)} {fs : List (Str × D)} (h : FrL H1 vfs fs) (n : ∀ a, H1 a = none → H0 a = none) : FrL H0 vfs fs := fun f l xs h1 h2 => n l (h f l xs h1 h2)
in #guard_msgs in open Nat
/-- a field that is no list of its own -/
def unl : D → D
  | .lst xs => .fls xs
  | d => d
theorem Dv.unl {K : PySem.W.Frag} {B : Hp} {v : V} {d : D} (h : Dv K B v d) : Dv K B v (Tg.unl d) := by
  cases h with
  | lst h1 h2 => exact .fls (Sq_of h1) h2
  | non => exact .non
  | bl b => exact .bl b
  | int i => exact .int i
  | str z h => exact .str z h
  | fls h1 h2 => exact .fls h1 h2
  | tup h1 h2 => exact .tup h1 h2
  | dk h1 h2 => exact .dk h1 h2
  | dt h1 h2 => exact .dt h1 h2
  | op v => exact .op v
  | ex h1 h2 => exact .ex h1 h2
  | vd h => exact .vd h
in #guard_msgs in open Nat
theorem frl_nil {H0 : Hp} : FrL H0 [] [] := fun f l xs h _ => by cases h
theorem unl_no {d : D} {xs : List D} : Tg.unl d ≠ .lst xs := by cases d <;> exact fun h => by cases h
theorem FrL.val {H0 : Hp} {f : Str} {v : V} {d : D} {vfs : List (Str × V)} {fs : List (Str × D)} (h : FrL H0 vfs fs) : FrL H0 ((f, v) :: vfs) ((f, Tg.unl d) :: fs) := fun g l xs h1 h2 => by
  rw [look_put] at h1 h2
  by_cases c : g = f
  · rw [if_pos c] at h2
    exact absurd (Option.some.inj h2) unl_no
  · rw [if_neg c] at h1 h2
    exact h g l xs h1 h2
in #guard_msgs in open Nat
theorem FrL.new {H0 : Hp} {f : Str} {p : Addr} {d : D} {vfs : List (Str × V)} {fs : List (Str × D)} (n : H0 p = none) (h : FrL H0 vfs fs) : FrL H0 ((f, .ref p) :: vfs) ((f, d) :: fs) := fun g l xs h1 h2 => by
  rw [look_put] at h1 h2
  by_cases c : g = f
  · rw [if_pos c] at h1
    cases h1
    exact n
  · rw [if_neg c] at h1 h2
    exact h g l xs h1 h2
in #guard_msgs in open Nat
/-- the wish for what is raised, by class names and fields -/
def EOkX (K : PySem.W.Frag) (mg : Str → Option Value) (B0 H0 : Hp) (E : XK) (x : Str → List (Str × D) → Prop) : Prop :=
  ∀ c C d vfs fs H', mg c = some (.ref C) → x c fs → Same H0 H' → H0 d = none → H' d = some (.xd vfs) → DvF K (rem (ext B0 H0 H') d) vfs fs → FrL H0 vfs fs → E (.ref C) (some d) H'
/-- the promise of a def that changes nothing, and may refuse -/
def pfx (K : PySem.W.Frag) (mg : Str → Option Value) (T : List D → (D → Prop) → (Str → List (Str × D) → Prop) → Prop) : Sp := fun vs H Q E => ∃ (B : Hp) (ds : List D) (q : D → Prop) (x : Str → List (Str × D) → Prop), Same B H ∧ DvL K B vs ds ∧ T ds q x ∧
  (∀ d v H', q d → Same H H' → Dv K (ext B H H') v d → Q v H') ∧ EOkX K mg B H E x
/-- .. and tells a new list or dict -/
def pfxN (K : PySem.W.Frag) (mg : Str → Option Value) (T : List D → (D → Prop) → (Str → List (Str × D) → Prop) → Prop) : Sp := fun vs H Q E => ∃ (B : Hp) (ds : List D) (q : D → Prop) (x : Str → List (Str × D) → Prop), Same B H ∧ DvL K B vs ds ∧ T ds q x ∧
  (∀ d p H', q d → H p = none → Same H H' → NewC K (ext B H H') H' p d → Q (.ref p) H') ∧ EOkX K mg B H E x
/-- the promise of a refusal's __init__: its fields, by what it is made of -/
def spI (K : PySem.W.Frag) (C : Addr) (G : List D → List (Str × D) → Prop) : Sp := fun vs H Q _ => ∃ (a : Addr) (us : List V) (B : Hp) (ds : List D) (fs : List (Str × D)), vs = .ref a :: us ∧ H a = some (exo a C none) ∧ B a = none ∧ Same B H ∧ DvL K B us ds ∧ G ds fs ∧
  ∀ d vfs H', H d = none → d ≠ a → (∀ b o, H b = some o → b ≠ a → H' b = some o) → H' a = some (exo a C (some d)) → H' d = some (exd d vfs) → DvF K (rem (rem (ext B H H') d) a) vfs fs → FrL H vfs fs → Q .non H'
section
variable {K : PySem.W.Frag} {mg : Str → Option Value} {B0 H0 : Hp} {ρ : List Sl} {P : AEnds} {ta : TA} {E : XK} {x : Str → List (Str × D) → Prop} {c : Str} {C : Addr} {G : List D → List (Str × D) → Prop}
/-- raise C(..), out of a def that changes nothing -/
theorem s_raise (hE : EOkX K mg B0 H0 E x) (hc : mg c = some (.ref C)) (h : AA K ta (fz ρ) fun ds => ds.length ≤ 1000 ∧ ∃ fs, G ds fs ∧ x c fs) :
    AW ⟨K, B0, H0, []⟩ (fun _ σ H => tMkO C (spI K C G) [] ta σ H fun cls d H' => E cls d H') ρ [] P := fun F R ok B H σ A G' s r => by
  refine h _ H σ r.fz.bh r.fz.env.envS _ fun ds vs H1 ⟨hl, fs, hG, hx⟩ s1 dv => ⟨by rw [dv.len]; exact hl, fun a na => ?_⟩
  have rb := rel_back (r.fz.step s1).noSlots
  have bh1 := (r.fz.step s1).bh
  refine ⟨a, vs ++ [], ext (fzB B H A) H H1, ds, fs, rfl, upd_same, bh1.free na, bh1.trans (same_upd na), by rw [List.append_nil]; exact dv, hG, fun d vfs H2 nd ne keep ha hd hF hfr => ?_⟩
  have nd1 : H1 d = none := by
    rw [upd_ne ne] at nd
    exact nd
  have s2 : Same H1 (upd (del H2 a) d (.xd vfs)) := fun b o e => by
    have hb : b ≠ a := ne_of_none e na
    rw [upd_ne (ne_of_none e nd1), del_ne hb]
    exact keep b o (by rw [upd_ne hb]; exact e) hb
  refine ⟨rfl, d, vfs, ha, hd, nd1, hE c C d vfs fs _ hc hx (rb.1.trans s2) (rb.1.free nd1) upd_same (hF.mono fun b o e => ?_) (hfr.dom fun l z => rb.1.free (by
    by_cases c : l = a
    · rw [c, upd_same] at z; cases z
    · rw [upd_ne c] at z; exact z))⟩
  unfold rem at e ⊢
  by_cases c1 : b = a
  · rw [if_pos c1] at e
    cases e
  · rw [if_neg c1] at e
    by_cases c2 : b = d
    · rw [if_pos c2] at e
      cases e
    · rw [if_neg c2] at e ⊢
      have e2 : upd (del H2 a) d (.xd vfs) b = H2 b := by rw [upd_ne c2, del_ne c1]
      cases h1 : H1 b with
      | none =>
        rw [ext_new (by rw [upd_ne c1]; exact h1)] at e
        rw [ext_new (rb.1.free h1), e2]
        exact e
      | some u =>
        rw [ext_old (by rw [upd_ne c1]; exact ne_none h1)] at e
        have e3 := rb.2 b o e
        cases h0 : H0 b with
        | none =>
          rw [ext_new h0] at e3 ⊢
          exact s2 b o e3
        | some w =>
          rw [ext_old (ne_none h0)] at e3 ⊢
          exact e3
in #guard_msgs in open Nat
theorem pfx_enter {T : List D → (D → Prop) → (Str → List (Str × D) → Prop) → Prop} {N : List Str} {vs : List V} {H : Hp} {Q : VK} {t : TS} (h : pfx K mg T vs H Q E)
    (hb : ∀ ds q x B0 H0, T ds q x → EOkX K mg B0 H0 E x → AW ⟨K, B0, H0, []⟩ t (ρ0 N ds) [] ⟨fun _ _ => q .non, fun d _ => q d, fun d _ => q d, fun _ _ => False, fun _ _ => False⟩) : t { nx := fun _ H' => Q .non H', rt := Q } (L2.start N vs) H := by
  obtain ⟨B, ds, q, x, s, dv, hT, k, hE⟩ := h
  refine hb ds q x B H hT hE B _ ⟨fun hq _ r => ?_, fun hq _ _ => False.elim hq, fun hq _ _ => False.elim hq, fun hq r dv => ?_, fun {B H d p W G} hq r n0 np c => ?_⟩ B H (L2.start N vs) [] [] (Same.refl _) (rel_start s dv)
  · exact k _ _ _ hq (rel_back r.noSlots).1 .non
  · exact k _ _ _ hq (rel_back r).1 (dv.mono (rel_back r).2)
  · exact k _ _ _ hq (rel_back r).1 (c.dv (rel_back r).2 (ext_new n0))
in #guard_msgs in open Nat
theorem pfxN_enter {T : List D → (D → Prop) → (Str → List (Str × D) → Prop) → Prop} {N : List Str} {vs : List V} {H : Hp} {Q : VK} {t : TS} (h : pfxN K mg T vs H Q E)
    (hb : ∀ ds q x B0 H0, T ds q x → EOkX K mg B0 H0 E x → AW ⟨K, B0, H0, []⟩ t (ρ0 N ds) [] ⟨fun _ _ => False, fun d _ => False, fun d _ => q d, fun _ _ => False, fun _ _ => False⟩) : t { nx := fun _ H' => Q .non H', rt := Q } (L2.start N vs) H := by
  obtain ⟨B, ds, q, x, s, dv, hT, k, hE⟩ := h
  refine hb ds q x B H hT hE B _ ⟨fun hq _ r => False.elim hq, fun hq _ _ => False.elim hq, fun hq _ _ => False.elim hq, fun hq r dv => False.elim hq, fun {B' H' d p W G} hq r n0 np c => ?_⟩ B H (L2.start N vs) [] [] (Same.refl _) (rel_start s dv)
  have rb := rel_back r
  exact k _ p H' hq n0 rb.1 (c.mono (same_rem rb.2 np) rfl)
in #guard_msgs in open Nat
end
/-! ### what __init__ does -/
def GV (f : Str) (ds : List D) (fs : List (Str × D)) : Prop := ∃ d, ds = [d] ∧ fs = [(f, unl d)]
def GL (f : Str) (ds : List D) (fs : List (Str × D)) : Prop := ∃ xs, ds = [.lst xs] ∧ fs = [(f, .lst xs)]
def GVV (f g : Str) (ds : List D) (fs : List (Str × D)) : Prop := ∃ d e, ds = [d, e] ∧ fs = [(g, unl e), (f, unl d)]
def GVL (f g : Str) (ds : List D) (fs : List (Str × D)) : Prop := ∃ d xs, ds = [d, .lst xs] ∧ fs = [(g, .lst xs), (f, unl d)]
section
variable {K : PySem.W.Frag} {C : Addr} {f g : Str} {z : Str} {vs : List V} {H : Hp} {Q : VK} {E : XK}
theorem ini_keep {B H H' : Hp} {a dx : Addr} (s : Same B H) (nB : B a = none) (nd : H dx = none) (k : ∀ b o, B b = some o → ext B H H' b = some o) : Same B (rem (rem (ext B H H') dx) a) := same_rem (same_rem (fun b o e => k b o e) (s.free nd)) nB
in #guard_msgs in open Nat
theorem ini_val (T : OexC K C) (hno : PySem.W.findIn K (.ref C) f = some none) (h : spI K C (GV f) vs H Q E) {N : List Str} (hN : N.length = 2) :
    (tSeq (tDrop (tVeI K (tCons (tVar 0) (tCons (tC (.str z)) tNil)))) (tOst K f (tVar 0) (tVar 1))) { nx := fun _ H' => Q .non H', rt := Q } (L2.start N vs) H := by
  obtain ⟨a, us, B, ds, fs, rfl, ha, nB, s, dv, ⟨d, rfl, rfl⟩, k⟩ := h
  obtain ⟨v, rfl, dw⟩ := dvl_one dv
  have e0 : L2.start N [.ref a, v] = [some (.ref a), some v] := by
    unfold L2.start
    rw [hN]
    rfl
  rw [e0]
  refine ⟨_, rfl, a, C, [.str z], rfl, (by show 1 ≤ 1000; decide), T, ha, ?_⟩
  refine ⟨v, rfl, _, rfl, a, C, rfl, T, hno, .inl ⟨ha, fun dx nd ne => ?_⟩⟩
  refine k dx [(f, v)] _ nd ne (fun b o e hb => by rw [upd_ne hb, upd_ne (ne_of_none e nd)]; exact e) upd_same (by rw [upd_ne ne, upd_same]) (.cons (dw.unl.mono (ini_keep s nB nd fun b o e => ext_l s b o e)) .nil) frl_nil.val
in #guard_msgs in open Nat
theorem ini_list (T : OexC K C) (hno : PySem.W.findIn K (.ref C) f = some none) (h : spI K C (GL f) vs H Q E) {N : List Str} (hN : N.length = 2) :
    (tSeq (tDrop (tVeI K (tCons (tVar 0) (tCons (tC (.str z)) tNil)))) (tOst K f (tVar 0) (tCB (qListOf K) (tCons (tVar 1) tNil)))) { nx := fun _ H' => Q .non H', rt := Q } (L2.start N vs) H := by
  obtain ⟨a, us, B, ds, fs, rfl, ha, nB, s, dv, ⟨xs, rfl, rfl⟩, k⟩ := h
  obtain ⟨v, rfl, dw⟩ := dvl_one dv
  have e0 : L2.start N [.ref a, v] = [some (.ref a), some v] := by
    unfold L2.start
    rw [hN]
    rfl
  rw [e0]
  cases dw with
  | @lst p ws _ hp hw =>
    refine ⟨_, rfl, a, C, [.str z], rfl, (by show 1 ≤ 1000; decide), T, ha, ?_⟩
    refine ⟨_, rfl, p, ws, rfl, .inl (Sq_of (s _ _ hp)), fun l nl => ?_⟩
    have al : a ≠ l := ne_of_none ha nl
    refine ⟨_, rfl, a, C, rfl, T, hno, .inl ⟨by rw [upd_ne al]; exact ha, fun dx nd ne => ?_⟩⟩
    have dl : dx ≠ l := fun z => by rw [z, upd_same] at nd; cases nd
    have nd' : H dx = none := by
      rw [upd_ne dl] at nd
      exact nd
    have hl : (upd (upd (upd H l (.lst ws)) dx (exd dx [(f, V.ref l)])) a (exo a C (some dx))) l = some (.lst ws) := by rw [upd_ne (Ne.symm al), upd_ne (Ne.symm dl), upd_same]
    refine k dx [(f, .ref l)] _ nd' ne (fun b o e hb => by rw [upd_ne hb, upd_ne (ne_of_none e nd'), upd_ne (ne_of_none e nl)]; exact e) upd_same (by rw [upd_ne ne, upd_same]) (.cons (.lst (vs := ws) ?_ (hw.mono (ini_keep s nB nd' fun b o e => ext_l s b o e))) .nil) (.new nl frl_nil)
    unfold rem
    rw [if_neg (Ne.symm al), if_neg (Ne.symm dl), ext_new nl]
    exact hl
in #guard_msgs in open Nat
theorem ini_val2 (T : OexC K C) (hno : PySem.W.findIn K (.ref C) f = some none) (hno2 : PySem.W.findIn K (.ref C) g = some none) (h : spI K C (GVV f g) vs H Q E) {N : List Str} (hN : N.length = 3) :
    (tSeq (tDrop (tVeI K (tCons (tVar 0) (tCons (tC (.str z)) tNil)))) (tSeq (tOst K f (tVar 0) (tVar 1)) (tOst K g (tVar 0) (tVar 2)))) { nx := fun _ H' => Q .non H', rt := Q } (L2.start N vs) H := by
  obtain ⟨a, us, B, ds, fs, rfl, ha, nB, s, dv, ⟨d, e, rfl, rfl⟩, k⟩ := h
  obtain ⟨v, u, rfl, dw, du⟩ := dvl_two dv
  have e0 : L2.start N [.ref a, v, u] = [some (.ref a), some v, some u] := by
    unfold L2.start
    rw [hN]
    rfl
  rw [e0]
  refine ⟨_, rfl, a, C, [.str z], rfl, (by show 1 ≤ 1000; decide), T, ha, ?_⟩
  refine ⟨v, rfl, _, rfl, a, C, rfl, T, hno, .inl ⟨ha, fun dx nd ne => ?_⟩⟩
  refine ⟨u, rfl, _, rfl, a, C, rfl, T, hno2, .inr ⟨dx, [(f, v)], upd_same, by rw [upd_ne ne, upd_same], (by show 1 ≤ 900; decide), ?_⟩⟩
  have kk := ini_keep s nB nd fun b o e => ext_l (H' := upd (upd (upd H dx (exd dx [(f, v)])) a (exo a C (some dx))) dx (exd dx [(g, u), (f, v)])) s b o e
  refine k dx [(g, u), (f, v)] _ nd ne (fun b o e hb => by rw [upd_ne (ne_of_none e nd), upd_ne hb, upd_ne (ne_of_none e nd)]; exact e) (by rw [upd_ne (Ne.symm ne), upd_same]) upd_same (.cons (du.unl.mono kk) (.cons (dw.unl.mono kk) .nil)) frl_nil.val.val
in #guard_msgs in open Nat
theorem ini_vlist (T : OexC K C) (hno : PySem.W.findIn K (.ref C) f = some none) (hno2 : PySem.W.findIn K (.ref C) g = some none) (h : spI K C (GVL f g) vs H Q E) {N : List Str} (hN : N.length = 3) :
    (tSeq (tDrop (tVeI K (tCons (tVar 0) (tCons (tC (.str z)) tNil)))) (tSeq (tOst K f (tVar 0) (tVar 1)) (tOst K g (tVar 0) (tCB (qListOf K) (tCons (tVar 2) tNil))))) { nx := fun _ H' => Q .non H', rt := Q } (L2.start N vs) H := by
  obtain ⟨a, us, B, ds, fs, rfl, ha, nB, s, dv, ⟨d, xs, rfl, rfl⟩, k⟩ := h
  obtain ⟨v, u, rfl, dw, du⟩ := dvl_two dv
  have e0 : L2.start N [.ref a, v, u] = [some (.ref a), some v, some u] := by
    unfold L2.start
    rw [hN]
    rfl
  rw [e0]
  cases du with
  | @lst p ws _ hp hw =>
    refine ⟨_, rfl, a, C, [.str z], rfl, (by show 1 ≤ 1000; decide), T, ha, ?_⟩
    refine ⟨v, rfl, _, rfl, a, C, rfl, T, hno, .inl ⟨ha, fun dx nd ne => ?_⟩⟩
    have pa : p ≠ a := fun z => by rw [z, nB] at hp; cases hp
    have pd : p ≠ dx := fun z => by rw [z] at hp; rw [s _ _ hp] at nd; cases nd
    refine ⟨_, rfl, p, ws, rfl, .inl (Sq_of (by rw [upd_ne pa, upd_ne pd]; exact s _ _ hp)), fun l nl => ?_⟩
    have al : a ≠ l := fun z => by rw [← z, upd_same] at nl; cases nl
    have dl : dx ≠ l := fun z => by rw [upd_ne (Ne.symm al), ← z, upd_same] at nl; cases nl
    have nl' : H l = none := by rw [upd_ne (Ne.symm al), upd_ne (Ne.symm dl)] at nl; exact nl
    refine ⟨_, rfl, a, C, rfl, T, hno2, .inr ⟨dx, [(f, v)], by rw [upd_ne al]; exact upd_same, by rw [upd_ne dl, upd_ne ne, upd_same], (by show 1 ≤ 900; decide), ?_⟩⟩
    have kk := ini_keep s nB nd fun b o e => ext_l (H' := upd (upd (upd (upd H dx (exd dx [(f, v)])) a (exo a C (some dx))) l (.lst ws)) dx (exd dx [(g, .ref l), (f, v)])) s b o e
    refine k dx [(g, .ref l), (f, v)] _ nd ne (fun b o e hb => by rw [upd_ne (ne_of_none e nd), upd_ne (ne_of_none e nl'), upd_ne hb, upd_ne (ne_of_none e nd)]; exact e) (by rw [upd_ne (Ne.symm ne), upd_ne al, upd_same]) upd_same (.cons (.lst (vs := ws) ?_ (hw.mono kk)) (.cons (dw.unl.mono kk) .nil)) (.new nl' frl_nil.val)
    unfold rem
    rw [if_neg (Ne.symm al), if_neg (Ne.symm dl), ext_new nl', upd_ne (Ne.symm dl), upd_same]
in #guard_msgs in open Nat
end
/-! ### classes of refusals, as the written part tells them -/
structure Di (P : Program) (w : World) (K : PySem.W.Frag) (mg : Str → Option Value) (base : Heap) (CX : CXT) (k : Nat) (f : Addr) (fd : FuncData) (ps : List Str) (ds : List Value) (sp : Sp) : Prop where
  F : FnOk P w K mg base CX k f fd ps sp
  b : Binds K fd ps ds
/-- what a caught refusal of an own class is tested by -/
theorem own_te {K : PySem.W.Frag} {C : Addr} (hB : PySem.W.subIn K (.ref C) (.type "BaseException") = some true) (hc : PySem.W.isClsIn K C = true) (ht : PySem.W.typeIn K (.ref C) = some (.type "type")) (hs : PySem.W.subIn K (.ref C) (.ref C) = some true) : PySem.W.exmOne K (.ref C) (.ref C) = some true := by
  have hc' : (PySem.W.clsIn K C).isSome = true := hc
  unfold PySem.W.exmOne PySem.W.kitCls
  simp only [hB, hc', ht, hs, BEq.rfl, Bool.and_self, if_true]
in #guard_msgs in open Nat
structure ExC (K : PySem.W.Frag) (mg : Str → Option Value) (x : Str) (C f : Addr) : Prop where
  g : mg x = some (.ref C)
  o : OexC K C
  iC : PySem.W.findIn K (.ref C) "__init__" = some (some (.ref f))
  tI : PySem.W.typeIn K (.ref f) = some (.type "function")
  te : PySem.W.exmOne K (.ref C) (.ref C) = some true
  xf : XfC K C
section
variable {K : PySem.W.Frag} {mg : Str → Option Value} {Z : Zc} {ρ : List Sl} {W : List Res} {P : AEnds} {ta : TA} {te : TE} {q : D → Prop}
/-- e.field, e caught -/
theorem s_xf {a : Addr} {cls : Value} {dd C : Addr} {f : Str} (hc : cls = .ref C) (h : AE K te ρ fun d => ∃ fs d', d = .ex (.ref a) dd fs ∧ fs.lookup f = some d' ∧ q d') : AE K (tXf a cls (some dd) C f te) ρ q := fun B H σ s E Q k => by
  refine h B H σ s E _ fun d v H1 ⟨fs, d', e, l, hq⟩ s1 dv => ?_
  subst e
  generalize hg : D.ex (.ref a) dd fs = g at dv
  cases dv with
  | @ex _ dd' vfs fs' hB hF =>
    cases hg
    obtain ⟨w, l2, dw⟩ := hF.look l
    exact ⟨rfl, hc, dd, vfs, w, rfl, ext_r s s1 _ _ hB, l2, k d' w H1 hq s1 dw⟩
  | _ => cases hg
in #guard_msgs in open Nat
/-- try: n = f(..) except C as e: suite, f a def that tells data, or refuses -/
theorem s_try1 {T : List D → (D → Prop) → (Str → List (Str × D) → Prop) → Prop} {c : Value} {i j : Nat} {ts : Addr → Value → Option Addr → TS} {Wout : WX}
    (h : AA Z.K ta (fz ρ) fun ds => ∃ q x, T ds q x ∧ (∀ d, q d → P.nx ((fz ρ).set j (.sh d)) W) ∧ ∀ cn fs, x cn fs → ∀ C', mg cn = some (.ref C') → PySem.W.exmOne Z.K (.ref C') c = some true ∧
      ∀ a dd, AW Z (ts a (.ref C') (some dd)) ((fz ρ).set i (.sh (.ex (.ref a) dd fs))) W ⟨fun ρ' W' => P.nx (ρ'.set i .un) W', P.rt, P.rn, fun ρ' W' => P.bk (ρ'.set i .un) W', fun ρ' W' => P.ct (ρ'.set i .un) W'⟩) :
    AW Z (fun D σ H => tAsg (tCallSD (pfx Z.K mg T) [] (WE (wAs Z.K c i ts Wout D)) ta) (gName j) D σ H) ρ W P := fun F R ok B H σ A G s r => by
  refine h _ H σ r.fz.bh r.fz.env.envS _ fun ds vs H1 ⟨q, x, hT, hq, hx⟩ s1 dv => ?_
  have r1 := r.fz.step s1
  refine ⟨_, ds, q, x, r1.bh, by rw [List.append_nil]; exact dv, hT, fun d v H' qd s2 dd => ?_, fun cn C' dd vfs fs H' hm hxx s2 nd hd hF _ => ?_⟩
  · obtain ⟨A', r2⟩ := (r1.step s2).setSh dd j
    exact ok.nx (hq d qd) ((s.trans (fzB_l fun a m => (r.env.there a m).1)).trans ((ext_l r.fz.bh).trans (ext_l r1.bh))) r2
  · obtain ⟨e1, suite⟩ := hx cn fs hxx C' hm
    refine ⟨true, e1, fun _ a na => ?_, fun z => Bool.noConfusion z⟩
    have r2 := r1.step s2
    have dx : Dv Z.K (ext (ext (fzB B H A) H H1) H1 H') (.ref a) (.ex (.ref a) dd fs) := .ex (by rw [ext_new nd]; exact hd) (hF.mono rem_same)
    obtain ⟨A', r3⟩ := r2.setSh dx i
    have s3 : Same F (ext (ext (fzB B H A) H H1) H1 H') := (s.trans (fzB_l fun a m => (r.env.there a m).1)).trans ((ext_l r.fz.bh).trans (ext_l r1.bh))
    refine suite a dd F { nx := fun σ' H' => R.nx (σ'.set i none) H', rt := R.rt, bk := fun σ' H' => R.bk (σ'.set i none) H', ct := fun σ' H' => R.ct (σ'.set i none) H' } ⟨fun hq s r => ?_, fun hq s r => ?_, fun hq s r => ?_, fun hq r d => ok.rt hq r d, fun hq r n0 np c => ok.rn hq r n0 np c⟩ _ _ _ _ _ s3 r3
    · obtain ⟨A'', h1, h2⟩ := r.env.setNone i
      exact ok.nx hq s (r.slots h2 h1)
    · obtain ⟨A'', h1, h2⟩ := r.env.setNone i
      exact ok.bk hq s (r.slots h2 h1)
    · obtain ⟨A'', h1, h2⟩ := r.env.setNone i
      exact ok.ct hq s (r.slots h2 h1)
in #guard_msgs in open Nat
end
end Tg

/-! The engine: walks over data and what is held beside (objects that change). -/
namespace Tg
open PySem PySem.Spec L2
/-! ### heaps laid over one another -/
/-- B where it tells, else C -/
def ov (B C : Hp) : Hp := fun b => match B b with
  | none => C b
  | some o => some o
section
variable {B B' C C' C1 C2 H H' H1 H2 : Hp} {b : Addr}
theorem ov_old {o : HO} (h : B b = some o) : ov B C b = some o := by unfold ov; rw [h]
theorem ov_new (h : B b = none) : ov B C b = C b := by unfold ov; rw [h]
theorem ov_l : Same B (ov B C) := fun b o e => ov_old e
theorem ov_same (s : Same B C) : ov B C = C := by
  funext b
  cases e : B b with
  | none => exact ov_new e
  | some o => rw [ov_old e, s b o e]
theorem ov_ov (s : Same C1 C2) : ov (ov B C1) C2 = ov B C2 := by
  funext b
  cases e : B b with
  | some o => rw [ov_old (ov_old e), ov_old e]
  | none =>
    rw [ov_new e]
    cases e1 : C1 b with
    | none => rw [ov_new (by rw [ov_new e]; exact e1)]
    | some o => rw [ov_old (o := o) (by rw [ov_new e]; exact e1), s b o e1]
in #guard_msgs in open Nat
theorem ov_r (s : Same B H) (t : Same C H) : Same (ov B C) H := fun b o e => by
  cases h : B b with
  | some u =>
    rw [ov_old h] at e
    cases e
    exact s b _ h
  | none =>
    rw [ov_new h] at e
    exact t b o e
in #guard_msgs in open Nat
theorem ov_ext (cb : Same C B) (bh : Same B H) : ov B (ext C H H') = ext B H H' := by
  funext b
  cases e : B b with
  | some o => rw [ov_old e, ext_old (ne_none (bh b o e)), e]
  | none =>
    rw [ov_new e]
    cases h : H b with
    | none => rw [ext_new h, ext_new h]
    | some o =>
      rw [ext_old (ne_none h), ext_old (ne_none h), e]
      exact cb.free e
in #guard_msgs in open Nat
/-- C is there too, as far as both speak of the same heap -/
theorem ov_c (bh : Same B H) (ch : Same C H) : Same C (ov B C) := fun b o e => by
  cases h : B b with
  | none => rw [ov_new h]; exact e
  | some u =>
    rw [ov_old h]
    have h1 := bh b u h
    rw [ch b o e] at h1
    exact h1.symm
in #guard_msgs in open Nat
end
/-! ### from a state on -/
/-- from C, H, what may change at G, to C', H', W' at G' -/
structure Nx (C H : Hp) (G : List Addr) (C' H' : Hp) (W' : List Res) (G' : List Addr) : Prop where
  cc : Same C C'
  ch : Same C' H'
  fr : ∀ a o, H a = some o → a ∉ G → H' a = some o
  dm : ∀ a, H a ≠ none → H' a ≠ none
  od : ∀ a, Hard (H a) → C' a = C a
  gg : ∀ a ∈ G', a ∈ G ∨ H a = none
  res : WR C' H' W' G'
  dh : ∀ a, Hard (H a) → Hard (H' a)
section
variable {C C' C1 C2 H H' H1 H2 B : Hp} {G G' G1 G2 : List Addr} {W W' W1 W2 : List Res}
theorem Nx.trans (x : Nx C H G C1 H1 W1 G1) (y : Nx C1 H1 G1 C2 H2 W2 G2) : Nx C H G C2 H2 W2 G2 where
  cc := x.cc.trans y.cc
  ch := y.ch
  fr := fun a o e n => y.fr a o (x.fr a o e n) fun m => (x.gg a m).elim n fun z => by rw [e] at z; cases z
  dm := fun a n => y.dm a (x.dm a n)
  od := fun a n => (y.od a (x.dh a n)).trans (x.od a n)
  gg := fun a m => (y.gg a m).elim (x.gg a) fun z => .inr (by
    cases e : H a with
    | none => rfl
    | some o => exact absurd z (x.dm a (ne_none e)))
  res := y.res
  dh := fun a n => y.dh a (x.dh a n)
in #guard_msgs in open Nat
theorem Nx.refl (r : WR C H W G) (ch : Same C H) : Nx C H G C H W G := ⟨Same.refl _, ch, fun _ _ e _ => e, fun _ e => e, fun _ _ => rfl, fun _ m => .inl m, r, fun _ n => n⟩
in #guard_msgs in open Nat
theorem Nx.same (r : WR C H W G) (ch : Same C H) (s : Same H H') : Nx C H G (ext C H H') H' W G where
  cc := ext_l ch
  ch := ext_r ch s
  fr := fun a o e _ => s a o e
  dm := fun a n z => n (s.free z)
  od := fun a n => ext_old n.1
  dh := fun a n => hard_up s n
  gg := fun a m => .inl m
  res := r.mono (ext_l ch) (fun a m => by rw [ext_old (r.there a m).2]; exact (r.there a m).1) fun a m => by
    cases e : H a with
    | none => exact absurd e (r.there a m).2
    | some o => exact s a o e
in #guard_msgs in open Nat
/-- the addresses outside -/
theorem Nx.at (x : Nx C H G C' H' W' G') {a : Addr} (h : H a ≠ none) (n : a ∉ G) : H' a = H a := by
  cases e : H a with
  | none => exact absurd e h
  | some o => exact x.fr a o e n
in #guard_msgs in open Nat
end
/-- where a def stands: what is durable, the heap at its entry, its arguments' heap, what it may change -/
structure Zx where
  C0 : Hp
  H0 : Hp
  Ba : Hp
  G0 : List Addr
  Lk : List (Addr × HO × D)
/-- what is locked for a while is as it was, and nobody's -/
def LkOk (K : PySem.W.Frag) (Z : Zx) (C H : Hp) (G : List Addr) : Prop := ∀ q ∈ Z.Lk, H q.1 = some q.2.1 ∧ q.1 ∉ G ∧ C q.1 = none ∧ Cell K C H q.1 q.2.2
theorem LkOk.next {K : PySem.W.Frag} {Z : Zx} {C H C' H' : Hp} {G G' : List Addr} {W' : List Res} (l : LkOk K Z C H G) (x : Nx C H G C' H' W' G') : LkOk K Z C' H' G' := fun q m => by
  obtain ⟨h1, h2, h3, h4⟩ := l q m
  refine ⟨x.fr _ _ h1 h2, fun z => (x.gg _ z).elim h2 (ne_none h1), ?_, h4.mono x.cc (x.at (ne_none h1) h2)⟩
  rw [x.od _ h4.hard]
  exact h3
in #guard_msgs in open Nat
structure Pr (K : PySem.W.Frag) (Z : Zx) (W : List Res) (C B H : Hp) (G : List Addr) : Prop where
  lk : LkOk K Z C H G
  nx : Nx Z.C0 Z.H0 Z.G0 C H W G
  cb : Same C B
  bh : Same B H
  gB : ∀ a ∈ G, B a = none
section
variable {K : PySem.W.Frag} {Z : Zx} {C C' C1 B H H' H1 : Hp} {G G' G1 : List Addr} {W W' W1 : List Res} {σ : L2.St} {ρ : List Sl}
theorem Pr.ch (p : Pr K Z W C B H G) : Same C H := p.cb.trans p.bh
theorem Pr.next (p : Pr K Z W C B H G) (x : Nx C H G C1 H1 W1 G1) : Pr K Z W1 C1 (ov B C1) H1 G1 := by
  have bh1 : Same B H1 := fun b o e => x.fr b o (p.bh b o e) fun m => by rw [p.gB b m] at e; cases e
  refine ⟨p.lk.next x, p.nx.trans x, ov_c bh1 x.ch, ov_r bh1 x.ch, fun a m => ?_⟩
  have c1 := (x.res.there a m).1
  have b0 : B a = none := (x.gg a m).elim (p.gB a) fun z => p.bh.free z
  rw [ov_new b0]
  exact c1
in #guard_msgs in open Nat
theorem Pr.refl (p : Pr K Z W C B H G) : Nx C H G C H W G := Nx.refl p.nx.res p.ch
theorem Pr.same (p : Pr K Z W C B H G) (s : Same H H') : Nx C H G (ext C H H') H' W G := Nx.same p.nx.res p.ch s
end
/-! ### what a reading asks -/
abbrev RelX (α δ : Type) := Hp → Hp → Hp → List Addr → α → δ → Prop
/-- a computation m from a heap on -/
def XC {α δ : Type} (K : PySem.W.Frag) (Z : Zx) (rel : RelX α δ) (pre : Hp → Prop) (m : Hp → (α → Hp → Prop) → Prop) (W : List Res) (q : δ → List Res → Prop) : Prop :=
  ∀ (C B H : Hp) (G : List Addr), Pr K Z W C B H G → pre B → ∀ Q : α → Hp → Prop, (∀ d v W' C' H' G', q d W' → Nx C H G C' H' W' G' → rel H (ov B C') H' G' v d → Q v H') → m H Q
/-- .. by the slots -/
def XM {α δ : Type} (K : PySem.W.Frag) (Z : Zx) (rel : RelX α δ) (m : L2.St → Hp → (α → Hp → Prop) → Prop) (ρ : List Sl) (W : List Res) (q : δ → List Res → Prop) : Prop :=
  ∀ σ : L2.St, XC K Z rel (fun B => EnvS K B σ ρ) (m σ) W q
def rV (K : PySem.W.Frag) : RelX V D := fun _ B _ _ v d => Dv K B v d
def rA (K : PySem.W.Frag) : RelX (List V) (List D) := fun _ B _ _ v d => DvL K B v d
def rB : RelX Bool Bool := fun _ _ _ _ b d => b = d
def rO : RelX (Option Int) (Option Int) := fun _ _ _ _ b d => b = d
def rN (K : PySem.W.Frag) : RelX V D := fun H B H' G' v d => ∃ p, v = .ref p ∧ H p = none ∧ B p = none ∧ p ∉ G' ∧ Cell K B H' p d
abbrev XE (K : PySem.W.Frag) (Z : Zx) (te : TE) (ρ : List Sl) (W : List Res) (q : D → List Res → Prop) : Prop := XM K Z (rV K) te ρ W q
abbrev XA (K : PySem.W.Frag) (Z : Zx) (ta : TA) (ρ : List Sl) (W : List Res) (q : List D → List Res → Prop) : Prop := XM K Z (rA K) ta ρ W q
abbrev XT (K : PySem.W.Frag) (Z : Zx) (tt : TT) (ρ : List Sl) (W : List Res) (q : Bool → List Res → Prop) : Prop := XM K Z rB tt ρ W q
abbrev XO (K : PySem.W.Frag) (Z : Zx) (to : TO) (ρ : List Sl) (W : List Res) (q : Option Int → List Res → Prop) : Prop := XM K Z rO to ρ W q
abbrev XN (K : PySem.W.Frag) (Z : Zx) (te : TE) (ρ : List Sl) (W : List Res) (q : D → List Res → Prop) : Prop := XM K Z (rN K) te ρ W q
/-- one value, two, a list of them, by their data -/
def X1 (K : PySem.W.Frag) (Z : Zx) (r : V → Hp → VK → Prop) (a : D) (W : List Res) (q : D → List Res → Prop) : Prop := ∀ x, XC K Z (rV K) (fun B => Dv K B x a) (r x) W q
def X2 (K : PySem.W.Frag) (Z : Zx) (r : R2) (a b : D) (W : List Res) (q : D → List Res → Prop) : Prop := ∀ x y, XC K Z (rV K) (fun B => Dv K B x a ∧ Dv K B y b) (r x y) W q
def XL (K : PySem.W.Frag) (Z : Zx) (r : List V → Hp → VK → Prop) (ds : List D) (W : List Res) (q : D → List Res → Prop) : Prop := ∀ vs, XC K Z (rV K) (fun B => DvL K B vs ds) (r vs) W q
def X1N (K : PySem.W.Frag) (Z : Zx) (r : V → Hp → VK → Prop) (a : D) (W : List Res) (q : D → List Res → Prop) : Prop := ∀ x, XC K Z (rN K) (fun B => Dv K B x a) (r x) W q
def X2N (K : PySem.W.Frag) (Z : Zx) (r : R2) (a b : D) (W : List Res) (q : D → List Res → Prop) : Prop := ∀ x y, XC K Z (rN K) (fun B => Dv K B x a ∧ Dv K B y b) (r x y) W q
def XLN (K : PySem.W.Frag) (Z : Zx) (r : List V → Hp → VK → Prop) (ds : List D) (W : List Res) (q : D → List Res → Prop) : Prop := ∀ vs, XC K Z (rN K) (fun B => DvL K B vs ds) (r vs) W q
theorem rem_off {B : Hp} {p b : Addr} (h : b ≠ p) : rem B p b = B b := if_neg h
theorem rem_at {B : Hp} {p : Addr} : rem B p p = none := if_pos rfl
theorem ov_rem {B C H H' : Hp} {p : Addr} (cb : Same C B) (bh : Same B H) (np : H p = none) : ov B (rem (ext C H H') p) = rem (ext B H H') p := by
  funext b
  by_cases c : b = p
  · subst c
    rw [rem_at, ov_new (bh.free np), rem_at]
  · rw [rem_off c, ← ov_ext cb bh]
    cases e : B b with
    | some o => rw [ov_old e, ov_old e]
    | none => rw [ov_new e, ov_new e, rem_off c]
in #guard_msgs in open Nat
theorem ov_mono {B C1 C2 : Hp} (s : Same C1 C2) : Same (ov B C1) (ov B C2) := fun b o e => by
  cases h : B b with
  | some u =>
    rw [ov_old h] at e ⊢
    exact e
  | none =>
    rw [ov_new h] at e ⊢
    exact s b o e
in #guard_msgs in open Nat
section
variable {K : PySem.W.Frag} {Z : Zx} {ρ : List Sl} {W W' : List Res} {C C' B H H' : Hp} {G G' : List Addr} {te ta tb tc : TE} {tl : TA} {tt tu : TT} {q : D → List Res → Prop} {i j : Nat} {d a b : D} {ds : List D}
theorem Pr.new (p : Pr K Z W C B H G) (s : Same H H') {l : Addr} (nl : H l = none) : Nx C H G (rem (ext C H H') l) H' W G where
  cc := same_remx p.ch nl
  ch := rem_same.trans (ext_r p.ch s)
  fr := fun a o e _ => s a o e
  dm := fun a n z => n (s.free z)
  od := fun a n => by rw [rem_off fun (z : a = l) => n.1 (z ▸ nl)]; exact ext_old n.1
  dh := fun a n => hard_up s n
  gg := fun a m => .inl m
  res := p.nx.res.mono (same_remx p.ch nl) (fun a m => by rw [rem_off fun (z : a = l) => (p.nx.res.there a m).2 (z ▸ nl), ext_old (p.nx.res.there a m).2]; exact (p.nx.res.there a m).1) fun a m => by
    cases e : H a with
    | none => exact absurd e (p.nx.res.there a m).2
    | some o => exact s a o e
in #guard_msgs in open Nat
theorem Pr.newR (p : Pr K Z W C B H G) (s : Same H H') {l : Addr} (nl : H l = none) (c : NewC K (ext B H H') H' l d) : rN K H (ov B (rem (ext C H H') l)) H' G (.ref l) d := by
  refine ⟨l, rfl, nl, ?_, fun m => (p.nx.res.there l m).2 nl, ?_⟩
  · rw [ov_rem p.cb p.bh nl, rem_at]
  · rw [ov_rem p.cb p.bh nl]
    exact c
in #guard_msgs in open Nat
/-! #### from what needs nothing of W -/
theorem xe_of (h : AE K te ρ fun d => q d W) : XE K Z te ρ W q := fun σ C B H G p E Q k => h B H σ p.bh E Q fun d v H' hq s dv => k d v W _ H' G hq (p.same s) (by show Dv _ _ _ _; rw [ov_ext p.cb p.bh]; exact dv)
in #guard_msgs in open Nat
theorem xa_of {q : List D → List Res → Prop} (h : AA K tl ρ fun d => q d W) : XA K Z tl ρ W q := fun σ C B H G p E Q k => h B H σ p.bh E Q fun d v H' hq s dv => k d v W _ H' G hq (p.same s) (by show DvL _ _ _ _; rw [ov_ext p.cb p.bh]; exact dv)
in #guard_msgs in open Nat
theorem xt_of {q : Bool → List Res → Prop} (h : AT tt K ρ fun d => q d W) : XT K Z tt ρ W q := fun σ C B H G p E Q k => h B H σ p.bh E Q fun d H' hq s => k d d W _ H' G hq (p.same s) rfl
in #guard_msgs in open Nat
theorem xo_of {to : TO} {q : Option Int → List Res → Prop} (h : AO K to ρ fun d => q d W) : XO K Z to ρ W q := fun σ C B H G p E Q k => h B H σ p.bh E Q fun d H' hq s => k d d W _ H' G hq (p.same s) rfl
in #guard_msgs in open Nat
theorem xn_of (h : AN K te ρ fun d => q d W) : XN K Z te ρ W q := fun σ C B H G p E Q k => h B H σ p.bh E Q fun d v H' hq np s dv => k d _ W _ H' G hq (p.new s np) (p.newR s np dv)
in #guard_msgs in open Nat
theorem x1_of {r : V → Hp → VK → Prop} (h : A1 K r a fun d => q d W) : X1 K Z r a W q := fun x C B H G p E Q k => h B H x p.bh E Q fun d v H' hq s dv => k d v W _ H' G hq (p.same s) (by show Dv _ _ _ _; rw [ov_ext p.cb p.bh]; exact dv)
in #guard_msgs in open Nat
theorem x2_of {r : R2} (h : A2 K r a b fun d => q d W) : X2 K Z r a b W q := fun x y C B H G p E Q k => h B H x y p.bh E.1 E.2 Q fun d v H' hq s dv => k d v W _ H' G hq (p.same s) (by show Dv _ _ _ _; rw [ov_ext p.cb p.bh]; exact dv)
in #guard_msgs in open Nat
theorem xl_of {r : List V → Hp → VK → Prop} (h : AL K r ds fun d => q d W) : XL K Z r ds W q := fun vs C B H G p E Q k => h B H vs p.bh E Q fun d v H' hq s dv => k d v W _ H' G hq (p.same s) (by show Dv _ _ _ _; rw [ov_ext p.cb p.bh]; exact dv)
in #guard_msgs in open Nat
theorem x2n_of {r : R2} (h : A2N K r a b fun d => q d W) : X2N K Z r a b W q := fun x y C B H G p E Q k => h B H x y p.bh E.1 E.2 Q fun d v H' hq np s dv => k d _ W _ H' G hq (p.new s np) (p.newR s np dv)
in #guard_msgs in open Nat
theorem xln_of {r : List V → Hp → VK → Prop} (h : ALN K r ds fun d => q d W) : XLN K Z r ds W q := fun vs C B H G p E Q k => h B H vs p.bh E Q fun d v H' hq np s dv => k d _ W _ H' G hq (p.new s np) (p.newR s np dv)
in #guard_msgs in open Nat
/-- a new object as a value -/
theorem xe_of_xn (h : XN K Z te ρ W q) : XE K Z te ρ W q := fun σ C B H G p E Q k => h σ C B H G p E Q fun d v W' C' H' G' hq x ⟨l, ev, nl, bl, gl, c⟩ => by
  subst ev
  have cl : C' l = none := by
    rw [ov_new (p.bh.free nl)] at bl
    exact bl
  have hl : H' l ≠ none := c.there
  have s1 : Same C' (fun b => if b = l then H' l else C' b) := fun b o e => (if_neg fun (z : b = l) => by rw [z, cl] at e; cases e).trans e
  have s2 : Same (fun b => if b = l then H' l else C' b) H' := fun b o e => by
    by_cases z : b = l
    · have e' : (if b = l then H' l else C' b) = some o := e
      rw [if_pos z] at e'
      rw [z]
      exact e'
    · have e' : (if b = l then H' l else C' b) = some o := e
      rw [if_neg z] at e'
      exact x.ch b o e'
  refine k d _ W' (fun b => if b = l then H' l else C' b) H' G' hq ⟨x.cc.trans s1, s2, x.fr, x.dm, fun a n => (if_neg fun (z : a = l) => n.1 (z ▸ nl)).trans (x.od a n), x.gg, x.res.mono s1 (fun a m => (if_neg fun (z : a = l) => gl (z ▸ m)).trans (x.res.there a m).1) fun _ _ => rfl, x.dh⟩ ?_
  refine c.dv (ov_mono s1) ?_
  rw [ov_new (p.bh.free nl)]
  exact if_pos rfl
in #guard_msgs in open Nat
/-! #### one after the other -/
theorem xe_mono {q' : D → List Res → Prop} (h : XE K Z te ρ W q) (hq : ∀ d W', q d W' → q' d W') : XE K Z te ρ W q' := fun σ C B H G p E Q k => h σ C B H G p E Q fun d v W' C' H' G' z => k d v W' C' H' G' (hq d W' z)
in #guard_msgs in open Nat
theorem xe_bind {r : V → Hp → VK → Prop} {t : TE} (ht : ∀ σ H Q, ta σ H (fun x H1 => r x H1 Q) → t σ H Q) (h : XE K Z ta ρ W fun a W1 => X1 K Z r a W1 q) : XE K Z t ρ W q := fun σ C B H G p E Q k => ht _ _ _ (h σ C B H G p E _ fun a x W1 C1 H1 G1 h1 n1 dx =>
  h1 x C1 _ H1 G1 (p.next n1) dx Q fun d v W' C' H' G' hq n2 dv => k d v W' C' H' G' hq (n1.trans n2) (by rw [ov_ov n2.cc] at dv; exact dv))
in #guard_msgs in open Nat
theorem xn_bind {r : V → Hp → VK → Prop} {t : TE} (ht : ∀ σ H Q, ta σ H (fun x H1 => r x H1 Q) → t σ H Q) (h : XE K Z ta ρ W fun a W1 => X1N K Z r a W1 q) : XN K Z t ρ W q := fun σ C B H G p E Q k => ht _ _ _ (h σ C B H G p E _ fun a x W1 C1 H1 G1 h1 n1 dx =>
  h1 x C1 _ H1 G1 (p.next n1) dx Q fun d v W' C' H' G' hq n2 ⟨l, e1, e2, e3⟩ => k d v W' C' H' G' hq (n1.trans n2) ⟨l, e1, by
    cases e : H l with
    | none => rfl
    | some o => exact absurd e2 (n1.dm l (ne_none e)), by rw [ov_ov n2.cc] at e3; exact e3⟩)
in #guard_msgs in open Nat
theorem xe_un {r : V → Hp → VK → Prop} (h : XE K Z ta ρ W fun a W1 => X1 K Z r a W1 q) : XE K Z (tUn r ta) ρ W q := xe_bind (r := r) (fun _ _ _ h => h) h
theorem xe_op {r : R2} (h : XE K Z ta ρ W fun a W1 => XE K Z tb ρ W1 fun b W2 => X2 K Z r a b W2 q) : XE K Z (tOp r ta tb) ρ W q := fun σ C B H G p E Q k => h σ C B H G p E _ fun a x W1 C1 H1 G1 h1 n1 dx =>
  h1 σ C1 _ H1 G1 (p.next n1) (E.mono ov_l) _ fun b y W2 C2 H2 G2 h2 n2 dy => by
    have dy' : Dv K (ov B C2) y b := by rw [← ov_ov n2.cc]; exact dy
    exact h2 x y C2 _ H2 G2 (p.next (n1.trans n2)) ⟨Dv.mono (ov_mono n2.cc) dx, dy'⟩ Q fun d v W' C' H' G' hq n3 dv => k d v W' C' H' G' hq (n1.trans (n2.trans n3)) (by rw [ov_ov n3.cc] at dv; exact dv)
in #guard_msgs in open Nat
theorem rN_up {K : PySem.W.Frag} {H0 H1 B' H' : Hp} {G' : List Addr} {v : V} {d : D} (n : ∀ a, H0 a ≠ none → H1 a ≠ none) (h : rN K H1 B' H' G' v d) : rN K H0 B' H' G' v d := by
  obtain ⟨l, e1, e2, e3⟩ := h
  refine ⟨l, e1, ?_, e3⟩
  cases e : H0 l with
  | none => rfl
  | some o => exact absurd e2 (n l (ne_none e))
in #guard_msgs in open Nat
theorem xn_op {r : R2} (h : XE K Z ta ρ W fun a W1 => XE K Z tb ρ W1 fun b W2 => X2N K Z r a b W2 q) : XN K Z (tOp r ta tb) ρ W q := fun σ C B H G p E Q k => h σ C B H G p E _ fun a x W1 C1 H1 G1 h1 n1 dx =>
  h1 σ C1 _ H1 G1 (p.next n1) (E.mono ov_l) _ fun b y W2 C2 H2 G2 h2 n2 dy => by
    have dy' : Dv K (ov B C2) y b := by rw [← ov_ov n2.cc]; exact dy
    exact h2 x y C2 _ H2 G2 (p.next (n1.trans n2)) ⟨Dv.mono (ov_mono n2.cc) dx, dy'⟩ Q fun d v W' C' H' G' hq n3 dv => k d v W' C' H' G' hq (n1.trans (n2.trans n3)) (by rw [ov_ov n3.cc] at dv; exact rN_up (n1.trans n2).dm dv)
in #guard_msgs in open Nat
theorem xa_nil {q : List D → List Res → Prop} (h : q [] W) : XA K Z tNil ρ W q := fun σ C B H G p E Q k => k [] [] W C H G h p.refl .nil
theorem xa_cons {q : List D → List Res → Prop} (h : XE K Z ta ρ W fun a W1 => XA K Z tl ρ W1 fun ds W2 => q (a :: ds) W2) : XA K Z (tCons ta tl) ρ W q := fun σ C B H G p E Q k => h σ C B H G p E _ fun a x W1 C1 H1 G1 h1 n1 dx =>
  h1 σ C1 _ H1 G1 (p.next n1) (E.mono ov_l) _ fun ds vs W2 C2 H2 G2 h2 n2 dy => by
    have dy' : DvL K (ov B C2) vs ds := by rw [← ov_ov n2.cc]; exact dy
    exact k _ _ W2 C2 H2 G2 h2 (n1.trans n2) (.cons (Dv.mono (ov_mono n2.cc) dx) dy')
in #guard_msgs in open Nat
theorem xe_cb {r : List V → Hp → VK → Prop} (h : XA K Z tl ρ W fun ds W1 => XL K Z r ds W1 q) : XE K Z (tCB r tl) ρ W q := fun σ C B H G p E Q k => h σ C B H G p E _ fun ds vs W1 C1 H1 G1 h1 n1 dx =>
  h1 vs C1 _ H1 G1 (p.next n1) dx Q fun d v W' C' H' G' hq n2 dv => k d v W' C' H' G' hq (n1.trans n2) (by rw [ov_ov n2.cc] at dv; exact dv)
in #guard_msgs in open Nat
theorem xn_cb {r : List V → Hp → VK → Prop} (h : XA K Z tl ρ W fun ds W1 => XLN K Z r ds W1 q) : XN K Z (tCB r tl) ρ W q := fun σ C B H G p E Q k => h σ C B H G p E _ fun ds vs W1 C1 H1 G1 h1 n1 dx =>
  h1 vs C1 _ H1 G1 (p.next n1) dx Q fun d v W' C' H' G' hq n2 dv => k d v W' C' H' G' hq (n1.trans n2) (by rw [ov_ov n2.cc] at dv; exact rN_up n1.dm dv)
in #guard_msgs in open Nat
theorem xe_tup (h : XA K Z tl ρ W fun ds W1 => ds.length ≤ 100000 ∧ q (.tup ds) W1) : XE K Z (tTup tl) ρ W q := fun σ C B H G p E Q k => h σ C B H G p E _ fun ds vs W1 C1 H1 G1 ⟨hl, h1⟩ n1 dx => by
  have dx : DvL K (ov B C1) vs ds := dx
  refine ⟨small (by rw [dx.len]; exact hl), fun l np => ?_⟩
  have p1 := p.next n1
  have x2 := p1.same (same_upd (p := l) (o := .tup vs) np)
  refine k _ _ W1 _ _ G1 h1 (n1.trans x2) ?_
  show Dv _ _ _ _
  rw [← ov_ov x2.cc, ov_ext p1.cb p1.bh]
  exact .tup (by rw [ext_new np, upd_same]) (dx.mono (ext_l p1.bh))
in #guard_msgs in open Nat
theorem xn_lst (h : XA K Z tl ρ W fun ds W1 => ds.length ≤ 100000 ∧ q (.lst ds) W1) : XN K Z (tLst tl) ρ W q := fun σ C B H G p E Q k => h σ C B H G p E _ fun ds vs W1 C1 H1 G1 ⟨hl, h1⟩ n1 dx => by
  have dx : DvL K (ov B C1) vs ds := dx
  refine ⟨small (by rw [dx.len]; exact hl), fun l np => ?_⟩
  have p1 := p.next n1
  have x2 := p1.new (same_upd (p := l) (o := .lst vs) np) np
  refine k _ _ W1 _ _ G1 h1 (n1.trans x2) (rN_up n1.dm ?_)
  rw [← ov_ov x2.cc]
  exact p1.newR (same_upd np) np ⟨vs, upd_same, dx.mono (same_remx p1.bh np)⟩
in #guard_msgs in open Nat
/-! #### tests -/
theorem xt_b {q : Bool → List Res → Prop} (h : XE K Z te ρ W fun d W1 => ∃ b, d = .bl b ∧ q b W1) : XT K Z (tB te) ρ W q := fun σ C B H G p E Q k => h σ C B H G p E _ fun d v W1 C1 H1 G1 ⟨b, e, hb⟩ n1 dv => by
  subst e
  cases dv
  exact ⟨b, rfl, k b b W1 C1 H1 G1 hb n1 rfl⟩
in #guard_msgs in open Nat
theorem xt_test {q : Bool → List Res → Prop} (h : XE K Z te ρ W fun d W1 => ∃ b, d = .bl b ∧ q b W1) : XT K Z (tTest te) ρ W q := fun σ C B H G p E Q k => h σ C B H G p E _ fun d v W1 C1 H1 G1 ⟨b, e, hb⟩ n1 dv => by
  subst e
  cases dv
  exact ⟨b, rfl, k b b W1 C1 H1 G1 hb n1 rfl⟩
in #guard_msgs in open Nat
theorem xt_not {q : Bool → List Res → Prop} (h : XT K Z tt ρ W fun b W1 => q (!b) W1) : XT K Z (tNot tt) ρ W q := fun σ C B H G p E Q k => h σ C B H G p E _ fun b v W1 C1 H1 G1 hb n1 e => by
  have e : v = b := e
  subst e
  exact k _ _ W1 C1 H1 G1 hb n1 rfl
in #guard_msgs in open Nat
theorem xt_yes {q : Bool → List Res → Prop} (h : q true W) : XT K Z tYes ρ W q := fun σ C B H G p E Q k => k _ _ W C H G h p.refl rfl
theorem xt_and {q : Bool → List Res → Prop} (h : XT K Z tt ρ W fun b W1 => (b = true → XT K Z tu ρ W1 q) ∧ (b = false → q false W1)) : XT K Z (tAnd tt tu) ρ W q := fun σ C B H G p E Q k => h σ C B H G p E _ fun b v W1 C1 H1 G1 hb n1 e => by
  have e : v = b := e
  subst e
  cases v with
  | true =>
    rw [if_pos rfl]
    exact hb.1 rfl σ C1 _ H1 G1 (p.next n1) (E.mono ov_l) Q fun d v W' C' H' G' hq n2 ev => k d v W' C' H' G' hq (n1.trans n2) ev
  | false =>
    rw [if_neg Bool.false_ne_true]
    exact k _ _ W1 C1 H1 G1 (hb.2 rfl) n1 rfl
in #guard_msgs in open Nat
theorem xt_or {q : Bool → List Res → Prop} (h : XT K Z tt ρ W fun b W1 => (b = false → XT K Z tu ρ W1 q) ∧ (b = true → q true W1)) : XT K Z (tOr tt tu) ρ W q := fun σ C B H G p E Q k => h σ C B H G p E _ fun b v W1 C1 H1 G1 hb n1 e => by
  have e : v = b := e
  subst e
  cases v with
  | false =>
    rw [if_neg Bool.false_ne_true]
    exact hb.1 rfl σ C1 _ H1 G1 (p.next n1) (E.mono ov_l) Q fun d v W' C' H' G' hq n2 ev => k d v W' C' H' G' hq (n1.trans n2) ev
  | true =>
    rw [if_pos rfl]
    exact k _ _ W1 C1 H1 G1 (hb.2 rfl) n1 rfl
in #guard_msgs in open Nat
theorem xe_sub {q : D → List Res → Prop} {σ : L2.St} {C1 H1 : Hp} {G1 : List Addr} {W1 : List Res} (p : Pr K Z W C B H G) (n1 : Nx C H G C1 H1 W1 G1) (E : EnvS K B σ ρ) (h : XE K Z te ρ W1 q) {Q : VK} (k : ∀ d v W' C' H' G', q d W' → Nx C H G C' H' W' G' → rV K H (ov B C') H' G' v d → Q v H') : te σ H1 Q :=
  h σ C1 _ H1 G1 (p.next n1) (E.mono ov_l) Q fun d v W' C' H' G' hq n2 dv => k d v W' C' H' G' hq (n1.trans n2) (by
    show Dv _ _ _ _
    rw [← ov_ov n2.cc]
    exact dv)
in #guard_msgs in open Nat
theorem xe_andV (h : XE K Z ta ρ W fun a W1 => ∃ b, a = .bl b ∧ (b = true → XE K Z tb ρ W1 q) ∧ (b = false → q (.bl false) W1)) : XE K Z (tAndV ta tb) ρ W q := fun σ C B H G p E Q k => h σ C B H G p E _ fun a x W1 C1 H1 G1 ⟨b, e, ht, hf⟩ n1 dx => by
  subst e
  cases dx
  refine ⟨b, rfl, ?_⟩
  cases b with
  | true =>
    rw [if_pos rfl]
    exact xe_sub p n1 E (ht rfl) k
  | false =>
    rw [if_neg Bool.false_ne_true]
    exact k _ _ W1 C1 H1 G1 (hf rfl) n1 (Dv.bl _)
in #guard_msgs in open Nat
theorem xe_orV (h : XE K Z ta ρ W fun a W1 => ∃ b, a = .bl b ∧ (b = false → XE K Z tb ρ W1 q) ∧ (b = true → q (.bl true) W1)) : XE K Z (tOrV ta tb) ρ W q := fun σ C B H G p E Q k => h σ C B H G p E _ fun a x W1 C1 H1 G1 ⟨b, e, hf, ht⟩ n1 dx => by
  subst e
  cases dx
  refine ⟨b, rfl, ?_⟩
  cases b with
  | false =>
    rw [if_neg Bool.false_ne_true]
    exact xe_sub p n1 E (hf rfl) k
  | true =>
    rw [if_pos rfl]
    exact k _ _ W1 C1 H1 G1 (ht rfl) n1 (Dv.bl _)
in #guard_msgs in open Nat
theorem xe_notV (h : XE K Z ta ρ W fun a W1 => ∃ b, a = .bl b ∧ q (.bl (!b)) W1) : XE K Z (tNotV ta) ρ W q := fun σ C B H G p E Q k => h σ C B H G p E _ fun a x W1 C1 H1 G1 ⟨b, e, hq⟩ n1 dx => by
  subst e
  cases dx
  exact ⟨b, rfl, k _ _ W1 C1 H1 G1 hq n1 (Dv.bl _)⟩
in #guard_msgs in open Nat
theorem xe_ifE (h : XT K Z tt ρ W fun b W1 => (b = true → XE K Z ta ρ W1 q) ∧ (b = false → XE K Z tb ρ W1 q)) : XE K Z (tIf tt ta tb) ρ W q := fun σ C B H G p E Q k => h σ C B H G p E _ fun b v W1 C1 H1 G1 ⟨ht, hf⟩ n1 e => by
  have e : v = b := e
  subst e
  cases v with
  | true =>
    rw [if_pos rfl]
    exact xe_sub p n1 E (ht rfl) k
  | false =>
    rw [if_neg Bool.false_ne_true]
    exact xe_sub p n1 E (hf rfl) k
in #guard_msgs in open Nat
/-- is None: told of all but what is known by its value alone; of a reference, too -/
def nonD : D → Option Bool
  | .non => some true
  | .op (.ref _) => some false
  | .op _ | .ex _ _ _ | .vd _ _ => none
  | _ => some false
theorem dv_nonD {K : PySem.W.Frag} {x : V} {r : Bool} (h : Dv K B x a) (n : nonD a = some r) : decide (x = V.non) = r := by
  cases h <;> first | (cases n; done) | (cases n; rfl) | (cases n; simp; done) | skip
  cases x <;> first | (cases n; simp; done) | cases n
in #guard_msgs in open Nat
theorem xe_isN (h : XE K Z ta ρ W fun a W1 => ∃ r, nonD a = some r ∧ q (.bl r) W1) : XE K Z (tIsN ta) ρ W q := fun σ C B H G p E Q k => h σ C B H G p E _ fun a x W1 C1 H1 G1 ⟨r, n, hq⟩ n1 dx => by
  rw [dv_nonD dx n]
  exact k _ _ W1 C1 H1 G1 hq n1 (Dv.bl _)
in #guard_msgs in open Nat
theorem xe_notN (h : XE K Z ta ρ W fun a W1 => ∃ r, nonD a = some r ∧ q (.bl (!r)) W1) : XE K Z (tNotN ta) ρ W q := fun σ C B H G p E Q k => h σ C B H G p E _ fun a x W1 C1 H1 G1 ⟨r, n, hq⟩ n1 dx => by
  rw [dv_nonD dx n]
  exact k _ _ W1 C1 H1 G1 hq n1 (Dv.bl _)
in #guard_msgs in open Nat
theorem xe_chain {o o' : R2} (h : XE K Z ta ρ W fun a W1 => XE K Z tb ρ W1 fun b W2 => X2 K Z o a b W2 fun z W3 => ∃ k, z = .bl k ∧ (k = true → XE K Z tc ρ W3 fun c W4 => X2 K Z o' b c W4 q) ∧ (k = false → q (.bl false) W3)) : XE K Z (tChain o o' ta tb tc) ρ W q := fun σ C B H G p E Q k => h σ C B H G p E _ fun a x W1 C1 H1 G1 h1 n1 dx =>
  h1 σ C1 _ H1 G1 (p.next n1) (E.mono ov_l) _ fun b y W2 C2 H2 G2 h2 n2 dy => by
    have dy' : Dv K (ov B C2) y b := by rw [← ov_ov n2.cc]; exact dy
    refine h2 x y C2 _ H2 G2 (p.next (n1.trans n2)) ⟨Dv.mono (ov_mono n2.cc) dx, dy'⟩ _ fun z v W3 C3 H3 G3 ⟨kk, e, ht, hf⟩ n3 dv => ?_
    subst e
    cases dv
    have n13 := n1.trans (n2.trans n3)
    refine ⟨kk, rfl, ?_⟩
    cases kk with
    | false =>
      rw [if_neg Bool.false_ne_true]
      exact k _ _ W3 C3 H3 G3 (hf rfl) n13 (Dv.bl _)
    | true =>
      rw [if_pos rfl]
      refine ht rfl σ C3 _ H3 G3 (p.next n13) (E.mono ov_l) _ fun c w W4 C4 H4 G4 h4 n4 dw => ?_
      have dw' : Dv K (ov B C4) w c := by rw [← ov_ov n4.cc]; exact dw
      exact h4 y w C4 _ H4 G4 (p.next (n13.trans n4)) ⟨Dv.mono (ov_mono (n3.cc.trans n4.cc)) dy', dw'⟩ Q fun d v W' C' H' G' hq n5 dv => k d v W' C' H' G' hq (n13.trans (n4.trans n5)) (by rw [ov_ov n5.cc] at dv; exact dv)
in #guard_msgs in open Nat
end
/-! ### what is held: lists of resources -/
section
variable {C C' H H' : Hp} {G G' : List Addr} {W W' Wc Wf : List Res}
theorem WR.perm : ∀ {W W' : List Res}, W.Perm W' → ∀ {G : List Addr}, WR C H W G → ∃ G', WR C H W' G' ∧ ∀ a, a ∈ G' ↔ a ∈ G := by
  intro W W' p
  induction p with
  | nil => exact fun h => ⟨_, h, fun _ => Iff.rfl⟩
  | cons r _ ih =>
    intro G h
    cases h with
    | @cons _ _ fp G0 hp d n t =>
      obtain ⟨G1, h1, e1⟩ := ih t
      refine ⟨fp ++ G1, .cons hp (fun a m z => d a m ((e1 a).mp z)) n h1, fun a => ?_⟩
      rw [List.mem_append, List.mem_append, e1]
  | swap r s L =>
    intro G h
    cases h with
    | @cons _ _ fp G0 hp d n t =>
      cases t with
      | @cons _ _ fp2 G2 hp2 d2 n2 t2 =>
        refine ⟨fp2 ++ (fp ++ G2), .cons hp2 (fun a m z => ?_) n2 (.cons hp (fun a m z => d a m (List.mem_append_right _ z)) n t2), fun a => ?_⟩
        · exact (List.mem_append.mp z).elim (fun z => d a z (List.mem_append_left _ m)) (d2 a m)
        · simp only [List.mem_append]
          exact ⟨fun h => h.elim (fun h => .inr (.inl h)) fun h => h.elim .inl fun h => .inr (.inr h), fun h => h.elim (fun h => .inr (.inl h)) fun h => h.elim .inl fun h => .inr (.inr h)⟩
  | trans _ _ ih1 ih2 =>
    intro G h
    obtain ⟨G1, h1, e1⟩ := ih1 h
    obtain ⟨G2, h2, e2⟩ := ih2 h1
    exact ⟨G2, h2, fun a => (e2 a).trans (e1 a)⟩
in #guard_msgs in open Nat
theorem WR.split : ∀ {Wc Wf : List Res} {G : List Addr}, WR C H (Wc ++ Wf) G → ∃ Gc Gf, WR C H Wc Gc ∧ WR C H Wf Gf ∧ (∀ a ∈ Gc, a ∉ Gf) ∧ ∀ a, a ∈ G ↔ a ∈ Gc ∨ a ∈ Gf
  | [], Wf, G, h => ⟨[], G, .nil, h, (fun a m => by cases m), fun a => by simp⟩
  | r :: Wc, Wf, G, h => by
    cases h with
    | @cons _ _ fp G0 hp d n t =>
      obtain ⟨Gc, Gf, h1, h2, h3, h4⟩ := WR.split (Wc := Wc) t
      refine ⟨fp ++ Gc, Gf, .cons hp (fun a m z => d a m ((h4 a).mpr (.inl z))) n h1, h2, fun a m z => ?_, fun a => ?_⟩
      · exact (List.mem_append.mp m).elim (fun m => d a m ((h4 a).mpr (.inr z))) fun m => h3 a m z
      · rw [List.mem_append, List.mem_append, h4, or_assoc]
in #guard_msgs in open Nat
theorem WR.join : ∀ {Wc Wf : List Res} {Gc Gf : List Addr}, WR C H Wc Gc → WR C H Wf Gf → (∀ a ∈ Gc, a ∉ Gf) → WR C H (Wc ++ Wf) (Gc ++ Gf)
  | [], _, _, _, .nil, h, _ => h
  | r :: Wc, Wf, _, Gf, .cons (fp := fp) (G := G0) hp d n t, h, dj => by
    have e : fp ++ G0 ++ Gf = fp ++ (G0 ++ Gf) := List.append_assoc _ _ _
    rw [e]
    refine .cons hp (fun a m z => (List.mem_append.mp z).elim (d a m) (dj a (List.mem_append_left _ m))) n (WR.join t h fun a m => dj a (List.mem_append_right _ m))
in #guard_msgs in open Nat
/-- what is beside a change stays -/
theorem WR.beside {Gc Gc' Gf : List Addr} {Wc' : List Res} (hf : WR C H Wf Gf) (dj : ∀ a ∈ Gc, a ∉ Gf) (x : Nx C H Gc C' H' Wc' Gc') : WR C' H' Wf Gf ∧ ∀ a ∈ Gc', a ∉ Gf := by
  refine ⟨hf.mono x.cc (fun a m => ?_) (fun a m => ?_), fun a m z => ?_⟩
  · rw [x.od a (hf.hard a m)]
    exact (hf.there a m).1
  · exact x.at (hf.there a m).2 fun z => dj a z m
  · exact (x.gg a m).elim (fun m => dj a m z) (hf.there a z).2
in #guard_msgs in open Nat
/-- a change of a part, seen from the whole -/
theorem Nx.whole {Gc Gc' Gf : List Addr} {Wc' : List Res} (hf : WR C H Wf Gf) (dj : ∀ a ∈ Gc, a ∉ Gf) (cc : ∀ a ∈ Gc, a ∈ G) (cf : ∀ a ∈ Gf, a ∈ G) (x : Nx C H Gc C' H' Wc' Gc') : Nx C H G C' H' (Wc' ++ Wf) (Gc' ++ Gf) where
  cc := x.cc
  ch := x.ch
  fr := fun a o e n => x.fr a o e fun m => n (cc a m)
  dm := x.dm
  od := x.od
  gg := fun a m => (List.mem_append.mp m).elim (fun m => (x.gg a m).imp (cc a) id) fun m => .inl (cf a m)
  res := x.res.join (hf.beside dj x).1 (hf.beside dj x).2
  dh := x.dh
in #guard_msgs in open Nat
end
/-- what is held, told otherwise -/
def Ent (W W' : List Res) : Prop := ∀ {C H : Hp} {G : List Addr}, WR C H W G → ∃ G', WR C H W' G' ∧ ∀ a ∈ G', a ∈ G
section
variable {C C' H H' : Hp} {G G' : List Addr} {W W' W1 W2 Wc Wf : List Res} {r r' : Res} {i : Nat}
theorem Ent.refl (W : List Res) : Ent W W := fun h => ⟨_, h, fun _ m => m⟩
theorem Ent.trans (a : Ent W W1) (b : Ent W1 W2) : Ent W W2 := fun h => by
  obtain ⟨G1, h1, e1⟩ := a h
  obtain ⟨G2, h2, e2⟩ := b h1
  exact ⟨G2, h2, fun a m => e1 a (e2 a m)⟩
in #guard_msgs in open Nat
theorem Ent.perm (p : W.Perm W') : Ent W W' := fun h => by
  obtain ⟨G', h', e⟩ := h.perm p
  exact ⟨G', h', fun a m => (e a).mp m⟩
theorem Ent.app {V V' : List Res} (a : Ent W W') (b : Ent V V') : Ent (W ++ V) (W' ++ V') := fun {C H G} h => by
  obtain ⟨Gc, Gf, h1, h2, dj, cov⟩ := h.split
  obtain ⟨G1, h3, e1⟩ := a h1
  obtain ⟨G2, h4, e2⟩ := b h2
  refine ⟨G1 ++ G2, h3.join h4 fun a m z => dj a (e1 a m) (e2 a z), fun a m => (cov a).mpr ((List.mem_append.mp m).imp (e1 a) (e2 a))⟩
in #guard_msgs in open Nat
theorem Ent.drop : Ent (W ++ W') W := fun {C H G} h => by
  obtain ⟨Gc, Gf, h1, h2, dj, cov⟩ := h.split
  exact ⟨Gc, h1, fun a m => (cov a).mpr (.inl m)⟩
theorem perm_at : ∀ {W : List Res} {i : Nat} {r : Res}, W[i]? = some r → W.Perm (r :: W.eraseIdx i)
  | [], _, _, h => by simp at h
  | s :: W, 0, r, h => by
    simp at h
    subst h
    exact List.Perm.refl _
  | s :: W, i + 1, r, h => (List.Perm.cons s (perm_at (i := i) (by simpa using h))).trans (List.Perm.swap r s _)
in #guard_msgs in open Nat
theorem perm_set : ∀ {W : List Res} {i : Nat} {r r' : Res}, W[i]? = some r → (r' :: W.eraseIdx i).Perm (W.set i r')
  | [], _, _, _, h => by simp at h
  | s :: W, 0, r, r', h => List.Perm.refl _
  | s :: W, i + 1, r, r', h => (List.Perm.swap s r' _).trans (List.Perm.cons s (perm_set (i := i) (r := r) (by simpa using h)))
in #guard_msgs in open Nat
theorem Ent.pick (h : W[i]? = some r) : Ent W ([r] ++ W.eraseIdx i) := Ent.perm (perm_at h)
theorem Ent.back (h : W[i]? = some r) : Ent ([r'] ++ W.eraseIdx i) (W.set i r') := Ent.perm (perm_set h)
theorem Nx.ent (x : Nx C H G C' H' W' G') (p : Ent W' W) : ∃ G2, Nx C H G C' H' W G2 ∧ ∀ a ∈ G2, a ∈ G' := by
  obtain ⟨G2, h, e⟩ := p x.res
  exact ⟨G2, ⟨x.cc, x.ch, x.fr, x.dm, x.od, fun a m => x.gg a (e a m), h, x.dh⟩, e⟩
in #guard_msgs in open Nat
end
/-! ### refusals, with what is held -/
abbrev XX := Str → List (Str × D) → List Res → Prop
/-- the wish for what is raised, from a state on -/
def EOkG (K : PySem.W.Frag) (mg : Str → Option Value) (C H : Hp) (G : List Addr) (E : XK) (x : XX) : Prop :=
  ∀ c Cl dd vfs fs W' C' H' G', mg c = some (.ref Cl) → x c fs W' → Nx C H G C' H' W' G' → H dd = none → C' dd = some (.xd vfs) → DvF K C' vfs fs → E (.ref Cl) (some dd) H'
def EOkW (K : PySem.W.Frag) (Z : Zx) (mg : Str → Option Value) (E : XK) (x : XX) : Prop :=
  ∀ c Cl dd vfs fs W' C' H' G', mg c = some (.ref Cl) → x c fs W' → Nx Z.C0 Z.H0 Z.G0 C' H' W' G' → LkOk K Z C' H' G' → Z.H0 dd = none → C' dd = some (.xd vfs) → DvF K C' vfs fs → E (.ref Cl) (some dd) H'
abbrev TX := List D → List Res → (D → List Res → Prop) → XX → Prop
def xNo : XX := fun _ _ _ => False
/-- the promise of a def that may change what is held -/
def pxf (K : PySem.W.Frag) (mg : Str → Option Value) (T : TX) : Sp := fun vs H Q E => ∃ (C B : Hp) (ds : List D) (W : List Res) (G : List Addr) (q : D → List Res → Prop) (x : XX), Same C B ∧ Same B H ∧ (∀ a ∈ G, B a = none) ∧ WR C H W G ∧ DvL K B vs ds ∧ T ds W q x ∧
  (∀ d v W' C' H' G', q d W' → Nx C H G C' H' W' G' → Dv K (ov B C') v d → Q v H') ∧ EOkG K mg C H G E x
/-- .. and tells a new list or dict -/
def pxfN (K : PySem.W.Frag) (mg : Str → Option Value) (T : TX) : Sp := fun vs H Q E => ∃ (C B : Hp) (ds : List D) (W : List Res) (G : List Addr) (q : D → List Res → Prop) (x : XX), Same C B ∧ Same B H ∧ (∀ a ∈ G, B a = none) ∧ WR C H W G ∧ DvL K B vs ds ∧ T ds W q x ∧
  (∀ d v W' C' H' G', q d W' → Nx C H G C' H' W' G' → rN K H (ov B C') H' G' v d → Q v H') ∧ EOkG K mg C H G E x
section
variable {K : PySem.W.Frag} {Z : Zx} {ρ : List Sl} {W W1 Wc Wf : List Res} {C B H : Hp} {G : List Addr} {te ta : TE} {tl : TA} {q : D → List Res → Prop} {mg : Str → Option Value} {E : XK} {x xE : XX} {T : TX} {ds : List D} {vs : List V}
theorem EOkW.to {Gc Gf : List Addr} (hE : EOkW K Z mg E xE) (p : Pr K Z W C B H G) (hf : WR C H Wf Gf) (dj : ∀ a ∈ Gc, a ∉ Gf) (cc : ∀ a ∈ Gc, a ∈ G) (cf : ∀ a ∈ Gf, a ∈ G) (hx : ∀ c fs Wc', x c fs Wc' → ∃ W2, Ent (Wc' ++ Wf) W2 ∧ xE c fs W2) : EOkG K mg C H Gc E x := fun c Cl dd vfs fs W' C' H' G' hm hxx n2 nd hc hF => by
  obtain ⟨W2, pm, h2⟩ := hx c fs W' hxx
  obtain ⟨G3, n3, _⟩ := (Nx.whole hf dj cc cf n2).ent pm
  refine hE c Cl dd vfs fs W2 C' H' G3 hm h2 (p.nx.trans n3) (p.lk.next n3) ?_ hc hF
  cases e : Z.H0 dd with
  | none => rfl
  | some o => exact absurd nd (p.nx.dm dd (ne_none e))
in #guard_msgs in open Nat
/-- what a call asks: the callee's part Wc, what is beside Wf -/
def CallX (T : TX) (ds : List D) (W : List Res) (q : D → List Res → Prop) (x : XX) : Prop := ∃ Wc Wf, Ent W (Wc ++ Wf) ∧ T ds Wc (fun d Wc' => ∃ W2, Ent (Wc' ++ Wf) W2 ∧ q d W2) (fun c fs Wc' => ∃ W2, Ent (Wc' ++ Wf) W2 ∧ x c fs W2)
/-- the callee's part of what is held -/
theorem call_at (p : Pr K Z W C B H G) (hE : EOkW K Z mg E xE) (dv : DvL K B vs ds) (h : CallX T ds W q xE) {Q : VK}
    (k : ∀ d v W' C' H' G', q d W' → Nx C H G C' H' W' G' → Dv K (ov B C') v d → Q v H') : pxf K mg T vs H Q E := by
  obtain ⟨Wc, Wf, hp, h⟩ := h
  obtain ⟨G1, r1, e1⟩ := hp p.nx.res
  obtain ⟨Gc, Gf, hc, hf, dj, cov⟩ := r1.split
  have cc : ∀ a ∈ Gc, a ∈ G := fun a m => e1 a ((cov a).mpr (.inl m))
  have cf : ∀ a ∈ Gf, a ∈ G := fun a m => e1 a ((cov a).mpr (.inr m))
  refine ⟨C, B, ds, Wc, Gc, _, _, p.cb, p.bh, fun a m => p.gB a (cc a m), hc, dv, h, fun d v W' C' H' G' ⟨W2, pm, hq⟩ n2 dv2 => ?_, hE.to p hf dj cc cf fun c fs Wc' h => h⟩
  obtain ⟨G3, n3, _⟩ := (Nx.whole hf dj cc cf n2).ent pm
  exact k d v W2 C' H' G3 hq n3 dv2
in #guard_msgs in open Nat
theorem callN_at (p : Pr K Z W C B H G) (hE : EOkW K Z mg E xE) (dv : DvL K B vs ds) (h : CallX T ds W q xE) {Q : VK}
    (k : ∀ d v W' C' H' G', q d W' → Nx C H G C' H' W' G' → rN K H (ov B C') H' G' v d → Q v H') : pxfN K mg T vs H Q E := by
  obtain ⟨Wc, Wf, hp, h⟩ := h
  obtain ⟨G1, r1, e1⟩ := hp p.nx.res
  obtain ⟨Gc, Gf, hc, hf, dj, cov⟩ := r1.split
  have cc : ∀ a ∈ Gc, a ∈ G := fun a m => e1 a ((cov a).mpr (.inl m))
  have cf : ∀ a ∈ Gf, a ∈ G := fun a m => e1 a ((cov a).mpr (.inr m))
  refine ⟨C, B, ds, Wc, Gc, _, _, p.cb, p.bh, fun a m => p.gB a (cc a m), hc, dv, h, fun d v W' C' H' G' ⟨W2, pm, hq⟩ n2 ⟨l, e1, e2, e3, e4, e5⟩ => ?_, hE.to p hf dj cc cf fun c fs Wc' h => h⟩
  obtain ⟨G3, n3, e3'⟩ := (Nx.whole hf dj cc cf n2).ent pm
  refine k d v W2 C' H' G3 hq n3 ⟨l, e1, e2, e3, fun m => ?_, e5⟩
  exact (List.mem_append.mp (e3' l m)).elim e4 fun m => (hf.there l m).2 e2
in #guard_msgs in open Nat
/-- f(..) -/
theorem xe_call (hE : EOkW K Z mg E xE) (h : XA K Z tl ρ W fun ds W1 => CallX T ds W1 q xE) : XE K Z (tCall (pxf K mg T) [] E tl) ρ W q := fun σ C B H G p En Q k => h σ C B H G p En _ fun ds vs W1 C1 H1 G1 hT n1 dx => by
  rw [List.append_nil]
  exact call_at (p.next n1) hE dx hT fun d v W' C' H' G' hq n2 dv => k d v W' C' H' G' hq (n1.trans n2) (by rw [ov_ov n2.cc] at dv; exact dv)
in #guard_msgs in open Nat
theorem xn_call (hE : EOkW K Z mg E xE) (h : XA K Z tl ρ W fun ds W1 => CallX T ds W1 q xE) : XN K Z (tCall (pxfN K mg T) [] E tl) ρ W q := fun σ C B H G p En Q k => h σ C B H G p En _ fun ds vs W1 C1 H1 G1 hT n1 dx => by
  rw [List.append_nil]
  exact callN_at (p.next n1) hE dx hT fun d v W' C' H' G' hq n2 dv => k d v W' C' H' G' hq (n1.trans n2) (by rw [ov_ov n2.cc] at dv; exact rN_up n1.dm dv)
in #guard_msgs in open Nat
/-- f(..), f a def that changes nothing -/
theorem xe_callP {T : List D → (D → Prop) → Prop} {E' : XK} (h : XA K Z tl ρ W fun ds W1 => T ds fun d => q d W1) : XE K Z (tCall (pfn K T) [] E' tl) ρ W q := fun σ C B H G p En Q k => h σ C B H G p En _ fun ds vs W1 C1 H1 G1 hT n1 dx => by
  have p1 := p.next n1
  refine ⟨ov B C1, ds, _, p1.bh, by rw [List.append_nil]; exact dx, hT, fun d v H' hq s2 dv => ?_⟩
  have x2 := p1.same s2
  refine k d v W1 _ H' G1 hq (n1.trans x2) ?_
  show Dv _ _ _ _
  rw [← ov_ov x2.cc, ov_ext p1.cb p1.bh]
  exact dv
in #guard_msgs in open Nat
theorem xn_callP {T : List D → (D → Prop) → Prop} {E' : XK} (h : XA K Z tl ρ W fun ds W1 => T ds fun d => q d W1) : XN K Z (tCall (pfnN K T) [] E' tl) ρ W q := fun σ C B H G p En Q k => h σ C B H G p En _ fun ds vs W1 C1 H1 G1 hT n1 dx => by
  have p1 := p.next n1
  refine ⟨ov B C1, ds, _, p1.bh, by rw [List.append_nil]; exact dx, hT, fun d l H' hq np s2 dv => ?_⟩
  have x2 := p1.new s2 np
  refine k d _ W1 _ H' G1 hq (n1.trans x2) (rN_up n1.dm ?_)
  rw [← ov_ov x2.cc]
  exact p1.newR s2 np dv
in #guard_msgs in open Nat
/-- .. that may refuse -/
theorem eok_of {T : List D → (D → Prop) → (Str → List (Str × D) → Prop) → Prop} {q' : D → Prop} {x' : Str → List (Str × D) → Prop} (p : Pr K Z W C B H G) (hE : EOkW K Z mg E xE) (hx : ∀ c fs, x' c fs → xE c fs W) : EOkX K mg C H E x' := fun c Cl dd vfs fs H' hm hxx s nd hd hF _ => by
  have x2 := p.nx.trans (p.same s)
  have nd0 : Z.H0 dd = none := by
    cases e : Z.H0 dd with
    | none => rfl
    | some o => exact absurd nd (p.nx.dm dd (ne_none e))
  exact hE c Cl dd vfs fs W _ H' G hm (hx c fs hxx) x2 (p.lk.next (p.same s)) nd0 (by rw [ext_new nd]; exact hd) (hF.mono rem_same)
in #guard_msgs in open Nat
end
/-! ### cells and instances -/
/-- the list or dict at p -/
def cel (K : PySem.W.Frag) (p : Addr) (d : D) : Res where
  P := fun B H fp => fp = [p] ∧ Cell K B H p d
  frame := fun {B H B' H' fp} h s k => ⟨h.1, h.2.mono s (k p (by rw [h.1]; exact List.mem_cons_self))⟩
/-- the instance at a of the class at Cl -/
def obj (K : PySem.W.Frag) (a Cl : Addr) (fs : List (Str × D)) : Res where
  P := fun B H fp => ∃ dx vfs, fp = [a, dx] ∧ H a = some (.ins Cl dx vfs) ∧ H dx = some (.own a) ∧ DvF K B vfs fs
  frame := fun {B H B' H' fp} ⟨dx, vfs, e, h1, h2, h3⟩ s k => ⟨dx, vfs, e, (k a (by rw [e]; exact List.mem_cons_self)).trans h1, (k dx (by rw [e]; exact List.mem_cons_of_mem _ List.mem_cons_self)).trans h2, h3.mono s⟩
section
variable {C C' H H' : Hp} {G : List Addr} {W : List Res} {r r' : Res} {i : Nat}
/-- one of what is held: it, and how another comes in its place -/
theorem WR.get : ∀ {W : List Res} {G : List Addr}, WR C H W G → ∀ {i : Nat} {r : Res}, W[i]? = some r → ∃ fp, r.P C H fp ∧ (∀ a ∈ fp, a ∈ G ∧ C a = none ∧ H a ≠ none) ∧
    ∀ (r' : Res) (C' H' : Hp), Same C C' → (∀ a ∈ G, C' a = none) → (∀ a ∈ G, a ∉ fp → H' a = H a) → (∀ a ∈ fp, Hard (H' a)) → r'.P C' H' fp → WR C' H' (W.set i r') G
  | _, _, .nil, i, r, h => by simp at h
  | _, _, .cons (r := r0) (W := W) (fp := fp) (G := G0) hp d n t, 0, r, h => by
    simp at h
    subst h
    refine ⟨fp, hp, fun a m => ⟨List.mem_append_left _ m, (n a m).1, (n a m).2.1⟩, fun r' C' H' s c1 c2 c3 hp' => ?_⟩
    refine .cons hp' d (fun a m => ⟨c1 a (List.mem_append_left _ m), c3 a m⟩) (t.mono s (fun a m => c1 a (List.mem_append_right _ m)) fun a m => c2 a (List.mem_append_right _ m) fun z => d a z m)
  | _, _, .cons (r := r0) (W := W) (fp := fp) (G := G0) hp d n t, i + 1, r, h => by
    obtain ⟨fp', h1, h2, h3⟩ := WR.get t (i := i) (r := r) (by simpa using h)
    refine ⟨fp', h1, fun a m => ⟨List.mem_append_right _ (h2 a m).1, (h2 a m).2⟩, fun r' C' H' s c1 c2 c3 hp' => ?_⟩
    have off : ∀ a ∈ fp, a ∉ fp' := fun a m z => d a m (h2 a z).1
    refine .cons (Res.frame _ hp s fun a m => c2 a (List.mem_append_left _ m) (off a m)) d (fun a m => ⟨c1 a (List.mem_append_left _ m), ?_⟩) (h3 r' C' H' s (fun a m => c1 a (List.mem_append_right _ m)) (fun a m => c2 a (List.mem_append_right _ m)) c3 hp')
    rw [c2 a (List.mem_append_left _ m) (off a m)]
    exact (n a m).2
in #guard_msgs in open Nat
theorem WR.cel {K : PySem.W.Frag} {p : Addr} {d : D} (w : WR C H W G) (h : W[i]? = some (cel K p d)) : Cell K C H p d ∧ p ∈ G := by
  obtain ⟨fp, ⟨e, c⟩, h2, _⟩ := w.get h
  exact ⟨c, (h2 p (by rw [e]; exact List.mem_cons_self)).1⟩
in #guard_msgs in open Nat
theorem WR.obj {K : PySem.W.Frag} {a Cl : Addr} {fs : List (Str × D)} (w : WR C H W G) (h : W[i]? = some (obj K a Cl fs)) : ∃ dx vfs, H a = some (.ins Cl dx vfs) ∧ H dx = some (.own a) ∧ DvF K C vfs fs ∧ a ∈ G := by
  obtain ⟨fp, ⟨dx, vfs, e, h1, h2, h3⟩, h4, _⟩ := w.get h
  exact ⟨dx, vfs, h1, h2, h3, (h4 a (by rw [e]; exact List.mem_cons_self)).1⟩
in #guard_msgs in open Nat
/-- the cell at p is written -/
theorem Pr.put {Z : Zx} {B : Hp} {K : PySem.W.Frag} {p : Addr} {d d' : D} {o : HO} (pr : Pr K Z W C B H G) (h : W[i]? = some (cel K p d)) (c : Cell K C (upd H p o) p d') : Nx C H G C (upd H p o) (W.set i (cel K p d')) G := by
  obtain ⟨fp, ⟨e, c0⟩, h2, h3⟩ := pr.nx.res.get h
  have mp : p ∈ fp := by rw [e]; exact List.mem_cons_self
  have np : ∀ b o', C b = some o' → b ≠ p := fun b o' eb z => by rw [z, (h2 p mp).2.1] at eb; cases eb
  refine ⟨Same.refl _, fun b o' eb => by rw [upd_ne (np b o' eb)]; exact pr.ch b o' eb, fun b o' eb n => by rw [upd_ne fun (z : b = p) => n (z ▸ (h2 p mp).1)]; exact eb, fun b n => ?_, fun _ _ => rfl, fun _ m => .inl m, ?_, fun b n => ?_⟩
  · by_cases z : b = p
    · rw [z, upd_same]
      exact fun z => by cases z
    · rw [upd_ne z]
      exact n
  · refine h3 _ C _ (Same.refl _) (fun b m => (pr.nx.res.there b m).1) (fun b m n => upd_ne fun z => n (z ▸ mp)) (fun b m => ?_) ⟨e, c⟩
    rw [e] at m
    rw [List.mem_singleton.mp m]
    exact c.hard
  · by_cases z : b = p
    · rw [z]
      exact c.hard
    · rw [upd_ne z]
      exact n
in #guard_msgs in open Nat
/-- the instance's fields are written -/
theorem Pr.putI {Z : Zx} {B : Hp} {K : PySem.W.Frag} {a Cl dx : Addr} {fs fs' : List (Str × D)} {vfs vfs' : List (Str × V)} (pr : Pr K Z W C B H G) (h : W[i]? = some (obj K a Cl fs)) (ha : H a = some (.ins Cl dx vfs)) (c : DvF K C vfs' fs') : Nx C H G C (upd H a (.ins Cl dx vfs')) (W.set i (obj K a Cl fs')) G := by
  obtain ⟨fp, ⟨dx0, vfs0, e, c1, c2, c3⟩, h2, h3⟩ := pr.nx.res.get h
  rw [ha] at c1
  cases c1
  have mp : a ∈ fp := by rw [e]; exact List.mem_cons_self
  have np : ∀ b o', C b = some o' → b ≠ a := fun b o' eb z => by rw [z, (h2 a mp).2.1] at eb; cases eb
  have ndx : dx ≠ a := fun z => by rw [z, ha] at c2; cases c2
  refine ⟨Same.refl _, fun b o' eb => by rw [upd_ne (np b o' eb)]; exact pr.ch b o' eb, fun b o' eb n => by rw [upd_ne fun (z : b = a) => n (z ▸ (h2 a mp).1)]; exact eb, fun b n => ?_, fun _ _ => rfl, fun _ m => .inl m, ?_, fun b n => ?_⟩
  · by_cases z : b = a
    · rw [z, upd_same]
      exact fun z => by cases z
    · rw [upd_ne z]
      exact n
  · refine h3 _ C _ (Same.refl _) (fun b m => (pr.nx.res.there b m).1) (fun b m n => upd_ne fun z => n (z ▸ mp)) (fun b m => ?_) ⟨dx, vfs', e, upd_same, by rw [upd_ne ndx]; exact c2, c⟩
    by_cases z : b = a
    · rw [z, upd_same]
      exact ⟨(fun z => by cases z), (fun _ z => by cases z)⟩
    · rw [upd_ne z]
      exact pr.nx.res.hard b (h2 b m).1
  · by_cases z : b = a
    · rw [z, upd_same]
      exact ⟨(fun z => by cases z), (fun _ z => by cases z)⟩
    · rw [upd_ne z]
      exact n
in #guard_msgs in open Nat
end
/-! ### fields, methods, new instances -/
def lookF (f : Str) (fs : List (Str × D)) : Option D := fs.lookup f
/-- the field e.f, the class known -/
def tFldC (Cl : Addr) (ta : TE) (f : Str) : TE := fun σ H Q => ta σ H fun x H1 => ∃ a dx fs v, x = .ref a ∧ H1 a = some (.ins Cl dx fs) ∧ fs.lookup f = some v ∧ Q v H1
def sFldC (Cl : Addr) (ta tv : TE) (f : Str) : TS := fun D σ H => tv σ H fun y H1 => ta σ H1 fun x H2 => ∃ a dx fs, x = .ref a ∧ H2 a = some (.ins Cl dx fs) ∧ fs.length < 1000 ∧ D.nx σ (upd H2 a (.ins Cl dx (putF f y fs)))
def sFldAugC (Cl : Addr) (ta tv : TE) (rd : V → V → Hp → VK → Prop) (f : Str) : TS := fun D σ H => ta σ H fun x H1 => ∃ a dx fs v, x = .ref a ∧ H1 a = some (.ins Cl dx fs) ∧ fs.lookup f = some v ∧
  tv σ H1 fun y H2 => rd v y H2 fun z H3 => ∃ dx' fs', H3 a = some (.ins Cl dx' fs') ∧ fs'.length < 1000 ∧ D.nx σ (upd H3 a (.ins Cl dx' (putF f z fs')))
section
variable {X : Cx} {o e value : Expr} {f : Str} {pos pos' tpos : Pos} {ta tv : TE} {Cl : Addr} {K : PySem.W.Frag}
theorem pe_fldC (hK : X.K = K) (c : Cls K Cl) (n : NoAttr K Cl f) (he : PE X e ta) (hb : attributeBase e f X.env (eval e X.env) = eval e X.env) : PE X (.Attribute e f pos) (tFldC Cl ta f) := by
  subst hK
  refine ⟨fun pins s σ H Q I h => ?_⟩
  refine attr_of hb (thn (he.run pins s σ H _ I h) fun ou s1 ⟨ox, H1, I1, orx, oa, dx, fs, v, oex, ea, l, q⟩ => ?_)
  subst oex
  obtain rfl : ou = Value.ref oa := orx
  exact getattr_ok I1 ea c n l fun u' s2 I2 ru => ⟨v, H1, I2, ru, q⟩
in #guard_msgs in open Nat
theorem ps_fldC (hK : X.K = K) (c : Cls K Cl) (n : NoAttr K Cl f) (ho : PE X o ta) (hv : PE X value tv) (hs : swapsWith value (some (.Attribute o f pos')) pos.line X.env = pure false) : PS X (.Assign [.Attribute o f pos'] value pos) (sFldC Cl ta tv f) := by
  subst hK
  refine ⟨fun pins s σ H D I h => ?_⟩
  refine plainObj_wpAny_Assign_Attribute (thn (hv.run pins s σ H _ I h) fun u s1 ⟨y, H1, I1, ry, hq⟩ => thn (ho.run pins s1 σ H1 _ I1 hq) fun ou s2 ⟨ox, H2, I2, orx, oa, dx, fs, oex, ea, l, q2⟩ => ?_) hs
  subst oex
  obtain rfl : ou = Value.ref oa := orx
  exact setattr_ok I2 ea c n l ry fun s3 I3 => ⟨σ, _, I3, q2⟩
in #guard_msgs in open Nat
theorem ps_fldAugC {op : Operator} {rd : V → V → Hp → VK → Prop} (hK : X.K = K) (c : Cls K Cl) (n : NoAttr K Cl f) (ho : PE X o ta) (hv : PE X value tv) (hop : InOp X op rd) : PS X (.AugAssign (.Attribute o f tpos) op value pos) (sFldAugC Cl ta tv rd f) := by
  subst hK
  refine ⟨fun pins s σ H D I h => ?_⟩
  refine wpAny_AugAssign_AttributeAny (thn (ho.run pins s σ H _ I h) fun ou s1 ⟨ox, H1, I1, orx, oa, dx, fs, v, oex, ea, l, hq⟩ => ?_)
  subst oex
  obtain rfl : ou = Value.ref oa := orx
  refine getattr_ok I1 ea c n l fun u s2 I2 ru => thn (hv.run pins s2 σ H1 _ I2 hq) fun w3 s3 ⟨y, H2, I3, ry, q3⟩ => thn (hop pins s3 σ H2 v y u w3 _ I3 ru ry q3) fun w4 s4 ⟨z, H3, I4, rz, dx', fs', ea', l', q4⟩ => ?_
  exact setattr_ok I4 ea' c n l' rz fun s5 I5 => ⟨σ, _, I5, q4⟩
in #guard_msgs in open Nat
end
/-- an instance is told by a resource: its class, its fields' names -/
def IsIns (r : Res) (a Cl : Addr) (ns : List Str) : Prop := ∀ {C H : Hp} {fp : List Addr}, r.P C H fp → ∃ dx vfs, H a = some (.ins Cl dx vfs) ∧ vfs.map (·.1) = ns
theorem DvF.names {K : PySem.W.Frag} {B : Hp} : ∀ {vfs : List (Str × V)} {fs : List (Str × D)}, DvF K B vfs fs → vfs.map (·.1) = fs.map (·.1)
  | _, _, .nil => rfl
  | _, _, .cons _ t => by rw [List.map_cons, List.map_cons, DvF.names t]
in #guard_msgs in open Nat
theorem DvF.len {K : PySem.W.Frag} {B : Hp} {vfs : List (Str × V)} {fs : List (Str × D)} (h : DvF K B vfs fs) : vfs.length = fs.length := by
  have := congrArg List.length h.names
  rwa [List.length_map, List.length_map] at this
in #guard_msgs in open Nat
theorem isIns_obj {K : PySem.W.Frag} {a Cl : Addr} {fs : List (Str × D)} : IsIns (obj K a Cl fs) a Cl (fs.map (·.1)) := fun ⟨dx, vfs, _, h1, _, h3⟩ => ⟨dx, vfs, h1, h3.names⟩
in #guard_msgs in open Nat
theorem look_no {α : Type} {m : Str} : ∀ {fs : List (Str × α)}, m ∉ fs.map (·.1) → fs.lookup m = none
  | [], _ => rfl
  | (f, y) :: fs, h => by
    rw [look_put, if_neg fun z => h (by rw [z, List.map_cons]; exact List.mem_cons_self)]
    exact look_no fun z => h (by rw [List.map_cons]; exact List.mem_cons_of_mem _ z)
in #guard_msgs in open Nat
def putD (f : Str) (v : D) : List (Str × D) → List (Str × D)
  | [] => [(f, v)]
  | (g, x) :: r => if g = f then (g, v) :: r else (g, x) :: putD f v r
theorem DvF.put {K : PySem.W.Frag} {B : Hp} {f : Str} {v : V} {d : D} (dv : Dv K B v d) : ∀ {vfs : List (Str × V)} {fs : List (Str × D)}, DvF K B vfs fs → DvF K B (putF f v vfs) (putD f d fs)
  | _, _, .nil => .cons dv .nil
  | (g, x) :: vfs, (_, y) :: fs, .cons h t => by
    show DvF K B (if g = f then (g, v) :: vfs else (g, x) :: putF f v vfs) (if g = f then (g, d) :: fs else (g, y) :: putD f d fs)
    by_cases c : g = f
    · rw [if_pos c, if_pos c]
      exact .cons dv t
    · rw [if_neg c, if_neg c]
      exact .cons h (DvF.put dv t)
in #guard_msgs in open Nat
section
variable {K : PySem.W.Frag} {Z : Zx} {ρ : List Sl} {W W1 Wc Wf : List Res} {C B H : Hp} {G : List Addr} {te ta : TE} {tl : TA} {q : D → List Res → Prop} {mg : Str → Option Value} {E : XK} {x xE : XX} {T : TX} {ds : List D} {vs : List V} {Cl : Addr} {f m : Str}
theorem xe_fld (h : XE K Z ta ρ W fun d W1 => ∃ a, d = .op (.ref a) ∧ ∃ (i : Nat) (fs : List (Str × D)) (d' : D), W1[i]? = some (obj K a Cl fs) ∧ fs.lookup f = some d' ∧ q d' W1) : XE K Z (tFldC Cl ta f) ρ W q := fun σ C B H G p E Q k => h σ C B H G p E _ fun d v W1 C1 H1 G1 ⟨a, e, i, fs, d', hi, hl, hq⟩ n1 dv => by
  subst e
  cases dv
  have p1 := p.next n1
  obtain ⟨dx, vfs, h1, h2, h3, _⟩ := n1.res.obj hi
  obtain ⟨w, l, dw⟩ := h3.look hl
  exact ⟨a, dx, vfs, w, rfl, h1, l, k d' w W1 C1 H1 G1 hq n1 (dw.mono p1.cb)⟩
in #guard_msgs in open Nat
/-- o.m(..) -/
theorem xe_meth (hE : EOkW K Z mg E xE) (h : XE K Z ta ρ W fun d W1 => ∃ a, d = .op (.ref a) ∧ (∃ (i : Nat) (r : Res) (ns : List Str), W1[i]? = some r ∧ IsIns r a Cl ns ∧ m ∉ ns) ∧ XA K Z tl ρ W1 fun ds W2 => CallX T (d :: ds) W2 q xE) : XE K Z (tMeth Cl m (pxf K mg T) [] E ta tl) ρ W q := fun σ C B H G p En Q k => h σ C B H G p En _ fun d v W1 C1 H1 G1 ⟨a, e, ⟨i, r, ns, hi, hI, hm⟩, hA⟩ n1 dv => by
  subst e
  cases dv
  have p1 := p.next n1
  obtain ⟨fp, hP, _⟩ := n1.res.get hi
  obtain ⟨dx, vfs, h1, h2⟩ := hI hP
  refine ⟨a, dx, vfs, rfl, h1, look_no (by rw [h2]; exact hm), hA σ C1 _ H1 G1 p1 (En.mono ov_l) _ fun ds vs W2 C2 H2 G2 hT n2 dx => ?_⟩
  have n12 := n1.trans n2
  have dx' : DvL K (ov B C2) vs ds := by
    have dx0 : DvL K (ov (ov B C1) C2) vs ds := dx
    rw [ov_ov n2.cc] at dx0
    exact dx0
  rw [List.append_nil]
  exact call_at (p.next n12) hE (.cons (.op _) dx') hT fun d v W' C' H' G' hq n3 dv => k d v W' C' H' G' hq (n12.trans n3) (by rw [ov_ov n3.cc] at dv; exact dv)
in #guard_msgs in open Nat
theorem xn_meth (hE : EOkW K Z mg E xE) (h : XE K Z ta ρ W fun d W1 => ∃ a, d = .op (.ref a) ∧ (∃ (i : Nat) (r : Res) (ns : List Str), W1[i]? = some r ∧ IsIns r a Cl ns ∧ m ∉ ns) ∧ XA K Z tl ρ W1 fun ds W2 => CallX T (d :: ds) W2 q xE) : XN K Z (tMeth Cl m (pxfN K mg T) [] E ta tl) ρ W q := fun σ C B H G p En Q k => h σ C B H G p En _ fun d v W1 C1 H1 G1 ⟨a, e, ⟨i, r, ns, hi, hI, hm⟩, hA⟩ n1 dv => by
  subst e
  cases dv
  have p1 := p.next n1
  obtain ⟨fp, hP, _⟩ := n1.res.get hi
  obtain ⟨dx, vfs, h1, h2⟩ := hI hP
  refine ⟨a, dx, vfs, rfl, h1, look_no (by rw [h2]; exact hm), hA σ C1 _ H1 G1 p1 (En.mono ov_l) _ fun ds vs W2 C2 H2 G2 hT n2 dx => ?_⟩
  have n12 := n1.trans n2
  have dx' : DvL K (ov B C2) vs ds := by
    have dx0 : DvL K (ov (ov B C1) C2) vs ds := dx
    rw [ov_ov n2.cc] at dx0
    exact dx0
  rw [List.append_nil]
  exact callN_at (p.next n12) hE (.cons (.op _) dx') hT fun d v W' C' H' G' hq n3 dv => k d v W' C' H' G' hq (n12.trans n3) (by rw [ov_ov n3.cc] at dv; exact rN_up n12.dm dv)
in #guard_msgs in open Nat
/-- a new instance beside what is held -/
theorem Pr.made (p : Pr K Z W C B H G) {a dx : Addr} (na : H a = none) (nd : H dx = none) (ne : dx ≠ a) : Nx C H G C (upd (upd H dx (.own a)) a (.ins Cl dx [])) ([obj K a Cl []] ++ W) ([a, dx] ++ G) := by
  have s : Same H (upd (upd H dx (.own a)) a (.ins Cl dx [])) := fun b o e => by rw [upd_ne (ne_of_none e na), upd_ne (ne_of_none e nd)]; exact e
  have ca : C a = none := p.ch.free na
  have cd : C dx = none := p.ch.free nd
  have hd : upd (upd H dx (.own a)) a (.ins Cl dx []) dx = some (.own a) := by rw [upd_ne ne, upd_same]
  refine ⟨Same.refl _, p.ch.trans s, fun b o e _ => s b o e, fun b n z => n (s.free z), fun _ _ => rfl, fun b m => ?_, ?_, fun b n => hard_up s n⟩
  · rcases List.mem_append.mp m with m | m
    · rcases List.mem_cons.mp m with rfl | m
      · exact .inr na
      · rw [List.mem_singleton.mp m]
        exact .inr nd
    · exact .inl m
  · have r2 := p.nx.res.mono (Same.refl C) (fun b m => (p.nx.res.there b m).1) fun b m => by
      cases e : H b with
      | none => exact absurd e (p.nx.res.there b m).2
      | some o => exact s b o e
    refine WR.cons (r := obj K a Cl []) ⟨dx, [], rfl, upd_same, hd, .nil⟩ (fun b m z => ?_) (fun b m => ?_) r2
    · rcases List.mem_cons.mp m with rfl | m
      · exact (p.nx.res.there b z).2 na
      · rw [List.mem_singleton.mp m] at z
        exact (p.nx.res.there dx z).2 nd
    · rcases List.mem_cons.mp m with rfl | m
      · exact ⟨ca, by rw [upd_same]; exact ⟨(fun z => by cases z), (fun _ z => by cases z)⟩⟩
      · rw [List.mem_singleton.mp m]
        exact ⟨cd, by rw [hd]; exact ⟨(fun z => by cases z), (fun _ z => by cases z)⟩⟩
in #guard_msgs in open Nat
/-- C(..): a new instance, then its __init__ -/
theorem xe_make (hE : EOkW K Z mg E xE) (h : XA K Z tl ρ W fun ds W1 => ∀ a, CallX T (.op (.ref a) :: ds) ([obj K a Cl []] ++ W1) (fun d W2 => d = .non ∧ q (.op (.ref a)) W2) xE) : XE K Z (tMake Cl (pxf K mg T) [] E tl) ρ W q := fun σ C B H G p En Q k => h σ C B H G p En _ fun ds vs W1 C1 H1 G1 hT n1 dx a dd na nd ne => by
  have p1 := p.next n1
  have n2 := p1.made (K := K) (Cl := Cl) na nd ne
  have p2 := p1.next n2
  have dx' : DvL K (ov (ov B C1) C1) vs ds := by
    have dx0 : DvL K (ov B C1) vs ds := dx
    rw [ov_ov (Same.refl _)]
    exact dx0
  rw [List.append_nil]
  refine call_at p2 hE (.cons (.op _) dx') (hT a) fun d v W' C' H' G' ⟨e, hq⟩ n3 dv => ?_
  subst e
  cases dv
  exact ⟨rfl, k _ _ W' C' H' G' hq (n1.trans (n2.trans n3)) (Dv.op _)⟩
in #guard_msgs in open Nat
end
end Tg

/-! The engine: statements, with what is held beside. -/
namespace Tg
open PySem PySem.Spec L2
/-! ### slots, as they are seen -/
/-- what is durable; what is durable or lent; all -/
def vd1 : Sl → Sl
  | .bo _ => .un
  | s => s
def vb1 : Sl → Sl
  | .bo d => .sh d
  | .own _ => .un
  | .ow2 _ => .un
  | s => s
def vf1 : Sl → Sl
  | .bo d => .sh d
  | .own d => .sh d
  | .ow2 dss => .sh (.lst (dss.map .lst))
  | s => s
def vd (ρ : List Sl) : List Sl := ρ.map vd1
def vb (ρ : List Sl) : List Sl := ρ.map vb1
def vf (ρ : List Sl) : List Sl := ρ.map vf1
theorem vd_set {ρ : List Sl} {i : Nat} {s : Sl} : vd (ρ.set i s) = (vd ρ).set i (vd1 s) := List.map_set
structure Zok (Z : Zx) : Prop where
  ab : Same Z.Ba Z.H0
  gb : ∀ a ∈ Z.G0, Z.Ba a = none
structure Rx (K : PySem.W.Frag) (Z : Zx) (C H : Hp) (σ : L2.St) (ρ : List Sl) (W : List Res) (A G : List Addr) : Prop where
  zk : Zok Z
  nx : Nx Z.C0 Z.H0 Z.G0 C H W G
  env : EnvR K C H σ (vd ρ) A
  bo : ∀ (i : Nat) (d : D), ρ[i]? = some (.bo d) → ∃ v, σ[i]? = some (some v) ∧ Dv K (ov Z.Ba C) v d
  nd : ∀ a ∈ A, a ∉ G
  na : ∀ a ∈ A, Z.H0 a = none
  lk : LkOk K Z C H G
  la : ∀ p ∈ Z.Lk, p.1 ∉ A
section
variable {K : PySem.W.Frag} {Z : Zx} {C C' H H' F : Hp} {σ : L2.St} {ρ : List Sl} {W W' : List Res} {A A' G G' : List Addr} {i j : Nat} {d : D} {v : V}
theorem Rx.bh (r : Rx K Z C H σ ρ W A G) : Same Z.Ba H := fun b o e => r.nx.fr b o (r.zk.ab b o e) fun m => by
  rw [r.zk.gb b m] at e
  cases e
theorem Rx.len (r : Rx K Z C H σ ρ W A G) : ρ.length = σ.length := by
  have := r.env.len
  rwa [vd, List.length_map] at this
/-- the three ways to see -/
theorem Rx.pd (r : Rx K Z C H σ ρ W A G) : Pr K Z W C C H G := ⟨r.lk, r.nx, Same.refl _, r.nx.ch, fun a m => (r.nx.res.there a m).1⟩
theorem Rx.pb (r : Rx K Z C H σ ρ W A G) : Pr K Z W C (ov Z.Ba C) H G := ⟨r.lk, r.nx, ov_c r.bh r.nx.ch, ov_r r.bh r.nx.ch, fun a m => by
  have b0 : Z.Ba a = none := (r.nx.gg a m).elim (r.zk.gb a) fun z => r.zk.ab.free z
  rw [ov_new b0]
  exact (r.nx.res.there a m).1⟩
in #guard_msgs in open Nat
def fzX (Z : Zx) (C H : Hp) (A : List Addr) : Hp := fun b => if b ∈ A then H b else ov Z.Ba C b
theorem Rx.ovA (r : Rx K Z C H σ ρ W A G) {a : Addr} (m : a ∈ A) : ov Z.Ba C a = none := by
  rw [ov_new (r.zk.ab.free (r.na a m))]
  exact (r.env.there a m).1
theorem Rx.fz_l (r : Rx K Z C H σ ρ W A G) : Same (ov Z.Ba C) (fzX Z C H A) := fun b o e => (if_neg fun m => by rw [r.ovA m] at e; cases e).trans e
theorem Rx.pf (r : Rx K Z C H σ ρ W A G) : Pr K Z W C (fzX Z C H A) H G := ⟨r.lk, r.nx, r.pb.cb.trans r.fz_l, fun b o e => by
  by_cases c : b ∈ A
  · have e' : (if b ∈ A then H b else ov Z.Ba C b) = some o := e
    rw [if_pos c] at e'
    exact e'
  · have e' : (if b ∈ A then H b else ov Z.Ba C b) = some o := e
    rw [if_neg c] at e'
    exact r.pb.bh b o e', fun a m => (if_neg fun z => r.nd a z m).trans (r.pb.gB a m)⟩
in #guard_msgs in open Nat
theorem Rx.ed (r : Rx K Z C H σ ρ W A G) : EnvS K C σ (vd ρ) := r.env.envS
theorem vd_at {s : Sl} (h : ρ[i]? = some s) : (vd ρ)[i]? = some (vd1 s) := by rw [vd, List.getElem?_map, h]; rfl
theorem Rx.eb (r : Rx K Z C H σ ρ W A G) : EnvS K (ov Z.Ba C) σ (vb ρ) := ⟨by rw [vb, List.length_map]; exact r.len, fun i d h => by
  rw [vb, List.getElem?_map] at h
  cases e : ρ[i]? with
  | none => rw [e] at h; cases h
  | some s =>
    rw [e] at h
    cases s with
    | sh d0 =>
      cases h
      obtain ⟨v, h1, h2⟩ := r.env.get (vd_at e)
      exact ⟨v, h1, h2.mono r.pb.cb⟩
    | bo d0 =>
      cases h
      exact r.bo i _ e
    | un => cases h
    | own _ => cases h
    | ow2 _ => cases h⟩
in #guard_msgs in open Nat
theorem Rx.ef (r : Rx K Z C H σ ρ W A G) : EnvS K (fzX Z C H A) σ (vf ρ) := ⟨by rw [vf, List.length_map]; exact r.len, fun i d h => by
  have E := r.env.fzS (B' := fzX Z C H A) (r.pb.cb.trans r.fz_l) fun a m => if_pos m
  rw [vf, List.getElem?_map] at h
  cases e : ρ[i]? with
  | none => rw [e] at h; cases h
  | some s =>
    rw [e] at h
    cases s with
    | sh d0 =>
      cases h
      exact E.get (i := i) (by rw [Tg.fz, List.getElem?_map, vd_at e]; rfl)
    | bo d0 =>
      cases h
      obtain ⟨v, h1, h2⟩ := r.bo i _ e
      exact ⟨v, h1, h2.mono r.fz_l⟩
    | un => cases h
    | own d0 =>
      cases h
      exact E.get (i := i) (by rw [Tg.fz, List.getElem?_map, vd_at e]; rfl)
    | ow2 d0 =>
      cases h
      exact E.get (i := i) (by rw [Tg.fz, List.getElem?_map, vd_at e]; rfl)⟩
in #guard_msgs in open Nat
/-- behind an expression -/
theorem Rx.next (r : Rx K Z C H σ ρ W A G) (x : Nx C H G C' H' W' G') : Rx K Z C' H' σ ρ W' A G' where
  zk := r.zk
  nx := r.nx.trans x
  env := r.env.mono x.cc (fun a m => by rw [x.od a (r.env.hard a m)]; exact (r.env.there a m).1) fun a m => x.at (r.env.there a m).2 (r.nd a m)
  bo := fun i d h => by
    obtain ⟨v, h1, h2⟩ := r.bo i d h
    exact ⟨v, h1, h2.mono (ov_mono x.cc)⟩
  nd := fun a m z => (x.gg a z).elim (r.nd a m) (r.env.there a m).2
  na := r.na
  lk := r.lk.next x
  la := r.la
in #guard_msgs in open Nat
theorem Rx.lkA (r : Rx K Z C H σ ρ W A G) {A' : List Addr} (h : ∀ a ∈ A', a ∈ A) : ∀ p ∈ Z.Lk, p.1 ∉ A' := fun p m z => r.la p m (h _ z)
theorem Rx.bo_set (r : Rx K Z C H σ ρ W A G) {s : Sl} {o : Option V} (i : Nat) (hs : ∀ d, s = .bo d → i < ρ.length → ∃ v, o = some v ∧ Dv K (ov Z.Ba C) v d) : ∀ (j : Nat) (d : D), (ρ.set i s)[j]? = some (.bo d) → ∃ v, (σ.set i o)[j]? = some (some v) ∧ Dv K (ov Z.Ba C) v d := fun j d h => by
  by_cases c : i = j
  · subst c
    have hl : i < ρ.length := by
      have := (List.getElem?_eq_some_iff.mp h).1
      rwa [List.length_set] at this
    rw [List.getElem?_set_self hl] at h
    obtain ⟨v, e, dv⟩ := hs d (Option.some.inj h) hl
    refine ⟨v, ?_, dv⟩
    rw [List.getElem?_set_self (by rw [← r.len]; exact hl), e]
  · rw [List.getElem?_set_ne c] at h
    rw [List.getElem?_set_ne c]
    exact r.bo j d h
in #guard_msgs in open Nat
theorem Rx.setSh (r : Rx K Z C H σ ρ W A G) (q : Dv K C v d) (i : Nat) : ∃ A', Rx K Z C H (σ.set i (some v)) (ρ.set i (.sh d)) W A' G := by
  obtain ⟨A', h1, h2⟩ := r.env.setSh q i
  exact ⟨A', r.zk, r.nx, by rw [vd_set]; exact h2, r.bo_set i (fun _ z => by cases z), fun a m => r.nd a (h1 a m), fun a m => r.na a (h1 a m), r.lk, r.lkA h1⟩
in #guard_msgs in open Nat
theorem EnvR.setAny {K : PySem.W.Frag} {B H : Hp} {σ : L2.St} {ρ : List Sl} {A : List Addr} (h : EnvR K B H σ ρ A) (v : V) (i : Nat) : ∃ A', (∀ a ∈ A', a ∈ A) ∧ EnvR K B H (σ.set i (some v)) (ρ.set i .un) A' := by
  obtain ⟨A1, h1, h2⟩ := h.setSh (Dv.op v) i
  obtain ⟨A2, h3, h4⟩ := h2.setUn i
  rw [List.set_set] at h4
  exact ⟨A2, fun a m => h1 a (h3 a m), h4⟩
in #guard_msgs in open Nat
theorem Rx.setBo (r : Rx K Z C H σ ρ W A G) (q : Dv K (ov Z.Ba C) v d) (i : Nat) : ∃ A', Rx K Z C H (σ.set i (some v)) (ρ.set i (.bo d)) W A' G := by
  obtain ⟨A', h1, h2⟩ := r.env.setAny v i
  exact ⟨A', r.zk, r.nx, by rw [vd_set]; exact h2, r.bo_set i (fun d' z _ => by cases z; exact ⟨v, rfl, q⟩), fun a m => r.nd a (h1 a m), fun a m => r.na a (h1 a m), r.lk, r.lkA h1⟩
in #guard_msgs in open Nat
theorem Rx.setUn (r : Rx K Z C H σ ρ W A G) (v : V) (i : Nat) : ∃ A', Rx K Z C H (σ.set i (some v)) (ρ.set i .un) W A' G := by
  obtain ⟨A', h1, h2⟩ := r.env.setAny v i
  exact ⟨A', r.zk, r.nx, by rw [vd_set]; exact h2, r.bo_set i (fun d' z => by cases z), fun a m => r.nd a (h1 a m), fun a m => r.na a (h1 a m), r.lk, r.lkA h1⟩
in #guard_msgs in open Nat
theorem Rx.setNone (r : Rx K Z C H σ ρ W A G) (i : Nat) : ∃ A', Rx K Z C H (σ.set i none) (ρ.set i .un) W A' G := by
  obtain ⟨A', h1, h2⟩ := r.env.setNone i
  exact ⟨A', r.zk, r.nx, by rw [vd_set]; exact h2, r.bo_set i (fun d' z => by cases z), fun a m => r.nd a (h1 a m), fun a m => r.na a (h1 a m), r.lk, r.lkA h1⟩
in #guard_msgs in open Nat
/-- a new object becomes a slot's own -/
theorem Rx.setOwn {l : Addr} (r : Rx K Z C H σ ρ W A G) (h0 : Z.H0 l = none) (cl : C l = none) (nA : l ∉ A) (nG : l ∉ G) (hk : ∀ p ∈ Z.Lk, p.1 ≠ l) (c : Cell K C H l d) (i : Nat) : ∃ A', Rx K Z C H (σ.set i (some (.ref l))) (ρ.set i (.own d)) W A' G := by
  obtain ⟨A', h1, h2⟩ := r.env.setOwn cl c nA i
  exact ⟨A', r.zk, r.nx, by rw [vd_set]; exact h2, r.bo_set i (fun d' z => by cases z), fun a m => (h1 a m).elim (fun z => z ▸ nG) (r.nd a), fun a m => (h1 a m).elim (fun z => z ▸ h0) (r.na a), r.lk, fun p m z => (h1 _ z).elim (fun e => hk p m e) (r.la p m)⟩
in #guard_msgs in open Nat
theorem Rx.lkN (r : Rx K Z C H σ ρ W A G) {l : Addr} (nl : H l = none) : ∀ p ∈ Z.Lk, p.1 ≠ l := fun p m z => by
  obtain ⟨k1, _⟩ := r.lk p m
  rw [z, nl] at k1
  cases k1
in #guard_msgs in open Nat
theorem Rx.h0 (r : Rx K Z C H σ ρ W A G) {l : Addr} (h : H l = none) : Z.H0 l = none := by
  cases e : Z.H0 l with
  | none => rfl
  | some o => exact absurd h (r.nx.dm l (ne_none e))
in #guard_msgs in open Nat
theorem cell_flat {K : PySem.W.Frag} {B B' H : Hp} {p : Addr} (h : Cell K B H p d) (s : flatD d = true) : Cell K B' H p d := by
  cases d <;> first | exact False.elim h | skip
  · obtain ⟨vs, h1, h2⟩ := h
    exact ⟨vs, h1, dvl_scal h2 s⟩
  · obtain ⟨ks, h1, h2⟩ := h
    cases h2 with
    | nil => exact ⟨[], h1, .nil⟩
    | cons _ _ => cases s
  · cases s
in #guard_msgs in open Nat
/-- the cell of an own slot changes -/
theorem Rx.mut {d' : D} {a : Addr} {o : HO} (r : Rx K Z C H σ ρ W A G) (h : ρ[i]? = some (.own d)) (hs : σ[i]? = some (some (.ref a))) (ha : a ∈ A) (c : Cell K C (upd H a o) a d') : Rx K Z C (upd H a o) σ (ρ.set i (.own d')) W A G := by
  have nb : ∀ b o', C b = some o' → b ≠ a := fun b o' e z => by rw [z, (r.env.there a ha).1] at e; cases e
  have ng : ∀ b ∈ G, b ≠ a := fun b m z => r.nd a ha (z ▸ m)
  have n0 : ∀ b o', Z.H0 b = some o' → b ≠ a := fun b o' e z => by rw [z, r.na a ha] at e; cases e
  refine ⟨r.zk, ⟨r.nx.cc, fun b o' e => by rw [upd_ne (nb b o' e)]; exact r.nx.ch b o' e, fun b o' e n => by rw [upd_ne (n0 b o' e)]; exact r.nx.fr b o' e n, fun b n => ?_, r.nx.od, r.nx.gg, r.nx.res.mono (Same.refl _) (fun b m => (r.nx.res.there b m).1) (fun b m => upd_ne (ng b m)), fun b n => ?_⟩, ?_, ?_, r.nd, r.na, fun p m => by
    obtain ⟨k1, k2, k3, k4⟩ := r.lk p m
    have e : upd H a o p.1 = H p.1 := upd_ne fun (z : p.1 = a) => r.la p m (z ▸ ha)
    exact ⟨e.trans k1, k2, k3, k4.mono (Same.refl _) e⟩, r.la⟩
  · by_cases z : b = a
    · rw [z, upd_same]
      exact fun z => by cases z
    · rw [upd_ne z]
      exact r.nx.dm b n
  · by_cases z : b = a
    · rw [z]
      exact c.hard
    · rw [upd_ne z]
      exact r.nx.dh b n
  · rw [vd_set]
    exact r.env.mut (vd_at h) hs (fun b m n => upd_ne n) c
  · intro j e hj
    by_cases cj : i = j
    · subst cj
      have hl : i < ρ.length := (List.getElem?_eq_some_iff.mp h).1
      rw [List.getElem?_set_self hl] at hj
      cases hj
    · rw [List.getElem?_set_ne cj] at hj
      exact r.bo j e hj
in #guard_msgs in open Nat
theorem Rx.own (r : Rx K Z C H σ ρ W A G) (h : ρ[i]? = some (.own d)) : ∃ a, σ[i]? = some (some (.ref a)) ∧ a ∈ A ∧ C a = none ∧ Cell K C H a d := r.env.getOwn (vd_at h)
in #guard_msgs in open Nat
/-- an own slot becomes durable -/
theorem Rx.fz1 (r : Rx K Z C H σ ρ W A G) (h : ρ[i]? = some (.own d)) : ∃ C' A', Same C C' ∧ Rx K Z C' H σ (ρ.set i (.sh d)) W A' G := by
  obtain ⟨a, A', h1, h2, h3, h4⟩ := r.env.fz1 (vd_at h)
  have ca := (r.env.there a h2).1
  have s1 : Same C (fun b => if b = a then H a else C b) := fun b o e => (if_neg fun (z : b = a) => by rw [z, ca] at e; cases e).trans e
  have s2 : Same (fun b => if b = a then H a else C b) H := fun b o e => by
    by_cases c : b = a
    · have e' : (if b = a then H a else C b) = some o := e
      rw [if_pos c] at e'
      rw [c]
      exact e'
    · have e' : (if b = a then H a else C b) = some o := e
      rw [if_neg c] at e'
      exact r.nx.ch b o e'
  have off : ∀ b, b ≠ a → (fun b => if b = a then H a else C b) b = C b := fun b n => if_neg n
  refine ⟨_, A', s1, r.zk, ⟨r.nx.cc.trans s1, s2, r.nx.fr, r.nx.dm, fun b n => (off b fun z => n.1 (z ▸ r.na a h2)).trans (r.nx.od b n), r.nx.gg, r.nx.res.mono s1 (fun b m => (off b fun z => r.nd a h2 (z ▸ m)).trans (r.nx.res.there b m).1) (fun _ _ => rfl), r.nx.dh⟩, ?_, ?_, fun b m => r.nd b (h3 b m).1, fun b m => r.na b (h3 b m).1, fun p m => by
    obtain ⟨k1, k2, k3, k4⟩ := r.lk p m
    exact ⟨k1, k2, (off _ fun (z : p.1 = a) => r.la p m (z ▸ h2)).trans k3, k4.mono s1 rfl⟩, fun p m z => r.la p m (h3 _ z).1⟩
  · rw [vd_set]
    exact h4 _ s1 (if_pos rfl) fun b m => (off b (h3 b m).2).trans (r.env.there b (h3 b m).1).1
  · intro j e hj
    by_cases cj : i = j
    · subst cj
      have hl : i < ρ.length := (List.getElem?_eq_some_iff.mp h).1
      rw [List.getElem?_set_self hl] at hj
      cases hj
    · rw [List.getElem?_set_ne cj] at hj
      obtain ⟨v, h5, h6⟩ := r.bo j e hj
      exact ⟨v, h5, h6.mono (ov_mono s1)⟩
in #guard_msgs in open Nat
/-- all own slots durable: for a return -/
theorem Rx.fzAll (r : Rx K Z C H σ ρ W A G) : ∃ C', Same C C' ∧ ov Z.Ba C' = fzX Z C H A ∧ Nx Z.C0 Z.H0 Z.G0 C' H W G ∧ LkOk K Z C' H G := by
  have s1 : Same C (fun b => if b ∈ A then H b else C b) := fun b o e => (if_neg fun m => by rw [(r.env.there b m).1] at e; cases e).trans e
  have off : ∀ b, b ∉ A → (fun b => if b ∈ A then H b else C b) b = C b := fun b n => if_neg n
  refine ⟨_, s1, ?_, ⟨r.nx.cc.trans s1, fun b o e => ?_, r.nx.fr, r.nx.dm, fun b n => (off b fun z => n.1 (r.na b z)).trans (r.nx.od b n), r.nx.gg, r.nx.res.mono s1 (fun b m => (off b fun z => r.nd b z m).trans (r.nx.res.there b m).1) (fun _ _ => rfl), r.nx.dh⟩, fun p m => by
    obtain ⟨k1, k2, k3, k4⟩ := r.lk p m
    exact ⟨k1, k2, (off _ (r.la p m)).trans k3, k4.mono s1 rfl⟩⟩
  · funext b
    unfold fzX
    by_cases c : b ∈ A
    · rw [if_pos c, ov_new (r.zk.ab.free (r.na b c))]
      exact if_pos c
    · rw [if_neg c]
      cases e : Z.Ba b with
      | some o => rw [ov_old e, ov_old e]
      | none =>
        rw [ov_new e, ov_new e]
        exact if_neg c
  · by_cases c : b ∈ A
    · have e' : (if b ∈ A then H b else C b) = some o := e
      rw [if_pos c] at e'
      exact e'
    · have e' : (if b ∈ A then H b else C b) = some o := e
      rw [if_neg c] at e'
      exact r.nx.ch b o e'
in #guard_msgs in open Nat
end
/-! ### statements -/
structure XOk (K : PySem.W.Frag) (Z : Zx) (F : Hp) (P : AEnds) (R : Ends) : Prop where
  nx : ∀ {C H σ ρ W A G}, P.nx ρ W → Same F C → Rx K Z C H σ ρ W A G → R.nx σ H
  bk : ∀ {C H σ ρ W A G}, P.bk ρ W → Same F C → Rx K Z C H σ ρ W A G → R.bk σ H
  ct : ∀ {C H σ ρ W A G}, P.ct ρ W → Same F C → Rx K Z C H σ ρ W A G → R.ct σ H
  rt : ∀ {C H d v W G}, P.rt d W → Nx Z.C0 Z.H0 Z.G0 C H W G → LkOk K Z C H G → Dv K (ov Z.Ba C) v d → R.rt v H
  rn : ∀ {C H d p W G}, P.rn d W → Nx Z.C0 Z.H0 Z.G0 C H W G → LkOk K Z C H G → Z.H0 p = none → C p = none → p ∉ G → (∀ q ∈ Z.Lk, q.1 ≠ p) → Cell K (ov Z.Ba C) H p d → R.rt (.ref p) H
def XS (K : PySem.W.Frag) (Z : Zx) (t : TS) (ρ : List Sl) (W : List Res) (P : AEnds) : Prop := ∀ (F : Hp) (R : Ends), XOk K Z F P R → ∀ (C H : Hp) (σ : L2.St) (A G : List Addr), Same F C → Rx K Z C H σ ρ W A G → t R σ H
section
variable {K : PySem.W.Frag} {Z : Zx} {C C' H H' F : Hp} {σ : L2.St} {ρ : List Sl} {W W' : List Res} {A G : List Addr} {P : AEnds} {t u : TS} {te ti : TE} {tt : TT} {i j : Nat} {d : D}
theorem xs_seq (h : XS K Z t ρ W ⟨fun ρ W => XS K Z u ρ W P, P.rt, P.rn, P.bk, P.ct⟩) : XS K Z (tSeq t u) ρ W P := fun F R ok C H σ A G s r =>
  h F { R with nx := u R } ⟨fun hn s' r' => hn F R ok _ _ _ _ _ s' r', ok.bk, ok.ct, ok.rt, ok.rn⟩ C H σ A G s r
in #guard_msgs in open Nat
theorem xs_next (h : P.nx ρ W) : XS K Z tNext ρ W P := fun F R ok C H σ A G s r => ok.nx h s r
theorem xs_brk (h : P.bk ρ W) : XS K Z tBreak ρ W P := fun F R ok C H σ A G s r => ok.bk h s r
theorem xs_cont (h : P.ct ρ W) : XS K Z tCont ρ W P := fun F R ok C H σ A G s r => ok.ct h s r
/-- what is held, told otherwise ahead of a statement -/
theorem xs_ent (e : Ent W W') (h : XS K Z t ρ W' P) : XS K Z t ρ W P := fun F R ok C H σ A G s r => by
  obtain ⟨G', n, sub⟩ := Nx.ent (Nx.refl r.nx.res r.nx.ch) e
  exact h F R ok C H σ A G' s (r.next n)
in #guard_msgs in open Nat
/-- .. by something that is not known ahead -/
theorem xs_open {α : Type} {L : α → List Res} (e : ∀ {C H : Hp} {G : List Addr}, WR C H W G → ∃ x G', WR C H (L x) G' ∧ ∀ a ∈ G', a ∈ G) (h : ∀ x, XS K Z t ρ (L x) P) : XS K Z t ρ W P := fun F R ok C H σ A G s r => by
  obtain ⟨x, G', h', sub⟩ := e r.nx.res
  exact h x F R ok C H σ A G' s (r.next ⟨Same.refl _, r.nx.ch, fun _ _ e _ => e, fun _ e => e, fun _ _ => rfl, fun a m => .inl (sub a m), h', fun _ n => n⟩)
in #guard_msgs in open Nat
theorem xs_asgH (h : XE K Z te (vd ρ) W fun d W' => P.nx (ρ.set i (.sh d)) W') : XS K Z (tAsg te (gName i)) ρ W P := fun F R ok C H σ A G s r =>
  h σ C C H G r.pd r.ed _ fun d v W' C' H' G' hq n dv => by
    have dv' : Dv K C' v d := by
      have dv0 : Dv K (ov C C') v d := dv
      rwa [ov_same n.cc] at dv0
    obtain ⟨A', r'⟩ := (r.next n).setSh dv' i
    exact ok.nx hq (s.trans n.cc) r'
in #guard_msgs in open Nat
theorem xs_asgS (h : XE K Z te (vf ρ) W fun d W' => scalD d = true ∧ P.nx (ρ.set i (.sh d)) W') : XS K Z (tAsg te (gName i)) ρ W P := fun F R ok C H σ A G s r =>
  h σ C _ H G r.pf r.ef _ fun d v W' C' H' G' hq n dv => by
    obtain ⟨A', r'⟩ := (r.next n).setSh (dv_scal dv hq.1) i
    exact ok.nx hq.2 (s.trans n.cc) r'
in #guard_msgs in open Nat
theorem xs_asgB (h : XE K Z te (vb ρ) W fun d W' => P.nx (ρ.set i (.bo d)) W') : XS K Z (tAsg te (gName i)) ρ W P := fun F R ok C H σ A G s r =>
  h σ C _ H G r.pb r.eb _ fun d v W' C' H' G' hq n dv => by
    have dv' : Dv K (ov Z.Ba C') v d := by
      have dv0 : Dv K (ov (ov Z.Ba C) C') v d := dv
      rwa [ov_ov n.cc] at dv0
    obtain ⟨A', r'⟩ := (r.next n).setBo dv' i
    exact ok.nx hq (s.trans n.cc) r'
in #guard_msgs in open Nat
theorem xs_asgN (h : XN K Z te (vd ρ) W fun d W' => P.nx (ρ.set i (.own d)) W') : XS K Z (tAsg te (gName i)) ρ W P := fun F R ok C H σ A G s r =>
  h σ C C H G r.pd r.ed _ fun d v W' C' H' G' hq n ⟨l, ev, nl, bl, gl, c⟩ => by
    subst ev
    rw [ov_same n.cc] at bl c
    obtain ⟨A', r'⟩ := (r.next n).setOwn (r.h0 nl) bl (fun m => (r.env.there l m).2 nl) gl (r.lkN nl) c i
    exact ok.nx hq (s.trans n.cc) r'
in #guard_msgs in open Nat
theorem xs_asgF (h : XN K Z te (vf ρ) W fun d W' => flatD d = true ∧ P.nx (ρ.set i (.own d)) W') : XS K Z (tAsg te (gName i)) ρ W P := fun F R ok C H σ A G s r =>
  h σ C _ H G r.pf r.ef _ fun d v W' C' H' G' hq n ⟨l, ev, nl, bl, gl, c⟩ => by
    subst ev
    have cl : C' l = none := by rwa [ov_new (r.pf.bh.free nl)] at bl
    obtain ⟨A', r'⟩ := (r.next n).setOwn (r.h0 nl) cl (fun m => (r.env.there l m).2 nl) gl (r.lkN nl) (cell_flat c hq.1) i
    exact ok.nx hq.2 (s.trans n.cc) r'
in #guard_msgs in open Nat
theorem xs_frz (i : Nat) (e : ρ[i]? = some (.own d)) (h : XS K Z t (ρ.set i (.sh d)) W P) : XS K Z t ρ W P := fun F R ok C H σ A G s r => by
  obtain ⟨C', A', s', r'⟩ := r.fz1 e
  exact h F R ok C' H σ A' G (s.trans s') r'
in #guard_msgs in open Nat
theorem xs_asgE (h : XN K Z te (vf ρ) W fun d W' => flatD d = true ∧ P.nx (ρ.set i (.sh d)) W') : XS K Z (tAsg te (gName i)) ρ W P := fun F R ok C H σ A G s r =>
  h σ C _ H G r.pf r.ef _ fun d v W' C' H' G' hq n ⟨l, ev, nl, bl, gl, c⟩ => by
    subst ev
    have cl : C' l = none := by rwa [ov_new (r.pf.bh.free nl)] at bl
    by_cases hi : i < ρ.length
    · obtain ⟨A', r'⟩ := (r.next n).setOwn (r.h0 nl) cl (fun m => (r.env.there l m).2 nl) gl (r.lkN nl) (cell_flat c hq.1) i
      obtain ⟨C2, A2, s2, r2⟩ := r'.fz1 (i := i) (List.getElem?_set_self hi)
      rw [List.set_set] at r2
      exact ok.nx hq.2 (s.trans (n.cc.trans s2)) r2
    · have e1 : ρ.set i (.sh d) = ρ := List.set_eq_of_length_le (by omega)
      have e2 : σ.set i (some (V.ref l)) = σ := List.set_eq_of_length_le (by rw [← r.len]; omega)
      have hq2 := hq.2
      rw [e1] at hq2
      show R.nx (σ.set i (some (V.ref l))) H'
      rw [e2]
      exact ok.nx hq2 (s.trans n.cc) (r.next n)
in #guard_msgs in open Nat
theorem xs_drop (h : XE K Z te (vf ρ) W fun _ W' => P.nx ρ W') : XS K Z (tDrop te) ρ W P := fun F R ok C H σ A G s r =>
  h σ C _ H G r.pf r.ef _ fun d v W' C' H' G' hq n dv => ok.nx hq (s.trans n.cc) (r.next n)
in #guard_msgs in open Nat
theorem xs_if (h : XT K Z tt (vf ρ) W fun b W' => (b = true → XS K Z t ρ W' P) ∧ (b = false → XS K Z u ρ W' P)) : XS K Z (tIfS tt t u) ρ W P := fun F R ok C H σ A G s r =>
  h σ C _ H G r.pf r.ef _ fun b v W' C' H' G' hq n e => by
    have e : v = b := e
    subst e
    cases v with
    | true =>
      rw [if_pos rfl]
      exact hq.1 rfl F R ok C' H' σ A G' (s.trans n.cc) (r.next n)
    | false =>
      rw [if_neg Bool.false_ne_true]
      exact hq.2 rfl F R ok C' H' σ A G' (s.trans n.cc) (r.next n)
in #guard_msgs in open Nat
theorem xs_ret (h : XE K Z te (vf ρ) W P.rt) : XS K Z (tRet te) ρ W P := fun F R ok C H σ A G s r => by
  obtain ⟨C1, s1, e1, n1, l1⟩ := r.fzAll
  have p1 : Pr K Z W C1 (fzX Z C H A) H G := by
    refine ⟨l1, n1, ?_, r.pf.bh, r.pf.gB⟩
    rw [← e1]
    exact ov_c r.bh n1.ch
  exact h σ C1 _ H G p1 r.ef _ fun d v W' C' H' G' hq n dv => ok.rt hq (n1.trans n) (l1.next n) (by
    have dv0 : Dv K (ov (fzX Z C H A) C') v d := dv
    rw [← e1, ov_ov n.cc] at dv0
    exact dv0)
in #guard_msgs in open Nat
theorem xs_retNew (h : XN K Z te (vf ρ) W P.rn) : XS K Z (tRet te) ρ W P := fun F R ok C H σ A G s r => by
  obtain ⟨C1, s1, e1, n1, l1⟩ := r.fzAll
  have p1 : Pr K Z W C1 (fzX Z C H A) H G := by
    refine ⟨l1, n1, ?_, r.pf.bh, r.pf.gB⟩
    rw [← e1]
    exact ov_c r.bh n1.ch
  refine h σ C1 _ H G p1 r.ef _ fun d v W' C' H' G' hq n ⟨l, ev, nl, bl, gl, c⟩ => ?_
  subst ev
  have cl : C' l = none := by rwa [ov_new (r.pf.bh.free nl)] at bl
  rw [← e1, ov_ov n.cc] at c
  exact ok.rn hq (n1.trans n) (l1.next n) (r.h0 nl) cl gl (r.lkN nl) c
in #guard_msgs in open Nat
theorem xs_retOwn (e : ρ[i]? = some (.own d)) (h : P.rn d W) : XS K Z (tRet (tVar i)) ρ W P := fun F R ok C H σ A G s r => by
  obtain ⟨a, h1, h2, h3, c⟩ := r.own e
  exact ⟨_, h1, ok.rn h r.nx r.lk (r.na a h2) h3 (r.nd a h2) (fun q m z => r.la q m (z ▸ h2)) (c.mono r.pb.cb rfl)⟩
in #guard_msgs in open Nat
theorem xs_retN (h : P.rt .non W) : XS K Z tRetN ρ W P := fun F R ok C H σ A G s r => ok.rt h r.nx r.lk .non
/-! #### own lists changed -/
theorem xs_append {ds : List D} (e : ρ[i]? = some (.own (.lst ds))) (h : XE K Z te (vd ρ) W fun d W' => ds.length < 100000 ∧ P.nx (ρ.set i (.own (.lst (ds ++ [d])))) W') : XS K Z (tAppH K i te) ρ W P := fun F R ok C H σ A G s r => by
  obtain ⟨a, h1, h2, h3, vs, h4, h5⟩ := r.own e
  refine ⟨_, h1, .inl ⟨rfl, _, Sq_of h4⟩, ?_⟩
  refine h σ C C H G r.pd r.ed _ fun d v W' C' H' G' hq n dv => ?_
  have dv' : Dv K C' v d := by
    have dv0 : Dv K (ov C C') v d := dv
    rwa [ov_same n.cc] at dv0
  have h4' : H' a = some (.lst vs) := by rw [n.at (by rw [h4]; exact fun z => by cases z) (r.nd a h2)]; exact h4
  exact ⟨a, vs, v, rfl, rfl, h4', smallL (by rw [h5.len]; exact hq.1), ok.nx hq.2 (s.trans n.cc) ((r.next n).mut e h1 h2 ⟨_, upd_same, (h5.mono n.cc).append (.cons dv' .nil)⟩)⟩
in #guard_msgs in open Nat
theorem xs_appendS {ds : List D} (e : ρ[i]? = some (.own (.lst ds))) (h : XE K Z te (vf ρ) W fun d W' => scalD d = true ∧ ds.length < 100000 ∧ P.nx (ρ.set i (.own (.lst (ds ++ [d])))) W') : XS K Z (tAppS K i te) ρ W P := fun F R ok C H σ A G s r => by
  obtain ⟨a, h1, h2, h3, vs, h4, h5⟩ := r.own e
  refine ⟨_, h1, .inl ⟨rfl, _, Sq_of h4⟩, ?_⟩
  refine h σ C _ H G r.pf r.ef _ fun d v W' C' H' G' hq n dv => ?_
  have h4' : H' a = some (.lst vs) := by rw [n.at (by rw [h4]; exact fun z => by cases z) (r.nd a h2)]; exact h4
  exact ⟨a, vs, v, rfl, rfl, h4', smallL (by rw [h5.len]; exact hq.2.1), ok.nx hq.2.2 (s.trans n.cc) ((r.next n).mut e h1 h2 ⟨_, upd_same, (h5.mono n.cc).append (.cons (dv_scal dv hq.1) .nil)⟩)⟩
in #guard_msgs in open Nat
theorem xs_reverse {ds : List D} (e : ρ[i]? = some (.own (.lst ds))) (h : P.nx (ρ.set i (.own (.lst ds.reverse))) W) : XS K Z (tDrop (tBM0 K "list" rReverse (tVar i))) ρ W P := fun F R ok C H σ A G s r => by
  obtain ⟨a, h1, h2, h3, vs, h4, h5⟩ := r.own e
  exact ⟨_, h1, .inl ⟨rfl, _, Sq_of h4⟩, a, vs, rfl, rfl, h4, ok.nx h s (r.mut e h1 h2 ⟨_, upd_same, h5.rev⟩)⟩
in #guard_msgs in open Nat
theorem xs_clear {ds : List D} (e : ρ[i]? = some (.own (.lst ds))) (h : P.nx (ρ.set i (.own (.lst []))) W) : XS K Z (tDrop (tBM0 K "list" rClear (tVar i))) ρ W P := fun F R ok C H σ A G s r => by
  obtain ⟨a, h1, h2, h3, vs, h4, h5⟩ := r.own e
  exact ⟨_, h1, .inl ⟨rfl, _, Sq_of h4⟩, a, vs, rfl, rfl, h4, ok.nx h s (r.mut e h1 h2 ⟨_, upd_same, .nil⟩)⟩
in #guard_msgs in open Nat
theorem xs_insert {ds : List D} (e : ρ[i]? = some (.own (.lst ds))) (h : XE K Z ti (vf ρ) W fun k W1 => ∃ m : Int, k = .int m ∧ 0 ≤ m ∧ m < 2 ^ 63 ∧ XE K Z te (vd ρ) W1 fun d W2 => ds.length < 100000 ∧ P.nx (ρ.set i (.own (.lst (ds.take m.toNat ++ [d] ++ ds.drop m.toNat)))) W2) : XS K Z (tInsH K i ti te) ρ W P := fun F R ok C H σ A G s r => by
  obtain ⟨a, h1, h2, h3, vs, h4, h5⟩ := r.own e
  refine ⟨_, h1, .inl ⟨rfl, _, Sq_of h4⟩, ?_⟩
  refine h σ C _ H G r.pf r.ef _ fun k v W1 C1 H1 G1 ⟨m, ek, m0, m1, hk⟩ n dv => ?_
  subst ek
  cases dv
  have r1 := r.next n
  have h4' : H1 a = some (.lst vs) := by rw [n.at (by rw [h4]; exact fun z => by cases z) (r.nd a h2)]; exact h4
  refine hk σ C1 C1 H1 G1 r1.pd r1.ed _ fun d v W' C' H' G' hq n2 dv => ?_
  have dv' : Dv K C' v d := by
    have dv0 : Dv K (ov C1 C') v d := dv
    rwa [ov_same n2.cc] at dv0
  have h4'' : H' a = some (.lst vs) := by rw [n2.at (by rw [h4']; exact fun z => by cases z) (r1.nd a h2)]; exact h4'
  have hv := h5.mono (n.cc.trans n2.cc)
  exact ⟨a, vs, m, v, rfl, rfl, h4'', smallL (by rw [h5.len]; exact hq.1), m0, m1, ok.nx hq.2 (s.trans (n.cc.trans n2.cc)) ((r1.next n2).mut e h1 h2 ⟨_, upd_same, (((hv.take _).append (.cons dv' .nil)).append (hv.drop _))⟩)⟩
in #guard_msgs in open Nat
/-! #### slots let go -/
theorem vd_wk : ∀ {ρ ρ' : List Sl}, Wk ρ ρ' → Wk (vd ρ) (vd ρ')
  | [], [], _ => trivial
  | s :: ρ, s' :: ρ', ⟨h, w⟩ => ⟨h.elim (fun e => .inl (by rw [e]; rfl)) fun e => .inr (by rw [e]), vd_wk w⟩
in #guard_msgs in open Nat
theorem wk_at : ∀ {ρ ρ' : List Sl}, Wk ρ ρ' → ∀ {i : Nat} {d : D}, ρ'[i]? = some (.bo d) → ρ[i]? = some (.bo d)
  | [], [], _, i, d, h => by simp at h
  | s :: ρ, s' :: ρ', ⟨h, w⟩, 0, d, e => by
    simp at e
    subst e
    rcases h with h | h
    · cases h
    · simp [h]
  | s :: ρ, s' :: ρ', ⟨h, w⟩, i + 1, d, e => wk_at w (i := i) e
in #guard_msgs in open Nat
theorem Rx.wk {ρ' : List Sl} (r : Rx K Z C H σ ρ W A G) (w : Wk ρ ρ') : ∃ A', Rx K Z C H σ ρ' W A' G := by
  obtain ⟨A', h1, h2⟩ := r.env.wk (vd_wk w)
  exact ⟨A', r.zk, r.nx, h2, fun i d h => r.bo i d (wk_at w h), fun a m => r.nd a (h1 a m), fun a m => r.na a (h1 a m), r.lk, r.lkA h1⟩
in #guard_msgs in open Nat
theorem xs_wk {ρ' : List Sl} (w : Wk ρ ρ') (h : XS K Z t ρ' W P) : XS K Z t ρ W P := fun F R ok C H σ A G s r => by
  obtain ⟨A', r'⟩ := r.wk w
  exact h F R ok C H σ A' G s r'
in #guard_msgs in open Nat
/-- the slots and what is held behind a statement, told ahead -/
theorem xs_cut (ρ' : List Sl) (Q : List Res → Prop) (h : XS K Z t ρ W ⟨fun ρ3 W3 => Wk ρ3 ρ' ∧ Q W3, P.rt, P.rn, P.bk, P.ct⟩) (hn : ∀ W', Q W' → P.nx ρ' W') : XS K Z t ρ W P := fun F R ok C H σ A G s r =>
  h F R ⟨fun hw s' r' => by
    obtain ⟨A', r2⟩ := r'.wk hw.1
    exact ok.nx (hn _ hw.2) s' r2, ok.bk, ok.ct, ok.rt, ok.rn⟩ C H σ A G s r
in #guard_msgs in open Nat
/-! #### fields stored, cells written -/
theorem xs_fld {Cl : Addr} {f : Str} {ta tv : TE} (h : XE K Z tv (vd ρ) W fun d W1 => XE K Z ta (vd ρ) W1 fun o W2 => ∃ a, o = .op (.ref a) ∧ ∃ (i : Nat) (fs : List (Str × D)), W2[i]? = some (obj K a Cl fs) ∧ fs.length < 1000 ∧ P.nx ρ (W2.set i (obj K a Cl (putD f d fs)))) : XS K Z (sFldC Cl ta tv f) ρ W P := fun F R ok C H σ A G s r =>
  h σ C C H G r.pd r.ed _ fun d v W1 C1 H1 G1 h1 n1 dv => by
    have r1 := r.next n1
    have dv' : Dv K C1 v d := by
      have dv0 : Dv K (ov C C1) v d := dv
      rwa [ov_same n1.cc] at dv0
    refine h1 σ C1 C1 H1 G1 r1.pd r1.ed _ fun o w W2 C2 H2 G2 ⟨a, ea, i, fs, hi, hl, hn⟩ n2 dw => ?_
    subst ea
    cases dw
    have r2 := r1.next n2
    obtain ⟨dx, vfs, g1, g2, g3, _⟩ := n2.res.obj hi
    have x := r2.pd.putI hi g1 (DvF.put (f := f) (dv'.mono n2.cc) g3)
    exact ⟨a, dx, vfs, rfl, g1, by rw [g3.len]; exact hl, ok.nx hn (s.trans (n1.cc.trans n2.cc)) (r2.next x)⟩
in #guard_msgs in open Nat
/-- a slot lets go of its object, and points to it -/
theorem EnvR.let {K : PySem.W.Frag} {B H : Hp} {d : D} : ∀ {σ : L2.St} {ρ : List Sl} {A : List Addr}, EnvR K B H σ ρ A → ∀ {i : Nat}, ρ[i]? = some (.own d) → ∃ a A', σ[i]? = some (some (.ref a)) ∧ a ∈ A ∧ B a = none ∧ Cell K B H a d ∧ (∀ b ∈ A', b ∈ A ∧ b ≠ a) ∧ EnvR K B H σ (ρ.set i (.sh (.op (.ref a)))) A'
  | _, _, _, .nil, i, h => by simp at h
  | _, _, _, .un t, 0, h => by simp at h
  | _, _, _, .sh q t, 0, h => by simp at h
  | _, _, _, .own (a := a) (A := A) n b c t, 0, h => by
    simp at h
    subst h
    exact ⟨a, A, rfl, List.mem_cons_self, b, c, fun x m => ⟨List.mem_cons_of_mem _ m, fun z => n (z ▸ m)⟩, .sh (.op _) t⟩
  | _, _, _, .un t, i + 1, h => by
    obtain ⟨a, A', h1, h2, hb, hc, h3, h4⟩ := EnvR.let t (i := i) h
    exact ⟨a, A', h1, h2, hb, hc, h3, .un h4⟩
  | _, _, _, .sh q t, i + 1, h => by
    obtain ⟨a, A', h1, h2, hb, hc, h3, h4⟩ := EnvR.let t (i := i) h
    exact ⟨a, A', h1, h2, hb, hc, h3, .sh q h4⟩
  | _, _, _, .own (a := a0) n b c t, i + 1, h => by
    obtain ⟨a, A', h1, h2, hb, hc, h3, h4⟩ := EnvR.let t (i := i) h
    have ne : a0 ≠ a := fun z => n (z ▸ h2)
    refine ⟨a, a0 :: A', h1, List.mem_cons_of_mem _ h2, hb, hc, fun x m => ?_, .own (fun m => n (h3 a0 m).1) b c h4⟩
    rcases List.mem_cons.mp m with rfl | m
    · exact ⟨List.mem_cons_self, ne⟩
    · exact ⟨List.mem_cons_of_mem _ (h3 x m).1, (h3 x m).2⟩
  | _, _, _, .ow2 _ _ _ _ _ t, 0, h => by simp at h
  | _, _, _, .ow2 (a := a0) (ps := ps) n b nd c cs t, i + 1, h => by
    obtain ⟨a, A', h1, h2, hb, hc, h3, h4⟩ := EnvR.let t (i := i) h
    refine ⟨a, (a0 :: ps) ++ A', h1, List.mem_append_right _ h2, hb, hc, fun x m => ?_, .ow2 (fun p m z => n p m (h3 p z).1) b nd c cs h4⟩
    rcases List.mem_append.mp m with m | m
    · exact ⟨List.mem_append_left _ m, fun z => n x m (z ▸ h2)⟩
    · exact ⟨List.mem_append_right _ (h3 x m).1, (h3 x m).2⟩
in #guard_msgs in open Nat
/-- .. then it is held beside -/
theorem Rx.letGo (r : Rx K Z C H σ ρ W A G) (e : ρ[i]? = some (.own d)) : ∃ l A', σ[i]? = some (some (.ref l)) ∧ Rx K Z C H σ (ρ.set i (.sh (.op (.ref l)))) ([cel K l d] ++ W) A' ([l] ++ G) := by
  obtain ⟨l, A', h1, h2, hb, hc, h3, h4⟩ := r.env.let (vd_at e)
  have hH : H l ≠ none := hc.there
  refine ⟨l, A', h1, r.zk, ⟨r.nx.cc, r.nx.ch, r.nx.fr, r.nx.dm, r.nx.od, fun a m => ?_, ?_, r.nx.dh⟩, by rw [vd_set]; exact h4, ?_, fun a m z => ?_, fun a m => r.na a (h3 a m).1, fun p m => by
    obtain ⟨k1, k2, k3, k4⟩ := r.lk p m
    exact ⟨k1, fun z => (List.mem_append.mp z).elim (fun z => r.la p m (by rw [List.mem_singleton.mp z]; exact h2)) k2, k3, k4⟩, fun p m z => r.la p m (h3 _ z).1⟩
  · rcases List.mem_append.mp m with m | m
    · rw [List.mem_singleton.mp m]
      exact .inr (r.na l h2)
    · exact r.nx.gg a m
  · refine WR.cons (r := cel K l d) ⟨rfl, hc⟩ (fun b m => ?_) (fun b m => ?_) r.nx.res
    · rw [List.mem_singleton.mp m]
      exact r.nd l h2
    · rw [List.mem_singleton.mp m]
      exact ⟨hb, hc.hard⟩
  · intro j x hj
    by_cases cj : i = j
    · subst cj
      have hl : i < ρ.length := (List.getElem?_eq_some_iff.mp e).1
      rw [List.getElem?_set_self hl] at hj
      cases hj
    · rw [List.getElem?_set_ne cj] at hj
      exact r.bo j x hj
  · rcases List.mem_append.mp z with z | z
    · exact (h3 a m).2 (List.mem_singleton.mp z)
    · exact r.nd a (h3 a m).1 z
in #guard_msgs in open Nat
theorem xs_let (i : Nat) (e : ρ[i]? = some (.own d)) (h : ∀ l, XS K Z t (ρ.set i (.sh (.op (.ref l)))) ([cel K l d] ++ W) P) : XS K Z t ρ W P := fun F R ok C H σ A G s r => by
  obtain ⟨l, A', h1, r'⟩ := r.letGo e
  exact h l F R ok C H σ A' _ s r'
in #guard_msgs in open Nat
/-! #### dicts and lists at an address -/
/-- what is at hand: the thing itself, or what its address holds -/
def Vw (K : PySem.W.Frag) (d : D) (W : List Res) (c : D) : Prop := d = c ∨ ∃ (i : Nat) (p : Addr), d = .op (.ref p) ∧ W[i]? = some (cel K p c)
theorem Vw.of {K : PySem.W.Frag} {c : D} : Vw K c W c := .inl rfl
theorem Vw.at {K : PySem.W.Frag} {c : D} {p : Addr} (i : Nat) (h : W[i]? = some (cel K p c)) : Vw K (.op (.ref p)) W c := .inr ⟨i, p, rfl, h⟩
theorem Vw.lst {B : Hp} {x : V} {ds : List D} (p : Pr K Z W C B H G) (v : Vw K d W (.lst ds)) (dv : Dv K B x d) : ∃ a vs, x = .ref a ∧ H a = some (.lst vs) ∧ DvL K B vs ds := by
  rcases v with e | ⟨i, l, e, hi⟩
  · subst e
    cases dv with
    | lst h1 h2 => exact ⟨_, _, rfl, p.bh _ _ h1, h2⟩
  · subst e
    cases dv
    obtain ⟨⟨vs, h1, h2⟩, _⟩ := p.nx.res.cel hi
    exact ⟨l, vs, rfl, h1, h2.mono p.cb⟩
in #guard_msgs in open Nat
theorem rd_up {B H : Hp} {a : Addr} {u : HO} (s : Same B H) (h : Rd B a u) : Rd H a u := rd_mono s h
theorem Vw.dk {B : Hp} {x : V} {ks : List (Key × D)} (p : Pr K Z W C B H G) (v : Vw K d W (.dk ks)) (dv : Dv K B x d) : ∃ a vs, x = .ref a ∧ Rd H a (.dK vs) ∧ DvK K B vs ks := by
  rcases v with e | ⟨i, l, e, hi⟩
  · subst e
    cases dv with
    | dk h1 h2 => exact ⟨_, _, rfl, rd_mono p.bh h1, h2⟩
  · subst e
    cases dv
    obtain ⟨⟨vs, h1, h2⟩, _⟩ := p.nx.res.cel hi
    exact ⟨l, vs, rfl, .inl h1, h2.mono p.cb⟩
in #guard_msgs in open Nat
theorem Vw.dt {B : Hp} {x : V} {ks : List (List Key × D)} (p : Pr K Z W C B H G) (v : Vw K d W (.dt ks)) (dv : Dv K B x d) : ∃ a vs, x = .ref a ∧ Rd H a (.dT vs) ∧ DvT K B vs ks := by
  rcases v with e | ⟨i, l, e, hi⟩
  · subst e
    cases dv with
    | dt h1 h2 => exact ⟨_, _, rfl, rd_mono p.bh h1, h2⟩
  · subst e
    cases dv
    obtain ⟨⟨vs, h1, h2⟩, _⟩ := p.nx.res.cel hi
    exact ⟨l, vs, rfl, .inl h1, h2.mono p.cb⟩
in #guard_msgs in open Nat
end
/-! dicts by keys -/
section
variable {κ α : Type} [DecidableEq κ]
def gK (kvs : List (κ × α)) (k : κ) : Option α := (kvs.find? fun kv => decide (kv.1 = k)).map (·.2)
def hasK (kvs : List (κ × α)) (k : κ) : Bool := kvs.any fun kv => decide (kv.1 = k)
def pK (kvs : List (κ × α)) (k : κ) (v : α) : List (κ × α) := if hasK kvs k = true then kvs.map (fun kv => if kv.1 = k then (kv.1, v) else kv) else kvs ++ [(k, v)]
def dK (kvs : List (κ × α)) (k : κ) : List (κ × α) := kvs.filter fun kv => decide (kv.1 ≠ k)
end
/-- two lists of pairs, key by key -/
def KvL {κ : Type} (R : V → D → Prop) : List (κ × V) → List (κ × D) → Prop := Paired fun a b => a.1 = b.1 ∧ R a.2 b.2
section
variable {κ : Type} [DecidableEq κ] {R : V → D → Prop} {ks : List (κ × V)} {ds : List (κ × D)} {k : κ} {v : V} {d : D}
theorem KvL.get : ∀ {ks : List (κ × V)} {ds : List (κ × D)}, KvL R ks ds → (∃ v d, valV ks k = some v ∧ gK ds k = some d ∧ R v d) ∨ (valV ks k = none ∧ gK ds k = none)
  | _, _, .nil => .inr ⟨rfl, rfl⟩
  | (a, v) :: ks, (b, d) :: ds, .cons h t => by
    obtain ⟨e, r⟩ := h
    have e : a = b := e
    subst e
    by_cases c : a = k
    · refine .inl ⟨v, d, ?_, ?_, r⟩
      · simp [valV, c]
      · simp [gK, c]
    · have h1 : valV ((a, v) :: ks) k = valV ks k := by simp [valV, c]
      have h2 : gK ((a, d) :: ds) k = gK ds k := by simp [gK, c]
      rw [h1, h2]
      exact KvL.get t
in #guard_msgs in open Nat
theorem KvL.any : ∀ {ks : List (κ × V)} {ds : List (κ × D)}, KvL R ks ds → (ks.any fun kv => decide (kv.1 = k)) = hasK ds k
  | _, _, .nil => rfl
  | (a, v) :: ks, (b, d) :: ds, .cons h t => by
    have e : a = b := h.1
    subst e
    unfold hasK
    rw [List.any_cons, List.any_cons, KvL.any t]
    rfl
in #guard_msgs in open Nat
theorem KvL.len (h : KvL R ks ds) : ks.length = ds.length := Paired.length h
theorem KvL.app : ∀ {ks ks' : List (κ × V)} {ds ds' : List (κ × D)}, KvL R ks ds → KvL R ks' ds' → KvL R (ks ++ ks') (ds ++ ds')
  | _, _, _, _, .nil, h => h
  | _, _, _, _, .cons a t, h => .cons a (KvL.app t h)
in #guard_msgs in open Nat
theorem KvL.putM (r : R v d) : ∀ {ks : List (κ × V)} {ds : List (κ × D)}, KvL R ks ds → KvL R (ks.map fun kv => if kv.1 = k then (kv.1, v) else kv) (ds.map fun kv => if kv.1 = k then (kv.1, d) else kv)
  | _, _, .nil => .nil
  | (a, x) :: ks, (b, y) :: ds, .cons h t => by
    have e : a = b := h.1
    subst e
    rw [List.map_cons, List.map_cons]
    refine .cons ?_ (KvL.putM r t)
    show (if a = k then (a, v) else (a, x)).1 = (if a = k then (a, d) else (a, y)).1 ∧ R (if a = k then (a, v) else (a, x)).2 (if a = k then (a, d) else (a, y)).2
    by_cases c : a = k
    · rw [if_pos c, if_pos c]
      exact ⟨rfl, r⟩
    · rw [if_neg c, if_neg c]
      exact h
in #guard_msgs in open Nat
theorem KvL.put (h : KvL R ks ds) (r : R v d) : KvL R (putK ks k v) (pK ds k d) := by
  unfold putK pK
  rw [h.any (k := k)]
  by_cases c : hasK ds k = true
  · rw [if_pos c, if_pos c]
    exact h.putM r
  · rw [if_neg c, if_neg c]
    exact h.app (.cons ⟨rfl, r⟩ .nil)
in #guard_msgs in open Nat
theorem KvL.drop : ∀ {ks : List (κ × V)} {ds : List (κ × D)}, KvL R ks ds → KvL R (dropK ks k) (dK ds k)
  | _, _, .nil => .nil
  | (a, x) :: ks, (b, y) :: ds, .cons h t => by
    have e : a = b := h.1
    subst e
    unfold dropK dK
    by_cases c : a = k
    · rw [List.filter_cons_of_neg (by simpa using c), List.filter_cons_of_neg (by simpa using c)]
      exact KvL.drop t
    · rw [List.filter_cons_of_pos (by simpa using c), List.filter_cons_of_pos (by simpa using c)]
      exact .cons h (KvL.drop t)
in #guard_msgs in open Nat
end
theorem DvK.kv {K : PySem.W.Frag} {B : Hp} : ∀ {ks : List (Key × V)} {ds : List (Key × D)}, DvK K B ks ds → KvL (Dv K B) ks ds
  | _, _, .nil => .nil
  | _, _, .cons h t => .cons ⟨rfl, h⟩ (DvK.kv t)
in #guard_msgs in open Nat
theorem DvK.of {K : PySem.W.Frag} {B : Hp} : ∀ {ks : List (Key × V)} {ds : List (Key × D)}, KvL (Dv K B) ks ds → DvK K B ks ds
  | _, _, .nil => .nil
  | (a, x) :: ks, (b, y) :: ds, .cons h t => by
    have e : a = b := h.1
    subst e
    exact .cons h.2 (DvK.of t)
in #guard_msgs in open Nat
theorem DvT.kv {K : PySem.W.Frag} {B : Hp} : ∀ {ks : List (List Key × V)} {ds : List (List Key × D)}, DvT K B ks ds → KvL (Dv K B) ks ds
  | _, _, .nil => .nil
  | _, _, .cons h t => .cons ⟨rfl, h⟩ (DvT.kv t)
in #guard_msgs in open Nat
theorem DvT.of {K : PySem.W.Frag} {B : Hp} : ∀ {ks : List (List Key × V)} {ds : List (List Key × D)}, KvL (Dv K B) ks ds → DvT K B ks ds
  | _, _, .nil => .nil
  | (a, x) :: ks, (b, y) :: ds, .cons h t => by
    have e : a = b := h.1
    subst e
    exact .cons h.2 (DvT.of t)
in #guard_msgs in open Nat
/-! keys as data -/
def kD : Key → D
  | .inl i => .int i
  | .inr z => .str z
def tD (k : List Key) : D := .tup (k.map kD)
theorem kD_v {K : PySem.W.Frag} {B : Hp} {x : V} {k : Key} (h : Dv K B x (kD k)) : x = kV k := by
  cases k with
  | inl i => cases h; rfl
  | inr z => cases h; rfl
in #guard_msgs in open Nat
theorem tD_v {K : PySem.W.Frag} {B : Hp} {x : V} {k : List Key} (h : Dv K B x (tD k)) : ∃ b, x = .ref b ∧ B b = some (.tup (k.map kV)) := by
  cases h with
  | @tup a vs _ h1 h2 =>
    have e : ∀ {k : List Key} {vs : List V}, DvL K B vs (k.map kD) → vs = k.map kV := by
      intro k
      induction k with
      | nil => intro vs h; cases h; rfl
      | cons a k ih =>
        intro vs h
        cases h with
        | cons p q => rw [List.map_cons, kD_v p, ih q]
    rw [e h2] at h1
    exact ⟨_, rfl, h1⟩
in #guard_msgs in open Nat
/-- what stands in a dict at a key, by data -/
inductive Gets (K : PySem.W.Frag) (W : List Res) (x y : D) : Option D → Prop
  | k (ks : List (Key × D)) (k : Key) (v : Vw K x W (.dk ks)) (e : y = kD k) : Gets K W x y (gK ks k)
  | t (ks : List (List Key × D)) (k : List Key) (v : Vw K x W (.dt ks)) (e : y = tD k) : Gets K W x y (gK ks k)
end Tg

/-! The engine: dicts, lists, loops, a def's ends, with what is held beside. -/
namespace Tg
open PySem PySem.Spec L2
def RelOD (K : PySem.W.Frag) (B : Hp) : Option V → Option D → Prop
  | some v, some d => Dv K B v d
  | none, none => True
  | _, _ => False
section
variable {K : PySem.W.Frag} {Z : Zx} {C C' B H H' F : Hp} {σ : L2.St} {ρ : List Sl} {W W' : List Res} {A G : List Addr} {P : AEnds} {t u : TS} {te ti ta tb td ty tv : TE} {tt : TT} {tl : TA} {i j : Nat} {d x y : D} {q : D → List Res → Prop}
theorem relOD_of {κ : Type} [DecidableEq κ] {B : Hp} {ks : List (κ × V)} {ds : List (κ × D)} {k : κ} (h : KvL (Dv K B) ks ds) : RelOD K B (valV ks k) (gK ds k) := by
  rcases h.get (k := k) with ⟨v, d, e1, e2, r⟩ | ⟨e1, e2⟩
  · rw [e1, e2]; exact r
  · rw [e1, e2]; exact trivial
in #guard_msgs in open Nat
theorem Gets.run {o : Option D} {vx vy : V} (g : Gets K W x y o) (p : Pr K Z W C B H G) (hx : Dv K B vx x) (hy : Dv K B vy y) : ∃ a r, vx = .ref a ∧ DGet H a vy r ∧ RelOD K B r o := by
  cases g with
  | k ks k v e =>
    obtain ⟨a, vs, e1, e2, e3⟩ := v.dk p hx
    subst e
    exact ⟨a, _, e1, .inl ⟨vs, k, e2, kD_v hy, rfl⟩, relOD_of e3.kv⟩
  | t ks k v e =>
    obtain ⟨a, vs, e1, e2, e3⟩ := v.dt p hx
    subst e
    obtain ⟨b, h1, h2⟩ := tD_v hy
    exact ⟨a, _, e1, .inr ⟨vs, k, b, e2, h1, p.bh _ _ h2, rfl⟩, relOD_of e3.kv⟩
in #guard_msgs in open Nat
theorem Vw.isD {c : D} {vx : V} (p : Pr K Z W C B H G) (hx : Dv K B vx x) (h : (∃ ks, Vw K x W (.dk ks)) ∨ ∃ ks, Vw K x W (.dt ks)) : ∃ a, vx = .ref a ∧ IsD H a := by
  rcases h with ⟨ks, v⟩ | ⟨ks, v⟩
  · obtain ⟨a, vs, e1, e2, _⟩ := v.dk p hx
    exact ⟨a, e1, .inl ⟨vs, e2⟩⟩
  · obtain ⟨a, vs, e1, e2, _⟩ := v.dt p hx
    exact ⟨a, e1, .inr ⟨vs, e2⟩⟩
in #guard_msgs in open Nat
theorem xe_dget (h : XE K Z td ρ W fun x W1 => XE K Z ty ρ W1 fun y W2 => ∃ d, Gets K W2 x y (some d) ∧ q d W2) : XE K Z (tDGet td ty) ρ W q := fun σ C B H G p E Q k => h σ C B H G p E _ fun x vx W1 C1 H1 G1 h1 n1 dx =>
  h1 σ C1 _ H1 G1 (p.next n1) (E.mono ov_l) _ fun y vy W2 C2 H2 G2 ⟨d, g, hq⟩ n2 dy => by
    have n12 := n1.trans n2
    have dy' : Dv K (ov B C2) vy y := by rw [← ov_ov n2.cc]; exact dy
    obtain ⟨a, r, e1, e2, e3⟩ := g.run (p.next n12) (Dv.mono (ov_mono n2.cc) dx) dy'
    cases r with
    | none => exact False.elim e3
    | some v => exact ⟨a, v, e1, e2, k d v W2 C2 H2 G2 hq n12 e3⟩
in #guard_msgs in open Nat
theorem xe_din (h : XE K Z ty ρ W fun y W1 => XE K Z td ρ W1 fun x W2 => ∃ o, Gets K W2 x y o ∧ q (.bl o.isSome) W2) : XE K Z (tDIn ty td) ρ W q := fun σ C B H G p E Q k => h σ C B H G p E _ fun y vy W1 C1 H1 G1 h1 n1 dy =>
  h1 σ C1 _ H1 G1 (p.next n1) (E.mono ov_l) _ fun x vx W2 C2 H2 G2 ⟨o, g, hq⟩ n2 dx => by
    have n12 := n1.trans n2
    have dx' : Dv K (ov B C2) vx x := by rw [← ov_ov n2.cc]; exact dx
    obtain ⟨a, r, e1, e2, e3⟩ := g.run (p.next n12) dx' (Dv.mono (ov_mono n2.cc) dy)
    refine ⟨a, r, e1, e2, ?_⟩
    have es : r.isSome = o.isSome := by
      cases r <;> cases o <;> first | rfl | exact False.elim e3
    rw [es]
    exact k _ _ W2 C2 H2 G2 hq n12 (Dv.bl _)
in #guard_msgs in open Nat
theorem xe_dnin (h : XE K Z ty ρ W fun y W1 => XE K Z td ρ W1 fun x W2 => ∃ o, Gets K W2 x y o ∧ q (.bl (!o.isSome)) W2) : XE K Z (tDNotIn ty td) ρ W q := fun σ C B H G p E Q k => h σ C B H G p E _ fun y vy W1 C1 H1 G1 h1 n1 dy =>
  h1 σ C1 _ H1 G1 (p.next n1) (E.mono ov_l) _ fun x vx W2 C2 H2 G2 ⟨o, g, hq⟩ n2 dx => by
    have n12 := n1.trans n2
    have dx' : Dv K (ov B C2) vx x := by rw [← ov_ov n2.cc]; exact dx
    obtain ⟨a, r, e1, e2, e3⟩ := g.run (p.next n12) dx' (Dv.mono (ov_mono n2.cc) dy)
    refine ⟨a, r, e1, e2, ?_⟩
    have es : r.isSome = o.isSome := by
      cases r <;> cases o <;> first | rfl | exact False.elim e3
    rw [es]
    exact k _ _ W2 C2 H2 G2 hq n12 (Dv.bl _)
in #guard_msgs in open Nat
theorem xe_dget1 (h : XE K Z td ρ W fun x W1 => ((∃ ks, Vw K x W1 (.dk ks)) ∨ ∃ ks, Vw K x W1 (.dt ks)) ∧ XE K Z ty ρ W1 fun y W2 => ∃ o, Gets K W2 x y o ∧ q (o.getD .non) W2) : XE K Z (tDGet1 td ty) ρ W q := fun σ C B H G p E Q k => h σ C B H G p E _ fun x vx W1 C1 H1 G1 ⟨hd, h1⟩ n1 dx => by
  obtain ⟨a, ea, isd⟩ := Vw.isD (c := .non) (p.next n1) dx hd
  refine ⟨a, ea, isd, h1 σ C1 _ H1 G1 (p.next n1) (E.mono ov_l) _ fun y vy W2 C2 H2 G2 ⟨o, g, hq⟩ n2 dy => ?_⟩
  have n12 := n1.trans n2
  have dy' : Dv K (ov B C2) vy y := by rw [← ov_ov n2.cc]; exact dy
  obtain ⟨a', r, e1, e2, e3⟩ := g.run (p.next n12) (Dv.mono (ov_mono n2.cc) dx) dy'
  rw [ea] at e1
  cases e1
  refine ⟨r, e2, ?_⟩
  cases r with
  | none =>
    cases o with
    | none => exact k _ _ W2 C2 H2 G2 hq n12 Dv.non
    | some _ => exact False.elim e3
  | some v =>
    cases o with
    | none => exact False.elim e3
    | some d => exact k d v W2 C2 H2 G2 hq n12 e3
in #guard_msgs in open Nat
theorem xe_dget2 {tx : TE} (h : XE K Z td ρ W fun x W1 => ((∃ ks, Vw K x W1 (.dk ks)) ∨ ∃ ks, Vw K x W1 (.dt ks)) ∧ XE K Z ty ρ W1 fun y W2 => XE K Z tx ρ W2 fun z W3 => ∃ o, Gets K W3 x y o ∧ q (o.getD z) W3) : XE K Z (tDGet2 td ty tx) ρ W q := fun σ C B H G p E Q k => h σ C B H G p E _ fun x vx W1 C1 H1 G1 ⟨hd, h1⟩ n1 dx => by
  obtain ⟨a, ea, isd⟩ := Vw.isD (c := .non) (p.next n1) dx hd
  refine ⟨a, ea, isd, h1 σ C1 _ H1 G1 (p.next n1) (E.mono ov_l) _ fun y vy W2 C2 H2 G2 h2 n2 dy => ?_⟩
  have n12 := n1.trans n2
  refine h2 σ C2 _ H2 G2 ((p.next n1).next n2) ((E.mono ov_l).mono ov_l) _ fun z vz W3 C3 H3 G3 ⟨o, g, hq⟩ n3 dz => ?_
  have n13 := n12.trans n3
  have dy' : Dv K (ov B C3) vy y := by
    have d0 : Dv K (ov (ov B C1) C2) vy y := dy
    rw [ov_ov n2.cc] at d0
    exact d0.mono (ov_mono n3.cc)
  have dz' : Dv K (ov B C3) vz z := by
    have d0 : Dv K (ov (ov (ov B C1) C2) C3) vz z := dz
    rw [ov_ov n3.cc, ov_ov (n2.cc.trans n3.cc)] at d0
    exact d0
  obtain ⟨a', r, e1, e2, e3⟩ := g.run (p.next n13) (Dv.mono (ov_mono (n2.cc.trans n3.cc)) dx) dy'
  rw [ea] at e1
  cases e1
  refine ⟨r, e2, ?_⟩
  cases r with
  | none =>
    cases o with
    | none => exact k _ _ W3 C3 H3 G3 hq n13 dz'
    | some _ => exact False.elim e3
  | some v =>
    cases o with
    | none => exact False.elim e3
    | some d => exact k d v W3 C3 H3 G3 hq n13 e3
in #guard_msgs in open Nat
/-! lists at an address -/
theorem x2_ixL {ds : List D} {n : Int} (v : Vw K x W (.lst ds)) (h : atI ds n = some d) (hq : q d W) : X2 K Z (rIxL K) x (.int n) W q := fun vx vy C B H G p ⟨dx, dy⟩ Q k => by
  cases dy
  obtain ⟨a, vs, e1, e2, e3⟩ := v.lst p dx
  subst e1
  obtain ⟨j, g1, g2, g3, g4, g5⟩ := atI_get h
  obtain ⟨w, e6, dw⟩ := e3.at g2
  refine ⟨_, _, n, w, rfl, rfl, Sq_of e2, ?_, k d w W C H G hq p.refl (dw.mono ov_l)⟩
  unfold atI at h ⊢
  rw [e3.len]
  cases e : ixN ds.length n with
  | none => rw [e] at h; cases h
  | some j' =>
    have q1 := ixN_seq e
    rw [g1] at q1
    cases q1.1
    exact e6
in #guard_msgs in open Nat
theorem x2_inL {ds : List D} (v : Vw K x W (.lst ds)) (f : fltD y = true) (fs : ds.all fltD = true) (hq : q (.bl (inD y ds)) W) : X2 K Z (rIn K false) y x W q := fun vy vx C B H G p ⟨dy, dx⟩ Q k => by
  obtain ⟨a, vs, e1, e2, e3⟩ := v.lst p dx
  subst e1
  refine ⟨_, _, rfl, .inl (Sq_of e2), flat_dv dy f, flats_dv e3 fs, ?_⟩
  rw [if_neg Bool.false_ne_true, inV_dv dy f e3 fs]
  exact k _ _ W C H G hq p.refl (Dv.bl _)
in #guard_msgs in open Nat
theorem x2_ninL {ds : List D} (v : Vw K x W (.lst ds)) (f : fltD y = true) (fs : ds.all fltD = true) (hq : q (.bl (!inD y ds)) W) : X2 K Z (rIn K true) y x W q := fun vy vx C B H G p ⟨dy, dx⟩ Q k => by
  obtain ⟨a, vs, e1, e2, e3⟩ := v.lst p dx
  subst e1
  refine ⟨_, _, rfl, .inl (Sq_of e2), flat_dv dy f, flats_dv e3 fs, ?_⟩
  rw [if_pos rfl, inV_dv dy f e3 fs]
  exact k _ _ W C H G hq p.refl (Dv.bl _)
in #guard_msgs in open Nat
theorem xl_lenL {ds : List D} (v : Vw K x W (.lst ds)) (hq : q (.int ds.length) W) : XL K Z (qLenQ K) [x] W q := fun vs C B H G p dv Q k => by
  obtain ⟨vx, rfl, dx⟩ := dvl_one dv
  obtain ⟨a, ws, e1, e2, e3⟩ := v.lst p dx
  subst e1
  exact ⟨_, _, rfl, .inl (Sq_of e2), by rw [e3.len]; exact k _ _ W C H G hq p.refl (Dv.int _)⟩
in #guard_msgs in open Nat
theorem xln_listL {ds : List D} (v : Vw K x W (.lst ds)) (hq : q (.lst ds) W) : XLN K Z (qListOf K) [x] W q := fun vs C B H G p dv Q k => by
  obtain ⟨vx, rfl, dx⟩ := dvl_one dv
  obtain ⟨a, ws, e1, e2, e3⟩ := v.lst p dx
  subst e1
  refine ⟨_, _, rfl, .inl (Sq_of e2), fun l np => ?_⟩
  exact k _ _ W _ _ G hq (p.new (same_upd np) np) (p.newR (same_upd np) np ⟨_, upd_same, e3.mono (same_remx p.bh np)⟩)
in #guard_msgs in open Nat
theorem xl_tupL {ds : List D} (v : Vw K x W (.lst ds)) (hq : q (.tup ds) W) : XL K Z (qTupOf K) [x] W q := fun vs C B H G p dv Q k => by
  obtain ⟨vx, rfl, dx⟩ := dvl_one dv
  obtain ⟨a, ws, e1, e2, e3⟩ := v.lst p dx
  subst e1
  refine ⟨_, _, rfl, .inl ⟨Sq_of e2, fun l np => ?_⟩⟩
  have x2 := p.same (same_upd (p := l) (o := .tup ws) np)
  refine k _ _ W _ _ G hq x2 ?_
  show Dv _ _ _ _
  rw [ov_ext p.cb p.bh]
  exact .tup (by rw [ext_new np, upd_same]) (e3.mono (ext_l p.bh))
in #guard_msgs in open Nat
theorem xn_slL {tlo thi : TO} (h : XE K Z te ρ W fun x W1 => XO K Z tlo ρ W1 fun lo W2 => XO K Z thi ρ W2 fun hi W3 => ∃ ds, Vw K x W3 (.lst ds) ∧ q (.lst (cut ds lo hi)) W3) : XN K Z (tSl (rSlL K) te tlo thi) ρ W q := fun σ C B H G p E Q k => h σ C B H G p E _ fun x vx W1 C1 H1 G1 h1 n1 dx =>
  h1 σ C1 _ H1 G1 (p.next n1) (E.mono ov_l) _ fun lo vlo W2 C2 H2 G2 h2 n2 e2 => h2 σ C2 _ H2 G2 ((p.next n1).next n2) ((E.mono ov_l).mono ov_l) _ fun hi vhi W3 C3 H3 G3 ⟨ds, v, hq⟩ n3 e3 => by
    have e2 : vlo = lo := e2
    have e3 : vhi = hi := e3
    subst e2 e3
    have n13 := n1.trans (n2.trans n3)
    have p3 := p.next n13
    obtain ⟨a, ws, g1, g2, g3⟩ := v.lst p3 (Dv.mono (ov_mono (n2.cc.trans n3.cc)) dx)
    subst g1
    refine ⟨a, ws, rfl, Sq_of g2, fun l np => ?_⟩
    refine k _ _ W3 _ _ G3 hq (n13.trans (p3.new (same_upd np) np)) (rN_up n13.dm ?_)
    have := p3.newR (d := .lst (cut ds vlo vhi)) (same_upd (o := .lst (cutV ws vlo vhi)) np) np ⟨_, upd_same, (g3.cut).mono (same_remx p3.bh np)⟩
    rwa [ov_ov (p3.new (same_upd np) np).cc] at this
in #guard_msgs in open Nat
/-- a list's method of one argument that tells data -/
theorem xe_bmL {r : V → List V → Hp → VK → Prop} {to : TE} (h : XE K Z to ρ W fun a W1 => ∃ ds, Vw K a W1 (.lst ds) ∧ XE K Z te ρ W1 fun b W2 => X2 K Z (fun x y H Q => r x [y] H Q) a b W2 q) : XE K Z (tBM K "list" r to (tCons te tNil)) ρ W q := fun σ C B H G p E Q k => h σ C B H G p E _ fun a va W1 C1 H1 G1 ⟨ds, v, h1⟩ n1 dx => by
  obtain ⟨l, ws, g1, g2, g3⟩ := v.lst (p.next n1) dx
  subst g1
  refine ⟨.inl ⟨rfl, ws, Sq_of g2⟩, h1 σ C1 _ H1 G1 (p.next n1) (E.mono ov_l) _ fun b vb W2 C2 H2 G2 h2 n2 dy => ?_⟩
  have dy' : Dv K (ov B C2) vb b := by rw [← ov_ov n2.cc]; exact dy
  exact h2 _ vb C2 _ H2 G2 (p.next (n1.trans n2)) ⟨Dv.mono (ov_mono n2.cc) dx, dy'⟩ Q fun d v W' C' H' G' hq n3 dv => k d v W' C' H' G' hq (n1.trans (n2.trans n3)) (by rw [ov_ov n3.cc] at dv; exact dv)
in #guard_msgs in open Nat
end
/-! ### what is written at an address -/
section
variable {K : PySem.W.Frag} {Z : Zx} {C C' B H H' F : Hp} {σ : L2.St} {ρ : List Sl} {W W' : List Res} {A G : List Addr} {P : AEnds} {t u : TS} {te ti ta tb td ty tv to : TE} {tt : TT} {tl : TA} {i j : Nat} {d x y : D}
theorem Rx.dd (r : Rx K Z C H σ ρ W A G) {v : V} (n : Same C C') (dv : Dv K (ov C C') v d) : Dv K C' v d := by rwa [ov_same n] at dv
theorem Nx.cell {Gx : List Addr} (n : Nx C H G C' H' W' Gx) {K : PySem.W.Frag} {a : Addr} (h : H a ≠ none) (g : a ∉ G) (c : Cell K C H a d) : Cell K C' H' a d := c.mono n.cc (n.at h g)
in #guard_msgs in open Nat
/-- append to a list at an address -/
theorem xs_appendC (h : XE K Z to (vd ρ) W fun o W1 => ∃ p, o = .op (.ref p) ∧ (∃ (i : Nat) (ds : List D), W1[i]? = some (cel K p (.lst ds))) ∧ XE K Z te (vd ρ) W1 fun d W2 => ∃ (i : Nat) (ds : List D), W2[i]? = some (cel K p (.lst ds)) ∧ ds.length < 100000 ∧ P.nx ρ (W2.set i (cel K p (.lst (ds ++ [d]))))) : XS K Z (tDrop (tBM K "list" rAppend to (tCons te tNil))) ρ W P := fun F R ok C H σ A G s r =>
  h σ C C H G r.pd r.ed _ fun o vo W1 C1 H1 G1 ⟨p, e, ⟨i0, ds0, h0⟩, h1⟩ n1 dx => by
    subst e
    cases dx
    have r1 := r.next n1
    obtain ⟨⟨vs0, g1, _⟩, _⟩ := n1.res.cel h0
    refine ⟨.inl ⟨rfl, vs0, Sq_of g1⟩, h1 σ C1 C1 H1 G1 r1.pd r1.ed _ fun d v W2 C2 H2 G2 ⟨i, ds, hi, hl, hn⟩ n2 dv => ?_⟩
    have r2 := r1.next n2
    obtain ⟨⟨vs, g2, g3⟩, _⟩ := n2.res.cel hi
    have dv' := r1.dd n2.cc dv
    have x := r2.pd.put (d' := .lst (ds ++ [d])) (o := .lst (vs ++ [v])) hi ⟨_, upd_same, g3.append (.cons dv' .nil)⟩
    exact ⟨p, vs, v, rfl, rfl, g2, smallL (by rw [g3.len]; exact hl), ok.nx hn (s.trans (n1.cc.trans n2.cc)) (r2.next x)⟩
in #guard_msgs in open Nat
/-- d[y] = v, d a slot's own -/
theorem xs_dputK {ks : List (Key × D)} (e : ρ[i]? = some (.own (.dk ks))) (h : XE K Z tv (vd ρ) W fun d W1 => XE K Z ty (vf ρ) W1 fun y W2 => ∃ k, y = kD k ∧ ks.length < 100000 ∧ P.nx (ρ.set i (.own (.dk (pK ks k d)))) W2) : XS K Z (sDPut (tVar i) ty tv) ρ W P := fun F R ok C H σ A G s r =>
  h σ C C H G r.pd r.ed _ fun d v W1 C1 H1 G1 h1 n1 dv => by
    have r1 := r.next n1
    obtain ⟨a, h1', h2, h3, vs, h4, h5⟩ := r1.own e
    refine ⟨_, h1', ?_⟩
    refine h1 σ C1 _ H1 G1 r1.pf r1.ef _ fun y vy W2 C2 H2 G2 ⟨k, ey, hl, hn⟩ n2 dy => ?_
    subst ey
    have r2 := r1.next n2
    have dv' := (r.dd n1.cc dv).mono n2.cc
    have g4 : H2 a = some (.dK vs) := by rw [n2.at (by rw [h4]; exact fun z => by cases z) (r1.nd a h2)]; exact h4
    have g5 := h5.mono n2.cc
    exact ⟨a, _, rfl, .inl ⟨vs, k, g4, kD_v dy, smallL (by rw [g5.kv.len]; exact hl), rfl⟩, ok.nx hn (s.trans (n1.cc.trans n2.cc)) (r2.mut e h1' h2 ⟨_, upd_same, .of (g5.kv.put dv')⟩)⟩
in #guard_msgs in open Nat
theorem xs_dputT {ks : List (List Key × D)} (e : ρ[i]? = some (.own (.dt ks))) (h : XE K Z tv (vd ρ) W fun d W1 => XE K Z ty (vf ρ) W1 fun y W2 => ∃ k, y = tD k ∧ ks.length < 100000 ∧ P.nx (ρ.set i (.own (.dt (pK ks k d)))) W2) : XS K Z (sDPut (tVar i) ty tv) ρ W P := fun F R ok C H σ A G s r =>
  h σ C C H G r.pd r.ed _ fun d v W1 C1 H1 G1 h1 n1 dv => by
    have r1 := r.next n1
    obtain ⟨a, h1', h2, h3, vs, h4, h5⟩ := r1.own e
    refine ⟨_, h1', ?_⟩
    refine h1 σ C1 _ H1 G1 r1.pf r1.ef _ fun y vy W2 C2 H2 G2 ⟨k, ey, hl, hn⟩ n2 dy => ?_
    subst ey
    have r2 := r1.next n2
    have dv' := (r.dd n1.cc dv).mono n2.cc
    have g4 : H2 a = some (.dT vs) := by rw [n2.at (by rw [h4]; exact fun z => by cases z) (r1.nd a h2)]; exact h4
    have g5 := h5.mono n2.cc
    obtain ⟨b, eb, hb⟩ := tD_v dy
    have hb2 : H2 b = some (.tup (k.map kV)) := (r1.pf.next n2).bh _ _ hb
    exact ⟨a, _, rfl, .inr ⟨vs, k, b, g4, eb, hb2, smallL (by rw [g5.kv.len]; exact hl), rfl⟩, ok.nx hn (s.trans (n1.cc.trans n2.cc)) (r2.mut e h1' h2 ⟨_, upd_same, .of (g5.kv.put dv')⟩)⟩
in #guard_msgs in open Nat
/-- .. at an address -/
theorem xs_dputC (h : XE K Z tv (vd ρ) W fun d W1 => XE K Z td (vd ρ) W1 fun o W2 => ∃ p, o = .op (.ref p) ∧ XE K Z ty (vf ρ) W2 fun y W3 => ∃ (i : Nat) (ks : List (Key × D)) (k : Key), W3[i]? = some (cel K p (.dk ks)) ∧ y = kD k ∧ ks.length < 100000 ∧ P.nx ρ (W3.set i (cel K p (.dk (pK ks k d))))) : XS K Z (sDPut td ty tv) ρ W P := fun F R ok C H σ A G s r =>
  h σ C C H G r.pd r.ed _ fun d v W1 C1 H1 G1 h1 n1 dv => by
    have r1 := r.next n1
    refine h1 σ C1 C1 H1 G1 r1.pd r1.ed _ fun o vo W2 C2 H2 G2 ⟨p, eo, h2⟩ n2 dx => ?_
    subst eo
    cases dx
    have r2 := r1.next n2
    refine h2 σ C2 _ H2 G2 r2.pf r2.ef _ fun y vy W3 C3 H3 G3 ⟨i, ks, k, hi, ey, hl, hn⟩ n3 dy => ?_
    subst ey
    have r3 := r2.next n3
    obtain ⟨⟨vs, g2, g3⟩, _⟩ := n3.res.cel hi
    have dv' := (r.dd n1.cc dv).mono (n2.cc.trans n3.cc)
    have x := r3.pd.put (d' := .dk (pK ks k d)) (o := .dK (putK vs k v)) hi ⟨_, upd_same, .of (g3.kv.put dv')⟩
    exact ⟨p, _, rfl, .inl ⟨vs, k, g2, kD_v dy, smallL (by rw [g3.kv.len]; exact hl), rfl⟩, ok.nx hn (s.trans (n1.cc.trans (n2.cc.trans n3.cc))) (r3.next x)⟩
in #guard_msgs in open Nat
theorem xs_dputCT (h : XE K Z tv (vd ρ) W fun d W1 => XE K Z td (vd ρ) W1 fun o W2 => ∃ p, o = .op (.ref p) ∧ XE K Z ty (vf ρ) W2 fun y W3 => ∃ (i : Nat) (ks : List (List Key × D)) (k : List Key), W3[i]? = some (cel K p (.dt ks)) ∧ y = tD k ∧ ks.length < 100000 ∧ P.nx ρ (W3.set i (cel K p (.dt (pK ks k d))))) : XS K Z (sDPut td ty tv) ρ W P := fun F R ok C H σ A G s r =>
  h σ C C H G r.pd r.ed _ fun d v W1 C1 H1 G1 h1 n1 dv => by
    have r1 := r.next n1
    refine h1 σ C1 C1 H1 G1 r1.pd r1.ed _ fun o vo W2 C2 H2 G2 ⟨p, eo, h2⟩ n2 dx => ?_
    subst eo
    cases dx
    have r2 := r1.next n2
    refine h2 σ C2 _ H2 G2 r2.pf r2.ef _ fun y vy W3 C3 H3 G3 ⟨i, ks, k, hi, ey, hl, hn⟩ n3 dy => ?_
    subst ey
    have r3 := r2.next n3
    obtain ⟨⟨vs, g2, g3⟩, _⟩ := n3.res.cel hi
    have dv' := (r.dd n1.cc dv).mono (n2.cc.trans n3.cc)
    obtain ⟨b, eb, hb⟩ := tD_v dy
    have hb2 : H3 b = some (.tup (k.map kV)) := (r2.pf.next n3).bh _ _ hb
    have x := r3.pd.put (d' := .dt (pK ks k d)) (o := .dT (putK vs k v)) hi ⟨_, upd_same, .of (g3.kv.put dv')⟩
    exact ⟨p, _, rfl, .inr ⟨vs, k, b, g2, eb, hb2, smallL (by rw [g3.kv.len]; exact hl), rfl⟩, ok.nx hn (s.trans (n1.cc.trans (n2.cc.trans n3.cc))) (r3.next x)⟩
in #guard_msgs in open Nat
/-- e.f += v -/
theorem xs_fldAug {Cl : Addr} {f : Str} {rd : V → V → Hp → VK → Prop} (h : XE K Z ta (vd ρ) W fun o W1 => ∃ a, o = .op (.ref a) ∧ (∃ (i : Nat) (fs : List (Str × D)) (d0 : D), W1[i]? = some (obj K a Cl fs) ∧ fs.lookup f = some d0 ∧ XE K Z tv (vd ρ) W1 fun y W2 => X2 K Z rd d0 y W2 fun z W3 => ∃ (j : Nat) (fs' : List (Str × D)), W3[j]? = some (obj K a Cl fs') ∧ scalD z = true ∧ fs'.length < 1000 ∧ P.nx ρ (W3.set j (obj K a Cl (putD f z fs'))))) : XS K Z (sFldAugC Cl ta tv rd f) ρ W P := fun F R ok C H σ A G s r =>
  h σ C C H G r.pd r.ed _ fun o vo W1 C1 H1 G1 ⟨a, eo, i, fs, d0, hi, hl, h1⟩ n1 dx => by
    subst eo
    cases dx
    have r1 := r.next n1
    obtain ⟨dx, vfs, g1, g2, g3, _⟩ := n1.res.obj hi
    obtain ⟨w, l, dw⟩ := g3.look hl
    refine ⟨a, dx, vfs, w, rfl, g1, l, h1 σ C1 C1 H1 G1 r1.pd r1.ed _ fun y vy W2 C2 H2 G2 h2 n2 dy => ?_⟩
    have r2 := r1.next n2
    have dy' := r1.dd n2.cc dy
    refine h2 w vy C2 C2 H2 G2 r2.pd ⟨dw.mono n2.cc, dy'⟩ _ fun z vz W3 C3 H3 G3 ⟨j, fs', hj, hz, hl', hn⟩ n3 dz => ?_
    have r3 := r2.next n3
    obtain ⟨dx', vfs', k1, k2, k3, _⟩ := n3.res.obj hj
    have x := r3.pd.putI hj k1 (DvF.put (f := f) (dv_scal (B' := C3) dz hz) k3)
    exact ⟨dx', vfs', k1, by rw [k3.len]; exact hl', ok.nx hn (s.trans (n1.cc.trans (n2.cc.trans n3.cc))) (r3.next x)⟩
in #guard_msgs in open Nat
end
/-! ### loops -/
def ent (d : D) : Sl := if scalD d = true then .sh d else .bo d
def XG (K : PySem.W.Frag) (Z : Zx) (m : Bool) (g : TG) (x : D) (ρ : List Sl) (W : List Res) (n : List Sl → List Res → Prop) : Prop := ∀ (C H : Hp) (σ : L2.St) (A G : List Addr) (v : V), Rx K Z C H σ ρ W A G → Dv K (if m = true then C else ov Z.Ba C) v x → ∀ Qs : L2.St → Hp → Prop, (∀ ρ' W' C' H' σ' A' G', n ρ' W' → Same C C' → Rx K Z C' H' σ' ρ' W' A' G' → Qs σ' H') → g v σ H Qs
def XGs (K : PySem.W.Frag) (Z : Zx) (m : Bool) (g : TGs) (xs : List D) (ρ : List Sl) (W : List Res) (n : List Sl → List Res → Prop) : Prop := ∀ (C H : Hp) (σ : L2.St) (A G : List Addr) (vs : List V), Rx K Z C H σ ρ W A G → DvL K (if m = true then C else ov Z.Ba C) vs xs → ∀ Qs : L2.St → Hp → Prop, (∀ ρ' W' C' H' σ' A' G', n ρ' W' → Same C C' → Rx K Z C' H' σ' ρ' W' A' G' → Qs σ' H') → g vs σ H Qs
section
variable {K : PySem.W.Frag} {Z : Zx} {C C' B H H' F : Hp} {σ : L2.St} {ρ : List Sl} {W W' : List Res} {A G : List Addr} {P : AEnds} {t u : TS} {te ti ta tb td ty tv to : TE} {tt : TT} {tl : TA} {i j : Nat} {d x y : D} {m : Bool}
theorem mode_mono (s : Same C C') : Same (if m = true then C else ov Z.Ba C) (if m = true then C' else ov Z.Ba C') := by
  cases m
  · exact ov_mono s
  · exact s
theorem xg_name {n : List Sl → List Res → Prop} (h : n (ρ.set j (if m = true then .sh x else ent x)) W) : XG K Z m (gName j) x ρ W n := fun C H σ A G v r dv Qs k => by
  cases m with
  | true =>
    obtain ⟨A', r'⟩ := r.setSh dv j
    exact k _ _ _ _ _ _ _ h (Same.refl _) r'
  | false =>
    have h : n (ρ.set j (ent x)) W := h
    unfold ent at h
    by_cases c : scalD x = true
    · rw [if_pos c] at h
      obtain ⟨A', r'⟩ := r.setSh (dv_scal (B' := C) dv c) j
      exact k _ _ _ _ _ _ _ h (Same.refl _) r'
    · rw [if_neg c] at h
      obtain ⟨A', r'⟩ := r.setBo dv j
      exact k _ _ _ _ _ _ _ h (Same.refl _) r'
in #guard_msgs in open Nat
theorem xgs_nil {n : List Sl → List Res → Prop} (h : n ρ W) : XGs K Z m gNil [] ρ W n := fun C H σ A G v r dv Qs k => by
  cases dv
  exact ⟨rfl, k _ _ _ _ _ _ _ h (Same.refl _) r⟩
in #guard_msgs in open Nat
theorem xgs_cons {g : TG} {gs : TGs} {xs : List D} {n : List Sl → List Res → Prop} (h : XG K Z m g x ρ W fun ρ1 W1 => XGs K Z m gs xs ρ1 W1 n) : XGs K Z m (gCons g gs) (x :: xs) ρ W n := fun C H σ A G v r dv Qs k => by
  cases dv with
  | cons dx dxs => exact ⟨_, _, rfl, h C H σ A G _ r dx _ fun ρ' W' C' H' σ' A' G' h' s' r' => h' C' H' σ' A' G' _ r' (dxs.mono (mode_mono s')) Qs fun ρ2 W2 B2 H2 σ2 A2 G2 h2 s2 r2 => k _ _ _ _ _ _ _ h2 (s'.trans s2) r2⟩
in #guard_msgs in open Nat
theorem xg_tup {k : Nat} {gs : TGs} {xs : List D} {n : List Sl → List Res → Prop} (hl : xs.length = k) (h : XGs K Z m gs xs ρ W n) : XG K Z m (gTup K k gs) (.tup xs) ρ W n := fun C H σ A G v r dv Qs kk => by
  cases dv with
  | @tup a vs _ hs hv =>
    have s : Same (if m = true then C else ov Z.Ba C) H := by
      cases m
      · exact r.pb.bh
      · exact r.nx.ch
    exact ⟨_, _, rfl, St_of (s _ _ hs), by rw [hv.len]; exact hl, h C H σ A G _ r hv Qs kk⟩
in #guard_msgs in open Nat
/-- where a loop stands -/
def LPx (K : PySem.W.Frag) (Z : Zx) (F : Hp) (Iv : List Sl → List Res → Prop) (σ' : L2.St) (H' : Hp) : Prop := ∃ ρ' W' C' A' G', Iv ρ' W' ∧ Same F C' ∧ Rx K Z C' H' σ' ρ' W' A' G'
theorem lpx_wk {Iv : List Sl → List Res → Prop} (h : ∃ ρ' W', Wk ρ ρ' ∧ Ent W W' ∧ Iv ρ' W') (s : Same F C) (r : Rx K Z C H σ ρ W A G) : LPx K Z F Iv σ H := by
  obtain ⟨ρ', W', w, e, hI⟩ := h
  obtain ⟨A', r'⟩ := r.wk w
  obtain ⟨G', n, _⟩ := Nx.ent (Nx.refl r.nx.res r.nx.ch) e
  exact ⟨ρ', W', C, A', G', hI, s, r'.next n⟩
in #guard_msgs in open Nat
/-- the ends of a loop's body -/
abbrev loopP (P : AEnds) (Iv : List Sl → List Res → Prop) : AEnds := ⟨fun ρ W => ∃ ρ' W', Wk ρ ρ' ∧ Ent W W' ∧ Iv ρ' W', P.rt, P.rn, P.nx, fun ρ W => ∃ ρ' W', Wk ρ ρ' ∧ Ent W W' ∧ Iv ρ' W'⟩
theorem XOk.loop {Iv : List Sl → List Res → Prop} {F F' : Hp} {R : Ends} (ok : XOk K Z F P R) (s : Same F F') : XOk K Z F' (loopP P Iv) ⟨LPx K Z F' Iv, R.rt, R.nx, LPx K Z F' Iv⟩ :=
  ⟨fun hn sn rn => lpx_wk hn sn rn, fun hn sn rn => ok.nx hn (s.trans sn) rn, fun hn sn rn => lpx_wk hn sn rn, ok.rt, ok.rn⟩
in #guard_msgs in open Nat
def XFor (K : PySem.W.Frag) (Z : Zx) (m : Bool) (xs : List D) (g : TG) (tb : TS) (ρ : List Sl) (W : List Res) (P : AEnds) : Prop := ∃ Iv : Nat → List Sl → List Res → Prop, (∃ ρ' W', Wk ρ ρ' ∧ Ent W W' ∧ Iv 0 ρ' W') ∧
  (∀ i x ρ' W', xs[i]? = some x → Iv i ρ' W' → XG K Z m g x ρ' W' fun ρ2 W2 => XS K Z tb ρ2 W2 (loopP P (Iv (i + 1)))) ∧ ∀ ρ' W', Iv xs.length ρ' W' → P.nx ρ' W'
theorem xs_forL {tl : TE} {g : TG} {tb : TS} (h : XE K Z tl (vd ρ) W fun d W' => ∃ xs, (d = .lst xs ∨ d = .fls xs) ∧ XFor K Z true xs g tb ρ W' P) : XS K Z (tFor (iList K tl) g tb) ρ W P := fun F R ok C H σ A G s r => by
  refine w_forL (h σ C C H G r.pd r.ed _ fun d v W1 C1 H1 G1 ⟨xs, ed, Iv, h0, hs, hd⟩ n1 dv => ?_)
  have r1 := r.next n1
  have dv0 := r.dd n1.cc dv
  have dv' : Dv K C1 v (.lst xs) ∨ Dv K C1 v (.fls xs) := ed.imp (fun (e : d = .lst xs) => e ▸ dv0) fun (e : d = .fls xs) => e ▸ dv0
  obtain ⟨a, rfl⟩ := dv_ref dv'
  obtain ⟨vs, h1, h2⟩ := dv_seq dv'
  refine forL (K := K) (r1.nx.ch.seq h1) (fun i => LPx K Z C1 (Iv i)) (lpx_wk h0 (Same.refl _) r1) (fun i σ' H' _ ⟨ρ', W', C', A', G', _, s', r'⟩ => (s'.trans r'.nx.ch).seq h1) ?_ ?_
  · rintro i x σ' H' hi ⟨ρ', W', C', A', G', hI, s', r'⟩
    obtain ⟨dx, e1, e2⟩ := h2.at' hi
    refine hs i dx ρ' W' e1 hI C' H' σ' A' G' x r' (e2.mono s') _ fun ρ2 W2 B2 H2 σ2 A2 G2 h2 s2 r2 => ?_
    exact h2 C1 _ (ok.loop (s.trans n1.cc)) B2 H2 σ2 A2 G2 (s'.trans s2) r2
  · rintro σ' H' ⟨ρ', W', C', A', G', hI, s', r'⟩
    rw [h2.len] at hI
    exact ok.nx (hd _ _ hI) (s.trans (n1.cc.trans s')) r'
in #guard_msgs in open Nat
theorem xs_forB {tl : TE} {g : TG} {tb : TS} (h : XE K Z tl (vb ρ) W fun d W' => ∃ xs, (d = .lst xs ∨ d = .fls xs) ∧ XFor K Z false xs g tb ρ W' P) : XS K Z (tFor (iList K tl) g tb) ρ W P := fun F R ok C H σ A G s r => by
  refine w_forL (h σ C _ H G r.pb r.eb _ fun d v W1 C1 H1 G1 ⟨xs, ed, Iv, h0, hs, hd⟩ n1 dv => ?_)
  have r1 := r.next n1
  have dv0 : Dv K (ov Z.Ba C1) v d := by
    have d1 : Dv K (ov (ov Z.Ba C) C1) v d := dv
    rwa [ov_ov n1.cc] at d1
  have dv' : Dv K (ov Z.Ba C1) v (.lst xs) ∨ Dv K (ov Z.Ba C1) v (.fls xs) := ed.imp (fun (e : d = .lst xs) => e ▸ dv0) fun (e : d = .fls xs) => e ▸ dv0
  obtain ⟨a, rfl⟩ := dv_ref dv'
  obtain ⟨vs, h1, h2⟩ := dv_seq dv'
  refine forL (K := K) (r1.pb.bh.seq h1) (fun i => LPx K Z C1 (Iv i)) (lpx_wk h0 (Same.refl _) r1) (fun i σ' H' _ ⟨ρ', W', C', A', G', _, s', r'⟩ => ((ov_mono s').trans r'.pb.bh).seq h1) ?_ ?_
  · rintro i x σ' H' hi ⟨ρ', W', C', A', G', hI, s', r'⟩
    obtain ⟨dx, e1, e2⟩ := h2.at' hi
    refine hs i dx ρ' W' e1 hI C' H' σ' A' G' x r' (e2.mono (ov_mono s')) _ fun ρ2 W2 B2 H2 σ2 A2 G2 h2 s2 r2 => ?_
    exact h2 C1 _ (ok.loop (s.trans n1.cc)) B2 H2 σ2 A2 G2 (s'.trans s2) r2
  · rintro σ' H' ⟨ρ', W', C', A', G', hI, s', r'⟩
    rw [h2.len] at hI
    exact ok.nx (hd _ _ hI) (s.trans (n1.cc.trans s')) r'
in #guard_msgs in open Nat
/-- a place that stays as it is for a while -/
def Zx.lock (Z : Zx) (p : Addr) (o : HO) (d : D) : Zx := { Z with Lk := (p, o, d) :: Z.Lk }
/-- a cell is taken out, and locked -/
theorem Rx.take {p : Addr} {Wr : List Res} (r : Rx K Z C H σ ρ W A G) (e : Ent W ([cel K p d] ++ Wr)) : ∃ (o : HO) (Gr : List Addr), Rx K (Z.lock p o d) C H σ ρ Wr A Gr ∧ (p ∈ Z.G0 ∨ Z.H0 p = none) ∧ ∀ q ∈ Z.Lk, q.1 ≠ p := by
  obtain ⟨G1, h1, e1⟩ := e r.nx.res
  cases h1 with
  | @cons _ _ fp Gr hp dj th t =>
    obtain ⟨efp, c⟩ := hp
    have mp : p ∈ fp := by rw [efp]; exact List.mem_cons_self
    obtain ⟨o, ho⟩ : ∃ o, H p = some o := by
      cases e : H p with
      | none => exact absurd e c.there
      | some o => exact ⟨o, rfl⟩
    have mG : p ∈ G := e1 p (List.mem_append_left _ mp)
    have sub : ∀ a ∈ Gr, a ∈ G := fun a m => e1 a (List.mem_append_right _ m)
    refine ⟨o, Gr, ⟨⟨r.zk.ab, r.zk.gb⟩, ⟨r.nx.cc, r.nx.ch, r.nx.fr, r.nx.dm, r.nx.od, fun a m => r.nx.gg a (sub a m), t, r.nx.dh⟩, r.env, r.bo, fun a m z => r.nd a m (sub a z), r.na, fun q m => ?_, fun q m z => ?_⟩, r.nx.gg p mG, fun q m z => (r.lk q m).2.1 (z ▸ mG)⟩
    · rcases List.mem_cons.mp m with rfl | m
      · exact ⟨ho, dj p mp, (th p mp).1, c⟩
      · obtain ⟨k1, k2, k3, k4⟩ := r.lk q m
        exact ⟨k1, fun z => k2 (sub _ z), k3, k4⟩
    · rcases List.mem_cons.mp m with rfl | m
      · exact r.nd p z mG
      · exact r.la q m z
in #guard_msgs in open Nat
theorem lk_tail {p : Addr} {o : HO} (l : LkOk K (Z.lock p o d) C H G) : LkOk K Z C H G := fun q m => l q (List.mem_cons_of_mem _ m)
theorem nx_give {p : Addr} {o : HO} (l : LkOk K (Z.lock p o d) C H G) (n : Nx Z.C0 Z.H0 Z.G0 C H W G) (g : p ∈ Z.G0 ∨ Z.H0 p = none) (nl : ∀ q ∈ Z.Lk, q.1 ≠ p) : Nx Z.C0 Z.H0 Z.G0 C H ([cel K p d] ++ W) ([p] ++ G) ∧ LkOk K Z C H ([p] ++ G) := by
  obtain ⟨k1, k2, k3, k4⟩ := l (p, o, d) List.mem_cons_self
  refine ⟨⟨n.cc, n.ch, n.fr, n.dm, n.od, fun a m => ?_, .cons (r := cel K p d) ⟨rfl, k4⟩ (fun b m => ?_) (fun b m => ?_) n.res, n.dh⟩, fun q m => ?_⟩
  · rcases List.mem_append.mp m with m | m
    · rw [List.mem_singleton.mp m]
      exact g
    · exact n.gg a m
  · rw [List.mem_singleton.mp m]
    exact k2
  · rw [List.mem_singleton.mp m]
    exact ⟨k3, k4.hard⟩
  · obtain ⟨j1, j2, j3, j4⟩ := l q (List.mem_cons_of_mem _ m)
    exact ⟨j1, fun z => (List.mem_append.mp z).elim (fun z => nl q m (List.mem_singleton.mp z)) j2, j3, j4⟩
in #guard_msgs in open Nat
/-- .. and put back -/
theorem Rx.give {p : Addr} {o : HO} (r : Rx K (Z.lock p o d) C H σ ρ W A G) (g : p ∈ Z.G0 ∨ Z.H0 p = none) (nl : ∀ q ∈ Z.Lk, q.1 ≠ p) : Rx K Z C H σ ρ ([cel K p d] ++ W) A ([p] ++ G) := by
  obtain ⟨n, l⟩ := nx_give r.lk r.nx g nl
  refine ⟨⟨r.zk.ab, r.zk.gb⟩, n, r.env, r.bo, fun a m z => ?_, r.na, l, fun q m => r.la q (List.mem_cons_of_mem _ m)⟩
  rcases List.mem_append.mp z with z | z
  · rw [List.mem_singleton.mp z] at m
    exact r.la (p, o, d) List.mem_cons_self m
  · exact r.nd a m z
in #guard_msgs in open Nat
/-- the wish for refusals, while p is locked -/
theorem EOkW.lock {p : Addr} {o : HO} {mg : Str → Option Value} {E : XK} {x : XX} (hE : EOkW K Z mg E x) (g : p ∈ Z.G0 ∨ Z.H0 p = none) (nl : ∀ q ∈ Z.Lk, q.1 ≠ p) : EOkW K (Z.lock p o d) mg E fun c fs W => x c fs ([cel K p d] ++ W) := fun c Cl dd vfs fs W' C' H' G' hm hx n l nd hc hF => by
  obtain ⟨n2, l2⟩ := nx_give l n g nl
  exact hE c Cl dd vfs fs _ C' H' _ hm hx n2 l2 nd hc hF
in #guard_msgs in open Nat
abbrev lockP (K : PySem.W.Frag) (p : Addr) (d : D) (P : AEnds) : AEnds := ⟨fun ρ W => P.nx ρ ([cel K p d] ++ W), fun x W => P.rt x ([cel K p d] ++ W), fun x W => P.rn x ([cel K p d] ++ W), fun ρ W => P.bk ρ ([cel K p d] ++ W), fun ρ W => P.ct ρ ([cel K p d] ++ W)⟩
theorem XOk.lock {F : Hp} {R : Ends} {p : Addr} {o : HO} (ok : XOk K Z F P R) (g : p ∈ Z.G0 ∨ Z.H0 p = none) (nl : ∀ q ∈ Z.Lk, q.1 ≠ p) : XOk K (Z.lock p o d) F (lockP K p d P) R := ⟨fun hn s r => ok.nx hn s (r.give g nl), fun hn s r => ok.bk hn s (r.give g nl), fun hn s r => ok.ct hn s (r.give g nl), fun hn n l dv => by
    obtain ⟨n2, l2⟩ := nx_give l n g nl
    exact ok.rt hn n2 l2 dv, fun hn n l h0 cl pg pl c => by
    obtain ⟨n2, l2⟩ := nx_give l n g nl
    refine ok.rn hn n2 l2 h0 cl (fun z => ?_) (fun q m => pl q (List.mem_cons_of_mem _ m)) c
    rcases List.mem_append.mp z with z | z
    · exact pl (p, o, d) List.mem_cons_self (List.mem_singleton.mp z).symm
    · exact pg z⟩
in #guard_msgs in open Nat
/-- over a list at an address, which stays as it is -/
theorem xs_forC {tl : TE} {g : TG} {tb : TS} (h : XE K Z tl (vd ρ) W fun d W' => ∃ p, d = .op (.ref p) ∧ ∃ (xs : List D) (Wr : List Res), Ent W' ([cel K p (.lst xs)] ++ Wr) ∧ ∀ o, (p ∈ Z.G0 ∨ Z.H0 p = none) → (∀ q ∈ Z.Lk, q.1 ≠ p) → XFor K (Z.lock p o (.lst xs)) true xs g tb ρ Wr (lockP K p (.lst xs) P)) : XS K Z (tFor (iList K tl) g tb) ρ W P := fun F R ok C H σ A G s r => by
  refine w_forL (h σ C C H G r.pd r.ed _ fun d v W1 C1 H1 G1 ⟨p, ed, xs, Wr, he, hf⟩ n1 dv => ?_)
  subst ed
  cases dv
  obtain ⟨o, Gr, r2, g0, nl⟩ := (r.next n1).take he
  obtain ⟨ho, _, _, vs, h1, h2⟩ := r2.lk (p, o, .lst xs) List.mem_cons_self
  obtain ⟨Iv, h0, hs, hd⟩ := hf o g0 nl
  have ok2 := (XOk.lock (o := o) (d := .lst xs) ok g0 nl)
  have at_ : ∀ {C' H' σ' ρ' W' A' G'}, Rx K (Z.lock p o (.lst xs)) C' H' σ' ρ' W' A' G' → H' p = some (.lst vs) := fun {C' H' σ' ρ' W' A' G'} r' => by
    have q := (r'.lk (p, o, .lst xs) List.mem_cons_self).1
    rw [← h1, ho]
    exact q
  refine forL (K := K) (Sq_of h1) (fun i => LPx K (Z.lock p o (.lst xs)) C1 (Iv i)) (lpx_wk h0 (Same.refl _) r2) (fun i σ' H' _ ⟨ρ', W', C', A', G', _, s', r'⟩ => Sq_of (at_ r')) ?_ ?_
  · rintro i x σ' H' hi ⟨ρ', W', C', A', G', hI, s', r'⟩
    obtain ⟨dx, e1, e2⟩ := h2.at' hi
    refine hs i dx ρ' W' e1 hI C' H' σ' A' G' x r' (e2.mono s') _ fun ρ2 W2 B2 H2 σ2 A2 G2 h2 s2 r2 => ?_
    exact h2 C1 _ (ok2.loop (s.trans n1.cc)) B2 H2 σ2 A2 G2 (s'.trans s2) r2
  · rintro σ' H' ⟨ρ', W', C', A', G', hI, s', r'⟩
    rw [h2.len] at hI
    exact ok2.nx (hd _ _ hI) (s.trans (n1.cc.trans s')) r'
in #guard_msgs in open Nat
/-! ranges, whiles -/
def XForR (K : PySem.W.Frag) (Z : Zx) (lo : Int) (m : Nat) (g : TG) (tb : TS) (ρ : List Sl) (W : List Res) (P : AEnds) : Prop := ∃ Iv : Nat → List Sl → List Res → Prop, (∃ ρ' W', Wk ρ ρ' ∧ Ent W W' ∧ Iv 0 ρ' W') ∧
  (∀ i ρ' W', i < m → Iv i ρ' W' → XG K Z true g (.int (lo + i)) ρ' W' fun ρ2 W2 => XS K Z tb ρ2 W2 (loopP P (Iv (i + 1)))) ∧ ∀ ρ' W', Iv m ρ' W' → P.nx ρ' W'
theorem xforR_of {g : TG} {tb : TS} {lo : Int} {m : Nat} {R : Ends} (ok : XOk K Z F P R) (s : Same F C) (r : Rx K Z C H σ ρ W A G) (h : XForR K Z lo m g tb ρ W P) : ForR lo m g tb R σ H := by
  obtain ⟨Iv, h0, hs, hd⟩ := h
  refine forR (fun i => LPx K Z F (Iv i)) (lpx_wk h0 s r) ?_ ?_
  · rintro i σ' H' hi ⟨ρ', W', C', A', G', hI, s', r'⟩
    refine hs i ρ' W' hi hI C' H' σ' A' G' _ r' (.int _) _ fun ρ2 W2 B2 H2 σ2 A2 G2 h2 s2 r2 => ?_
    exact h2 F _ (ok.loop (Same.refl F)) B2 H2 σ2 A2 G2 (s'.trans s2) r2
  · rintro σ' H' ⟨ρ', W', C', A', G', hI, s', r'⟩
    exact ok.nx (hd _ _ hI) s' r'
in #guard_msgs in open Nat
theorem xs_forR1 {tl : TA} {g : TG} {tb : TS} (h : XA K Z tl (vf ρ) W fun ds W' => ∃ j : Int, ds = [.int j] ∧ (-(2 ^ 62) ≤ j ∧ j < 2 ^ 62) ∧ XForR K Z 0 j.toNat g tb ρ W' P) : XS K Z (tFor (iRng1 tl) g tb) ρ W P := fun F R ok C H σ A G s r =>
  w_forR1 (h σ C _ H G r.pf r.ef _ fun ds vs W1 C1 H1 G1 ⟨j, e, hb, hf⟩ n dv => by
    subst e
    exact ⟨j, dvl_int dv, hb.1, hb.2, xforR_of ok (s.trans n.cc) (r.next n) hf⟩)
in #guard_msgs in open Nat
theorem xs_forR2 {tl : TA} {g : TG} {tb : TS} (h : XA K Z tl (vf ρ) W fun ds W' => ∃ i j : Int, ds = [.int i, .int j] ∧ (-(2 ^ 62) ≤ i ∧ i < 2 ^ 62 ∧ -(2 ^ 62) ≤ j ∧ j < 2 ^ 62) ∧ XForR K Z i (j - i).toNat g tb ρ W' P) : XS K Z (tFor (iRng2 tl) g tb) ρ W P := fun F R ok C H σ A G s r =>
  w_forR2 (h σ C _ H G r.pf r.ef _ fun ds vs W1 C1 H1 G1 ⟨i, j, e, hb, hf⟩ n dv => by
    subst e
    exact ⟨i, j, dvl_int2 dv, hb, xforR_of ok (s.trans n.cc) (r.next n) hf⟩)
in #guard_msgs in open Nat
theorem xs_while {c : TT} {tb : TS} (Pv : Nat → List Sl → List Res → Prop) (m : Nat) (h0 : ∃ ρ' W', Wk ρ ρ' ∧ Ent W W' ∧ Pv m ρ' W')
    (hs : ∀ m ρ W, Pv m ρ W → XT K Z c (vf ρ) W fun b W' => (b = true → XS K Z tb ρ W' (loopP P fun ρ W => ∃ m', m' < m ∧ Pv m' ρ W)) ∧ (b = false → P.nx ρ W')) : XS K Z (tWhile c tb) ρ W P := fun F R ok C H σ A G s r => by
  refine ⟨fun m => LPx K Z F (Pv m), ⟨m, lpx_wk h0 s r⟩, ?_⟩
  rintro m σ' H' ⟨ρ', W', C', A', G', hP, s', r'⟩
  refine hs m ρ' W' hP σ' C' _ H' G' r'.pf r'.ef _ fun b v W1 C1 H1 G1 hb n e => ?_
  have e : v = b := e
  subst e
  have r1 := r'.next n
  have sF := s'.trans n.cc
  cases v with
  | false =>
    rw [if_neg Bool.false_ne_true]
    exact ok.nx (hb.2 rfl) sF r1
  | true =>
    rw [if_pos rfl]
    refine ⟨LPx K Z F fun ρ' W' => ∃ m', m' < m ∧ Pv m' ρ' W', fun σ' H' ⟨ρ', W', C', A', G', ⟨m', l, hp⟩, s', r'⟩ => ⟨m', l, ρ', W', C', A', G', hp, s', r'⟩, ?_⟩
    exact hb.1 rfl F _ (ok.loop (Same.refl F)) C1 H1 σ' A' G1 sF r1
in #guard_msgs in open Nat
end
/-! ### comprehensions -/
section
variable {K : PySem.W.Frag} {Z : Zx} {C C' B H H' F : Hp} {σ : L2.St} {ρ : List Sl} {W W' : List Res} {A G : List Addr} {te : TE} {tt : TT} {i j : Nat} {d x y : D} {q : D → List Res → Prop}
def XLc (K : PySem.W.Frag) (Z : Zx) (xs : List D) (j : Nat) (tt : TT) (te : TE) (ρ : List Sl) (W : List Res) (q : D → List Res → Prop) : Prop := ∃ Iv : Nat → List D → List Res → Prop, Iv 0 [] W ∧
  (∀ i x acc W1, xs[i]? = some x → Iv i acc W1 → XT K Z tt (ρ.set j (.sh x)) W1 fun b W2 => (b = true → XE K Z te (ρ.set j (.sh x)) W2 fun y W3 => acc.length < 100000 ∧ Iv (i + 1) (acc ++ [y]) W3) ∧ (b = false → Iv (i + 1) acc W2)) ∧ ∀ ys W', Iv xs.length ys W' → q (.lst ys) W'
/-- where a comprehension stands: its list D0 is nobody's -/
def LcAt (K : PySem.W.Frag) (Z : Zx) (C B H : Hp) (G : List Addr) (D0 : Addr) (Iv : List D → List Res → Prop) (H' : Hp) : Prop := H D0 = none ∧ ∃ C' W' G' acc ws, Iv acc W' ∧ Pr K Z W' C' (ov B C') H' G' ∧ Nx C H G C' H' W' G' ∧ D0 ∉ G' ∧ ov B C' D0 = none ∧ H' D0 = some (.lst ws) ∧ DvL K (ov B C') ws acc
theorem Pr.fresh {D0 : Addr} {o : HO} (p : Pr K Z W C B H G) (n : H D0 = none) : Pr K Z W C B (upd H D0 o) G ∧ Nx C H G C (upd H D0 o) W G := by
  have s : Same H (upd H D0 o) := same_upd n
  have k : ∀ a, H a ≠ none → upd H D0 o a = H a := fun a h => upd_ne fun (z : a = D0) => h (z ▸ n)
  have x : Nx C H G C (upd H D0 o) W G := ⟨Same.refl _, p.ch.trans s, fun a u e _ => s a u e, fun a h z => h (s.free z), fun _ _ => rfl, fun _ m => .inl m, p.nx.res.mono (Same.refl _) (fun a m => (p.nx.res.there a m).1) (fun a m => k a (p.nx.res.there a m).2), fun a n => hard_up s n⟩
  exact ⟨⟨p.lk.next x, p.nx.trans x, p.cb, p.bh.trans s, p.gB⟩, x⟩
in #guard_msgs in open Nat
theorem Nx.poke {C0 H0 : Hp} {G0 : List Addr} {D0 : Addr} {o : HO} (ho : ∀ xs, o ≠ .tup xs) (x : Nx C0 H0 G0 C H W G) (n0 : H0 D0 = none) (g : D0 ∉ G) (c : C D0 = none) : Nx C0 H0 G0 C (upd H D0 o) W G := by
  have k : ∀ a u, C a = some u → a ≠ D0 := fun a u e z => by rw [z, c] at e; cases e
  refine ⟨x.cc, fun a u e => by rw [upd_ne (k a u e)]; exact x.ch a u e, fun a u e n => by rw [upd_ne (ne_of_none e n0)]; exact x.fr a u e n, fun a h => ?_, x.od, x.gg, x.res.mono (Same.refl _) (fun a m => (x.res.there a m).1) (fun a m => upd_ne fun (z : a = D0) => g (z ▸ m)), fun a n => ?_⟩
  by_cases z : a = D0
  · rw [z, upd_same]
    exact fun z => by cases z
  · rw [upd_ne z]
    exact x.dm a h
  by_cases z : a = D0
  · rw [z, upd_same]
    exact ⟨(fun z => by cases z), fun xs z => ho xs (Option.some.inj z)⟩
  · rw [upd_ne z]
    exact x.dh a n
in #guard_msgs in open Nat
theorem Pr.poke {D0 : Addr} {o : HO} (ho : ∀ xs, o ≠ .tup xs) (p : Pr K Z W C B H G) (n0 : Z.H0 D0 = none) (g : D0 ∉ G) (c : C D0 = none) (b : B D0 = none) (l : ∀ q ∈ Z.Lk, q.1 ≠ D0) : Pr K Z W C B (upd H D0 o) G := by
  refine ⟨fun q m => ?_, p.nx.poke ho n0 g c, p.cb, fun a u e => ?_, p.gB⟩
  · obtain ⟨k1, k2, k3, k4⟩ := p.lk q m
    have e : upd H D0 o q.1 = H q.1 := upd_ne (l q m)
    exact ⟨e.trans k1, k2, k3, k4.mono (Same.refl _) e⟩
  · rw [upd_ne fun (z : a = D0) => by rw [z, b] at e; cases e]
    exact p.bh a u e
in #guard_msgs in open Nat
theorem lcx_start (p : Pr K Z W C B H G) {D0 : Addr} {Iv : List D → List Res → Prop} (h0 : Iv [] W) (n : H D0 = none) : LcAt K Z C B H G D0 Iv (upd H D0 (.lst [])) := by
  obtain ⟨p1, x1⟩ := p.fresh (o := .lst []) n
  have e : ov B C = B := by
    funext b
    cases h : B b with
    | some o => exact ov_old h
    | none => rw [ov_new h]; exact p.cb.free h
  refine ⟨n, C, W, G, [], [], h0, by rw [e]; exact p1, x1, fun m => (p.nx.res.there D0 m).2 n, by rw [e]; exact p.bh.free n, upd_same, .nil⟩
in #guard_msgs in open Nat
theorem lcx_step {W : List Res} (p0 : Pr K Z W C B H G) (E : EnvS K B σ ρ) {D0 : Addr} {Iv Iv' : List D → List Res → Prop} {v : V} (dv : ∀ C', Dv K (ov B C') v x) (hs : ∀ acc W1, Iv acc W1 → XT K Z tt (ρ.set j (.sh x)) W1 fun b W2 => (b = true → XE K Z te (ρ.set j (.sh x)) W2 fun y W3 => acc.length < 100000 ∧ Iv' (acc ++ [y]) W3) ∧ (b = false → Iv' acc W2))
    (h : LcAt K Z C B H G D0 Iv H') : gName j v (L2.wipe σ [j]) H' fun σ2 H2 => L2.wipe σ2 [j] = L2.wipe σ [j] ∧ tt σ2 H2 fun b H3 =>
      if b = true then te σ2 H3 fun y H4 => ∃ acc, H4 D0 = some (.lst acc) ∧ acc.length < sizeLine ∧ LcAt K Z C B H G D0 Iv' (upd H4 D0 (.lst (acc ++ [y]))) else LcAt K Z C B H G D0 Iv' H3 := by
  obtain ⟨nD, C1, W1, G1, acc, ws, hI, p1, x1, g1, b1, hw, hdv⟩ := h
  have E1 : EnvS K (ov B C1) ((L2.wipe σ [j]).set j (some v)) (ρ.set j (.sh x)) := by
    have := ((E.mono ov_l).wipe j).set (i := j) (dv C1)
    rwa [List.set_set] at this
  refine ⟨wipe_one σ j _, hs acc W1 hI _ C1 _ H' G1 p1 E1 _ fun b w W2 C2 H2 G2 hb n2 e => ?_⟩
  have e : w = b := e
  subst e
  have hD2 : H2 D0 = some (.lst ws) := by rw [n2.at (ne_none hw) g1]; exact hw
  have g2 : D0 ∉ G2 := fun z => (n2.gg D0 z).elim g1 (ne_none hw)
  have ee : ov (ov B C1) C2 = ov B C2 := ov_ov n2.cc
  have c1 : C1 D0 = none := (n2.od D0 (hard_lst hw)).symm.trans (by
    cases h : C2 D0 with
    | none => rfl
    | some o =>
      rw [n2.od D0 (hard_lst hw)] at h
      have := p1.cb D0 o h
      rw [b1] at this
      cases this)
  have B0 : B D0 = none := by
    cases h : B D0 with
    | none => rfl
    | some o => rw [ov_old h] at b1; cases b1
  have b2 : ov B C2 D0 = none := by rw [ov_new B0, n2.od D0 (hard_lst hw)]; exact c1
  have p2 : Pr K Z W2 C2 (ov B C2) H2 G2 := by rw [← ee]; exact p1.next n2
  cases w with
  | false =>
    rw [if_neg Bool.false_ne_true]
    exact ⟨nD, C2, W2, G2, acc, ws, hb.2 rfl, p2, x1.trans n2, g2, b2, hD2, hdv.mono (ov_mono n2.cc)⟩
  | true =>
    rw [if_pos rfl]
    refine hb.1 rfl _ C2 _ H2 G2 p2 (by rw [← ee]; exact E1.mono ov_l) _ fun y vy W3 C3 H3 G3 ⟨hl, hy⟩ n3 dy => ?_
    have ee3 : ov (ov B C2) C3 = ov B C3 := ov_ov n3.cc
    have hD3 : H3 D0 = some (.lst ws) := by rw [n3.at (ne_none hD2) g2]; exact hD2
    have g3 : D0 ∉ G3 := fun z => (n3.gg D0 z).elim g2 (ne_none hD2)
    have c3 : C3 D0 = none := by rw [n3.od D0 (hard_lst hD2), n2.od D0 (hard_lst hw)]; exact c1
    have b3 : ov B C3 D0 = none := by rw [ov_new B0]; exact c3
    have p3 : Pr K Z W3 C3 (ov B C3) H3 G3 := by rw [← ee3]; exact p2.next n3
    have dy' : Dv K (ov B C3) vy y := by rw [← ee3]; exact dy
    refine ⟨ws, hD3, smallL (by rw [hdv.len]; exact hl), nD, C3, W3, G3, acc ++ [y], ws ++ [vy], hy, ?_, ?_, g3, b3, upd_same, (hdv.mono (ov_mono (n2.cc.trans n3.cc))).append (.cons dy' .nil)⟩
    · exact p3.poke (fun _ z => by cases z) (by
        cases e : Z.H0 D0 with
        | none => rfl
        | some o => exact absurd nD (p0.nx.dm D0 (ne_none e))) g3 c3 b3 fun q m z => by
        have k := (p0.lk q m).1
        rw [z, nD] at k
        cases k
    · exact (x1.trans (n2.trans n3)).poke (fun _ z => by cases z) nD g3 c3
in #guard_msgs in open Nat
theorem lcx_end {D0 : Addr} {Iv : List D → List Res → Prop} {Q : VK} (h : LcAt K Z C B H G D0 Iv H') (hd : ∀ ys W', Iv ys W' → q (.lst ys) W') (k : ∀ d v W' C' H' G', q d W' → Nx C H G C' H' W' G' → rN K H (ov B C') H' G' v d → Q v H') : Q (.ref D0) H' := by
  obtain ⟨nD, C1, W1, G1, acc, ws, hI, p1, x1, g1, b1, hw, hdv⟩ := h
  exact k _ _ W1 C1 H' G1 (hd _ _ hI) x1 ⟨D0, rfl, nD, b1, g1, ws, hw, hdv⟩
in #guard_msgs in open Nat
/-- over a list that stays as it is while the comprehension runs -/
theorem xn_lcL {tl : TE} {vs : List Nat} (hv : vs = [j]) (h : XE K Z tl ρ W fun d W1 => ∃ xs, (d = .lst xs ∨ d = .fls xs) ∧ XLc K Z xs j tt te ρ W1 q) : XN K Z (tLc (iList K tl) (gName j) tt te vs) ρ W q := by
  subst hv
  exact fun σ C B H G p E Q k => w_lcL (h σ C B H G p E _ fun d v W1 C1 H1 G1 ⟨xs, ed, Iv, h0, hs, hd⟩ n1 dv => by
    have p1 := p.next n1
    have E1 := E.mono (ov_l (C := C1))
    have dv0 : Dv K (ov B C1) v d := dv
    have dv' : Dv K (ov B C1) v (.lst xs) ∨ Dv K (ov B C1) v (.fls xs) := ed.imp (fun (e : d = .lst xs) => e ▸ dv0) fun (e : d = .fls xs) => e ▸ dv0
    obtain ⟨a, rfl⟩ := dv_ref dv'
    obtain ⟨ws, h1, h2⟩ := dv_seq dv'
    refine lcL (K := K) (p1.bh.seq h1) (fun D0 i H' => LcAt K Z C1 (ov B C1) H1 G1 D0 (Iv i) H') (fun D0 nD => lcx_start p1 h0 nD) (fun D0 i H' _ hh => ?_) ?_ ?_
    · obtain ⟨_, C2, W2, G2, acc, ws', hI, p2, _⟩ := hh
      exact ((ov_l).trans p2.bh).seq h1
    · rintro D0 i x H' hi hh
      obtain ⟨dx, e1, e2⟩ := h2.at' hi
      exact lcx_step p1 E1 (fun C' => e2.mono ov_l) (fun acc W2 hI => hs i dx acc W2 e1 hI) hh
    · rintro D0 H' nD hh
      rw [h2.len] at hh
      exact lcx_end hh hd fun d v W' C' H' G' hq n dn => k d v W' C' H' G' hq (n1.trans n) (rN_up n1.dm (by rw [ov_ov n.cc] at dn; exact dn)))
in #guard_msgs in open Nat
theorem xn_lcR1 {tl : TA} {vs : List Nat} (hv : vs = [j]) (h : XA K Z tl ρ W fun ds W1 => ∃ n : Int, ds = [.int n] ∧ (-(2 ^ 62) ≤ n ∧ n < 2 ^ 62) ∧ XLc K Z ((List.range n.toNat).map fun (i : Nat) => D.int (i : Int)) j tt te ρ W1 q) : XN K Z (tLc (iRng1 tl) (gName j) tt te vs) ρ W q := by
  subst hv
  exact fun σ C B H G p E Q k => w_lcR1 (h σ C B H G p E _ fun ds vs W1 C1 H1 G1 ⟨n, ed, hb, Iv, h0, hs, hd⟩ n1 dv => by
    subst ed
    have p1 := p.next n1
    have E1 := E.mono (ov_l (C := C1))
    refine ⟨n, dvl_int dv, hb.1, hb.2, ?_⟩
    refine lcR (fun D0 i H' => LcAt K Z C1 (ov B C1) H1 G1 D0 (Iv i) H') (fun D0 nD => lcx_start p1 h0 nD) ?_ ?_
    · rintro D0 i H' hi hh
      rw [Int.zero_add]
      exact lcx_step p1 E1 (fun C' => .int _) (fun acc W2 hI => hs i (.int i) acc W2 (by rw [List.getElem?_map, List.getElem?_range hi]; rfl) hI) hh
    · rintro D0 H' nD hh
      exact lcx_end hh (fun ys W' hI => hd ys W' (by rw [List.length_map, List.length_range]; exact hI)) fun d v W' C' H' G' hq n dn => k d v W' C' H' G' hq (n1.trans n) (rN_up n1.dm (by rw [ov_ov n.cc] at dn; exact dn)))
in #guard_msgs in open Nat
end
/-! ### the ends of a def -/
section
variable {K : PySem.W.Frag} {mg : Str → Option Value} {T : TX} {N : List Str} {vs : List V} {H : Hp} {Q : VK} {E : XK} {t : TS}
def ρe (N : List Str) (ds : List D) : List Sl := ds.map ent ++ List.replicate (N.length - ds.length) .un
theorem envR_ent {C B H : Hp} : ∀ {vs : List V} {ds : List D}, DvL K B vs ds → ∀ n, EnvR K C H (vs.map some ++ List.replicate n none) (vd (ds.map ent ++ List.replicate n .un)) []
  | _, _, .nil, 0 => .nil
  | _, _, .nil, n + 1 => by
    rw [List.replicate_succ, List.replicate_succ]
    exact .un (envR_ent (B := B) (vs := []) (ds := []) .nil n)
  | v :: vs, d :: ds, .cons h t, n => by
    have ih := envR_ent (C := C) (H := H) t n
    show EnvR K C H (some v :: _) (vd1 (ent d) :: vd (ds.map ent ++ List.replicate n .un)) []
    unfold ent
    by_cases c : scalD d = true
    · rw [if_pos c]
      exact .sh (dv_scal h c) ih
    · rw [if_neg c]
      exact .un ih
in #guard_msgs in open Nat
theorem bo_ent {B : Hp} : ∀ {vs : List V} {ds : List D}, DvL K B vs ds → ∀ (n : Nat) (i : Nat) (d : D), (ds.map ent ++ List.replicate n .un)[i]? = some (.bo d) → ∃ v, (vs.map some ++ List.replicate n none)[i]? = some (some v) ∧ Dv K B v d
  | _, _, .nil, n, i, d, h => by
    simp [List.getElem?_replicate] at h
  | v :: vs, e :: ds, .cons h t, n, 0, d, hh => by
    have q : ent e = .bo d := by simpa using hh
    unfold ent at q
    by_cases c : scalD e = true
    · rw [if_pos c] at q
      cases q
    · rw [if_neg c] at q
      cases q
      exact ⟨v, rfl, h⟩
  | v :: vs, e :: ds, .cons h t, n, i + 1, d, hh => bo_ent t n i d (by simpa using hh)
in #guard_msgs in open Nat
theorem rx_start {C B H : Hp} {G : List Addr} {W : List Res} {ds : List D} (cb : Same C B) (bh : Same B H) (gB : ∀ a ∈ G, B a = none) (r : WR C H W G) (h : DvL K B vs ds) : Rx K ⟨C, H, B, G, []⟩ C H (L2.start N vs) (ρe N ds) W [] G where
  zk := ⟨bh, gB⟩
  nx := Nx.refl r (cb.trans bh)
  env := by
    unfold L2.start ρe
    rw [h.len]
    exact envR_ent h _
  bo := fun i d hh => by
    unfold ρe at hh
    obtain ⟨v, e, dv⟩ := bo_ent h _ i d hh
    refine ⟨v, ?_, dv.mono ov_l⟩
    unfold L2.start
    rw [h.len]
    exact e
  nd := fun a m => by cases m
  na := fun a m => by cases m
  lk := fun q m => by cases m
  la := fun q m => by cases m
in #guard_msgs in open Nat
theorem pxf_enter (h : pxf K mg T vs H Q E) (hb : ∀ ds W q x Z, T ds W q x → EOkW K Z mg E x → XS K Z t (ρe N ds) W ⟨fun _ W' => ∃ W2, Ent W' W2 ∧ q .non W2, fun d W' => ∃ W2, Ent W' W2 ∧ q d W2, fun d W' => ∃ W2, Ent W' W2 ∧ q d W2, fun _ _ => False, fun _ _ => False⟩) : t { nx := fun _ H' => Q .non H', rt := Q } (L2.start N vs) H := by
  obtain ⟨C, B, ds, W, G, q, x, cb, bh, gB, r, dv, hT, k, hE⟩ := h
  refine hb ds W q x ⟨C, H, B, G, []⟩ hT (fun c Cl dd vfs fs W' C' H' G' hm hx n _ nd hc hF => hE c Cl dd vfs fs W' C' H' G' hm hx n nd hc hF) C _ ⟨fun ⟨W2, e, hq⟩ _ r' => ?_, fun hq _ _ => False.elim hq, fun hq _ _ => False.elim hq, fun ⟨W2, e, hq⟩ n _ dv => ?_, fun {C' H' d p W' G'} ⟨W2, e, hq⟩ n _ n0 cp pg _ c => ?_⟩ C H _ [] G (Same.refl _) (rx_start cb bh gB r dv)
  · obtain ⟨G2, n2, _⟩ := Nx.ent r'.nx e
    exact k _ _ W2 _ _ G2 hq n2 .non
  · obtain ⟨G2, n2, _⟩ := Nx.ent n e
    exact k _ _ W2 _ _ G2 hq n2 dv
  · obtain ⟨G2, n2, sub⟩ := Nx.ent n e
    have bp : B p = none := bh.free n0
    -- the new object is frozen
    have hl : H' p ≠ none := c.there
    have off : ∀ b, b ≠ p → (fun b => if b = p then H' p else C' b) b = C' b := fun b n => if_neg n
    have s1 : Same C' (fun b => if b = p then H' p else C' b) := fun b o e => (if_neg fun (z : b = p) => by rw [z, cp] at e; cases e).trans e
    have s2 : Same (fun b => if b = p then H' p else C' b) H' := fun b o e => by
      by_cases z : b = p
      · have e' : (if b = p then H' p else C' b) = some o := e
        rw [if_pos z] at e'
        rw [z]
        exact e'
      · have e' : (if b = p then H' p else C' b) = some o := e
        rw [if_neg z] at e'
        exact n2.ch b o e'
    refine k d _ W2 _ H' G2 hq ⟨n2.cc.trans s1, s2, n2.fr, n2.dm, fun a n => (off a fun (z : a = p) => n.1 (z ▸ n0)).trans (n2.od a n), n2.gg, n2.res.mono s1 (fun a m => (off a fun (z : a = p) => pg (z ▸ sub a m)).trans (n2.res.there a m).1) (fun _ _ => rfl), n2.dh⟩ ?_
    refine c.dv (ov_mono s1) ?_
    rw [ov_new bp]
    exact if_pos rfl
in #guard_msgs in open Nat
theorem pxfN_enter (h : pxfN K mg T vs H Q E) (hb : ∀ ds W q x Z, T ds W q x → EOkW K Z mg E x → XS K Z t (ρe N ds) W ⟨fun _ W' => False, fun d W' => False, fun d W' => ∃ W2, Ent W' W2 ∧ q d W2, fun _ _ => False, fun _ _ => False⟩) : t { nx := fun _ H' => Q .non H', rt := Q } (L2.start N vs) H := by
  obtain ⟨C, B, ds, W, G, q, x, cb, bh, gB, r, dv, hT, k, hE⟩ := h
  refine hb ds W q x ⟨C, H, B, G, []⟩ hT (fun c Cl dd vfs fs W' C' H' G' hm hx n _ nd hc hF => hE c Cl dd vfs fs W' C' H' G' hm hx n nd hc hF) C _ ⟨fun hq _ r' => False.elim hq, fun hq _ _ => False.elim hq, fun hq _ _ => False.elim hq, fun hq n _ dv => False.elim hq, fun {C' H' d p W' G'} ⟨W2, e, hq⟩ n _ n0 cp pg _ c => ?_⟩ C H _ [] G (Same.refl _) (rx_start cb bh gB r dv)
  obtain ⟨G2, n2, sub⟩ := Nx.ent n e
  exact k d _ W2 _ H' G2 hq n2 ⟨p, rfl, n0, by rw [ov_new (bh.free n0)]; exact cp, fun m => pg (sub p m), c⟩
in #guard_msgs in open Nat
end
end Tg

/-! The engine: functions made within a def, handed to other defs. -/
namespace Tg
open PySem PySem.Spec L2 NdefX LamX
/-! ### cells shown, and hidden again -/
/-- the abstract heap without what stands at cs -/
def hid (cs : List Addr) (H : Hp) : Hp := fun b => if b ∈ cs then none else H b
/-- .. with what stood there in G -/
def unh (cs : List Addr) (G H : Hp) : Hp := fun b => if b ∈ cs then G b else H b
/-- at cs stand cells, shown -/
def Shown (cs : List Addr) (H : Hp) : Prop := ∀ c ∈ cs, ∃ o, H c = some (.frz o (.own 0))
section
variable {P : Program} {w : World} {K : PySem.W.Frag} {mg : Str → Option Value} {base : Heap} {A : Around} {outer : List Env} {s s' : Shared} {H H' G : Hp} {cs : List Addr} {b : Addr} {Q : VK} {u : Value}
theorem hid_in (m : b ∈ cs) : hid cs H b = none := if_pos m
theorem hid_out (m : b ∉ cs) : hid cs H b = H b := if_neg m
theorem unh_in (m : b ∈ cs) : unh cs G H b = G b := if_pos m
theorem unh_out (m : b ∉ cs) : unh cs G H b = H b := if_neg m
theorem hid_some {o : HO} (h : hid cs H b = some o) : b ∉ cs ∧ H b = some o := by
  by_cases m : b ∈ cs
  · rw [hid_in m] at h; cases h
  · exact ⟨m, by rw [hid_out m] at h; exact h⟩
in #guard_msgs in open Nat
theorem Shown.not {o : HO} (sh : Shown cs H) (h : H b = some o) (n : ∀ ob u, o ≠ .frz ob u) : b ∉ cs := fun m => by
  obtain ⟨ob, e⟩ := sh b m
  rw [h] at e
  exact n _ _ (Option.some.inj e)
in #guard_msgs in open Nat
theorem hok_hid (sh : Shown cs H) {h : Heap} (ok : HOk P w H h) : HOk P w (hid cs H) h := fun a o e => by
  obtain ⟨m, e⟩ := hid_some e
  refine (ok a o e).stay (fun b u _ q => q) (fun b q => ?_) fun b xs q => ?_
  · rw [hid_out (sh.not q fun _ _ z => by cases z)]
    exact q
  · rw [hid_out (sh.not q fun _ _ z => by cases z)]
    exact q
in #guard_msgs in open Nat
theorem env0_hid (sh : Shown cs H) (e : Env0 P w K mg base A outer s H) : Env0 P w K mg base A outer s (hid cs H) where
  frames := e.frames
  mod := e.mod
  bs := fun b o q => ⟨(e.bs b o q).1, by
    by_cases m : b ∈ cs
    · exact hid_in m
    · rw [hid_out m]; exact (e.bs b o q).2⟩
  bsz := e.bsz
  funs := e.funs
  frf := fun b m => by
    by_cases c : b ∈ cs
    · exact hid_in c
    · rw [hid_out c]; exact e.frf b m
  hok := hok_hid sh e.hok
  bare := e.bare
in #guard_msgs in open Nat
/-- behind a call with the cells hidden -/
theorem ce_unh (sh : Shown cs H) (e0 : Env0 P w K mg base A outer s H) (h : CE outer P w (hid cs H) s (fun v H' => (∀ c ∈ cs, H' c = none) → Q v (unh cs H H')) u s') : CE outer P w H s Q u s' := by
  obtain ⟨v, H', os, bare, un, hok, r, q⟩ := h
  have nf : ∀ c ∈ cs, c ∉ frs outer := fun c m z => by
    obtain ⟨o, e⟩ := sh c m
    rw [e0.frf c z] at e
    cases e
  have at_ : ∀ c ∈ cs, ∃ o, H c = some (.frz o (.own 0)) ∧ s.heap.get? c = some o ∧ s'.heap.get? c = some o ∧ H' c = none := fun c m => by
    obtain ⟨o, e⟩ := sh c m
    obtain ⟨h1, _⟩ := e0.hok c _ e
    exact ⟨o, e, h1, un.keep c o h1 (hid_in m) (nf c m) (by simp), un.free c o h1 (hid_in m) (by simp)⟩
  refine ⟨v, unh cs H H', os, bare, ⟨fun b o e n f x => ?_, fun b o e n f x => ?_, fun b o e n x => ?_, un.there, fun b xs e => ?_, fun b o u e => ?_, fun b ps e => ?_⟩, fun a o e => ?_, r, q fun c m => by
    obtain ⟨_, _, _, _, e4⟩ := at_ c m
    exact e4⟩
  · refine un.keep b o e ?_ f x
    by_cases m : b ∈ cs
    · exact hid_in m
    · rw [hid_out m]; exact n
  · refine un.slot b o e ?_ f x
    by_cases m : b ∈ cs
    · exact hid_in m
    · rw [hid_out m]; exact n
  · by_cases m : b ∈ cs
    · rw [unh_in m]; exact n
    · rw [unh_out m]
      exact un.free b o e (by rw [hid_out m]; exact n) x
  · have m : b ∉ cs := sh.not e fun _ _ z => by cases z
    rw [unh_out m]
    exact un.tups b xs (by rw [hid_out m]; exact e)
  · by_cases m : b ∈ cs
    · rw [unh_in m]; exact e
    · rw [unh_out m]
      exact un.frzs b o u (by rw [hid_out m]; exact e)
  · have m : b ∉ cs := sh.not e fun _ _ z => by cases z
    rw [unh_out m]
    exact un.tbls b ps (by rw [hid_out m]; exact e)
  · by_cases m : a ∈ cs
    · rw [unh_in m] at e
      obtain ⟨o', e1, e2, e3, e4⟩ := at_ a m
      rw [e1] at e
      cases e
      exact ⟨e3, ⟨o', e3⟩⟩
    · rw [unh_out m] at e
      refine (hok a o e).stay (fun b u _ q => q) (fun b q => ?_) fun b xs q => ?_
      · by_cases mb : b ∈ cs
        · obtain ⟨_, _, _, _, e4⟩ := at_ b mb
          rw [e4] at q
          cases q
        · rw [unh_out mb]; exact q
      · by_cases mb : b ∈ cs
        · obtain ⟨_, _, _, _, e4⟩ := at_ b mb
          rw [e4] at q
          cases q
        · rw [unh_out mb]; exact q
in #guard_msgs in open Nat
/-- the frame that has the cells shows them: the heap for a call -/
theorem env0_show (e : Env0 P w K mg base A outer s H) (n : ∀ c ∈ cs, H c = none) (nf : ∀ c ∈ cs, c ∉ frs outer) (nb : ∀ c ∈ cs, base.get? c = none) (sh : ∀ c ∈ cs, ∃ o, G c = some (.frz o (.own 0)) ∧ s.heap.get? c = some o) : Env0 P w K mg base A outer s (unh cs G H) where
  frames := e.frames
  mod := e.mod
  bs := fun b o q => ⟨(e.bs b o q).1, by
    by_cases m : b ∈ cs
    · rw [nb b m] at q; cases q
    · rw [unh_out m]; exact (e.bs b o q).2⟩
  bsz := e.bsz
  funs := e.funs
  frf := fun b m => by
    by_cases c : b ∈ cs
    · exact absurd m (nf b c)
    · rw [unh_out c]; exact e.frf b m
  hok := fun a o q => by
    by_cases m : a ∈ cs
    · rw [unh_in m] at q
      obtain ⟨o', e1, e2⟩ := sh a m
      rw [e1] at q
      cases q
      exact ⟨e2, ⟨o', e2⟩⟩
    · rw [unh_out m] at q
      have nm : ∀ {b : Addr} {x : HO}, H b = some x → b ∉ cs := fun {b x} hb mb => by rw [n b mb] at hb; cases hb
      refine (e.hok a o q).stay (fun b u _ q => q) (fun b q => ?_) fun b xs q => ?_
      · rw [unh_out (nm q)]; exact q
      · rw [unh_out (nm q)]; exact q
  bare := e.bare
in #guard_msgs in open Nat
/-- behind that call they are hidden again -/
theorem ce_hid (n : ∀ c ∈ cs, H c = none) (sh : ∀ c ∈ cs, ∃ o, G c = some (.frz o (.own 0)) ∧ s.heap.get? c = some o) (h : CE outer P w (unh cs G H) s (fun v H' => Q v (hid cs H')) u s') : CE outer P w H s Q u s' := by
  obtain ⟨v, H', os, bare, un, hok, r, q⟩ := h
  have nm : ∀ {b : Addr} {x : HO}, H b = some x → b ∉ cs := fun {b x} hb mb => by rw [n b mb] at hb; cases hb
  have sh' : Shown cs H' := fun c m => by
    obtain ⟨o, e1, _⟩ := sh c m
    exact ⟨o, un.frzs c o _ (by rw [unh_in m]; exact e1)⟩
  refine ⟨v, hid cs H', os, bare, ⟨fun b o e z f x => ?_, fun b o e z f x => ?_, fun b o e z x => ?_, un.there, fun b xs e => ?_, fun b o u e => ?_, fun b ps e => ?_⟩, hok_hid sh' hok, r, q⟩
  · by_cases m : b ∈ cs
    · obtain ⟨o', e1, e2⟩ := sh b m
      have e3 := un.frzs b o' _ (by rw [unh_in m]; exact e1)
      rw [e2] at e
      cases e
      exact (hok b _ e3).1
    · exact un.keep b o e (by rw [unh_out m]; exact z) f x
  · by_cases m : b ∈ cs
    · obtain ⟨o', e1, e2⟩ := sh b m
      have e3 := un.frzs b o' _ (by rw [unh_in m]; exact e1)
      rw [e2] at e
      cases e
      exact ⟨o.slots, (hok b _ e3).1⟩
    · exact un.slot b o e (by rw [unh_out m]; exact z) f x
  · by_cases m : b ∈ cs
    · exact hid_in m
    · rw [hid_out m]
      exact un.free b o e (by rw [unh_out m]; exact z) x
  · have m := nm e
    have q := un.tups b xs (by rw [unh_out m]; exact e)
    rw [hid_out m]; exact q
  · have m := nm e
    have q := un.frzs b o u (by rw [unh_out m]; exact e)
    rw [hid_out m]; exact q
  · have m := nm e
    obtain ⟨more, q⟩ := un.tbls b ps (by rw [unh_out m]; exact e)
    exact ⟨more, by rw [hid_out m]; exact q⟩
in #guard_msgs in open Nat
end
/-! ### what captured cells hold, shown -/
def cAd (cl : List (Str × Addr)) : List Addr := cl.filterMap fun p => cl.lookup p.1
theorem mem_cAd {cl : List (Str × Addr)} {c : Addr} : c ∈ cAd cl ↔ ∃ y, cl.lookup y = some c := by
  unfold cAd
  rw [List.mem_filterMap]
  exact ⟨fun ⟨p, _, e⟩ => ⟨p.1, e⟩, fun ⟨y, e⟩ => ⟨(y, c), PySem.mem_of_lookup e, e⟩⟩
in #guard_msgs in open Nat
structure CellsSh (cl : List (Str × Addr)) (fr : List Str) (ws : List (Option V)) (H : Hp) : Prop where
  len : ws.length = fr.length
  all : ∀ y c, cl.lookup y = some c → ∃ o v, H c = some (.frz o (.own 0)) ∧ o.data = .cell v
  inj : ∀ x y c, cl.lookup x = some c → cl.lookup y = some c → x = y
  has : ∀ (i : Nat) (y : Str), fr[i]? = some y → ∃ c, cl.lookup y = some c ∧ ∀ v, ws[i]? = some (some v) → ∃ u o, L2.RelV v u ∧ H c = some (.frz o (.own 0)) ∧ o.data = .cell (some u)
theorem CellsSh.shown {cl : List (Str × Addr)} {fr : List Str} {ws : List (Option V)} {H : Hp} (h : CellsSh cl fr ws H) : Shown (cAd cl) H := fun c m => by
  obtain ⟨y, e⟩ := mem_cAd.mp m
  obtain ⟨o, v, e1, _⟩ := h.all y c e
  exact ⟨o, e1⟩
in #guard_msgs in open Nat
theorem CellsSh.mono {cl : List (Str × Addr)} {fr : List Str} {ws : List (Option V)} {H H' : Hp} (h : CellsSh cl fr ws H) (s : Same H H') : CellsSh cl fr ws H' := ⟨h.len, fun y c e => by
  obtain ⟨o, v, e1, e2⟩ := h.all y c e
  exact ⟨o, v, s _ _ e1, e2⟩, h.inj, fun i y e => by
  obtain ⟨c, e1, e2⟩ := h.has i y e
  refine ⟨c, e1, fun v ev => ?_⟩
  obtain ⟨u, o, r, e3, e4⟩ := e2 v ev
  exact ⟨u, o, r, s _ _ e3, e4⟩⟩
in #guard_msgs in open Nat
theorem CellsSh.at {P : Program} {w : World} {cl : List (Str × Addr)} {fr : List Str} {ws : List (Option V)} {H : Hp} {h : Heap} (c : CellsSh cl fr ws H) (ok : HOk P w H h) : CellsAt cl fr ws h (hid (cAd cl) H) := ⟨c.len, fun y a e => by
  obtain ⟨o, v, e1, e2⟩ := c.all y a e
  exact ⟨hid_in (mem_cAd.mpr ⟨y, e⟩), v, o, (ok a _ e1).1, e2⟩, c.inj, fun i y e => by
  obtain ⟨a, e1, e2⟩ := c.has i y e
  refine ⟨a, e1, fun v ev => ?_⟩
  obtain ⟨u, o, r, e3, e4⟩ := e2 v ev
  exact ⟨u, r, o, (ok a _ e3).1, e4⟩⟩
in #guard_msgs in open Nat
/-- fewer of them -/
theorem CellsSh.sub {cl cl' : List (Str × Addr)} {fr fr' : List Str} {ws ws' : List (Option V)} {H : Hp} (h : CellsSh cl fr ws H) (hl : ws'.length = fr'.length) (hs : ∀ y c, cl'.lookup y = some c → cl.lookup y = some c)
    (hf : ∀ (i : Nat) (y : Str), fr'[i]? = some y → (∃ j : Nat, fr[j]? = some y ∧ ws'[i]? = ws[j]?) ∧ ∀ c, cl.lookup y = some c → cl'.lookup y = some c) : CellsSh cl' fr' ws' H := ⟨hl, fun y c e => h.all y c (hs y c e), fun x y c e1 e2 => h.inj x y c (hs x c e1) (hs y c e2), fun i y e => by
  obtain ⟨⟨j, e1, e2⟩, e3⟩ := hf i y e
  obtain ⟨c, e4, e5⟩ := h.has j y e1
  exact ⟨c, e3 c e4, fun v ev => e5 v (by rw [← e2]; exact ev)⟩⟩
in #guard_msgs in open Nat
/-! ### a function at an address, and what it promises -/
def RunF (P : Program) (w : World) (K : PySem.W.Frag) (mg : Str → Option Value) (base : Heap) (k : Nat) (C : Hp) (f : Addr) (sp : Sp) : Prop := ∀ H : Hp, Same C H → ∀ (A : Around) (outer : List Env) (s : Shared) (us : List Value) (vs : List V) (Q : VK) (E : XK), Room k A → Env0 P w K mg base A outer s H → Vals vs us → sp vs H Q E → codeAny (model P w) A (.call (.ref f) ⟨us, []⟩) (CR CX0 outer P w H s Q E) s
def CloAt (P : Program) (w : World) (K : PySem.W.Frag) (mg : Str → Option Value) (base : Heap) (k : Nat) (C : Hp) (f : Addr) (sp : Sp) : Prop := (∃ F, C f = some (FnO f F)) ∧ RunF P w K mg base k C f sp
section
variable {P : Program} {w : World} {K : PySem.W.Frag} {mg : Str → Option Value} {base : Heap} {k : Nat} {C C' : Hp} {f : Addr} {sp : Sp}
theorem CloAt.mono (h : CloAt P w K mg base k C f sp) (s : Same C C') : CloAt P w K mg base k C' f sp := ⟨h.1.imp fun F e => s _ _ e, fun H sH => h.2 H (s.trans sH)⟩
in #guard_msgs in open Nat
theorem clo_of {F : NF} {ps fr : List Str} {ws : List (Option V)} {sp' : List (Option V) → Sp} (N : NOk P w K mg base CX0 k f F ps fr sp') (hf : C f = some (FnO f F)) (hc : C F.c = some (CodeO F.c F.qual)) (cs : CellsSh F.cl fr ws C)
    (h : ∀ vs H Q E, Same C H → sp vs H Q E → sp' ws vs (hid (cAd F.cl) H) (fun v H' => (∀ c ∈ cAd F.cl, H' c = none) → Q v (unh (cAd F.cl) H H')) E) : CloAt P w K mg base k C f sp := ⟨⟨F, hf⟩, fun H sH A outer s us vs Q E hr e0 r q => by
  have sh := (cs.mono sH).shown
  refine codeAny_mono (N.run A outer s (hid (cAd F.cl) H) us vs ws _ E hr (env0_hid sh e0) ?_ ?_ ((cs.mono sH).at e0.hok) r (h vs H Q E sH q)) fun r s' hq => ?_
  · rw [hid_out (sh.not (sH _ _ hf) fun _ _ z => by unfold FnO at z; cases z)]
    exact sH _ _ hf
  · rw [hid_out (sh.not (sH _ _ hc) fun _ _ z => by unfold CodeO at z; cases z)]
    exact sH _ _ hc
  · cases r with
    | error e => exact False.elim hq
    | ok fl =>
      cases fl with
      | ret u => exact ce_unh sh e0 hq
      | next => exact False.elim hq
      | brk => exact False.elim hq
      | cont => exact False.elim hq⟩
in #guard_msgs in open Nat
end
/-- f(..), f a name that holds a function of which it is told what it promises -/
def tCallFn (P : Program) (w : World) (K : PySem.W.Frag) (mg : Str → Option Value) (base : Heap) (k i : Nat) (E : XK) (t : TA) : TE := fun σ H Q => ∃ f, σ[i]? = some (some (.ref f)) ∧ (∃ F, H f = some (FnO f F)) ∧ t σ H fun vs H1 => ∃ C sp, CloAt P w K mg base k C f sp ∧ Same C H1 ∧ sp vs H1 Q E
/-- g(..), while this def's cells (at cl, of the names fr, whose slots are js) are shown -/
def tCallSh (cl : List (Str × Addr)) (fr : List Str) (js : List Nat) (sp : Sp) (dvs : List V) (E : XK) (t : TA) : TE := fun σ H Q => t σ H fun vs H1 => ∀ G, (∀ c ∈ cAd cl, H1 c = none) → CellsSh cl fr (js.map (slotAt σ)) G → sp (vs ++ dvs) (unh (cAd cl) G H1) (fun v H' => Q v (hid (cAd cl) H')) E
section
variable {X : Cx} {CX : CXT} {k j i : Nat} {f : Addr} {fd : FuncData} {ps fr : List Str} {js : List Nat} {cl : List (Str × Addr)} {sp : Sp} {dvs : List V} {ds : List Value} {E : XK} {x : Str} {p pos : Pos} {e : Expr} {es : List Expr} {t : TA}
theorem pe_callfn (hr : Room k X.A) (hN : X.N[i]? = some x) (hv : Vis X.env.scope x) (ha : PA X (e :: es) t)
    (hd : (x == ("__debug__" : Str)) = false := by decide) (hcd : (x == ("__classdict__" : Str)) = false := by decide)
    (he : starEach (e :: es) X.env = (false, eval e X.env) :: starEach es X.env := by rfl) (hpl : (backTo pos (starEach es X.env)).any (·.1) = false := by rfl) :
    PE X (.Call (.Name x p) (e :: es) [] pos) (tCallFn X.prog X.w X.K X.mg X.base k i E t) := by
  refine ⟨fun pins s σ H Q I h => ?_⟩
  obtain ⟨f, hs, ⟨F, hf⟩, ht⟩ := h
  refine wpAny_Call_Name_kw (thn ((pe_var (pos := p) hN hv hd hcd).run pins s σ H (fun v H1 => v = .ref f ∧ H1 = H) I ⟨.ref f, hs, rfl, rfl⟩) fun fu s1 ⟨v, H1, I1, fr1, fq1⟩ => ?_)
  obtain ⟨ev, eH⟩ := fq1
  subst ev
  rw [eH] at I1
  obtain rfl : fu = Value.ref f := fr1
  refine PySem.W.callWith_F (first := []) (fnAt_of I1 hf) (thn (ha.run pos pins s1 σ H _ I1 ht) fun us s2 ⟨vs, H2, I2, rr, C, sp, ⟨⟨F2, hF2⟩, hrun⟩, sC, q⟩ => ⟨fnAt_of I2 (sC _ _ hF2), ?_⟩) he hpl
  refine wpAny_call (codeAny_mono (hrun H2 sC X.A X.stack s2 us vs Q E hr I2.env0 rr q) fun r s' hq => ?_)
  cases r with
  | error e => exact False.elim hq
  | ok fl =>
    cases fl with
    | ret u => exact I2.after hq
    | next => exact False.elim hq
    | brk => exact False.elim hq
    | cont => exact False.elim hq
in #guard_msgs in open Nat
/-- the running frame's cells -/
structure ShOk (X : Cx) (cl : List (Str × Addr)) (fr : List Str) (js : List Nat) : Prop where
  caps : X.Ok → Caps X cl fr js
  fn : ∀ y, X.fn y = true
theorem show_cells {pins : List (Addr × Obj)} {σ : L2.St} {H : Hp} {s : Shared} (S : ShOk X cl fr js) (I : Inv X pins σ H s) : ∃ G, CellsSh cl fr (js.map (slotAt σ)) G ∧ (∀ c ∈ cAd cl, H c = none) ∧ (∀ c ∈ cAd cl, c ∉ frs X.stack) ∧ (∀ c ∈ cAd cl, X.base.get? c = none) ∧ ∀ c ∈ cAd cl, ∃ o, G c = some (.frz o (.own 0)) ∧ s.heap.get? c = some o := by
  have cp := S.caps I.ok
  have C := cells_of I cp
  have look : ∀ c ∈ cAd cl, ∃ y, X.env.cells.lookup y = some c := fun c m => by
    obtain ⟨y, e⟩ := mem_cAd.mp m
    exact ⟨y, cp.sub y c e⟩
  have big : ∀ c ∈ cAd cl, X.s_0.heap.objs.size ≤ c := fun c m => by
    obtain ⟨y, e⟩ := look c m
    exact I.ok.cab y c (S.fn y) e
  refine ⟨fun b => match s.heap.get? b with | some o => some (.frz o (.own 0)) | none => none, ⟨C.len, fun y c e => ?_, C.inj, fun i y e => ?_⟩, fun c m => ?_, fun c m z => ?_, fun c m => ?_, fun c m => ?_⟩
  · obtain ⟨_, v, o, ho, hd⟩ := C.all y c e
    exact ⟨o, v, by simp only [ho], hd⟩
  · obtain ⟨c, e1, e2⟩ := C.has i y e
    refine ⟨c, e1, fun v ev => ?_⟩
    obtain ⟨u, r, o, ho, hd⟩ := e2 v ev
    exact ⟨u, o, r, by simp only [ho], hd⟩
  · obtain ⟨y, e⟩ := mem_cAd.mp m
    exact (C.all y c e).1
  · obtain ⟨y, e⟩ := look c m
    rcases List.mem_cons.mp (I.stkSub c z) with h | h
    · exact I.cne y c e h
    · obtain ⟨_, o, ho, _⟩ := I.ok.funs.mem h
      exact absurd (Nat.lt_of_lt_of_le (Heap.lt_size ho) (big c m)) (Nat.lt_irrefl _)
  · exact Heap.get?_none_of_le (Nat.le_trans I.ok.bsz (big c m))
  · obtain ⟨y, e⟩ := mem_cAd.mp m
    obtain ⟨_, v, o, ho, hd⟩ := C.all y c e
    exact ⟨o, by simp only [ho], ho⟩
in #guard_msgs in open Nat
theorem pe_callSh (S : ShOk X cl fr js) (F : FnOk X.prog X.w X.K X.mg X.base CX0 k f fd ps sp) (hr : Room k X.A) (hg : Gl X x) (hm : X.mg x = some (.ref f)) (hk : PySem.W.keepIn X.K (.ref f) = true) (hb : Binds X.K fd ps ds) (hd : Vals dvs ds)
    (ha : PA X (e :: es) t) (hdb : (x == ("__debug__" : Str)) = false := by decide) (he : starEach (e :: es) X.env = (false, eval e X.env) :: starEach es X.env := by rfl) (hpl : (backTo pos (starEach es X.env)).any (·.1) = false := by rfl) :
    PE X (.Call (.Name x p) (e :: es) [] pos) (tCallSh cl fr js sp dvs E t) := by
  refine ⟨fun pins s σ H Q I h => ?_⟩
  refine wpAny_Call_Name_kw (ld_glob I hg hm ?_ hdb)
  refine PySem.W.callWith_K (h₀ := X.base) I.ok.mod.kin hk (thn (ha.run pos pins s σ H _ I h) fun us s1 ⟨vs, H1, I1, r, q⟩ => ⟨I1.kIn, ?_⟩) he hpl
  obtain ⟨G, cG, n, nf, nb, sh⟩ := show_cells S I1
  have q2 := q G n cG
  have r2 : Vals (vs ++ dvs) (us ++ ds) := r.append hd
  have hl : (us ++ ds).length = ps.length := by rw [← r2.length]; exact F.len _ _ _ _ q2
  refine wpAny_call (codeAny_mono (F.run X.A X.stack s1 _ ⟨us, []⟩ (us ++ ds) (vs ++ dvs) _ E hr (env0_show I1.env0 n nf nb sh) (hb s1 us I1.kIn hl) r2 q2) fun r s' hq => ?_)
  cases r with
  | error e => exact False.elim hq
  | ok fl =>
    cases fl with
    | ret u => exact I1.after (ce_hid n sh hq)
    | next => exact False.elim hq
    | brk => exact False.elim hq
    | cont => exact False.elim hq
in #guard_msgs in open Nat
end
/-! ### a def within a def, made: told what becomes of the table -/
section
variable {X : Cx} {pins : List (Addr × Obj)} {σ : L2.St} {H : Hp} {s : Shared}
/-- what stands behind the making of a function: its code object is new and noted, or found -/
inductive MadeF (H : Hp) (T : Addr) (l k : Nat) (q : Str) (mk : Addr → NF) : Addr → Hp → Prop
  | new {ps : Array Value} {z f : Addr} (hT : H T = some (.tbl ps)) (ht : TriplesOk ps.toList) (hz : H z = none) (hf : H f = none) (nzf : z ≠ f) : MadeF H T l k q mk f (upd (upd (upd H T (.tbl (ps ++ #[rawInt l, rawInt k, .ref z]))) z (CodeO z q)) f (FnO f (mk z)))
  | hit {ps : Array Value} {z f : Addr} {pos : Pos} (hT : H T = some (.tbl ps)) (hl : pos.line = l) (hk : pos.col = k) (hc : codeAmong pos ps.toList = some (.ref z)) (hf : H f = none) : MadeF H T l k q mk f (upd H f (FnO f (mk z)))
theorem made_fn {nm : Nat → Nat → Str} {co T : Addr} {name : Str} {params : Arguments} {body : List Stmt} {scope : Scope} {pos : Pos} {E : Value → Shared → Prop} {Q : Value → Shared → Prop} (I : Inv X pins σ H s) (TB : TabB X.base X.mg co T) (hcode : X.env.code = .ref co)
    (hT : TabN H T nm) (hn : nm pos.line pos.col = X.env.qual ++ name) (hfree : ∀ y ∈ scope.names, y.2 = .free → ∃ c, X.env.cells.lookup y.1 = some c)
    (h : ∀ (f : Addr) (G : Hp) (s2 : Shared), Inv X pins σ G s2 → MadeF H T pos.line pos.col (X.env.qual ++ name) (fun z => ⟨name, X.env.qual ++ name, params, body, scope, cloFrom X.env.cells scope.names [], z⟩) f G → Q (.ref f) s2) :
    wpAny (model X.prog X.w) X.A (makeFunction name (X.env.qual ++ name) params (.stmts body) scope X.env [] [] [] pos pos.line) Q E s := by
  obtain ⟨tb, eT, okT, inT⟩ := hT
  have gT : s.heap.get? T = some { cls := .none, data := .fields tb } := I.hok T _ eT
  have bT : s.heap.BuiltinsAt X.mg T := TB.bm.keeps I.bk
  cases found : codeAmong pos tb.toList with
  | some cv =>
    obtain ⟨z, e, hz⟩ := inT pos cv found
    subst e
    refine PySem.W.makeFunction_hit (mg := X.mg) (c := co) (P := T) (ps := tb) (closure_ok hfree) I.ok.glob (I.mod.glob.keeps I.bk) hcode (TB.code.keeps I.bk) gT okT found bT fun ctv doc g tk keep _ => ?_
    have J : Inv X pins σ H { s with heap := g, toks := tk } := I.kept keep
    have fresh : H g.objs.size = none := J.hok.fresh (Nat.le_refl _)
    exact h g.objs.size _ _ (inv_fn (F := ⟨name, X.env.qual ++ name, params, body, scope, cloFrom X.env.cells scope.names [], z⟩) (t' := tk) (doc := doc) (pm := (X.mg "__name__").getD .none) (ctv := ctv) J rfl) (.hit eT rfl rfl found fresh)
  | none =>
    refine PySem.W.makeFunction_K (mg := X.mg) (c := co) (P := T) (ps := tb) (closure_ok hfree) I.ok.glob (I.mod.glob.keeps I.bk) hcode (TB.code.keeps I.bk) gT okT found TB.gP bT fun z ctv doc g tk keep lo hi hrec htb => ?_
    obtain ⟨z2, oc, ar, tt, ez, hoc, hd, hv⟩ := hrec
    cases ez
    have J := inv_table (t' := tk) (more := #[rawInt pos.line, rawInt pos.col, .ref z]) (h' := g) I eT (fun b o nb e => keep b o nb e) htb lo ⟨oc, ar, tt, hoc, hd, hv⟩
    exact h g.objs.size _ _ (inv_fn (F := ⟨name, X.env.qual ++ name, params, body, scope, cloFrom X.env.cells scope.names [], z⟩) (t' := tk) (doc := doc) (pm := (X.mg "__name__").getD .none) (ctv := ctv) J rfl)
      (.new eT okT (I.hok.fresh lo) (I.hok.fresh (Nat.le_trans lo (Nat.le_of_lt hi))) (Nat.ne_of_lt hi))
in #guard_msgs in open Nat
end
/-- «def name(..): ..» within a def: the slot i holds the new function -/
def tNdefX (T : Addr) (nm : Nat → Nat → Str) (l k i : Nat) (q : Str) (mk : Addr → NF) : TS := fun D σ H => TabN H T nm ∧ ∀ (f : Addr) (G : Hp), MadeF H T l k q mk f G → D.nx (σ.set i (some (.ref f))) G
section
variable {X : Cx}
theorem ps_ndefX {st : Stmt} {nm : Nat → Nat → Str} {co T : Addr} {name : Str} {pos : Pos} {i : Nat} (hst : st = .FunctionDef name (C8.fnArgs st) (C8.fnBody st) [] none [] (C8.fnScope st) none name pos) (TB : TabB X.base X.mg co T) (hcode : X.env.code = .ref co) (hn : nm pos.line pos.col = X.env.qual ++ name)
    (hfree : ∀ y ∈ (C8.fnScope st).names, y.2 = .free → X.env.scope.names.lookup y.1 = some .cell ∨ X.env.scope.names.lookup y.1 = some .free) (hd0 : (C8.fnArgs st).defaults = []) (hk0 : (C8.fnArgs st).kw_defaults = []) (ha : annTrees (C8.fnArgs st) none X.env = [])
    (hN : X.N.Nodup) (hi : X.N[i]? = some name) (hx : Loc X.env.scope name) (hf : X.fn name = true ∨ X.env.scope.names.lookup name = some .local) :
    PS X st (tNdefX T nm pos.line pos.col i (X.env.qual ++ name) (NF.of st name (X.env.qual ++ name) (cloFrom X.env.cells (C8.fnScope st).names []))) := by
  rw [hst]
  refine ⟨fun pins s σ H D I h => ?_⟩
  obtain ⟨hT, h⟩ := h
  have hq : qualnameIn X.env name name = X.env.qual ++ name := by
    have hk : X.env.kindOf name = some .local ∨ X.env.kindOf name = some .cell := hx
    unfold qualnameIn
    rcases hk with k | k <;> rw [k] <;> first | rfl | exact if_neg (by decide)
  refine PySem.W.nestDef_K hd0 hk0 ha ?_
  rw [hq]
  refine made_fn I TB hcode hT hn (fun y hy e => (hfree y hy e).elim (fun z => I.ok.has _ (.inl z)) fun z => I.ok.has _ (.inr z)) fun f G s2 J m => ?_
  exact store_ok J hN hi hx (v := .ref f) rfl (fun s3 J3 => ⟨_, G, J3, h f G (by rw [← hst]; exact m)⟩) hf
in #guard_msgs in open Nat
end
end Tg

/-! The engine: functions made within a def, as they are held. -/
namespace Tg
open PySem PySem.Spec L2 NdefX LamX
/-! ### what stays where cells are hidden -/
def SameC (B B' : Hp) : Prop := ∀ b o, B b = some o → (∀ ob, o ≠ .frz ob (.own 0)) → B' b = some o
section
variable {K : PySem.W.Frag} {B B' C C' H H' G : Hp} {cs : List Addr} {v : V} {d : D} {fp : List Addr} {r : Res} {W W' : List Res}
theorem sameC_hid (sh : Shown cs B) : SameC B (hid cs B) := fun b o e n => by
  by_cases m : b ∈ cs
  · obtain ⟨ob, e'⟩ := sh b m
    rw [e] at e'
    exact absurd (Option.some.inj e') (n ob)
  · rw [hid_out m]; exact e
in #guard_msgs in open Nat
theorem rd_cut {a : Addr} {u : HO} (e : SameC B B') (n : ∀ ob, u ≠ .frz ob (.own 0)) (n2 : u ≠ .own 0) (h : Rd B a u) : Rd B' a u := h.elim (fun h => .inl (e _ _ h n)) fun ⟨o, h⟩ => .inr ⟨o, e _ _ h fun ob z => by cases z; exact n2 rfl⟩
in #guard_msgs in open Nat
theorem seq_cut {a : Addr} {xs : List V} (e : SameC B B') (h : SqL K B a xs) : SqL K B' a xs := h.elim (fun h => .inl (rd_cut e (fun _ z => by cases z) (fun z => by cases z) h)) .inr
in #guard_msgs in open Nat
theorem Dv.cutC (e : SameC B B') (h : Dv K B v d) : Dv K B' v d := by
  refine Dv.rec (motive_1 := fun v d _ => Dv K B' v d) (motive_2 := fun v d _ => DvL K B' v d) (motive_3 := fun v d _ => DvK K B' v d) (motive_4 := fun v d _ => DvT K B' v d) (motive_5 := fun v d _ => DvF K B' v d) ?_ ?_ ?_ ?_ ?_ ?_ ?_ ?_ ?_ ?_ ?_ ?_ ?_ ?_ ?_ ?_ ?_ ?_ ?_ ?_ h
  · exact .non
  · exact .bl
  · exact .int
  · exact fun z h => .str z h
  · exact fun s _ ih => .lst (e _ _ s fun _ z => by cases z) ih
  · exact fun s _ ih => .fls (seq_cut e s) ih
  · exact fun s _ ih => .tup (e _ _ s fun _ z => by cases z) ih
  · exact fun s _ ih => .dk (rd_cut e (fun _ z => by cases z) (fun z => by cases z) s) ih
  · exact fun s _ ih => .dt (rd_cut e (fun _ z => by cases z) (fun z => by cases z) s) ih
  · exact fun v => .op v
  · exact fun s _ ih => .ex (e _ _ s fun _ z => by cases z) ih
  · exact fun _ ih => .vd ih
  · exact .nil
  · exact fun _ _ h t => .cons h t
  · exact .nil
  · exact fun _ _ h t => .cons h t
  · exact .nil
  · exact fun _ _ h t => .cons h t
  · exact .nil
  · exact fun _ _ h t => .cons h t
in #guard_msgs in open Nat
theorem DvL.cutC (e : SameC B B') : ∀ {vs : List V} {ds : List D}, DvL K B vs ds → DvL K B' vs ds
  | _, _, .nil => .nil
  | _, _, .cons h t => .cons (h.cutC e) (DvL.cutC e t)
in #guard_msgs in open Nat
theorem DvK.cutC (e : SameC B B') : ∀ {vs : List (Key × V)} {ds : List (Key × D)}, DvK K B vs ds → DvK K B' vs ds
  | _, _, .nil => .nil
  | _, _, .cons h t => .cons (h.cutC e) (DvK.cutC e t)
in #guard_msgs in open Nat
theorem DvT.cutC (e : SameC B B') : ∀ {vs : List (List Key × V)} {ds : List (List Key × D)}, DvT K B vs ds → DvT K B' vs ds
  | _, _, .nil => .nil
  | _, _, .cons h t => .cons (h.cutC e) (DvT.cutC e t)
in #guard_msgs in open Nat
theorem DvF.cutC (e : SameC B B') : ∀ {vs : List (Str × V)} {ds : List (Str × D)}, DvF K B vs ds → DvF K B' vs ds
  | _, _, .nil => .nil
  | _, _, .cons h t => .cons (h.cutC e) (DvF.cutC e t)
in #guard_msgs in open Nat
theorem Cell.cutC {a : Addr} (e : SameC B B') (h : H' a = H a) (c : Cell K B H a d) : Cell K B' H' a d := by
  cases d <;> first | exact c | skip
  · obtain ⟨vs, h1, h2⟩ := c; exact ⟨vs, h.trans h1, h2.cutC e⟩
  · obtain ⟨vs, h1, h2⟩ := c; exact ⟨vs, h.trans h1, h2.cutC e⟩
  · obtain ⟨vs, h1, h2⟩ := c; exact ⟨vs, h.trans h1, h2.cutC e⟩
in #guard_msgs in open Nat
/-- what is held stays, where cells at cs are hidden -/
def Cut (cs : List Addr) (r : Res) : Prop := ∀ (C H : Hp) (fp : List Addr), Shown cs C → (∀ a ∈ fp, a ∉ cs) → r.P C H fp → r.P (hid cs C) (hid cs H) fp
def CutL (W : List Res) : Prop := ∀ cs, ∀ r ∈ W, Cut cs r
theorem CutL.nil : CutL [] := fun _ _ m => by cases m
theorem CutL.cons (h : ∀ cs, Cut cs r) (t : CutL W) : CutL (r :: W) := fun cs x m => (List.mem_cons.mp m).elim (fun e => e ▸ h cs) (t cs x)
theorem CutL.app (h : CutL W) (t : CutL W') : CutL (W ++ W') := fun cs x m => (List.mem_append.mp m).elim (h cs x) (t cs x)
theorem cut_cel {p : Addr} : Cut cs (cel K p d) := fun _ _ _ sh n ⟨e, c⟩ => ⟨e, c.cutC (sameC_hid sh) (hid_out (n p (by rw [e]; exact List.mem_cons_self)))⟩
theorem cut_obj {a Cl : Addr} {fs : List (Str × D)} : Cut cs (obj K a Cl fs) := fun _ _ _ sh n ⟨dx, vfs, e, h1, h2, h3⟩ => ⟨dx, vfs, e, (hid_out (n a (by rw [e]; exact List.mem_cons_self))).trans h1, (hid_out (n dx (by rw [e]; exact List.mem_cons_of_mem _ List.mem_cons_self))).trans h2, h3.cutC (sameC_hid sh)⟩
in #guard_msgs in open Nat
theorem WR.cut : ∀ {W : List Res} {G : List Addr}, WR C H W G → Shown cs C → CutL W → WR (hid cs C) (hid cs H) W G
  | _, _, .nil, _, _ => .nil
  | _, _, .cons hp dj th t, sh, h => by
    have off : ∀ a, C a = none → a ∉ cs := fun a e m => by
      obtain ⟨o, z⟩ := sh a m
      rw [e] at z
      cases z
    refine .cons (h _ _ List.mem_cons_self _ _ _ sh (fun a m => off a (th a m).1) hp) dj (fun a m => ?_) (WR.cut t sh fun cs r m => h cs r (List.mem_cons_of_mem _ m))
    have z := off a (th a m).1
    rw [hid_out z, hid_out z]
    exact th a m
in #guard_msgs in open Nat
/-- a thing known of what is durable -/
def fact (P : Hp → Prop) (m : ∀ {C C' : Hp}, P C → Same C C' → P C') : Res where
  P := fun C _ fp => fp = [] ∧ P C
  frame := fun h s _ => ⟨h.1, m h.2 s⟩
/-- the data of a value -/
def dat (K : PySem.W.Frag) (v : V) (d : D) : Res := fact (fun C => Dv K C v d) fun h s => h.mono s
theorem cut_dat : Cut cs (dat K v d) := fun _ _ _ sh _ ⟨e, h⟩ => ⟨e, h.cutC (sameC_hid sh)⟩
/-- a function made within a def, at f -/
def RFn (f : Addr) (F : NF) : Res := fact (fun C => C f = some (FnO f F) ∧ C F.c = some (CodeO F.c F.qual)) fun h s => ⟨s _ _ h.1, s _ _ h.2⟩
theorem cut_fn {f : Addr} {F : NF} : Cut cs (RFn f F) := fun _ _ _ sh _ ⟨e, h⟩ => ⟨e, sameC_hid sh _ _ h.1 (fun _ z => by unfold FnO at z; cases z), sameC_hid sh _ _ h.2 fun _ z => by unfold CodeO at z; cases z⟩
in #guard_msgs in open Nat
/-- a table of code objects -/
def RTab (T : Addr) (nm : Nat → Nat → Str) : Res where
  P := fun C H fp => fp = [T] ∧ ∃ ps : Array Value, H T = some (.tbl ps) ∧ TriplesOk ps.toList ∧ ∀ (pos : Pos) (cv : Value), codeAmong pos ps.toList = some cv → ∃ z, cv = .ref z ∧ C z = some (CodeO z (nm pos.line pos.col))
  frame := fun {B H B' H' fp} ⟨e, ps, h1, h2, h3⟩ s k => ⟨e, ps, (k T (by rw [e]; exact List.mem_cons_self)).trans h1, h2, fun pos cv q => by
    obtain ⟨z, e1, e2⟩ := h3 pos cv q
    exact ⟨z, e1, s _ _ e2⟩⟩
theorem cut_tab {T : Addr} {nm : Nat → Nat → Str} : Cut cs (RTab T nm) := fun _ _ _ sh n ⟨e, ps, h1, h2, h3⟩ => ⟨e, ps, (hid_out (n T (by rw [e]; exact List.mem_cons_self))).trans h1, h2, fun pos cv q => by
  obtain ⟨z, e1, e2⟩ := h3 pos cv q
  exact ⟨z, e1, sameC_hid sh _ _ e2 fun _ z => by unfold CodeO at z; cases z⟩⟩
in #guard_msgs in open Nat
theorem WR.fact {P : Hp → Prop} {m : ∀ {C C' : Hp}, P C → Same C C' → P C'} {G : List Addr} {i : Nat} (w : WR C H W G) (h : W[i]? = some (Tg.fact P m)) : P C := by
  obtain ⟨fp, ⟨_, c⟩, _⟩ := w.get h
  exact c
in #guard_msgs in open Nat
theorem WR.addF {P : Hp → Prop} {m : ∀ {C C' : Hp}, P C → Same C C' → P C'} {G : List Addr} (w : WR C H W G) (h : P C) : WR C H (Tg.fact P m :: W) G := WR.cons (r := Tg.fact P m) (fp := []) ⟨rfl, h⟩ (fun a m => by cases m) (fun a m => by cases m) w
in #guard_msgs in open Nat
end
/-! ### closures as they are held: f promises T, from what is durable -/
def pxfC (K : PySem.W.Frag) (mg : Str → Option Value) (T : TX) (C : Hp) : Sp := fun vs H Q E => ∃ (B : Hp) (ds : List D) (W : List Res) (G : List Addr) (q : D → List Res → Prop) (x : XX), Same C B ∧ Same B H ∧ (∀ a ∈ G, B a = none) ∧ WR C H W G ∧ DvL K B vs ds ∧ T ds W q x ∧
  (∀ d v W' C' H' G', q d W' → Nx C H G C' H' W' G' → Dv K (ov B C') v d → Q v H') ∧ EOkG K mg C H G E x
def RClo (P : Program) (w : World) (K : PySem.W.Frag) (mg : Str → Option Value) (base : Heap) (k : Nat) (f : Addr) (T : TX) : Res := fact (fun C => ∀ C', Same C C' → CloAt P w K mg base k C' f (pxfC K mg T C')) fun h s C' s' => h C' (s.trans s')
/-- the promise of a function made within a def: what its cells hold comes behind its arguments -/
def nsp (K : PySem.W.Frag) (mg : Str → Option Value) (n : Nat) (T : TX) : List (Option V) → Sp := fun ws vs H Q E => ∃ wvs : List V, ws = wvs.map some ∧ wvs.length = n ∧ pxf K mg T (vs ++ wvs) H Q E
/-- .. as one who holds it sees it -/
def TClo (cds : List D) (T : TX) : TX := fun ds W q _ => CutL W ∧ T (ds ++ cds) W q xNo
section
variable {P : Program} {w : World} {K : PySem.W.Frag} {mg : Str → Option Value} {base : Heap} {k : Nat} {C C' H H' B : Hp} {f : Addr} {F : NF} {ps fr : List Str} {T : TX} {cds : List D} {wvs : List V} {W W' : List Res} {G : List Addr} {cs : List Addr}
theorem ov_hid {C2 : Hp} (n : ∀ c ∈ cs, C2 c = none) : Same (ov (hid cs B) C2) (ov B (unh cs C C2)) := fun b o e => by
  by_cases m : b ∈ cs
  · rw [ov_new (hid_in m), n b m] at e
    cases e
  · cases h : B b with
    | some u =>
      rw [ov_old (by rw [hid_out m]; exact h)] at e
      rw [ov_old h]
      exact e
    | none =>
      rw [ov_new (by rw [hid_out m]; exact h)] at e
      rw [ov_new h, unh_out m]
      exact e
in #guard_msgs in open Nat
/-- a change while cells are hidden, seen with them -/
theorem Nx.unh {C2 H2 : Hp} {W2 : List Res} {G2 : List Addr} (ch : Same C H) (n : ∀ c ∈ cs, H2 c = none) (x : Nx (hid cs C) (hid cs H) G C2 H2 W2 G2) : Nx C H G (Tg.unh cs C C2) (Tg.unh cs H H2) W2 G2 := by
  have off : ∀ b, H2 b ≠ none → b ∉ cs := fun b h m => h (n b m)
  have off2 : ∀ b o, C2 b = some o → b ∉ cs := fun b o e => off b (ne_none (x.ch b o e))
  refine ⟨fun b o e => ?_, fun b o e => ?_, fun b o e g => ?_, fun b h => ?_, fun b h => ?_, fun b m => ?_, x.res.mono (fun b o e => ?_) (fun b m => ?_) (fun b m => ?_), fun b h => ?_⟩
  · by_cases m : b ∈ cs
    · rw [unh_in m]; exact e
    · rw [unh_out m]; exact x.cc b o (by rw [hid_out m]; exact e)
  · by_cases m : b ∈ cs
    · rw [unh_in m] at e ⊢; exact ch b o e
    · rw [unh_out m] at e ⊢; exact x.ch b o e
  · by_cases m : b ∈ cs
    · rw [unh_in m]; exact e
    · rw [unh_out m]; exact x.fr b o (by rw [hid_out m]; exact e) g
  · by_cases m : b ∈ cs
    · rw [unh_in m]; exact h
    · rw [unh_out m]; exact x.dm b (by rw [hid_out m]; exact h)
  · by_cases m : b ∈ cs
    · rw [unh_in m]
    · rw [unh_out m, x.od b (by rw [hid_out m]; exact h), hid_out m]
  · refine (x.gg b m).imp id fun z => ?_
    rw [hid_out (off b (x.res.there b m).2)] at z
    exact z
  · rw [unh_out (off2 b o e)]; exact e
  · rw [unh_out (off b (x.res.there b m).2)]
    exact (x.res.there b m).1
  · rw [unh_out (off b (x.res.there b m).2)]
  · by_cases m : b ∈ cs
    · rw [unh_in m]; exact h
    · rw [unh_out m]; exact x.dh b (by rw [hid_out m]; exact h)
in #guard_msgs in open Nat
/-- a function that is held, with what its cells hold, promises -/
theorem clo_held (N : NOk P w K mg base CX0 k f F ps fr (nsp K mg fr.length T)) (hf : C f = some (FnO f F)) (hc : C F.c = some (CodeO F.c F.qual)) (cc : CellsSh F.cl fr (wvs.map some) C) (dv : DvL K C wvs cds) : CloAt P w K mg base k C f (pxfC K mg (TClo cds T) C) :=
  clo_of N hf hc cc fun vs H Q E sH ⟨B, ds, W, G, q, x, cb, bh, gB, r, dvs, ⟨hcut, hT⟩, kk, hE⟩ => by
    have shC := cc.shown
    have shB : Shown (cAd F.cl) B := fun c m => by
      obtain ⟨o, e⟩ := shC c m
      exact ⟨o, cb _ _ e⟩
    have up : ∀ {X Y : Hp}, Same X Y → Same (hid (cAd F.cl) X) (hid (cAd F.cl) Y) := fun {X Y} s b o e => by
      obtain ⟨m, e⟩ := hid_some e
      rw [hid_out m]
      exact s _ _ e
    refine ⟨wvs, rfl, by have := cc.len; rwa [List.length_map] at this, hid (cAd F.cl) C, hid (cAd F.cl) B, ds ++ cds, W, G, q, xNo, up cb, up bh, fun a m => ?_, r.cut shC hcut, (dvs.cutC (sameC_hid shB)).append ((dv.mono cb).cutC (sameC_hid shB)), hT, fun d v W' C2 H2 G2 hq n2 dv2 hn => ?_, fun c Cl dd vfs fs W' C' H' G' _ hx => False.elim hx⟩
    · by_cases c : a ∈ cAd F.cl
      · exact hid_in c
      · rw [hid_out c]; exact gB a m
    · have n0 : ∀ c ∈ cAd F.cl, C2 c = none := fun c m => by
        cases e : C2 c with
        | none => rfl
        | some o =>
          have := n2.ch c o e
          rw [hn c m] at this
          cases this
      exact kk d v W' _ _ G2 hq (n2.unh (cb.trans bh) hn) (dv2.mono (ov_hid n0))
in #guard_msgs in open Nat
end
/-! ### calls -/
section
variable {P : Program} {w : World} {K : PySem.W.Frag} {mg : Str → Option Value} {base : Heap} {k : Nat} {Z : Zx} {ρ : List Sl} {σ : L2.St} {C C' B H H' : Hp} {f : Addr} {F : NF} {ps fr : List Str} {T : TX} {cds cds' ds : List D} {vs : List V} {W W' W1 W2 : List Res} {G : List Addr} {cs : List Addr} {cl : List (Str × Addr)} {js : List Nat}
  {E : XK} {x xE : XX} {q : D → List Res → Prop} {tl : TA} {te : TE} {i j : Nat} {d : D} {v : V}
theorem call_atC (p : Pr K Z W C B H G) (hE : EOkW K Z mg E xE) (dv : DvL K B vs ds) (h : CallX T ds W q xE) {Q : VK}
    (kk : ∀ d v W' C' H' G', q d W' → Nx C H G C' H' W' G' → Dv K (ov B C') v d → Q v H') : pxfC K mg T C vs H Q E := by
  obtain ⟨Wc, Wf, hp, h⟩ := h
  obtain ⟨G1, r1, e1⟩ := hp p.nx.res
  obtain ⟨Gc, Gf, hc, hf, dj, cov⟩ := r1.split
  have cc : ∀ a ∈ Gc, a ∈ G := fun a m => e1 a ((cov a).mpr (.inl m))
  have cf : ∀ a ∈ Gf, a ∈ G := fun a m => e1 a ((cov a).mpr (.inr m))
  refine ⟨B, ds, Wc, Gc, _, _, p.cb, p.bh, fun a m => p.gB a (cc a m), hc, dv, h, fun d v W' C' H' G' ⟨W2, pm, hq⟩ n2 dv2 => ?_, hE.to p hf dj cc cf fun c fs Wc' h => h⟩
  obtain ⟨G3, n3, _⟩ := (Nx.whole hf dj cc cf n2).ent pm
  exact kk d v W2 C' H' G3 hq n3 dv2
in #guard_msgs in open Nat
theorem WR.clo (r : WR C H W G) (h : W[i]? = some (RClo P w K mg base k f T)) : ∀ C', Same C C' → CloAt P w K mg base k C' f (pxfC K mg T C') := WR.fact (m := fun h s C' s' => h C' (s.trans s')) r h
in #guard_msgs in open Nat
theorem WR.rfn (r : WR C H W G) (h : W[i]? = some (RFn f F)) : C f = some (FnO f F) ∧ C F.c = some (CodeO F.c F.qual) := WR.fact (P := fun C => C f = some (FnO f F) ∧ C F.c = some (CodeO F.c F.qual)) (m := fun h s => ⟨s _ _ h.1, s _ _ h.2⟩) r h
in #guard_msgs in open Nat
theorem WR.dat (r : WR C H W G) (h : W[i]? = some (Tg.dat K v d)) : Dv K C v d := WR.fact (m := fun h s => h.mono s) r h
/-- f(..), f a name that holds a closure -/
theorem xe_callfn (hE : EOkW K Z mg E xE) (hi : ρ[i]? = some (.sh (.op (.ref f)))) (h0 : ∃ (j : Nat) (T0 : TX), W[j]? = some (RClo P w K mg base k f T0)) (h : XA K Z tl ρ W fun ds W1 => ∃ (j : Nat) (T : TX), W1[j]? = some (RClo P w K mg base k f T) ∧ CallX T ds W1 q xE) : XE K Z (tCallFn P w K mg base k i E tl) ρ W q := fun σ C B H G p En Q kk => by
  obtain ⟨v, e1, e2⟩ := En.2 _ _ hi
  cases e2
  refine ⟨f, e1, ?_, h σ C B H G p En _ fun ds vs W1 C1 H1 G1 ⟨j, T, hj, hT⟩ n1 dx => ?_⟩
  · obtain ⟨j, T0, hj⟩ := h0
    obtain ⟨F, e⟩ := (p.nx.res.clo hj C (Same.refl _)).1
    exact ⟨F, p.ch _ _ e⟩
  · refine ⟨C1, pxfC K mg T C1, n1.res.clo hj C1 (Same.refl _), n1.ch, call_atC (p.next n1) hE dx hT fun d v W' C' H' G' hq n2 dv => kk d v W' C' H' G' hq (n1.trans n2) (by rw [ov_ov n2.cc] at dv; exact dv)⟩
in #guard_msgs in open Nat
/-- what is held, told otherwise once the cells are shown -/
def EntS (K : PySem.W.Frag) (cl : List (Str × Addr)) (fr : List Str) (cds : List D) (W W' : List Res) : Prop := ∀ (C H : Hp) (G : List Addr) (vs : List V), CellsSh cl fr (vs.map some) C → DvL K C vs cds → WR C H W G → ∃ G', WR C H W' G' ∧ ∀ a ∈ G', a ∈ G
theorem EntS.of (e : Ent W W') : EntS K cl fr cds W W' := fun C H G vs _ _ h => e h
theorem EntS.trans (a : EntS K cl fr cds W W1) (b : EntS K cl fr cds W1 W2) : EntS K cl fr cds W W2 := fun C H G vs hc hd h => by
  obtain ⟨G1, h1, e1⟩ := a C H G vs hc hd h
  obtain ⟨G2, h2, e2⟩ := b C H G1 vs hc hd h1
  exact ⟨G2, h2, fun a m => e1 a (e2 a m)⟩
in #guard_msgs in open Nat
/-- what cells hold: plain things, or values of which the data are known -/
inductive CapD (K : PySem.W.Frag) (W : List Res) : List D → List D → Prop
  | nil : CapD K W [] []
  | same (d : D) {ds ds' : List D} : CapD K W ds ds' → CapD K W (d :: ds) (d :: ds')
  | dat {v : V} {d : D} (i : Nat) {ds ds' : List D} : W[i]? = some (Tg.dat K v d) → CapD K W ds ds' → CapD K W (.op v :: ds) (d :: ds')
theorem CapD.dv (r : WR C H W G) : ∀ {cds cds' : List D}, CapD K W cds cds' → ∀ {vs : List V}, DvL K C vs cds → DvL K C vs cds'
  | _, _, .nil, _, h => h
  | _, _, .same d t, _, .cons h hs => .cons h (CapD.dv r t hs)
  | _, _, .dat i hi t, _, .cons h hs => by
    cases h
    exact .cons (r.dat hi) (CapD.dv r t hs)
in #guard_msgs in open Nat
theorem ents_clo (N : NOk P w K mg base CX0 k f F ps fr (nsp K mg fr.length T)) (hF : F.cl = cl) (hi : W[i]? = some (RFn f F)) (hd : CapD K W cds cds') : EntS K cl fr cds W (RClo P w K mg base k f (TClo cds' T) :: W) := fun C H G vs hc dv r => by
  obtain ⟨h1, h2⟩ := r.rfn hi
  exact ⟨G, r.addF (m := fun h s C' s' => h C' (s.trans s')) fun C' s' => clo_held N (s' _ _ h1) (s' _ _ h2) (by rw [hF]; exact hc.mono s') ((hd.dv r dv).mono s'), fun _ m => m⟩
in #guard_msgs in open Nat
theorem CellsSh.unh {ws : List (Option V)} (h : CellsSh cl fr ws B) : CellsSh cl fr ws (Tg.unh (cAd cl) B C) := ⟨h.len, fun y c e => by
  obtain ⟨o, v, e1, e2⟩ := h.all y c e
  exact ⟨o, v, by rw [unh_in (mem_cAd.mpr ⟨y, e⟩)]; exact e1, e2⟩, h.inj, fun i y e => by
  obtain ⟨c, e1, e2⟩ := h.has i y e
  refine ⟨c, e1, fun v ev => ?_⟩
  obtain ⟨u, o, r, e3, e4⟩ := e2 v ev
  exact ⟨u, o, r, by rw [unh_in (mem_cAd.mpr ⟨y, e1⟩)]; exact e3, e4⟩⟩
in #guard_msgs in open Nat
/-- a change with cells shown, seen without them -/
theorem Nx.hid {C2 H2 Gh : Hp} {W2 : List Res} {G2 : List Addr} (ch : Same C H) (n : ∀ c ∈ cs, H c = none) (sh : ∀ c ∈ cs, ∃ o, Gh c = some (.frz o (.own 0))) (hc : CutL W2) (x : Nx (Tg.unh cs Gh C) (Tg.unh cs Gh H) G C2 H2 W2 G2) : Nx C H G (Tg.hid cs C2) (Tg.hid cs H2) W2 G2 := by
  have sC2 : Shown cs C2 := fun c m => by
    obtain ⟨o, e⟩ := sh c m
    exact ⟨o, x.cc c _ (by rw [unh_in m]; exact e)⟩
  have offH : ∀ b, H b ≠ none → b ∉ cs := fun b h m => h (n b m)
  refine ⟨fun b o e => ?_, fun b o e => ?_, fun b o e g => ?_, fun b h => ?_, fun b h => ?_, fun b m => ?_, x.res.cut sC2 hc, fun b h => ?_⟩
  · have m := offH b (ne_none (ch b o e))
    rw [hid_out m]; exact x.cc b o (by rw [unh_out m]; exact e)
  · obtain ⟨m, e⟩ := hid_some e
    rw [hid_out m]; exact x.ch b o e
  · have m := offH b (ne_none e)
    rw [hid_out m]; exact x.fr b o (by rw [unh_out m]; exact e) g
  · have m := offH b h
    rw [hid_out m]; exact x.dm b (by rw [unh_out m]; exact h)
  · have m := offH b h.1
    rw [hid_out m, x.od b (by rw [unh_out m]; exact h), unh_out m]
  · refine (x.gg b m).imp id fun z => ?_
    by_cases c : b ∈ cs
    · exact n b c
    · rw [unh_out c] at z; exact z
  · have m := offH b h.1
    rw [hid_out m]; exact x.dh b (by rw [unh_out m]; exact h)
in #guard_msgs in open Nat
def plainD : D → Bool
  | .op _ => true
  | d => scalD d
theorem dvl_plain : ∀ {vs : List V} {ds : List D}, DvL K B vs ds → ds.all plainD = true → DvL K C vs ds
  | _, _, .nil, _ => .nil
  | v :: vs, d :: ds, .cons h t, e => by
    rw [List.all_cons, Bool.and_eq_true] at e
    refine .cons ?_ (dvl_plain t e.2)
    have e1 := e.1
    cases d <;> first | (cases h; exact .op _) | exact dv_scal h e1
in #guard_msgs in open Nat
theorem slots_at (En : EnvS K B σ ρ) : ∀ {js : List Nat} {cds : List D}, js.map (fun j => ρ[j]?) = cds.map (fun d => some (Sl.sh d)) → ∃ ws : List V, js.map (slotAt σ) = ws.map some ∧ DvL K B ws cds
  | [], [], _ => ⟨[], rfl, .nil⟩
  | [], _ :: _, h => by cases h
  | _ :: _, [], h => by cases h
  | j :: js, d :: cds, h => by
    rw [List.map_cons, List.map_cons] at h
    obtain ⟨e1, e2⟩ := List.cons.inj h
    obtain ⟨v, h1, h2⟩ := En.2 _ _ e1
    obtain ⟨ws, h3, h4⟩ := slots_at En e2
    exact ⟨v :: ws, by rw [List.map_cons, List.map_cons, h3, slotAt_of h1], .cons h2 h4⟩
in #guard_msgs in open Nat
/-- what a call asks to which the frame's cells are shown -/
def CallS (K : PySem.W.Frag) (cl : List (Str × Addr)) (fr : List Str) (cds : List D) (T : TX) (ds : List D) (W : List Res) (q : D → List Res → Prop) : Prop := ∃ Wc Wf, EntS K cl fr cds W (Wc ++ Wf) ∧ T ds Wc (fun d Wc' => ∃ W2, Ent (Wc' ++ Wf) W2 ∧ CutL W2 ∧ q d W2) xNo
section
variable {Gh : Hp} {Q : VK}
theorem callS_at (p : Pr K Z W C B H G) (En : EnvS K B σ ρ) (hj : js.map (fun j => ρ[j]?) = cds.map fun d => some (Sl.sh d)) (hp : cds.all plainD = true) (dx : DvL K B vs ds) (h : CallS K cl fr cds T ds W q) (n : ∀ c ∈ cAd cl, H c = none) (cS : CellsSh cl fr (js.map (slotAt σ)) Gh)
    : ∃ (Wc : List Res) (Gc : List Addr) (q' : D → List Res → Prop), Same (unh (cAd cl) Gh C) (unh (cAd cl) Gh B) ∧ Same (unh (cAd cl) Gh B) (unh (cAd cl) Gh H) ∧ (∀ a ∈ Gc, unh (cAd cl) Gh B a = none) ∧ WR (unh (cAd cl) Gh C) (unh (cAd cl) Gh H) Wc Gc ∧ DvL K (unh (cAd cl) Gh B) vs ds ∧ T ds Wc q' xNo ∧
      ∀ d W' C' H' G', q' d W' → Nx (unh (cAd cl) Gh C) (unh (cAd cl) Gh H) Gc C' H' W' G' → ∃ W2 G2, q d W2 ∧ Nx C H G (hid (cAd cl) C') (hid (cAd cl) H') W2 G2 ∧ Shown (cAd cl) C' ∧ Same (hid (cAd cl) (ov (unh (cAd cl) Gh B) C')) (ov B (hid (cAd cl) C')) ∧ Shown (cAd cl) (ov (unh (cAd cl) Gh B) C') ∧ ∀ b, b ∈ G2 → b ∈ G' ∨ b ∈ G := by
  obtain ⟨Wc, Wf, hS, hT⟩ := h
  obtain ⟨ws, ew, dw⟩ := slots_at En hj
  rw [ew] at cS
  have shG : ∀ c ∈ cAd cl, ∃ o, Gh c = some (.frz o (.own 0)) := fun c m => cS.shown c m
  have offH : ∀ b, H b ≠ none → b ∉ cAd cl := fun b h m => h (n b m)
  have offB : ∀ b, B b ≠ none → b ∉ cAd cl := fun b h => by
    cases e : B b with
    | none => exact absurd e h
    | some o => exact offH b (ne_none (p.bh b o e))
  have up : ∀ {X Y : Hp}, Same X Y → Same (unh (cAd cl) Gh X) (unh (cAd cl) Gh Y) := fun {X Y} s b o e => by
    by_cases m : b ∈ cAd cl
    · rw [unh_in m] at e ⊢; exact e
    · rw [unh_out m] at e ⊢; exact s _ _ e
  have sC : Same C (unh (cAd cl) Gh C) := fun b o e => by
    rw [unh_out (offB b (ne_none (p.cb b o e)))]; exact e
  have sB : Same B (unh (cAd cl) Gh B) := fun b o e => by
    rw [unh_out (offB b (ne_none e))]; exact e
  have r1 : WR (unh (cAd cl) Gh C) (unh (cAd cl) Gh H) W G := p.nx.res.mono sC (fun a m => by rw [unh_out (offH a (p.nx.res.there a m).2)]; exact (p.nx.res.there a m).1) fun a m => by rw [unh_out (offH a (p.nx.res.there a m).2)]
  obtain ⟨G1, r2, e1⟩ := hS _ _ _ ws cS.unh (dvl_plain dw hp) r1
  obtain ⟨Gc, Gf, hc, hf, dj, cov⟩ := r2.split
  have cc : ∀ a ∈ Gc, a ∈ G := fun a m => e1 a ((cov a).mpr (.inl m))
  have cf : ∀ a ∈ Gf, a ∈ G := fun a m => e1 a ((cov a).mpr (.inr m))
  refine ⟨Wc, Gc, _, up p.cb, up p.bh, fun a m => ?_, hc, dx.mono sB, hT, fun d W' C' H' G' ⟨W2, pm, hcut, hq⟩ n2 => ?_⟩
  · have h1 := (hc.there a m).1
    rw [unh_out (offH a (p.nx.res.there a (cc a m)).2)]
    exact p.gB a (cc a m)
  · obtain ⟨G3, n3, sub⟩ := (Nx.whole hf dj cc cf n2).ent pm
    have shC : Shown (cAd cl) C' := fun c m => by
      obtain ⟨o, e⟩ := shG c m
      exact ⟨o, n2.cc c _ (by rw [unh_in m]; exact e)⟩
    refine ⟨W2, G3, hq, n3.hid p.ch n shG hcut, shC, fun b o e => ?_, fun c m => ?_, fun b m => ?_⟩
    · obtain ⟨m, e⟩ := hid_some e
      cases hB : B b with
      | some u =>
        rw [ov_old (by rw [unh_out m]; exact hB)] at e
        rw [ov_old hB]; exact e
      | none =>
        rw [ov_new (by rw [unh_out m]; exact hB)] at e
        rw [ov_new hB, hid_out m]; exact e
    · obtain ⟨o, e⟩ := shG c m
      exact ⟨o, ov_old (by rw [unh_in m]; exact e)⟩
    · exact (List.mem_append.mp (sub b m)).imp id (cf b)
in #guard_msgs in open Nat
end
/-- g(..), to which the frame's cells are shown -/
theorem xe_callSh (hj : js.map (fun j => ρ[j]?) = cds.map fun d => some (Sl.sh d)) (hp : cds.all plainD = true) (h : XA K Z tl ρ W fun ds W1 => CallS K cl fr cds T ds W1 q) : XE K Z (tCallSh cl fr js (pxf K mg T) [] E tl) ρ W q := fun σ C B H G p En Q kk => h σ C B H G p En _ fun ds vs W1 C1 H1 G1 hT n1 dx Gh hn cS => by
  obtain ⟨Wc, Gc, q', h1, h2, h3, h4, h5, h6, h7⟩ := callS_at (p.next n1) (En.mono ov_l) hj hp dx hT hn cS
  rw [List.append_nil]
  refine ⟨_, _, ds, Wc, Gc, q', xNo, h1, h2, h3, h4, h5, h6, fun d v W' C' H' G' hq n2 dv => ?_, fun c Cl dd vfs fs W' C' H' G' _ hx => False.elim hx⟩
  obtain ⟨W2, G2, hq2, n3, sh, sm, sh2, _⟩ := h7 d W' C' H' G' hq n2
  refine kk d v W2 _ _ G2 hq2 (n1.trans n3) ?_
  have dv2 : Dv K (ov (ov B C1) (hid (cAd cl) C')) v d := Dv.mono sm (Dv.cutC (sameC_hid sh2) dv)
  rw [ov_ov n3.cc] at dv2
  exact dv2
in #guard_msgs in open Nat
theorem xn_callSh (hj : js.map (fun j => ρ[j]?) = cds.map fun d => some (Sl.sh d)) (hp : cds.all plainD = true) (h : XA K Z tl ρ W fun ds W1 => CallS K cl fr cds T ds W1 q) : XN K Z (tCallSh cl fr js (pxfN K mg T) [] E tl) ρ W q := fun σ C B H G p En Q kk => h σ C B H G p En _ fun ds vs W1 C1 H1 G1 hT n1 dx Gh hn cS => by
  obtain ⟨Wc, Gc, q', h1, h2, h3, h4, h5, h6, h7⟩ := callS_at (p.next n1) (En.mono ov_l) hj hp dx hT hn cS
  rw [List.append_nil]
  refine ⟨_, _, ds, Wc, Gc, q', xNo, h1, h2, h3, h4, h5, h6, fun d v W' C' H' G' hq n2 ⟨l, ev, nl, bl, gl, c⟩ => ?_, fun c Cl dd vfs fs W' C' H' G' _ hx => False.elim hx⟩
  obtain ⟨W2, G2, hq2, n3, sh, sm, sh2, sub⟩ := h7 d W' C' H' G' hq n2
  have ml : l ∉ cAd cl := fun m => by
    obtain ⟨o, e⟩ := cS.shown l m
    rw [unh_in m, e] at nl
    cases nl
  have nl1 : H1 l = none := by rw [unh_out ml] at nl; exact nl
  have nl0 : H l = none := by
    cases e : H l with
    | none => rfl
    | some o => exact absurd nl1 (n1.dm l (ne_none e))
  refine kk d v W2 _ _ G2 hq2 (n1.trans n3) ⟨l, ev, nl0, ?_, fun m => ?_, ?_⟩
  · rw [← ov_ov (B := B) n3.cc]
    have b1 : ov B C1 l = none := (p.next n1).bh.free nl1
    rw [ov_new (by rw [unh_out ml]; exact b1)] at bl
    rw [ov_new b1, hid_out ml]
    exact bl
  · exact (sub l m).elim gl fun m => (n1.res.there l m).2 nl1
  · rw [← ov_ov (B := B) n3.cc]
    exact (Cell.cutC (sameC_hid sh2) (hid_out ml) c).mono sm rfl
in #guard_msgs in open Nat
/-- a value's data, known -/
theorem xe_cast (h : XE K Z te ρ W fun d W' => ∃ (i : Nat) (v : V) (d' : D), d = .op v ∧ W'[i]? = some (dat K v d') ∧ q d' W') : XE K Z te ρ W q := fun σ C B H G p En Q kk => h σ C B H G p En _ fun d v W' C' H' G' ⟨i, v', d', e, hi, hq⟩ n1 dv => by
  subst e
  cases dv
  exact kk d' _ W' C' H' G' hq n1 (Dv.mono (p.next n1).cb (n1.res.dat hi))
in #guard_msgs in open Nat
end
/-! ### the body of a def within a def -/
theorem startF_eq {N ps fr : List Str} {vs wvs : List V} : startF N vs (wvs.map some) = L2.start N (vs ++ wvs) := by
  unfold startF L2.start
  rw [List.map_append, List.append_assoc, List.length_append, List.length_map, Nat.sub_sub]
in #guard_msgs in open Nat
end Tg

/-! The engine: statements, further. -/
namespace Tg
open PySem PySem.Spec L2 NdefX LamX
theorem set_self {α : Type} : ∀ {W : List α} {i : Nat} {r : α}, W[i]? = some r → W.set i r = W
  | [], _, _, h => by simp at h
  | a :: W, 0, r, h => by
    have h : a = r := by simpa using h
    rw [h]; rfl
  | a :: W, i + 1, r, h => by
    show a :: W.set i r = a :: W
    rw [set_self (by simpa using h)]
in #guard_msgs in open Nat
section
variable {K : PySem.W.Frag} {Z : Zx} {C C' H H' F : Hp} {σ : L2.St} {ρ : List Sl} {W W' : List Res} {A G : List Addr} {P : AEnds} {i j : Nat}
/-- «def g(..): ..» within a def -/
theorem xs_ndef {T : Addr} {nm : Nat → Nat → Str} {l c : Nat} {mk : Addr → NF} {qn : Str} (i : Nat) (hi : W[i]? = some (RTab T nm)) (hq : nm l c = qn) (hmk : ∀ z, (mk z).qual = qn ∧ (mk z).c = z) (h : ∀ f z, P.nx (ρ.set j (.sh (.op (.ref f)))) (RFn f (mk z) :: W)) : XS K Z (tNdefX T nm l c j qn mk) ρ W P := fun F R ok C H σ A G s r => by
  obtain ⟨fp, ⟨efp, ps, h1, h2, h3⟩, h4, h5⟩ := r.nx.res.get hi
  have mT : T ∈ fp := by rw [efp]; exact List.mem_cons_self
  obtain ⟨gT, cT, _⟩ := h4 T mT
  have ch := r.nx.ch
  refine ⟨⟨ps, h1, h2, fun pos cv hc => ?_⟩, fun f Gh m => ?_⟩
  · obtain ⟨z, e1, e2⟩ := h3 pos cv hc
    exact ⟨z, e1, ch _ _ e2⟩
  have fin : ∀ (z : Addr) (C2 : Hp), Nx C H G C2 Gh W G → C2 f = some (FnO f (mk z)) → C2 z = some (CodeO z qn) → R.nx (σ.set j (some (.ref f))) Gh := fun z C2 n e1 e2 => by
    obtain ⟨q1, q2⟩ := hmk z
    have n2 : Nx C H G C2 Gh (RFn f (mk z) :: W) G := ⟨n.cc, n.ch, n.fr, n.dm, n.od, n.gg, n.res.addF (m := fun h s => ⟨s _ _ h.1, s _ _ h.2⟩) ⟨e1, by rw [q2, q1]; exact e2⟩, n.dh⟩
    obtain ⟨A', r'⟩ := (r.next n2).setSh (Dv.op (.ref f)) j
    exact ok.nx (h f z) (s.trans n.cc) r'
  cases m with
  | @new ps' z _ hT ht hz hf nzf =>
    rw [h1] at hT
    cases hT
    have nz : ∀ {b : Addr} {o : HO}, H b = some o → b ≠ z := fun e q => by rw [q, hz] at e; cases e
    have nf : ∀ {b : Addr} {o : HO}, H b = some o → b ≠ f := fun e q => by rw [q, hf] at e; cases e
    have nzT : z ≠ T := fun q => by rw [q, h1] at hz; cases hz
    have nfT : f ≠ T := fun q => by rw [q, h1] at hf; cases hf
    have cz : C z = none := ch.free hz
    have cf : C f = none := ch.free hf
    have s1 : Same C (upd (upd C z (CodeO z qn)) f (FnO f (mk z))) := fun b o e => by rw [upd_ne (nf (ch b o e)), upd_ne (nz (ch b o e))]; exact e
    refine fin z (upd (upd C z (CodeO z qn)) f (FnO f (mk z))) ⟨s1, fun b o e => ?_, fun b o e n => ?_, fun b n => ?_, fun b n => ?_, fun b m => .inl m, ?_, fun b n => ?_⟩ upd_same (by rw [upd_ne nzf, upd_same])
    · by_cases c1 : b = f
      · rw [c1, upd_same] at e ⊢; exact e
      · rw [upd_ne c1] at e ⊢
        by_cases c2 : b = z
        · rw [c2, upd_same] at e ⊢; exact e
        · rw [upd_ne c2] at e ⊢
          rw [upd_ne fun (q : b = T) => by rw [q, cT] at e; cases e]
          exact ch b o e
    · rw [upd_ne (nf e), upd_ne (nz e), upd_ne fun (q : b = T) => n (q ▸ gT)]
      exact e
    · obtain ⟨o, e⟩ : ∃ o, H b = some o := by
        cases e : H b with
        | none => exact absurd e n
        | some o => exact ⟨o, rfl⟩
      rw [upd_ne (nf e), upd_ne (nz e)]
      by_cases c : b = T
      · rw [c, upd_same]; exact fun z => by cases z
      · rw [upd_ne c]; exact n
    · obtain ⟨o, e⟩ : ∃ o, H b = some o := by
        cases e : H b with
        | none => exact absurd e n.1
        | some o => exact ⟨o, rfl⟩
      rw [upd_ne (nf e), upd_ne (nz e)]
    · have w := h5 (RTab T nm) (upd (upd C z (CodeO z qn)) f (FnO f (mk z))) (upd (upd (upd H T (.tbl (ps ++ #[rawInt l, rawInt c, .ref z]))) z (CodeO z qn)) f (FnO f (mk z))) s1 (fun b m => ?_) (fun b m n => ?_) (fun b m => ?_) ⟨efp, ps ++ #[rawInt l, rawInt c, .ref z], ?_, ?_, fun pos cv hc => ?_⟩
      · rwa [set_self hi] at w
      · have th := r.nx.res.there b m
        rw [upd_ne fun (q : b = f) => th.2 (q ▸ hf), upd_ne fun (q : b = z) => th.2 (q ▸ hz)]
        exact th.1
      · have th := r.nx.res.there b m
        rw [upd_ne fun (q : b = f) => th.2 (q ▸ hf), upd_ne fun (q : b = z) => th.2 (q ▸ hz), upd_ne fun (q : b = T) => n (q ▸ mT)]
      · rw [efp] at m
        rw [List.mem_singleton.mp m, upd_ne nfT.symm, upd_ne nzT.symm, upd_same]
        exact ⟨(fun z => by cases z), (fun _ z => by cases z)⟩
      · rw [upd_ne nfT.symm, upd_ne nzT.symm, upd_same]
      · rw [Array.toList_append]
        exact TriplesOk_snoc _ _ _ _ h2
      · rw [Array.toList_append] at hc
        rcases among_app2 (pos := ⟨l, c, 0, 0⟩) _ h2 hc with q | ⟨q1, q2, q3⟩
        · obtain ⟨z', e1, e2⟩ := h3 pos cv q
          exact ⟨z', e1, s1 _ _ e2⟩
        · have q2 : l = pos.line := q2
          have q3 : c = pos.col := q3
          refine ⟨z, q1, ?_⟩
          rw [← q2, ← q3, hq, upd_ne nzf, upd_same]
    · obtain ⟨o, e⟩ : ∃ o, H b = some o := by
        cases e : H b with
        | none => exact absurd e n.1
        | some o => exact ⟨o, rfl⟩
      rw [upd_ne (nf e), upd_ne (nz e)]
      by_cases c : b = T
      · rw [c, upd_same]; exact ⟨(fun z => by cases z), (fun _ z => by cases z)⟩
      · rw [upd_ne c]; exact n
  | @hit ps' z _ pos hT hl hk hc hf =>
    rw [h1] at hT
    cases hT
    obtain ⟨z', e1, e2⟩ := h3 pos _ hc
    cases e1
    rw [hl, hk, hq] at e2
    have nf : ∀ {b : Addr} {o : HO}, H b = some o → b ≠ f := fun e q => by rw [q, hf] at e; cases e
    have s1 : Same C (upd C f (FnO f (mk z))) := fun b o e => by rw [upd_ne (nf (ch b o e))]; exact e
    have keepH : ∀ b, H b ≠ none → upd H f (FnO f (mk z)) b = H b := fun b n => upd_ne fun (q : b = f) => n (q ▸ hf)
    refine fin z (upd C f (FnO f (mk z))) ⟨s1, fun b o e => ?_, fun b o e n => ?_, fun b n => ?_, fun b n => ?_, fun b m => .inl m, r.nx.res.mono s1 (fun b m => ?_) (fun b m => keepH b (r.nx.res.there b m).2), fun b n => by rw [keepH b n.1]; exact n⟩ upd_same (s1 _ _ e2)
    · by_cases c1 : b = f
      · rw [c1, upd_same] at e ⊢; exact e
      · rw [upd_ne c1] at e ⊢; exact ch b o e
    · rw [upd_ne (nf e)]; exact e
    · rw [keepH b n]; exact n
    · exact upd_ne fun (q : b = f) => n.1 (q ▸ hf)
    · rw [upd_ne fun (q : b = f) => (r.nx.res.there b m).2 (q ▸ hf)]
      exact (r.nx.res.there b m).1
in #guard_msgs in open Nat
/-- a slot's data, noted -/
theorem xs_dat {t : TS} {d : D} (j : Nat) (e : ρ[j]? = some (.sh d)) (h : ∀ v, XS K Z t (ρ.set j (.sh (.op v))) (dat K v d :: W) P) : XS K Z t ρ W P := fun F R ok C H σ A G s r => by
  obtain ⟨v, h1, h2⟩ := r.ed.2 j d (by rw [vd_at e]; rfl)
  have n : Nx C H G C H (dat K v d :: W) G := ⟨Same.refl _, r.nx.ch, fun _ _ e _ => e, fun _ e => e, fun _ _ => rfl, fun _ m => .inl m, r.nx.res.addF (m := fun h s => h.mono s) h2, fun _ n => n⟩
  obtain ⟨A', r'⟩ := (r.next n).setSh (Dv.op v) j
  rw [set_self h1] at r'
  exact h v F R ok C H σ A' G s r'
in #guard_msgs in open Nat
end
/-! ### dicts walked -/
def okK (k : List Key) : Prop := ∀ z : Str, Sum.inr z ∈ k → okS z
theorem dvl_keys {K : PySem.W.Frag} {B : Hp} : ∀ {k : List Key}, okK k → DvL K B (k.map kV) (k.map kD)
  | [], _ => .nil
  | .inl i :: k, h => .cons (.int i) (dvl_keys fun z m => h z (List.mem_cons_of_mem _ m))
  | .inr z :: k, h => .cons (.str z (h z List.mem_cons_self)) (dvl_keys fun z m => h z (List.mem_cons_of_mem _ m))
in #guard_msgs in open Nat
/-- a frozen dict, known -/
def FzD (K : PySem.W.Frag) (v : V) (d : D) (C : Hp) : Prop := ∃ a o, v = .ref a ∧ ((∃ ks kvs, d = .dt ks ∧ C a = some (.frz o (.dT kvs)) ∧ DvT K C kvs ks) ∨ ∃ ks kvs, d = .dk ks ∧ C a = some (.frz o (.dK kvs)) ∧ DvK K C kvs ks)
theorem FzD.mono {K : PySem.W.Frag} {v : V} {d : D} {C C' : Hp} (h : FzD K v d C) (s : Same C C') : FzD K v d C' := by
  obtain ⟨a, o, e, h⟩ := h
  exact ⟨a, o, e, h.imp (fun ⟨ks, kvs, h1, h2, h3⟩ => ⟨ks, kvs, h1, s _ _ h2, h3.mono s⟩) fun ⟨ks, kvs, h1, h2, h3⟩ => ⟨ks, kvs, h1, s _ _ h2, h3.mono s⟩⟩
in #guard_msgs in open Nat
def fzd (K : PySem.W.Frag) (v : V) (d : D) : Res := fact (FzD K v d) fun h s => h.mono s
theorem WR.fzd {K : PySem.W.Frag} {v : V} {d : D} {C H : Hp} {W : List Res} {G : List Addr} {i : Nat} (r : WR C H W G) (h : W[i]? = some (Tg.fzd K v d)) : FzD K v d C := WR.fact (m := fun h s => h.mono s) r h
in #guard_msgs in open Nat
theorem WR.addFz {K : PySem.W.Frag} {v : V} {d : D} {C H : Hp} {W : List Res} {G : List Addr} (r : WR C H W G) (h : FzD K v d C) : WR C H (Tg.fzd K v d :: W) G := r.addF (m := fun h s => h.mono s) h
in #guard_msgs in open Nat
/-- the statement runs once a thing is frozen for good, or as it is -/
def tFz (t : TS) : TS := fun D σ H => t D σ H ∨ ∃ d u, H d = some u ∧ Mut (some u) ∧ ∀ od, t D σ (upd H d (.frz od u))
theorem ps_fz {X : Cx} {st : Stmt} {t : TS} (h : PS X st t) : PS X st (tFz t) := by
  refine ⟨fun pins s σ H D I hw => ?_⟩
  rcases hw with hw | ⟨d, u, hd, mu, hw⟩
  · exact h.run pins s σ H D I hw
  · obtain ⟨od, I1⟩ := I.lock hd mu
    exact h.run pins s σ _ D I1 (hw od)
in #guard_msgs in open Nat
section
variable {K : PySem.W.Frag} {Z : Zx} {C C' B H H' F : Hp} {σ : L2.St} {ρ : List Sl} {W W' : List Res} {A G : List Addr} {P : AEnds} {i j : Nat} {t : TS}
/-- a key's own tuple becomes durable -/
theorem Pr.tupe (p : Pr K Z W C B H G) {a : Addr} {k : List Key} (hk : okK k) (ha : H a = some (.tup (k.map kV))) : ∃ C', Nx C H G C' H W G ∧ Dv K C' (.ref a) (tD k) := by
  have s1 : Same C (fun b => if b = a then some (.tup (k.map kV)) else C b) := fun b o e => by
    by_cases c : b = a
    · rw [c] at e
      have := p.ch a o e
      rw [ha] at this
      exact (if_pos c).trans this
    · exact (if_neg c).trans e
  refine ⟨_, ⟨s1, fun b o e => ?_, fun _ _ e _ => e, fun _ e => e, fun b n => if_neg fun (c : b = a) => n.2 _ (c ▸ ha), fun _ m => .inl m, p.nx.res.mono s1 (fun b m => (if_neg fun (c : b = a) => (p.nx.res.hard b m).2 _ (c ▸ ha)).trans (p.nx.res.there b m).1) (fun _ _ => rfl), fun _ n => n⟩, ?_⟩
  · by_cases c : b = a
    · have e : (if b = a then some (HO.tup (k.map kV)) else C b) = some o := e
      rw [if_pos c] at e
      rw [c, ha]; exact e
    · have e : (if b = a then some (HO.tup (k.map kV)) else C b) = some o := e
      rw [if_neg c] at e
      exact p.ch b o e
  · exact .tup (if_pos rfl) (dvl_keys hk)
in #guard_msgs in open Nat
theorem xs_fz0 (h : XS K Z t ρ W P) : XS K Z (tFz t) ρ W P := fun F R ok C H σ A G s r => .inl (h F R ok C H σ A G s r)
/-- a slot's own dict is frozen for good -/
theorem xs_fzT {ks : List (List Key × D)} (i : Nat) (e : ρ[i]? = some (.own (.dt ks))) (h : ∀ v, XS K Z t (ρ.set i (.sh (.op v))) (fzd K v (.dt ks) :: dat K v (.dt ks) :: W) P) : XS K Z (tFz t) ρ W P := fun F R ok C H σ A G s r => by
  obtain ⟨a, A', h1, h2, hb, hc, h3, h4⟩ := r.env.let (vd_at e)
  obtain ⟨kvs, g1, g2⟩ := hc
  refine .inr ⟨a, .dT kvs, g1, True.intro, fun od => ?_⟩
  have ca : C a = none := hb
  have s1 : Same C (upd C a (.frz od (.dT kvs))) := fun b o eb => by rw [upd_ne fun (z : b = a) => by rw [z, ca] at eb; cases eb]; exact eb
  have n0 : ∀ b, Z.H0 b ≠ none → b ≠ a := fun b n z => n (z ▸ r.na a h2)
  have ng : ∀ b ∈ G, b ≠ a := fun b m z => r.nd a h2 (z ▸ m)
  have hf : ∃ ks' kvs', D.dt ks = .dt ks' ∧ (upd C a (.frz od (.dT kvs))) a = some (.frz od (.dT kvs')) ∧ DvT K (upd C a (.frz od (.dT kvs))) kvs' ks' := ⟨ks, kvs, rfl, upd_same, g2.mono s1⟩
  have hd : Dv K (upd C a (.frz od (.dT kvs))) (.ref a) (.dt ks) := .dt (.inr ⟨od, upd_same⟩) (g2.mono s1)
  have w1 : WR (upd C a (.frz od (.dT kvs))) (upd H a (.frz od (.dT kvs))) W G := r.nx.res.mono s1 (fun b m => by rw [upd_ne (ng b m)]; exact (r.nx.res.there b m).1) fun b m => upd_ne (ng b m)
  have w2 : WR (upd C a (.frz od (.dT kvs))) (upd H a (.frz od (.dT kvs))) (fzd K (.ref a) (.dt ks) :: dat K (.ref a) (.dt ks) :: W) G := (w1.addF (m := fun h s => h.mono s) hd).addFz ⟨a, od, rfl, .inl hf⟩
  refine h (.ref a) F R ok (upd C a (.frz od (.dT kvs))) _ σ A' G (s.trans s1) ⟨r.zk, ⟨r.nx.cc.trans s1, fun b o eb => ?_, fun b o eb n => ?_, fun b n => ?_, fun b n => ?_, r.nx.gg, w2, fun b n => ?_⟩, ?_, fun j d hj => ?_, fun b m => r.nd b (h3 b m).1, fun b m => r.na b (h3 b m).1, fun q m => ?_, fun q m z => r.la q m (h3 _ z).1⟩
  · by_cases c : b = a
    · rw [c, upd_same] at eb ⊢; exact eb
    · rw [upd_ne c] at eb ⊢; exact r.nx.ch b o eb
  · rw [upd_ne (n0 b (ne_none eb))]; exact r.nx.fr b o eb n
  · rw [upd_ne (n0 b n)]; exact r.nx.dm b n
  · rw [upd_ne (n0 b n.1)]; exact r.nx.od b n
  · rw [upd_ne (n0 b n.1)]; exact r.nx.dh b n
  · rw [vd_set]
    exact h4.mono s1 (fun b m => by rw [upd_ne (h3 b m).2]; exact (r.env.there b (h3 b m).1).1) fun b m => upd_ne (h3 b m).2
  · by_cases cj : i = j
    · subst cj
      have hl : i < ρ.length := (List.getElem?_eq_some_iff.mp e).1
      rw [List.getElem?_set_self hl] at hj
      cases hj
    · rw [List.getElem?_set_ne cj] at hj
      obtain ⟨v, k1, k2⟩ := r.bo j d hj
      exact ⟨v, k1, k2.mono (ov_mono s1)⟩
  · obtain ⟨k1, k2, k3, k4⟩ := r.lk q m
    have n : q.1 ≠ a := fun z => r.la q m (z ▸ h2)
    have e1 : upd H a (.frz od (.dT kvs)) q.1 = H q.1 := upd_ne n
    exact ⟨e1.trans k1, k2, (upd_ne n).trans k3, k4.mono s1 e1⟩
in #guard_msgs in open Nat
/-- over the keys of a frozen dict -/
def XForT (K : PySem.W.Frag) (Z : Zx) (ks : List (List Key)) (g : TG) (tb : TS) (ρ : List Sl) (W : List Res) (P : AEnds) : Prop := ∃ Iv : Nat → List Sl → List Res → Prop, (∃ ρ' W', Wk ρ ρ' ∧ Ent W W' ∧ Iv 0 ρ' W') ∧
  (∀ i k ρ' W', ks[i]? = some k → Iv i ρ' W' → XG K Z true g (tD k) ρ' W' fun ρ2 W2 => XS K Z tb ρ2 W2 (loopP P (Iv (i + 1)))) ∧ ∀ ρ' W', Iv ks.length ρ' W' → P.nx ρ' W'
theorem dvt_keys {B : Hp} : ∀ {kvs : List (List Key × V)} {ks : List (List Key × D)}, DvT K B kvs ks → kvs.map (·.1) = ks.map (·.1)
  | _, _, .nil => rfl
  | _, _, .cons _ t => by rw [List.map_cons, List.map_cons, dvt_keys t]
in #guard_msgs in open Nat
theorem xs_forKT {td : TE} {g : TG} {tb : TS} (h : XE K Z td (vd ρ) W fun d W' => ∃ (v : V) (i : Nat) (ks : List (List Key × D)), d = .op v ∧ W'[i]? = some (fzd K v (.dt ks)) ∧ (∀ k ∈ ks.map (·.1), okK k) ∧ XForT K Z (ks.map (·.1)) g tb ρ W' P) : XS K Z (tFor (iKeys td) g tb) ρ W P := fun F R ok C H σ A G s r => by
  refine h σ C C H G r.pd r.ed _ fun d v W1 C1 H1 G1 ⟨v', i, ks, ed, hi, hok, Iv, h0, hs, hd⟩ n1 dv => ?_
  subst ed
  cases dv
  have r1 := r.next n1
  obtain ⟨a, o, ev, hh⟩ := n1.res.fzd hi
  rcases hh with ⟨ks', kvs, e1, g1, g2⟩ | ⟨_, _, e1, _⟩
  · cases e1
    subst ev
    have ek := dvt_keys g2
    have el : kvs.length = (ks.map (·.1)).length := by rw [← ek, List.length_map]
    refine ⟨a, o, rfl, .inr ⟨kvs, r1.nx.ch _ _ g1, ?_⟩⟩
    refine ⟨fun i m σ' H' => m = kvs.length - i ∧ i ≤ kvs.length ∧ LPx K Z C1 (Iv i) σ' H', ⟨_, rfl, Nat.zero_le _, lpx_wk h0 (Same.refl _) r1⟩, ?_⟩
    rintro i m σ' H' ⟨rfl, hi, ρ', W', C', A', G', hI, s', r'⟩
    have hH : H' a = some (.frz o (.dT kvs)) := r'.nx.ch _ _ (s' _ _ g1)
    by_cases hlt : i < kvs.length
    · refine .inr ⟨⟨hH, hlt⟩, LPx K Z C1 (Iv (i + 1)), fun σ2 H2 p2 => ⟨kvs.length - (i + 1), by omega, rfl, hlt, p2⟩, fun x H2 y => ?_⟩
      obtain ⟨e2, k, vv, q, h1, h2, h3⟩ := y
      subst e2 h2
      have hk : (ks.map (·.1))[i]? = some k := by rw [← ek, List.getElem?_map, h1]; rfl
      obtain ⟨C2, n2, d2⟩ := r'.pd.tupe (hok k (List.mem_of_getElem? hk)) h3
      refine hs i k ρ' W' hk hI C2 H2 σ' A' G' _ (r'.next n2) d2 _ fun ρ2 W2 B2 H3 σ2 A2 G2 h2 s2 r2 => ?_
      exact h2 C1 _ (ok.loop (s.trans n1.cc)) B2 H3 σ2 A2 G2 (s'.trans (n2.cc.trans s2)) r2
    · have e : i = kvs.length := by omega
      subst e
      rw [el] at hI
      exact .inl ⟨⟨hH, Nat.le_refl _⟩, ok.nx (hd _ _ hI) (s.trans (n1.cc.trans s')) r'⟩
  · cases e1
in #guard_msgs in open Nat
theorem xs_fzK {ks : List (Key × D)} (i : Nat) (e : ρ[i]? = some (.own (.dk ks))) (h : ∀ v, XS K Z t (ρ.set i (.sh (.op v))) (fzd K v (.dk ks) :: dat K v (.dk ks) :: W) P) : XS K Z (tFz t) ρ W P := fun F R ok C H σ A G s r => by
  obtain ⟨a, A', h1, h2, hb, hc, h3, h4⟩ := r.env.let (vd_at e)
  obtain ⟨kvs, g1, g2⟩ := hc
  refine .inr ⟨a, .dK kvs, g1, True.intro, fun od => ?_⟩
  have ca : C a = none := hb
  have s1 : Same C (upd C a (.frz od (.dK kvs))) := fun b o eb => by rw [upd_ne fun (z : b = a) => by rw [z, ca] at eb; cases eb]; exact eb
  have n0 : ∀ b, Z.H0 b ≠ none → b ≠ a := fun b n z => n (z ▸ r.na a h2)
  have ng : ∀ b ∈ G, b ≠ a := fun b m z => r.nd a h2 (z ▸ m)
  have hf : ∃ ks' kvs', D.dk ks = .dk ks' ∧ (upd C a (.frz od (.dK kvs))) a = some (.frz od (.dK kvs')) ∧ DvK K (upd C a (.frz od (.dK kvs))) kvs' ks' := ⟨ks, kvs, rfl, upd_same, g2.mono s1⟩
  have hd : Dv K (upd C a (.frz od (.dK kvs))) (.ref a) (.dk ks) := .dk (.inr ⟨od, upd_same⟩) (g2.mono s1)
  have w1 : WR (upd C a (.frz od (.dK kvs))) (upd H a (.frz od (.dK kvs))) W G := r.nx.res.mono s1 (fun b m => by rw [upd_ne (ng b m)]; exact (r.nx.res.there b m).1) fun b m => upd_ne (ng b m)
  have w2 : WR (upd C a (.frz od (.dK kvs))) (upd H a (.frz od (.dK kvs))) (fzd K (.ref a) (.dk ks) :: dat K (.ref a) (.dk ks) :: W) G := (w1.addF (m := fun h s => h.mono s) hd).addFz ⟨a, od, rfl, .inr hf⟩
  refine h (.ref a) F R ok (upd C a (.frz od (.dK kvs))) _ σ A' G (s.trans s1) ⟨r.zk, ⟨r.nx.cc.trans s1, fun b o eb => ?_, fun b o eb n => ?_, fun b n => ?_, fun b n => ?_, r.nx.gg, w2, fun b n => ?_⟩, ?_, fun j d hj => ?_, fun b m => r.nd b (h3 b m).1, fun b m => r.na b (h3 b m).1, fun q m => ?_, fun q m z => r.la q m (h3 _ z).1⟩
  · by_cases c : b = a
    · rw [c, upd_same] at eb ⊢; exact eb
    · rw [upd_ne c] at eb ⊢; exact r.nx.ch b o eb
  · rw [upd_ne (n0 b (ne_none eb))]; exact r.nx.fr b o eb n
  · rw [upd_ne (n0 b n)]; exact r.nx.dm b n
  · rw [upd_ne (n0 b n.1)]; exact r.nx.od b n
  · rw [upd_ne (n0 b n.1)]; exact r.nx.dh b n
  · rw [vd_set]
    exact h4.mono s1 (fun b m => by rw [upd_ne (h3 b m).2]; exact (r.env.there b (h3 b m).1).1) fun b m => upd_ne (h3 b m).2
  · by_cases cj : i = j
    · subst cj
      have hl : i < ρ.length := (List.getElem?_eq_some_iff.mp e).1
      rw [List.getElem?_set_self hl] at hj
      cases hj
    · rw [List.getElem?_set_ne cj] at hj
      obtain ⟨v, k1, k2⟩ := r.bo j d hj
      exact ⟨v, k1, k2.mono (ov_mono s1)⟩
  · obtain ⟨k1, k2, k3, k4⟩ := r.lk q m
    have n : q.1 ≠ a := fun z => r.la q m (z ▸ h2)
    have e1 : upd H a (.frz od (.dK kvs)) q.1 = H q.1 := upd_ne n
    exact ⟨e1.trans k1, k2, (upd_ne n).trans k3, k4.mono s1 e1⟩
in #guard_msgs in open Nat
def XForK (K : PySem.W.Frag) (Z : Zx) (ks : List Key) (g : TG) (tb : TS) (ρ : List Sl) (W : List Res) (P : AEnds) : Prop := ∃ Iv : Nat → List Sl → List Res → Prop, (∃ ρ' W', Wk ρ ρ' ∧ Ent W W' ∧ Iv 0 ρ' W') ∧
  (∀ i k ρ' W', ks[i]? = some k → Iv i ρ' W' → XG K Z true g (kD k) ρ' W' fun ρ2 W2 => XS K Z tb ρ2 W2 (loopP P (Iv (i + 1)))) ∧ ∀ ρ' W', Iv ks.length ρ' W' → P.nx ρ' W'
theorem dvk_keys {B : Hp} : ∀ {kvs : List (Key × V)} {ks : List (Key × D)}, DvK K B kvs ks → kvs.map (·.1) = ks.map (·.1)
  | _, _, .nil => rfl
  | _, _, .cons _ t => by rw [List.map_cons, List.map_cons, dvk_keys t]
in #guard_msgs in open Nat
theorem xs_forKK {td : TE} {g : TG} {tb : TS} (h : XE K Z td (vd ρ) W fun d W' => ∃ (v : V) (i : Nat) (ks : List (Key × D)), d = .op v ∧ W'[i]? = some (fzd K v (.dk ks)) ∧ (∀ k ∈ ks.map (·.1), okK [k]) ∧ XForK K Z (ks.map (·.1)) g tb ρ W' P) : XS K Z (tFor (iKeys td) g tb) ρ W P := fun F R ok C H σ A G s r => by
  refine h σ C C H G r.pd r.ed _ fun d v W1 C1 H1 G1 ⟨v', i, ks, ed, hi, hok, Iv, h0, hs, hd⟩ n1 dv => ?_
  subst ed
  cases dv
  have r1 := r.next n1
  obtain ⟨a, o, ev, hh⟩ := n1.res.fzd hi
  rcases hh with ⟨_, _, e1, _⟩ | ⟨ks', kvs, e1, g1, g2⟩
  · cases e1
  · cases e1
    subst ev
    have ek := dvk_keys g2
    have el : kvs.length = (ks.map (·.1)).length := by rw [← ek, List.length_map]
    refine ⟨a, o, rfl, .inl ⟨kvs, r1.nx.ch _ _ g1, ?_⟩⟩
    refine ⟨fun i m σ' H' => m = kvs.length - i ∧ i ≤ kvs.length ∧ LPx K Z C1 (Iv i) σ' H', ⟨_, rfl, Nat.zero_le _, lpx_wk h0 (Same.refl _) r1⟩, ?_⟩
    rintro i m σ' H' ⟨rfl, hi, ρ', W', C', A', G', hI, s', r'⟩
    have hH : H' a = some (.frz o (.dK kvs)) := r'.nx.ch _ _ (s' _ _ g1)
    by_cases hlt : i < kvs.length
    · refine .inr ⟨⟨hH, hlt⟩, LPx K Z C1 (Iv (i + 1)), fun σ2 H2 p2 => ⟨kvs.length - (i + 1), by omega, rfl, hlt, p2⟩, fun x H2 y => ?_⟩
      obtain ⟨e2, k, vv, h1, h2⟩ := y
      subst e2 h2
      have hk : (ks.map (·.1))[i]? = some k := by rw [← ek, List.getElem?_map, h1]; rfl
      have d2 : Dv K C' (kV k) (kD k) := by
        have ok1 := hok k (List.mem_of_getElem? hk)
        cases k with
        | inl i => exact .int i
        | inr z => exact .str z (ok1 z List.mem_cons_self)
      refine hs i k ρ' W' hk hI C' H2 σ' A' G' _ r' d2 _ fun ρ2 W2 B2 H3 σ2 A2 G2 h2 s2 r2 => ?_
      exact h2 C1 _ (ok.loop (s.trans n1.cc)) B2 H3 σ2 A2 G2 (s'.trans s2) r2
    · have e : i = kvs.length := by omega
      subst e
      rw [el] at hI
      exact .inl ⟨⟨hH, Nat.le_refl _⟩, ok.nx (hd _ _ hI) (s.trans (n1.cc.trans s')) r'⟩
in #guard_msgs in open Nat
end
/-! ### refusals raised -/
section
variable {K : PySem.W.Frag} {mg : Str → Option Value} {Z : Zx} {ρ : List Sl} {W : List Res} {P : AEnds} {E : XK} {xE : XX} {c : Str} {Cl : Addr} {Gf : List D → List (Str × D) → Prop}
/-- raise C(..) -/
theorem xs_raise {ta : TA} (hE : EOkW K Z mg E xE) (hc : mg c = some (.ref Cl)) (h : XA K Z ta (vd ρ) W fun ds W1 => ds.length ≤ 1000 ∧ ∃ fs, Gf ds fs ∧ xE c fs W1) : XS K Z (fun _ σ H => tMkO Cl (spI K Cl Gf) [] ta σ H fun cls d H' => E cls d H') ρ W P := fun F R ok C H σ A G s r =>
  h σ C C H G r.pd r.ed _ fun ds vs W1 C1 H1 G1 ⟨hl, fs, hG, hx⟩ n1 dv => by
    have r1 := r.next n1
    have dv' : DvL K C1 vs ds := by
      have dv0 : DvL K (ov C C1) vs ds := dv
      rwa [ov_same n1.cc] at dv0
    refine ⟨by rw [dv'.len]; exact hl, fun a na => ?_⟩
    have ch := r1.nx.ch
    refine ⟨a, vs ++ [], C1, ds, fs, rfl, upd_same, ch.free na, ch.trans (same_upd na), by rw [List.append_nil]; exact dv', hG, fun d vfs H2 nd ne keep ha hd hF _ => ?_⟩
    have nd1 : H1 d = none := by
      rw [upd_ne ne] at nd
      exact nd
    have s2 : Same H1 (upd (del H2 a) d (.xd vfs)) := fun b o e => by
      have hb : b ≠ a := ne_of_none e na
      rw [upd_ne (ne_of_none e nd1), del_ne hb]
      exact keep b o (by rw [upd_ne hb]; exact e) hb
    have n2 := r1.pd.same s2
    refine ⟨rfl, d, vfs, ha, hd, nd1, hE c Cl d vfs fs W1 _ _ G1 hc hx (r1.nx.trans n2) (r1.lk.next n2) (r1.h0 nd1) (by rw [ext_new nd1, upd_same]) (hF.mono fun b o e => ?_)⟩
    unfold rem at e
    by_cases c1 : b = a
    · rw [if_pos c1] at e; cases e
    · rw [if_neg c1] at e
      by_cases c2 : b = d
      · rw [if_pos c2] at e; cases e
      · rw [if_neg c2] at e
        cases h1 : H1 b with
        | none =>
          rw [ext_new (by rw [upd_ne c1]; exact h1)] at e
          rw [ext_new h1, upd_ne c2, del_ne c1]
          exact e
        | some u =>
          rw [ext_old (by rw [upd_ne c1]; exact ne_none h1)] at e
          rw [ext_old (ne_none h1)]
          exact e
in #guard_msgs in open Nat
end
end Tg

/-! The engine: expressions, further, with what is held beside. -/
namespace Tg
open PySem PySem.Spec L2 NdefX LamX
/-- len of a dict, of either kind of keys -/
def qLenDX : List V → Hp → VK → Prop := fun xs H Q => ∃ a, xs = [V.ref a] ∧ ((∃ kvs, Rd H a (.dK kvs) ∧ Q (.int kvs.length) H) ∨ ∃ kvs, Rd H a (.dT kvs) ∧ Q (.int kvs.length) H)
theorem call_lenDX {X : Cx} : CallR X (.builtin "len") qLenDX := by
  intro pins s σ H xs us Q I r h
  obtain ⟨a, rfl, h⟩ := h
  obtain ⟨u, rfl, ru⟩ := vals1 r
  obtain rfl : u = .ref a := ru
  rcases h with ⟨kvs, e, q⟩ | ⟨kvs, e, q⟩
  · exact d_len I e fun t s' I' => ⟨.int kvs.length, H, I', ⟨t, rfl⟩, q⟩
  · obtain ⟨z, hd, ys, rel, dd⟩ := dt_rd I.hok e
    have hl : kvs.length = ys.length := Paired.length rel
    refine call_len_dictH hd dd (by rw [← hl]; rw [sizeLine_eq] at z; omega) ?_
    rw [← hl]
    exact ⟨.int ((kvs.length : Nat) : Int), H, I.tok _, ⟨_, rfl⟩, q⟩
in #guard_msgs in open Nat
section
variable {κ α : Type} [DecidableEq κ] {kvs : List (κ × α)} {k l : κ} {v : α}
theorem gK_cons {a : κ} {x : α} {r : List (κ × α)} : gK ((a, x) :: r) k = if a = k then some x else gK r k := by
  unfold gK
  rw [List.find?_cons]
  by_cases c : a = k
  · simp [c]
  · simp [c]
in #guard_msgs in open Nat
theorem gK_map : ∀ {kvs : List (κ × α)}, gK (kvs.map fun kv => if kv.1 = k then (kv.1, v) else kv) l = if k = l then (gK kvs k).map (fun _ => v) else gK kvs l
  | [] => by simp [gK]
  | (a, x) :: r => by
    have ih := gK_map (kvs := r)
    rw [List.map_cons]
    by_cases c : a = k
    · subst c
      rw [if_pos rfl, gK_cons, gK_cons, gK_cons, if_pos rfl, ih]
      by_cases cl : a = l
      · rw [if_pos cl, if_pos cl]; rfl
      · rw [if_neg cl, if_neg cl, if_neg cl, if_neg cl]
    · rw [if_neg c, gK_cons, gK_cons, gK_cons, if_neg c, ih]
      by_cases cl : k = l
      · rw [if_neg (fun z => c (z.trans cl.symm)), if_pos cl, if_pos cl]
      · rw [if_neg cl, if_neg cl]
in #guard_msgs in open Nat
theorem hasK_gK : ∀ {kvs : List (κ × α)}, hasK kvs k = (gK kvs k).isSome
  | [] => rfl
  | (a, x) :: r => by
    have ih := hasK_gK (kvs := r)
    unfold hasK at ih ⊢
    rw [List.any_cons, ih, gK_cons]
    by_cases c : a = k
    · rw [if_pos c]; simp [c]
    · rw [if_neg c]; simp [c]
in #guard_msgs in open Nat
theorem gK_app : ∀ {kvs : List (κ × α)}, gK kvs k = none → gK (kvs ++ [(k, v)]) l = if k = l then some v else gK kvs l
  | [], _ => by rw [List.nil_append, gK_cons]
  | (a, x) :: r, h => by
    rw [gK_cons] at h
    have c : a ≠ k := fun c => by rw [if_pos c] at h; cases h
    rw [if_neg c] at h
    rw [List.cons_append, gK_cons, gK_cons, gK_app h]
    by_cases cl : k = l
    · rw [if_neg (fun z => c (z.trans cl.symm)), if_pos cl]
      exact (if_pos cl).symm
    · rw [if_neg cl]
      exact (if_neg cl).symm
in #guard_msgs in open Nat
theorem gK_put : gK (pK kvs k v) l = if k = l then some v else gK kvs l := by
  unfold pK
  rw [hasK_gK]
  cases e : gK kvs k with
  | none => rw [if_neg (by simp), gK_app e]
  | some y =>
    show gK (kvs.map fun kv => if kv.1 = k then (kv.1, v) else kv) l = _
    rw [gK_map, e]; rfl
in #guard_msgs in open Nat
theorem pK_len : (pK kvs k v).length ≤ kvs.length + 1 := by
  unfold pK
  split
  · rw [List.length_map]; omega
  · rw [List.length_append]; exact Nat.le_refl _
end
section
variable {K : PySem.W.Frag} {Z : Zx} {ρ : List Sl} {W W' : List Res} {q : D → List Res → Prop} {x y d : D} {te : TE}
theorem xl_lenDK {ks : List (Key × D)} (v : Vw K x W (.dk ks)) (hq : q (.int ks.length) W) : XL K Z qLenDX [x] W q := fun vs C B H G p dv Q kk => by
  obtain ⟨vx, rfl, dx⟩ := dvl_one dv
  obtain ⟨a, ws, e1, e2, e3⟩ := v.dk p dx
  subst e1
  exact ⟨a, rfl, .inl ⟨ws, e2, by rw [e3.kv.len]; exact kk _ _ W C H G hq p.refl (Dv.int _)⟩⟩
in #guard_msgs in open Nat
theorem xl_lenDT {ks : List (List Key × D)} (v : Vw K x W (.dt ks)) (hq : q (.int ks.length) W) : XL K Z qLenDX [x] W q := fun vs C B H G p dv Q kk => by
  obtain ⟨vx, rfl, dx⟩ := dvl_one dv
  obtain ⟨a, ws, e1, e2, e3⟩ := v.dt p dx
  subst e1
  exact ⟨a, rfl, .inr ⟨ws, e2, by rw [e3.kv.len]; exact kk _ _ W C H G hq p.refl (Dv.int _)⟩⟩
in #guard_msgs in open Nat
theorem xn_dnewT (h : q (.dt []) W) : XN K Z tDNewT ρ W q := fun σ C B H G p En Q kk => fun l np => kk _ _ W _ _ G h (p.new (same_upd np) np) (p.newR (same_upd np) np ⟨_, upd_same, .nil⟩)
in #guard_msgs in open Nat
theorem xn_dnewK (h : q (.dk []) W) : XN K Z tDNewK ρ W q := fun σ C B H G p En Q kk => fun l np => kk _ _ W _ _ G h (p.new (same_upd np) np) (p.newR (same_upd np) np ⟨_, upd_same, .nil⟩)
in #guard_msgs in open Nat
theorem gets_t {ks : List (List Key × D)} {k : List Key} (h : gK ks k = some d) (e : y = tD k) : Gets K W (.dt ks) y (some d) := by
  rw [← h]
  exact .t ks k .of e
in #guard_msgs in open Nat
theorem gets_k {ks : List (Key × D)} {k : Key} (h : gK ks k = some d) (e : y = kD k) : Gets K W (.dk ks) y (some d) := by
  rw [← h]
  exact .k ks k .of e
end
end Tg

/-! The engine: what is held beside, the rules to be used. -/
namespace Tg
open PySem PySem.Spec L2 NdefX LamX
def tAsgB (te : TE) (i : Nat) : TS := tAsg te (gName i)
def tAppC (K : PySem.W.Frag) (to te : TE) : TS := tDrop (tBM K "list" rAppend to (tCons te tNil))
theorem ps_asB {X : Cx} {st : Stmt} {te : TE} {i : Nat} (h : PS X st (tAsg te (gName i))) : PS X st (tAsgB te i) := h
theorem ps_apC {X : Cx} {st : Stmt} {te to : TE} {K : PySem.W.Frag} (h : PS X st (tDrop (tBM K "list" rAppend to (tCons te tNil)))) : PS X st (tAppC K to te) := h
in #guard_msgs in open Nat
section
variable {K : PySem.W.Frag} {Z : Zx} {ρ : List Sl} {W W' : List Res} {n bk ct : List Sl → List Res → Prop} {r rn : D → List Res → Prop} {t u : TS} {te ti ta tb tv td ty to : TE} {tt : TT} {tl : TA} {i j : Nat} {d x y : D} {m : Bool} {mg : Str → Option Value} {E : XK} {xE : XX} {c : Str} {Cl : Addr} {Gf : List D → List (Str × D) → Prop}
theorem y_seq (h : XS K Z t ρ W ⟨fun ρ W => XS K Z u ρ W ⟨n, r, rn, bk, ct⟩, r, rn, bk, ct⟩) : XS K Z (tSeq t u) ρ W ⟨n, r, rn, bk, ct⟩ := xs_seq h
theorem y_next (h : n ρ W) : XS K Z tNext ρ W ⟨n, r, rn, bk, ct⟩ := xs_next h
theorem y_brk (h : bk ρ W) : XS K Z tBreak ρ W ⟨n, r, rn, bk, ct⟩ := xs_brk h
theorem y_cont (h : ct ρ W) : XS K Z tCont ρ W ⟨n, r, rn, bk, ct⟩ := xs_cont h
theorem y_ent (e : Ent W W') (h : XS K Z t ρ W' ⟨n, r, rn, bk, ct⟩) : XS K Z t ρ W ⟨n, r, rn, bk, ct⟩ := xs_ent e h
theorem y_open {α : Type} {L : α → List Res} (e : ∀ {C H : Hp} {G : List Addr}, WR C H W G → ∃ x G', WR C H (L x) G' ∧ ∀ a ∈ G', a ∈ G) (h : ∀ x, XS K Z t ρ (L x) ⟨n, r, rn, bk, ct⟩) : XS K Z t ρ W ⟨n, r, rn, bk, ct⟩ := xs_open e h
in #guard_msgs in open Nat
theorem y_asgH (h : XE K Z te (vd ρ) W fun d W' => n (ρ.set i (.sh d)) W') : XS K Z (tAsgH te i) ρ W ⟨n, r, rn, bk, ct⟩ := xs_asgH h
theorem y_asgS (h : XE K Z te (vf ρ) W fun d W' => scalD d = true ∧ n (ρ.set i (.sh d)) W') : XS K Z (tAsgS te i) ρ W ⟨n, r, rn, bk, ct⟩ := xs_asgS h
theorem y_asgB (h : XE K Z te (vb ρ) W fun d W' => n (ρ.set i (.bo d)) W') : XS K Z (tAsgB te i) ρ W ⟨n, r, rn, bk, ct⟩ := xs_asgB h
theorem y_asgN (h : XN K Z te (vd ρ) W fun d W' => n (ρ.set i (.own d)) W') : XS K Z (tAsgN te i) ρ W ⟨n, r, rn, bk, ct⟩ := xs_asgN h
theorem y_asgF (h : XN K Z te (vf ρ) W fun d W' => flatD d = true ∧ n (ρ.set i (.own d)) W') : XS K Z (tAsgF te i) ρ W ⟨n, r, rn, bk, ct⟩ := xs_asgF h
theorem y_frz (i : Nat) (e : ρ[i]? = some (.own d)) (h : XS K Z t (ρ.set i (.sh d)) W ⟨n, r, rn, bk, ct⟩) : XS K Z t ρ W ⟨n, r, rn, bk, ct⟩ := xs_frz i e h
theorem y_asgE (h : XN K Z te (vf ρ) W fun d W' => flatD d = true ∧ n (ρ.set i (.sh d)) W') : XS K Z (tAsgE te i) ρ W ⟨n, r, rn, bk, ct⟩ := xs_asgE h
theorem y_drop (h : XE K Z te (vf ρ) W fun _ W' => n ρ W') : XS K Z (tDrop te) ρ W ⟨n, r, rn, bk, ct⟩ := xs_drop h
theorem y_if (h : XT K Z tt (vf ρ) W fun b W' => (b = true → XS K Z t ρ W' ⟨n, r, rn, bk, ct⟩) ∧ (b = false → XS K Z u ρ W' ⟨n, r, rn, bk, ct⟩)) : XS K Z (tIfS tt t u) ρ W ⟨n, r, rn, bk, ct⟩ := xs_if h
in #guard_msgs in open Nat
theorem y_ret (h : XE K Z te (vf ρ) W r) : XS K Z (tRet te) ρ W ⟨n, r, rn, bk, ct⟩ := xs_ret h
theorem y_retNew (h : XN K Z te (vf ρ) W rn) : XS K Z (tRet te) ρ W ⟨n, r, rn, bk, ct⟩ := xs_retNew h
theorem y_retOwn (e : ρ[i]? = some (.own d)) (h : rn d W) : XS K Z (tRet (tVar i)) ρ W ⟨n, r, rn, bk, ct⟩ := xs_retOwn e h
theorem y_retN (h : r .non W) : XS K Z tRetN ρ W ⟨n, r, rn, bk, ct⟩ := xs_retN h
theorem y_append {ds : List D} (e : ρ[i]? = some (.own (.lst ds))) (h : XE K Z te (vd ρ) W fun d W' => ds.length < 100000 ∧ n (ρ.set i (.own (.lst (ds ++ [d])))) W') : XS K Z (tAppH K i te) ρ W ⟨n, r, rn, bk, ct⟩ := xs_append e h
in #guard_msgs in open Nat
theorem y_appendS {ds : List D} (e : ρ[i]? = some (.own (.lst ds))) (h : XE K Z te (vf ρ) W fun d W' => scalD d = true ∧ ds.length < 100000 ∧ n (ρ.set i (.own (.lst (ds ++ [d])))) W') : XS K Z (tAppS K i te) ρ W ⟨n, r, rn, bk, ct⟩ := xs_appendS e h
in #guard_msgs in open Nat
theorem y_reverse {ds : List D} (e : ρ[i]? = some (.own (.lst ds))) (h : n (ρ.set i (.own (.lst ds.reverse))) W) : XS K Z (tDrop (tBM0 K "list" rReverse (tVar i))) ρ W ⟨n, r, rn, bk, ct⟩ := xs_reverse e h
in #guard_msgs in open Nat
theorem y_clear {ds : List D} (e : ρ[i]? = some (.own (.lst ds))) (h : n (ρ.set i (.own (.lst []))) W) : XS K Z (tDrop (tBM0 K "list" rClear (tVar i))) ρ W ⟨n, r, rn, bk, ct⟩ := xs_clear e h
in #guard_msgs in open Nat
theorem y_insert {ds : List D} (e : ρ[i]? = some (.own (.lst ds))) (h : XE K Z ti (vf ρ) W fun k W1 => ∃ m : Int, k = .int m ∧ 0 ≤ m ∧ m < 2 ^ 63 ∧ XE K Z te (vd ρ) W1 fun d W2 => ds.length < 100000 ∧ n (ρ.set i (.own (.lst (ds.take m.toNat ++ [d] ++ ds.drop m.toNat)))) W2) : XS K Z (tInsH K i ti te) ρ W ⟨n, r, rn, bk, ct⟩ := xs_insert e h
in #guard_msgs in open Nat
theorem y_wk {ρ' : List Sl} (w : Wk ρ ρ') (h : XS K Z t ρ' W ⟨n, r, rn, bk, ct⟩) : XS K Z t ρ W ⟨n, r, rn, bk, ct⟩ := xs_wk w h
theorem y_cut (ρ' : List Sl) (Q : List Res → Prop) (h : XS K Z t ρ W ⟨fun ρ3 W3 => Wk ρ3 ρ' ∧ Q W3, r, rn, bk, ct⟩) (hn : ∀ W', Q W' → n ρ' W') : XS K Z t ρ W ⟨n, r, rn, bk, ct⟩ := xs_cut ρ' Q h hn
in #guard_msgs in open Nat
theorem y_fld {Cl : Addr} {f : Str} {ta tv : TE} (h : XE K Z tv (vd ρ) W fun d W1 => XE K Z ta (vd ρ) W1 fun o W2 => ∃ a, o = .op (.ref a) ∧ ∃ (i : Nat) (fs : List (Str × D)), W2[i]? = some (obj K a Cl fs) ∧ fs.length < 1000 ∧ n ρ (W2.set i (obj K a Cl (putD f d fs)))) : XS K Z (sFldC Cl ta tv f) ρ W ⟨n, r, rn, bk, ct⟩ := xs_fld h
in #guard_msgs in open Nat
theorem y_let (i : Nat) (e : ρ[i]? = some (.own d)) (h : ∀ l, XS K Z t (ρ.set i (.sh (.op (.ref l)))) ([cel K l d] ++ W) ⟨n, r, rn, bk, ct⟩) : XS K Z t ρ W ⟨n, r, rn, bk, ct⟩ := xs_let i e h
in #guard_msgs in open Nat
theorem y_appendC (h : XE K Z to (vd ρ) W fun o W1 => ∃ p, o = .op (.ref p) ∧ (∃ (i : Nat) (ds : List D), W1[i]? = some (cel K p (.lst ds))) ∧ XE K Z te (vd ρ) W1 fun d W2 => ∃ (i : Nat) (ds : List D), W2[i]? = some (cel K p (.lst ds)) ∧ ds.length < 100000 ∧ n ρ (W2.set i (cel K p (.lst (ds ++ [d]))))) : XS K Z (tAppC K to te) ρ W ⟨n, r, rn, bk, ct⟩ := xs_appendC h
in #guard_msgs in open Nat
theorem y_dputK {ks : List (Key × D)} (e : ρ[i]? = some (.own (.dk ks))) (h : XE K Z tv (vd ρ) W fun d W1 => XE K Z ty (vf ρ) W1 fun y W2 => ∃ k, y = kD k ∧ ks.length < 100000 ∧ n (ρ.set i (.own (.dk (pK ks k d)))) W2) : XS K Z (sDPut (tVar i) ty tv) ρ W ⟨n, r, rn, bk, ct⟩ := xs_dputK e h
in #guard_msgs in open Nat
theorem y_dputT {ks : List (List Key × D)} (e : ρ[i]? = some (.own (.dt ks))) (h : XE K Z tv (vd ρ) W fun d W1 => XE K Z ty (vf ρ) W1 fun y W2 => ∃ k, y = tD k ∧ ks.length < 100000 ∧ n (ρ.set i (.own (.dt (pK ks k d)))) W2) : XS K Z (sDPut (tVar i) ty tv) ρ W ⟨n, r, rn, bk, ct⟩ := xs_dputT e h
in #guard_msgs in open Nat
theorem y_dputC (h : XE K Z tv (vd ρ) W fun d W1 => XE K Z td (vd ρ) W1 fun o W2 => ∃ p, o = .op (.ref p) ∧ XE K Z ty (vf ρ) W2 fun y W3 => ∃ (i : Nat) (ks : List (Key × D)) (k : Key), W3[i]? = some (cel K p (.dk ks)) ∧ y = kD k ∧ ks.length < 100000 ∧ n ρ (W3.set i (cel K p (.dk (pK ks k d))))) : XS K Z (sDPut td ty tv) ρ W ⟨n, r, rn, bk, ct⟩ := xs_dputC h
in #guard_msgs in open Nat
theorem y_dputCT (h : XE K Z tv (vd ρ) W fun d W1 => XE K Z td (vd ρ) W1 fun o W2 => ∃ p, o = .op (.ref p) ∧ XE K Z ty (vf ρ) W2 fun y W3 => ∃ (i : Nat) (ks : List (List Key × D)) (k : List Key), W3[i]? = some (cel K p (.dt ks)) ∧ y = tD k ∧ ks.length < 100000 ∧ n ρ (W3.set i (cel K p (.dt (pK ks k d))))) : XS K Z (sDPut td ty tv) ρ W ⟨n, r, rn, bk, ct⟩ := xs_dputCT h
in #guard_msgs in open Nat
theorem y_fldAug {Cl : Addr} {f : Str} {rd : V → V → Hp → VK → Prop} (h : XE K Z ta (vd ρ) W fun o W1 => ∃ a, o = .op (.ref a) ∧ (∃ (i : Nat) (fs : List (Str × D)) (d0 : D), W1[i]? = some (obj K a Cl fs) ∧ fs.lookup f = some d0 ∧ XE K Z tv (vd ρ) W1 fun y W2 => X2 K Z rd d0 y W2 fun z W3 => ∃ (j : Nat) (fs' : List (Str × D)), W3[j]? = some (obj K a Cl fs') ∧ scalD z = true ∧ fs'.length < 1000 ∧ n ρ (W3.set j (obj K a Cl (putD f z fs'))))) : XS K Z (sFldAugC Cl ta tv rd f) ρ W ⟨n, r, rn, bk, ct⟩ := xs_fldAug h
in #guard_msgs in open Nat
theorem yg_name  (h : n (ρ.set j (if m = true then .sh x else ent x)) W) : XG K Z m (gName j) x ρ W n := xg_name h
theorem ygs_nil  (h : n ρ W) : XGs K Z m gNil [] ρ W n := xgs_nil h
theorem ygs_cons {g : TG} {gs : TGs} {xs : List D}  (h : XG K Z m g x ρ W fun ρ1 W1 => XGs K Z m gs xs ρ1 W1 n) : XGs K Z m (gCons g gs) (x :: xs) ρ W n := xgs_cons h
in #guard_msgs in open Nat
theorem yg_tup {k : Nat} {gs : TGs} {xs : List D}  (hl : xs.length = k) (h : XGs K Z m gs xs ρ W n) : XG K Z m (gTup K k gs) (.tup xs) ρ W n := xg_tup hl h
theorem y_forL {tl : TE} {g : TG} {tb : TS} (h : XE K Z tl (vd ρ) W fun d W' => ∃ xs, (d = .lst xs ∨ d = .fls xs) ∧ XFor K Z true xs g tb ρ W' ⟨n, r, rn, bk, ct⟩) : XS K Z (tFor (iList K tl) g tb) ρ W ⟨n, r, rn, bk, ct⟩ := xs_forL h
in #guard_msgs in open Nat
theorem y_forB {tl : TE} {g : TG} {tb : TS} (h : XE K Z tl (vb ρ) W fun d W' => ∃ xs, (d = .lst xs ∨ d = .fls xs) ∧ XFor K Z false xs g tb ρ W' ⟨n, r, rn, bk, ct⟩) : XS K Z (tFor (iList K tl) g tb) ρ W ⟨n, r, rn, bk, ct⟩ := xs_forB h
in #guard_msgs in open Nat
theorem y_forC {tl : TE} {g : TG} {tb : TS} (h : XE K Z tl (vd ρ) W fun d W' => ∃ p, d = .op (.ref p) ∧ ∃ (xs : List D) (Wr : List Res), Ent W' ([cel K p (.lst xs)] ++ Wr) ∧ ∀ o, (p ∈ Z.G0 ∨ Z.H0 p = none) → (∀ q ∈ Z.Lk, q.1 ≠ p) → XFor K (Z.lock p o (.lst xs)) true xs g tb ρ Wr (lockP K p (.lst xs) ⟨n, r, rn, bk, ct⟩)) : XS K Z (tFor (iList K tl) g tb) ρ W ⟨n, r, rn, bk, ct⟩ := xs_forC h
in #guard_msgs in open Nat
theorem y_forR1 {tl : TA} {g : TG} {tb : TS} (h : XA K Z tl (vf ρ) W fun ds W' => ∃ j : Int, ds = [.int j] ∧ (-(2 ^ 62) ≤ j ∧ j < 2 ^ 62) ∧ XForR K Z 0 j.toNat g tb ρ W' ⟨n, r, rn, bk, ct⟩) : XS K Z (tFor (iRng1 tl) g tb) ρ W ⟨n, r, rn, bk, ct⟩ := xs_forR1 h
in #guard_msgs in open Nat
theorem y_forR2 {tl : TA} {g : TG} {tb : TS} (h : XA K Z tl (vf ρ) W fun ds W' => ∃ i j : Int, ds = [.int i, .int j] ∧ (-(2 ^ 62) ≤ i ∧ i < 2 ^ 62 ∧ -(2 ^ 62) ≤ j ∧ j < 2 ^ 62) ∧ XForR K Z i (j - i).toNat g tb ρ W' ⟨n, r, rn, bk, ct⟩) : XS K Z (tFor (iRng2 tl) g tb) ρ W ⟨n, r, rn, bk, ct⟩ := xs_forR2 h
in #guard_msgs in open Nat
theorem y_while {c : TT} {tb : TS} (Pv : Nat → List Sl → List Res → Prop) (m : Nat) (h0 : ∃ ρ' W', Wk ρ ρ' ∧ Ent W W' ∧ Pv m ρ' W')
    (hs : ∀ m ρ W, Pv m ρ W → XT K Z c (vf ρ) W fun b W' => (b = true → XS K Z tb ρ W' (loopP ⟨n, r, rn, bk, ct⟩ fun ρ W => ∃ m', m' < m ∧ Pv m' ρ W)) ∧ (b = false → n ρ W')) : XS K Z (tWhile c tb) ρ W ⟨n, r, rn, bk, ct⟩ := xs_while Pv m h0 hs
in #guard_msgs in open Nat
theorem y_ndef {T : Addr} {nm : Nat → Nat → Str} {l c : Nat} {mk : Addr → NF} {qn : Str} (i : Nat) (hi : W[i]? = some (RTab T nm)) (hq : nm l c = qn) (hmk : ∀ z, (mk z).qual = qn ∧ (mk z).c = z) (h : ∀ f z, n (ρ.set j (.sh (.op (.ref f)))) (RFn f (mk z) :: W)) : XS K Z (tNdefX T nm l c j qn mk) ρ W ⟨n, r, rn, bk, ct⟩ := xs_ndef i hi hq hmk h
in #guard_msgs in open Nat
theorem y_dat {t : TS} {d : D} (j : Nat) (e : ρ[j]? = some (.sh d)) (h : ∀ v, XS K Z t (ρ.set j (.sh (.op v))) (dat K v d :: W) ⟨n, r, rn, bk, ct⟩) : XS K Z t ρ W ⟨n, r, rn, bk, ct⟩ := xs_dat j e h
in #guard_msgs in open Nat
theorem y_fz0 (h : XS K Z t ρ W ⟨n, r, rn, bk, ct⟩) : XS K Z (tFz t) ρ W ⟨n, r, rn, bk, ct⟩ := xs_fz0 h
theorem y_fzT {ks : List (List Key × D)} (i : Nat) (e : ρ[i]? = some (.own (.dt ks))) (h : ∀ v, XS K Z t (ρ.set i (.sh (.op v))) (fzd K v (.dt ks) :: dat K v (.dt ks) :: W) ⟨n, r, rn, bk, ct⟩) : XS K Z (tFz t) ρ W ⟨n, r, rn, bk, ct⟩ := xs_fzT i e h
in #guard_msgs in open Nat
theorem y_forKT {td : TE} {g : TG} {tb : TS} (h : XE K Z td (vd ρ) W fun d W' => ∃ (v : V) (i : Nat) (ks : List (List Key × D)), d = .op v ∧ W'[i]? = some (fzd K v (.dt ks)) ∧ (∀ k ∈ ks.map (·.1), okK k) ∧ XForT K Z (ks.map (·.1)) g tb ρ W' ⟨n, r, rn, bk, ct⟩) : XS K Z (tFor (iKeys td) g tb) ρ W ⟨n, r, rn, bk, ct⟩ := xs_forKT h
in #guard_msgs in open Nat
theorem y_fzK {ks : List (Key × D)} (i : Nat) (e : ρ[i]? = some (.own (.dk ks))) (h : ∀ v, XS K Z t (ρ.set i (.sh (.op v))) (fzd K v (.dk ks) :: dat K v (.dk ks) :: W) ⟨n, r, rn, bk, ct⟩) : XS K Z (tFz t) ρ W ⟨n, r, rn, bk, ct⟩ := xs_fzK i e h
in #guard_msgs in open Nat
theorem y_forKK {td : TE} {g : TG} {tb : TS} (h : XE K Z td (vd ρ) W fun d W' => ∃ (v : V) (i : Nat) (ks : List (Key × D)), d = .op v ∧ W'[i]? = some (fzd K v (.dk ks)) ∧ (∀ k ∈ ks.map (·.1), okK [k]) ∧ XForK K Z (ks.map (·.1)) g tb ρ W' ⟨n, r, rn, bk, ct⟩) : XS K Z (tFor (iKeys td) g tb) ρ W ⟨n, r, rn, bk, ct⟩ := xs_forKK h
in #guard_msgs in open Nat
theorem y_raise {ta : TA} (hE : EOkW K Z mg E xE) (hc : mg c = some (.ref Cl)) (h : XA K Z ta (vd ρ) W fun ds W1 => ds.length ≤ 1000 ∧ ∃ fs, Gf ds fs ∧ xE c fs W1) : XS K Z (fun _ σ H => tMkO Cl (spI K Cl Gf) [] ta σ H fun cls d H' => E cls d H') ρ W ⟨n, r, rn, bk, ct⟩ := xs_raise hE hc h
in #guard_msgs in open Nat
/-! loops told by the slots and what is held -/
theorem xforM {α : Type} {f : α → D} {xs : List α} {g : TG} {tb : TS} (Iv : Nat → List Sl → List Res → Prop) (h0 : ∃ ρ' W', Wk ρ ρ' ∧ Ent W W' ∧ Iv 0 ρ' W') (hs : ∀ i x ρ' W', xs[i]? = some x → Iv i ρ' W' → XG K Z m g (f x) ρ' W' fun ρ2 W2 => XS K Z tb ρ2 W2 ⟨fun ρ W => ∃ ρ' W', Wk ρ ρ' ∧ Ent W W' ∧ Iv (i + 1) ρ' W', r, rn, n, fun ρ W => ∃ ρ' W', Wk ρ ρ' ∧ Ent W W' ∧ Iv (i + 1) ρ' W'⟩)
    (hd : ∀ ρ' W', Iv xs.length ρ' W' → n ρ' W') : XFor K Z m (xs.map f) g tb ρ W ⟨n, r, rn, bk, ct⟩ := ⟨Iv, h0, fun i x ρ' W' hx hI => by
      rw [List.getElem?_map] at hx
      cases h : xs[i]? with
      | none => rw [h] at hx; cases hx
      | some y =>
        rw [h] at hx
        cases hx
        exact hs i y ρ' W' h hI, fun ρ' W' h => by
      rw [List.length_map] at h
      exact hd ρ' W' h⟩
in #guard_msgs in open Nat
theorem xforR0 {k : Nat} {g : TG} {tb : TS} (Iv : Nat → List Sl → List Res → Prop) (h0 : ∃ ρ' W', Wk ρ ρ' ∧ Ent W W' ∧ Iv 0 ρ' W') (hs : ∀ i ρ' W', i < k → Iv i ρ' W' → XG K Z true g (.int (i : Int)) ρ' W' fun ρ2 W2 => XS K Z tb ρ2 W2 ⟨fun ρ W => ∃ ρ' W', Wk ρ ρ' ∧ Ent W W' ∧ Iv (i + 1) ρ' W', r, rn, n, fun ρ W => ∃ ρ' W', Wk ρ ρ' ∧ Ent W W' ∧ Iv (i + 1) ρ' W'⟩)
    (hd : ∀ ρ' W', Iv k ρ' W' → n ρ' W') : XForR K Z 0 k g tb ρ W ⟨n, r, rn, bk, ct⟩ := ⟨Iv, h0, fun i ρ' W' hi h => by rw [Int.zero_add]; exact hs i ρ' W' hi h, hd⟩
in #guard_msgs in open Nat
/-- a comprehension that changes nothing: each item's value -/
theorem xlc {α : Type} {f : α → D} {xs : List α} {q : D → List Res → Prop} (P : α → Bool) (g : α → D) (hl : xs.length < 100000) (ht : ∀ x ∈ xs, ∀ q : Bool → List Res → Prop, q (P x) W → XT K Z tt (ρ.set j (.sh (f x))) W q)
    (he : ∀ x ∈ xs, P x = true → ∀ q : D → List Res → Prop, q (g x) W → XE K Z te (ρ.set j (.sh (f x))) W q) (hq : q (.lst ((xs.filter P).map g)) W) : XLc K Z (xs.map f) j tt te ρ W q := by
  refine ⟨fun i acc W' => W' = W ∧ acc = ((xs.take i).filter P).map g, ⟨rfl, rfl⟩, fun i x acc W1 hx ha => ?_, fun ys W' h => ?_⟩
  · obtain ⟨e1, e2⟩ := ha
    subst e1 e2
    rw [List.getElem?_map] at hx
    cases h : xs[i]? with
    | none => rw [h] at hx; cases hx
    | some y =>
      rw [h] at hx
      cases hx
      have m : y ∈ xs := List.mem_of_getElem? h
      have et : xs.take (i + 1) = xs.take i ++ [y] := by rw [List.take_add_one, h]; rfl
      refine ht y m _ ⟨fun hp => he y m hp _ ⟨?_, rfl, ?_⟩, fun hp => ⟨rfl, ?_⟩⟩
      · rw [List.length_map]
        have h1 := List.length_filter_le P (xs.take i)
        rw [List.length_take] at h1
        omega
      · rw [et, List.filter_append, List.filter_cons_of_pos hp, List.filter_nil, List.map_append]
        rfl
      · rw [et, List.filter_append, List.filter_cons_of_neg (by rw [hp]; decide), List.filter_nil, List.append_nil]
  · obtain ⟨e1, e2⟩ := h
    subst e1
    rw [List.length_map, List.take_length] at e2
    subst e2
    exact hq
in #guard_msgs in open Nat
theorem xlcA {α : Type} {f : α → D} {xs : List α} {q : D → List Res → Prop} (g : α → D) (hl : xs.length < 100000) (he : ∀ x ∈ xs, ∀ q : D → List Res → Prop, q (g x) W → XE K Z te (ρ.set j (.sh (f x))) W q) (hq : q (.lst (xs.map g)) W) : XLc K Z (xs.map f) j tYes te ρ W q :=
  xlc (fun _ => true) g hl (fun x _ q h => xt_yes h) (fun x m _ => he x m) (by rw [List.filter_eq_self.mpr (fun _ _ => rfl)]; exact hq)
in #guard_msgs in open Nat
end
end Tg

/-! The engine: makers of functions, the law's end with tables. -/
namespace Tg
open PySem PySem.Spec L2 NdefX LamX
/-- a def of the text whose code object is known -/
structure FunC (K : PySem.W.Frag) (x qual : Str) (st : Stmt) (f : Addr) (fd : FuncData) (co : Addr) : Prop where
  ex : ∃ (oc : Value) (od : Option Addr) (kV doc pm : Value) (an : Option Addr) (ct : Value) (osl : Array (Option Value)),
    fd = PySem.W.fnOf x qual (defArgs st) (defBody st) (defScope st) .none kV doc pm an (.ref co) ct ∧ K.lookup f = some ⟨oc, od, .func fd, osl⟩ ∧ PySem.W.codeIn K (.ref co) qual = true
section
variable {P : Program} {w : World} {K : PySem.W.Frag} {mg : Str → Option Value} {base : Heap} {x qual : Str} {st : Stmt} {f co : Addr} {fd : FuncData} {N ps : List Str} {k : Nat} {sp : Sp}
theorem FunC.ok (F : FunC K x qual st f fd co) (S : FnScope N ps (defScope st)) (hl : ∀ vs H Q E, sp vs H Q E → vs.length = ps.length)
    (h : ∀ (A : Around) (outer : List Env) (s : Shared) (H : Hp) (vs : List V) (Q : VK) (E : XK), Room k (A.deeper (PyProof.Rows.envOfC qual (defScope st) s.heap.objs.size f (.ref co))) → sp vs H Q E →
      ∃ t, PSs (cxOf CX0 P w K mg base N qual (defScope st) f (.ref co) A outer s H E).nox (defBody st) t ∧ t { nx := fun _ H' => Q .non H', rt := Q } (L2.start N vs) H) : FnOk P w K mg base CX0 (k + 1) f fd ps sp := by
  obtain ⟨oc, od, kV, doc, pm, an, ct, osl, rfl, lk, hcd⟩ := F.ex
  exact fn_of lk hcd S hl fun A outer s H vs Q E hr hsp => by
    obtain ⟨t, h1, h2⟩ := h A outer s H vs Q E hr hsp
    exact ⟨t, h1.nox, h2⟩
in #guard_msgs in open Nat
theorem funC_mk {oc : Value} {od an : Option Addr} {osl : Array (Option Value)} {kV doc pm ct : Value} (l : K.lookup f = some ⟨oc, od, .func (PySem.W.fnOf x qual (defArgs st) (defBody st) (defScope st) .none kV doc pm an (.ref co) ct), osl⟩)
    (c : PySem.W.codeIn K (.ref co) qual = true) : FunC K x qual st f (PySem.W.fnOf x qual (defArgs st) (defBody st) (defScope st) .none kV doc pm an (.ref co) ct) co := ⟨⟨oc, od, kV, doc, pm, an, ct, osl, rfl, l, c⟩⟩
in #guard_msgs in open Nat
end
/-! closures by the word that tells them -/
section
variable {P : Program} {w : World} {K : PySem.W.Frag} {mg : Str → Option Value} {base : Heap} {k : Nat} {Z : Zx} {ρ : List Sl} {f : Addr} {F : NF} {ps fr : List Str} {T : TX} {cds cds' : List D} {W : List Res} {cl : List (Str × Addr)} {E : XK} {xE : XX} {q : D → List Res → Prop} {tl : TA} {i : Nat} {clo : Addr → TX → Res}
theorem xe_callfnC (hc : clo = RClo P w K mg base k) (hE : EOkW K Z mg E xE) (hi : ρ[i]? = some (.sh (.op (.ref f)))) (h0 : ∃ (j : Nat) (T0 : TX), W[j]? = some (clo f T0)) (h : XA K Z tl ρ W fun ds W1 => ∃ (j : Nat) (T : TX), W1[j]? = some (clo f T) ∧ CallX T ds W1 q xE) : XE K Z (tCallFn P w K mg base k i E tl) ρ W q := by
  subst hc
  exact xe_callfn hE hi h0 h
in #guard_msgs in open Nat
theorem ents_cloC (hc : clo = RClo P w K mg base k) (N : NOk P w K mg base CX0 k f F ps fr (nsp K mg fr.length T)) (hF : F.cl = cl) (i : Nat) (hi : W[i]? = some (RFn f F)) (hd : CapD K W cds cds') : EntS K cl fr cds W (clo f (TClo cds' T) :: W) := by
  subst hc
  exact ents_clo N hF hi hd
in #guard_msgs in open Nat
theorem ent_tail {r : Res} : Ent (r :: W) W := Ent.trans (Ent.perm (List.perm_append_comm (l₁ := [r]) (l₂ := W))) Ent.drop
theorem eokw_no : EOkW K Z mg E xNo := fun c Cl dd vfs fs W' C' H' G' _ hx => False.elim hx
theorem yg_nameS {m : Bool} {j : Nat} {x : D} {n : List Sl → List Res → Prop} (hs : scalD x = true) (h : n (ρ.set j (.sh x)) W) : XG K Z m (gName j) x ρ W n := xg_name (by
  cases m
  · show n (ρ.set j (ent x)) W
    unfold ent
    rw [if_pos hs]; exact h
  · exact h)
in #guard_msgs in open Nat
/-- a call that needs nothing of what is held -/
theorem callX0 {ds : List D} {x : XX} (h : T ds [] (fun d Wc' => ∃ W2, Ent (Wc' ++ W) W2 ∧ q d W2) fun c fs Wc' => ∃ W2, Ent (Wc' ++ W) W2 ∧ x c fs W2) : CallX T ds W q x := ⟨[], W, Ent.refl _, h⟩
in #guard_msgs in open Nat
end
/-! ### arguments that are durable -/
def pxfD (K : PySem.W.Frag) (mg : Str → Option Value) (T : TX) : Sp := fun vs H Q E => ∃ (C : Hp) (ds : List D) (W : List Res) (G : List Addr) (q : D → List Res → Prop) (x : XX), Same C H ∧ WR C H W G ∧ DvL K C vs ds ∧ T ds W q x ∧
  (∀ d v W' C' H' G', q d W' → Nx C H G C' H' W' G' → Dv K C' v d → Q v H') ∧ EOkG K mg C H G E x
section
variable {K : PySem.W.Frag} {mg : Str → Option Value} {T : TX} {N : List Str} {vs : List V} {H : Hp} {Q : VK} {E : XK} {t : TS} {ds : List D}
theorem vd_rho0 : vd (ρ0 N ds) = ρ0 N ds := by
  unfold vd ρ0
  rw [List.map_append, List.map_map, List.map_replicate]
  rfl
theorem pxfD_enter (h : pxfD K mg T vs H Q E) (hb : ∀ ds W q x Z, T ds W q x → EOkW K Z mg E x → XS K Z t (ρ0 N ds) W ⟨fun _ W' => ∃ W2, Ent W' W2 ∧ q .non W2, fun d W' => ∃ W2, Ent W' W2 ∧ q d W2, fun d W' => ∃ W2, Ent W' W2 ∧ q d W2, fun _ _ => False, fun _ _ => False⟩) : t { nx := fun _ H' => Q .non H', rt := Q } (L2.start N vs) H := by
  obtain ⟨C, ds, W, G, q, x, ch, r, dv, hT, k, hE⟩ := h
  have fin : ∀ {d v W' C' H' G'}, q d W' → Nx C H G C' H' W' G' → Dv K (ov C C') v d → Q v H' := fun {d v W' C' H' G'} hq n dv => k d v W' C' H' G' hq n (by rwa [ov_same n.cc] at dv)
  have h2 : pxf K mg (fun ds' W q x => ds' = ds ∧ T ds W q x) vs H Q E := ⟨C, C, ds, W, G, q, x, Same.refl _, ch, fun a m => (r.there a m).1, r, dv, ⟨rfl, hT⟩, fun d v W' C' H' G' hq n dv => fin hq n dv, hE⟩
  refine hb ds W q x ⟨C, H, C, G, []⟩ hT (fun c Cl dd vfs fs W' C' H' G' hm hx n _ nd hc hF => hE c Cl dd vfs fs W' C' H' G' hm hx n nd hc hF) C _ ⟨fun ⟨W2, e, hq⟩ _ r' => ?_, fun hq _ _ => False.elim hq, fun hq _ _ => False.elim hq, fun ⟨W2, e, hq⟩ n _ dv => ?_, fun {C' H' d p W' G'} ⟨W2, e, hq⟩ n _ n0 cp pg _ c => ?_⟩ C H _ [] G (Same.refl _) ⟨⟨ch, fun a m => (r.there a m).1⟩, Nx.refl r ch, ?_, fun i d hh => ?_, (fun a m => by cases m), (fun a m => by cases m), (fun q m => by cases m), (fun q m => by cases m)⟩
  · obtain ⟨G2, n2, _⟩ := Nx.ent r'.nx e
    exact fin hq n2 .non
  · obtain ⟨G2, n2, _⟩ := Nx.ent n e
    exact fin hq n2 dv
  · obtain ⟨G2, n2, sub⟩ := Nx.ent n e
    have bp : C p = none := ch.free n0
    have off : ∀ b, b ≠ p → (fun b => if b = p then H' p else C' b) b = C' b := fun b n => if_neg n
    have s1 : Same C' (fun b => if b = p then H' p else C' b) := fun b o e => (if_neg fun (z : b = p) => by rw [z, cp] at e; cases e).trans e
    have s2 : Same (fun b => if b = p then H' p else C' b) H' := fun b o e => by
      by_cases z : b = p
      · have e' : (if b = p then H' p else C' b) = some o := e
        rw [if_pos z] at e'
        rw [z]
        exact e'
      · have e' : (if b = p then H' p else C' b) = some o := e
        rw [if_neg z] at e'
        exact n2.ch b o e'
    refine fin (G' := G2) hq ⟨n2.cc.trans s1, s2, n2.fr, n2.dm, fun a n => (off a fun (z : a = p) => n.1 (z ▸ n0)).trans (n2.od a n), n2.gg, n2.res.mono s1 (fun a m => (off a fun (z : a = p) => pg (z ▸ sub a m)).trans (n2.res.there a m).1) (fun _ _ => rfl), n2.dh⟩ ?_
    refine c.dv (ov_mono s1) ?_
    rw [ov_new bp]
    exact if_pos rfl
  · rw [vd_rho0]
    unfold L2.start ρ0
    rw [dv.len]
    exact envR_start dv _
  · unfold ρ0 at hh
    rcases List.mem_append.mp (List.mem_of_getElem? hh) with m | m
    · obtain ⟨_, _, z⟩ := List.mem_map.mp m
      cases z
    · have := List.eq_of_mem_replicate m
      cases this
in #guard_msgs in open Nat
end
/-! ### the law -/
section
variable {K : PySem.W.Frag} {mg : Str → Option Value} {T : TX} {H : Hp} {a : Addr} {ns : List Int}
theorem wr_tabs {H : Hp} {C : Hp} : ∀ {tabs : List (Addr × (Nat → Nat → Str))}, (tabs.map (·.1)).Nodup → (∀ p ∈ tabs, H p.1 = some (.tbl #[]) ∧ C p.1 = none) → WR C H (tabs.map fun p => RTab p.1 p.2) (tabs.map (·.1))
  | [], _, _ => .nil
  | p :: r, nd, h => by
    rw [List.map_cons, List.nodup_cons] at nd
    obtain ⟨h1, h2⟩ := h p List.mem_cons_self
    refine WR.cons (r := RTab p.1 p.2) (fp := [p.1]) ⟨rfl, #[], h1, True.intro, fun pos cv hc => ?_⟩ (fun b m => ?_) (fun b m => ?_) (wr_tabs nd.2 fun q m => h q (List.mem_cons_of_mem _ m))
    · simp [codeAmong] at hc
    · rw [List.mem_singleton.mp m]
      exact nd.1
    · rw [List.mem_singleton.mp m]
      exact ⟨h2, by rw [h1]; exact ⟨(fun z => by cases z), (fun _ z => by cases z)⟩⟩
in #guard_msgs in open Nat
theorem ints_dvl {B : Hp} : ∀ ns : List Int, DvL K B (ns.map V.int) (ns.map D.int)
  | [] => .nil
  | n :: r => .cons (.int n) (ints_dvl r)
theorem lawX_enter {tabs : List (Addr × (Nat → Nat → Str))} (nd : (tabs.map (·.1)).Nodup) (hH : ∀ p ∈ tabs, H p.1 = some (.tbl #[])) (hS : SqL K H a (ns.map V.int)) (h : T [.fls (ns.map .int)] (tabs.map fun p => RTab p.1 p.2) (fun d _ => d = .bl true) xNo) : pxfD K mg T [.ref a] H (fun v _ => v = .bl true) fun _ _ _ => False := by
  have off : ∀ b, (if b ∈ tabs.map (·.1) then none else H b) ≠ none → b ∉ tabs.map (·.1) := fun b n m => n (if_pos m)
  have s : Same (fun b => if b ∈ tabs.map (·.1) then none else H b) H := fun b o e => by
    have m := off b (by rw [show (if b ∈ tabs.map (·.1) then none else H b) = some o from e]; exact fun z => by cases z)
    have e : (if b ∈ tabs.map (·.1) then none else H b) = some o := e
    rwa [if_neg m] at e
  have isT : ∀ b ∈ tabs.map (·.1), H b = some (.tbl #[]) := fun b m => by
    obtain ⟨p, hp, e⟩ := List.mem_map.mp m
    rw [← e]; exact hH p hp
  have hS' : SqL K (fun b => if b ∈ tabs.map (·.1) then none else H b) a (ns.map V.int) := by
    have key : ∀ {u : HO}, H a = some u → (∀ ps, u ≠ .tbl ps) → (if a ∈ tabs.map (·.1) then none else H a) = some u := fun {u} e n => by
      rw [if_neg fun m => by rw [isT a m] at e; exact n _ (Option.some.inj e).symm]
      exact e
    rcases hS with (h | ⟨o, h⟩) | h
    · exact .inl (.inl (key h fun _ z => by cases z))
    · exact .inl (.inr ⟨o, key h fun _ z => by cases z⟩)
    · exact .inr h
  refine ⟨_, [.fls (ns.map .int)], _, tabs.map (·.1), _, xNo, s, wr_tabs nd fun p m => ⟨hH p m, if_pos (List.mem_map.mpr ⟨p, m, rfl⟩)⟩, .cons (.fls hS' (ints_dvl ns)) .nil, h, fun d v W' C' H' G' hq _ dv => ?_, fun c Cl dd vfs fs W' C' H' G' _ hx => False.elim hx⟩
  have hq : d = .bl true := hq
  subst hq
  cases dv
  rfl
in #guard_msgs in open Nat
end
/-- a mark: slots that hold a thing of known data are not read as that data -/
inductive NoCast : Prop where
  | mk
end Tg

/-! The engine: tuples cut and joined -/
namespace Tg
open PySem PySem.Spec PyProof.Rows L2
section
variable {X : Cx} {K : PySem.W.Frag}
theorem sl_tupAK (hK : X.K = K) : SlR X (rSlA K) := by subst hK; exact sl_tupA
theorem op_catAK (hK : X.K = K) : OpR X (binaryOp .Add) (rCatA K) := by subst hK; exact op_catA
end
section
variable {K : PySem.W.Frag} {Z : Zx} {ρ : List Sl} {W : List Res} {te : TE} {q : D → List Res → Prop} {ds es : List D}
theorem cut_whole {α : Type} {xs : List α} {lo hi : Option Int} (h : HT.sIx xs.length 0 lo = 0 ∧ HT.sIx xs.length xs.length hi = xs.length) : cut xs lo hi = xs := by
  unfold cut
  rw [h.1, h.2, List.drop_zero, Nat.sub_zero, List.take_length]
in #guard_msgs in open Nat
/-- t[lo:hi], t a tuple -/
theorem xe_slT {tlo thi : TO} (h : XE K Z te ρ W fun x W1 => XO K Z tlo ρ W1 fun lo W2 => XO K Z thi ρ W2 fun hi W3 => ∃ ds, x = .tup ds ∧ q (.tup (cut ds lo hi)) W3) : XE K Z (tSl (rSlA K) te tlo thi) ρ W q := fun σ C B H G p E Q k => h σ C B H G p E _ fun x vx W1 C1 H1 G1 h1 n1 dx =>
  h1 σ C1 _ H1 G1 (p.next n1) (E.mono ov_l) _ fun lo vlo W2 C2 H2 G2 h2 n2 e2 => h2 σ C2 _ H2 G2 ((p.next n1).next n2) ((E.mono ov_l).mono ov_l) _ fun hi vhi W3 C3 H3 G3 ⟨ds, ex, hq⟩ n3 e3 => by
    subst ex
    have e2 : vlo = lo := e2
    have e3 : vhi = hi := e3
    subst e2 e3
    have n13 := n1.trans (n2.trans n3)
    have p3 := p.next n13
    have dx3 : Dv K (ov B C3) vx (.tup ds) := Dv.mono (ov_mono (n2.cc.trans n3.cc)) dx
    cases dx3 with
    | @tup a vs _ hs hv =>
      have hS : SqT K H3 a vs := St_of (p3.bh _ _ hs)
      refine ⟨a, vs, rfl, hS, fun hw => ?_, fun hw l np => ?_⟩
      · rw [hv.len] at hw
        refine k _ _ W3 _ _ G3 hq n13 ?_
        rw [cut_whole hw]
        exact Dv.tup hs hv
      · have x2 := p3.same (same_upd (p := l) (o := .tup (cutV vs vlo vhi)) np)
        refine k _ _ W3 _ _ G3 hq (n13.trans x2) ?_
        show Dv _ _ _ _
        rw [← ov_ov x2.cc, ov_ext p3.cb p3.bh]
        exact .tup (by rw [ext_new np, upd_same]) ((hv.cut).mono (ext_l p3.bh))
in #guard_msgs in open Nat
theorem a2_catT {q : D → Prop} (hl : ds.length + es.length ≤ 100000) (hq : q (.tup (ds ++ es))) : A2 K (rCatA K) (.tup ds) (.tup es) q := fun B H u v s h1 h2 Q k => by
  cases h1 with
  | @tup a us _ ha hu =>
    cases h2 with
    | @tup b vs _ hb hv =>
      refine ⟨a, b, us, vs, rfl, rfl, St_of (s _ _ ha), St_of (s _ _ hb), small (by rw [hu.len, hv.len]; exact hl), fun e => ?_, fun _ e => ?_, fun _ _ p np => ?_⟩
      · subst e
        cases hu
        exact k _ _ H hq (Same.refl _) (by rw [ext_self s]; exact .tup hb hv)
      · subst e
        cases hv
        rw [List.append_nil] at hq
        exact k _ _ H hq (Same.refl _) (by rw [ext_self s]; exact .tup ha hu)
      · refine k _ _ _ hq (same_upd np) ?_
        exact .tup (by rw [ext_new np, upd_same]) ((hu.append hv).mono (ext_l s))
in #guard_msgs in open Nat
end
end Tg

/-! The engine: what is refused and caught, with what is held beside. -/
namespace Tg
open PySem PySem.Spec L2 NdefX LamX
/-- a slot that says its value, or nothing: no own or lent one -/
def pinS : Sl → Bool
  | .un => true
  | .sh (.vd _ _) => true
  | .sh d => scalD d
  | _ => false
section
variable {K : PySem.W.Frag} {mg : Str → Option Value} {Z : Zx} {C C' B H H' F : Hp} {σ : L2.St} {ρ : List Sl} {W W' : List Res} {A G : List Addr} {P : AEnds} {i j : Nat} {d : D} {t : TS} {q : D → List Res → Prop} {tl : TA}
/-- a durable slot's value, noted in it -/
theorem xs_pin (i : Nat) (e : ρ[i]? = some (.sh d)) (h : ∀ v, XS K Z t (ρ.set i (.sh (.vd v d))) W P) : XS K Z t ρ W P := fun F R ok C H σ A G s r => by
  obtain ⟨v, h1, h2⟩ := r.ed.2 i d (by rw [vd_at e]; rfl)
  obtain ⟨A', r'⟩ := r.setSh (Dv.vd h2) i
  rw [set_self h1] at r'
  exact h v F R ok C H σ A' G s r'
in #guard_msgs in open Nat
theorem vd_pin : ∀ {ρ : List Sl}, ρ.all pinS = true → vd ρ = ρ
  | [], _ => rfl
  | s :: ρ, h => by
    rw [List.all_cons, Bool.and_eq_true] at h
    show vd1 s :: vd ρ = s :: ρ
    rw [vd_pin h.2]
    cases s <;> first | rfl | (exact Bool.noConfusion h.1)
in #guard_msgs in open Nat
/-- what the slots say, from what they said ahead -/
theorem pin_up {C1 : Hp} (hp : ρ.all pinS = true) (E : EnvS K B σ ρ) {σ0 : L2.St} (E0 : EnvS K C1 σ0 ρ) : EnvS K C1 σ ρ := ⟨E.1, fun i d e => by
  obtain ⟨v, h1, h2⟩ := E.2 i d e
  obtain ⟨v0, h3, h4⟩ := E0.2 i d e
  refine ⟨v, h1, ?_⟩
  have hi := List.all_eq_true.mp hp _ (List.mem_of_getElem? e)
  by_cases c : ∃ u d', d = .vd u d'
  · obtain ⟨u, d', rfl⟩ := c
    cases h2
    cases h4
    rename_i x y
    exact Dv.vd y
  · have : scalD d = true := by
      cases d <;> first | exact hi | (exact absurd ⟨_, _, rfl⟩ c)
    exact dv_scal h2 this⟩
in #guard_msgs in open Nat
theorem envR_all {H : Hp} : ∀ {σ : L2.St} {ρ : List Sl}, ρ.all pinS = true → EnvS K C σ ρ → EnvR K C H σ ρ []
  | [], [], _, _ => .nil
  | [], s :: ρ, _, E => by have := E.1; simp at this
  | o :: σ, [], _, E => by have := E.1; simp at this
  | o :: σ, s :: ρ, h, E => by
    rw [List.all_cons, Bool.and_eq_true] at h
    have t := envR_all (H := H) (σ := σ) h.2 ⟨by have := E.1; simpa using this, fun i d e => E.2 (i + 1) d e⟩
    cases s with
    | un => exact .un t
    | sh d =>
      obtain ⟨v, h1, h2⟩ := E.2 0 d rfl
      have h1 : o = some v := by simpa using h1
      subst h1
      exact .sh h2 t
    | own _ => exact Bool.noConfusion h.1
    | ow2 _ => exact Bool.noConfusion h.1
    | bo _ => exact Bool.noConfusion h.1
in #guard_msgs in open Nat
/-- the wish for what is raised, by the slots -/
def EOkS (K : PySem.W.Frag) (Z : Zx) (mg : Str → Option Value) (Ef : L2.St → XK) (ρ : List Sl) (x : XX) : Prop := ∀ σ, (∃ B, EnvS K B σ ρ) → EOkW K Z mg (Ef σ) x
theorem EOkW.s {E : XK} {x : XX} (h : EOkW K Z mg E x) : EOkS K Z mg (fun _ => E) ρ x := fun _ _ => h
/-- f(..) in a suite -/
theorem xe_callS {Ef : L2.St → XK} {xE : XX} {T : TX} (hE : EOkS K Z mg Ef ρ xE) (h : XA K Z tl ρ W fun ds W1 => CallX T ds W1 q xE) : XE K Z (tCallSD (pxf K mg T) [] Ef tl) ρ W q := fun σ C B H G p En Q k =>
  xe_call (hE σ ⟨B, En⟩) h σ C B H G p En Q k
in #guard_msgs in open Nat
theorem xn_callS {Ef : L2.St → XK} {xE : XX} {T : TX} (hE : EOkS K Z mg Ef ρ xE) (h : XA K Z tl ρ W fun ds W1 => CallX T ds W1 q xE) : XN K Z (tCallSD (pxfN K mg T) [] Ef tl) ρ W q := fun σ C B H G p En Q k =>
  xn_call (hE σ ⟨B, En⟩) h σ C B H G p En Q k
in #guard_msgs in open Nat
/-- data in which no list stands -/
def noLs : D → Bool
  | .tup xs => xs.all scalD
  | d => scalD d
/-- all tuples durable -/
def tupC (C H : Hp) : Hp := fun b => match H b with
  | some (.tup xs) => some (.tup xs)
  | _ => C b
theorem tupC_at {b : Addr} {xs : List V} (h : H b = some (.tup xs)) : tupC C H b = some (.tup xs) := by unfold tupC; rw [h]
theorem tupC_off {b : Addr} (h : ∀ xs, H b ≠ some (.tup xs)) : tupC C H b = C b := by
  unfold tupC
  split
  · rename_i xs e; exact absurd e (h xs)
  · rfl
theorem tupC_l (s : Same C H) : Same C (tupC C H) := fun b o e => by
  by_cases c : ∃ xs, H b = some (.tup xs)
  · obtain ⟨xs, hx⟩ := c
    rw [tupC_at hx, ← hx]
    exact s b o e
  · rw [tupC_off fun xs h => c ⟨xs, h⟩]
    exact e
in #guard_msgs in open Nat
theorem tupC_r (s : Same C H) : Same (tupC C H) H := fun b o e => by
  by_cases c : ∃ xs, H b = some (.tup xs)
  · obtain ⟨xs, hx⟩ := c
    rw [tupC_at hx, ← hx] at e
    exact e
  · rw [tupC_off fun xs h => c ⟨xs, h⟩] at e
    exact s b o e
in #guard_msgs in open Nat
theorem Nx.tups (x : Nx C H G C' H' W' A) : Nx C H G (tupC C' H') H' W' A := ⟨x.cc.trans (tupC_l x.ch), tupC_r x.ch, x.fr, x.dm, fun a n => by
  rw [tupC_off fun xs h => (x.dh a n).2 xs h]
  exact x.od a n, x.gg, x.res.mono (tupC_l x.ch) (fun a m => by
    rw [tupC_off fun xs h => (x.res.hard a m).2 xs h]
    exact (x.res.there a m).1) (fun _ _ => rfl), x.dh⟩
in #guard_msgs in open Nat
theorem noL_tup {v : V} (s : Same B H) (n : noLs d = true) (h : Dv K B v d) : Dv K (tupC C H) v d := by
  cases h with
  | tup h1 h2 => exact .tup (tupC_at (s _ _ h1)) (dvl_scal h2 n)
  | non => exact .non
  | bl b => exact .bl b
  | int i => exact .int i
  | str z h => exact .str z h
  | op v => exact .op v
  | lst _ _ => exact Bool.noConfusion n
  | fls _ _ => exact Bool.noConfusion n
  | dk _ _ => exact Bool.noConfusion n
  | dt _ _ => exact Bool.noConfusion n
  | ex _ _ => exact Bool.noConfusion n
  | vd _ => exact Bool.noConfusion n
in #guard_msgs in open Nat
theorem noLL_tup (s : Same B H) : ∀ {vs : List V} {ds : List D}, ds.all noLs = true → DvL K B vs ds → DvL K (tupC C H) vs ds
  | _, _, _, .nil => .nil
  | _, _, n, .cons h t => by
    rw [List.all_cons, Bool.and_eq_true] at n
    exact .cons (noL_tup s n.1 h) (noLL_tup s n.2 t)
in #guard_msgs in open Nat
/-- a new list beside what is held -/
theorem Nx.cel {l : Addr} {xs : List D} (x : Nx C H G C' H' W' A) (n0 : H l = none) (cl : C' l = none) (nA : l ∉ A) (c : Cell K C' H' l (.lst xs)) : Nx C H G C' H' (cel K l (.lst xs) :: W') ([l] ++ A) :=
  ⟨x.cc, x.ch, x.fr, x.dm, x.od, fun a m => (List.mem_append.mp m).elim (fun m => .inr (by rw [List.mem_singleton.mp m]; exact n0)) (x.gg a), .cons (r := Tg.cel K l (.lst xs)) (fp := [l]) ⟨rfl, c⟩ (fun a m => by rw [List.mem_singleton.mp m]; exact nA) (fun a m => by rw [List.mem_singleton.mp m]; exact ⟨cl, c.hard⟩) x.res, x.dh⟩
in #guard_msgs in open Nat
/-- a def that changes nothing and refuses with one list of its own: the list is the catcher's -/
theorem eok_ofL {x' : Str → List (Str × D) → Prop} {E : XK} {xE : XX} (p : Pr K Z W C B H G) (hE : EOkW K Z mg E xE) (hx : ∀ c fs, x' c fs → ∃ f xs, fs = [(f, .lst xs)] ∧ xs.all noLs = true ∧ ∀ l, xE c [(f, .op (.ref l))] (cel K l (.lst xs) :: W)) : EOkX K mg B H E x' := fun c Cl dd vfs fs H' hm hxx s nd hd hF hfr => by
  obtain ⟨f, xs, rfl, nl, hxE⟩ := hx c fs hxx
  cases hF with
  | @cons _ v vfs' _ _ h1 h2 =>
    cases h2
    have ex := ext_r p.bh s
    cases h1 with
    | @lst l vs _ e1 e2 =>
      have hl : H l = none := hfr f l xs (by simp [List.lookup]) (by simp [List.lookup])
      have ld : l ≠ dd := fun z => by rw [z, rem_at] at e1; cases e1
      have e1' : ext B H H' l = some (.lst vs) := by rwa [rem_off ld] at e1
      have hl' : H' l = some (.lst vs) := ex _ _ e1'
      have n1 := (p.new s hl).tups
      have lt : ∀ ys, H' l ≠ some (.tup ys) := fun ys z => by rw [hl'] at z; cases z
      have cl : tupC (rem (ext C H H') l) H' l = none := by rw [tupC_off lt]; exact rem_at
      have c1 : Cell K (tupC (rem (ext C H H') l) H') H' l (.lst xs) := ⟨vs, hl', noLL_tup (rem_same.trans ex) nl e2⟩
      have n2 := n1.cel hl cl (fun m => (p.nx.res.there l m).2 hl) c1
      have nd0 : Z.H0 dd = none := by
        cases e : Z.H0 dd with
        | none => rfl
        | some o => exact absurd nd (p.nx.dm dd (ne_none e))
      have hdd : tupC (rem (ext C H H') l) H' dd = some (.xd [(f, .ref l)]) := by
        rw [tupC_off (fun ys z => by rw [hd] at z; cases z), rem_off (Ne.symm ld), ext_new nd]
        exact hd
      exact hE c Cl dd _ _ _ _ H' _ hm (hxE l) (p.nx.trans n2) (p.lk.next n2) nd0 hdd (.cons (.op _) .nil)
in #guard_msgs in open Nat
/-- f(..), f a def that changes nothing and may refuse -/
theorem xe_callX {T : List D → (D → Prop) → (Str → List (Str × D) → Prop) → Prop} {Ef : L2.St → XK} {xE : XX} (hE : EOkS K Z mg Ef ρ xE) (h : XA K Z tl ρ W fun ds W1 => T ds (fun d => q d W1) fun c fs => ∃ f xs, fs = [(f, .lst xs)] ∧ xs.all noLs = true ∧ ∀ l, xE c [(f, .op (.ref l))] (cel K l (.lst xs) :: W1)) : XE K Z (tCallSD (pfx K mg T) [] Ef tl) ρ W q := fun σ C B H G p En Q k => h σ C B H G p En _ fun ds vs W1 C1 H1 G1 hT n1 dx => by
  have p1 := p.next n1
  refine ⟨ov B C1, ds, _, _, p1.bh, by rw [List.append_nil]; exact dx, hT, fun d v H' hq s2 dv => ?_, ?_⟩
  · have x2 := p1.same s2
    refine k d v W1 _ H' G1 hq (n1.trans x2) ?_
    show Dv _ _ _ _
    rw [← ov_ov x2.cc, ov_ext p1.cb p1.bh]
    exact dv
  · exact eok_ofL p1 (hE σ ⟨B, En⟩) fun c fs h => h
in #guard_msgs in open Nat
/-- .. and tells a new list -/
theorem xn_callX {T : List D → (D → Prop) → (Str → List (Str × D) → Prop) → Prop} {Ef : L2.St → XK} {xE : XX} (hE : EOkS K Z mg Ef ρ xE) (h : XA K Z tl ρ W fun ds W1 => T ds (fun d => q d W1) fun c fs => ∃ f xs, fs = [(f, .lst xs)] ∧ xs.all noLs = true ∧ ∀ l, xE c [(f, .op (.ref l))] (cel K l (.lst xs) :: W1)) : XN K Z (tCallSD (pfxN K mg T) [] Ef tl) ρ W q := fun σ C B H G p En Q k => h σ C B H G p En _ fun ds vs W1 C1 H1 G1 hT n1 dx => by
  have p1 := p.next n1
  refine ⟨ov B C1, ds, _, _, p1.bh, by rw [List.append_nil]; exact dx, hT, fun d l H' hq np s2 dv => ?_, eok_ofL p1 (hE σ ⟨B, En⟩) fun c fs h => h⟩
  have x2 := p1.new s2 np
  refine k d _ W1 _ H' G1 hq (n1.trans x2) (rN_up n1.dm ?_)
  rw [← ov_ov x2.cc]
  exact p1.newR s2 np dv
in #guard_msgs in open Nat
def tTryAs (K : PySem.W.Frag) (c : Value) (i : Nat) (ts : Addr → Value → Option Addr → TS) (Wout : WX) (tb : WX → TS) : TS := fun D σ H => tb (wAs K c i ts Wout D) D σ H
def tTryO (K : PySem.W.Frag) (c : Value) (ts : Addr → Value → Option Addr → TS) (Wout : WX) (tb : WX → TS) : TS := fun D σ H => tb (wOnly K c ts Wout D) D σ H
theorem ps_tryW {X : Cx} {st : Stmt} {c : Value} {i : Nat} {ts : Addr → Value → Option Addr → TS} {Wout : WX} {tb : WX → TS} (hK : X.K = K) (h : PS X st (fun D σ H => tb (wAs X.K c i ts Wout D) D σ H)) : PS X st (tTryAs K c i ts Wout tb) := by subst hK; exact h
in #guard_msgs in open Nat
theorem ps_tryV {X : Cx} {st : Stmt} {c : Value} {ts : Addr → Value → Option Addr → TS} {Wout : WX} {tb : WX → TS} (hK : X.K = K) (h : PS X st (fun D σ H => tb (wOnly X.K c ts Wout D) D σ H)) : PS X st (tTryO K c ts Wout tb) := by subst hK; exact h
in #guard_msgs in open Nat
/-- try: .. except C as e: .. -/
theorem xs_try {c : Value} {i : Nat} {ts : Addr → Value → Option Addr → TS} {Wout : WX} {tb : WX → TS} (xE xO : XX) (hp : ρ.all pinS = true) (hO : EOkS K Z mg (WE Wout) ρ xO)
    (hb : ∀ (Z' : Zx) (Wx : WX), (∀ E x, EOkW K Z mg E x → EOkW K Z' mg E x) → EOkS K Z' mg (WE Wx) ρ xE → XS K Z' (tb Wx) ρ W P)
    (hx : ∀ cn fs W' C', xE cn fs W' → mg cn = some (.ref C') → ∃ b, PySem.W.exmOne K (.ref C') c = some b ∧ (b = true → ∀ a dd, XS K Z (ts a (.ref C') (some dd)) (ρ.set i (.sh (.ex (.ref a) dd fs))) W' ⟨fun ρ' W' => P.nx (ρ'.set i .un) W', P.rt, P.rn, fun ρ' W' => P.bk (ρ'.set i .un) W', fun ρ' W' => P.ct (ρ'.set i .un) W'⟩) ∧ (b = false → xO cn fs W')) :
    XS K Z (tTryAs K c i ts Wout tb) ρ W P := fun F R ok C H σ A G s r => by
  have z0 : Nx Z.C0 Z.H0 Z.G0 C H W G := r.nx
  have bh := r.bh
  have E0 : EnvS K C σ ρ := by have := r.ed; rwa [vd_pin hp] at this
  have up0 : ∀ a, H a = none → Z.H0 a = none := fun a n => by
    cases e : Z.H0 a with
    | none => rfl
    | some o => exact absurd n (z0.dm a (ne_none e))
  have nb : ∀ (j : Nat) (d : D), ρ[j]? ≠ some (.bo d) := fun j d e => Bool.noConfusion (List.all_eq_true.mp hp _ (List.mem_of_getElem? e))
  have back : ∀ {C' H' σ' ρ' W' A' G'}, Rx K { Z with C0 := C, H0 := H, G0 := G } C' H' σ' ρ' W' A' G' → Rx K Z C' H' σ' ρ' W' A' G' := fun r' => ⟨r.zk, z0.trans r'.nx, r'.env, r'.bo, r'.nd, fun a m => up0 a (r'.na a m), r'.lk, r'.la⟩
  refine hb { Z with C0 := C, H0 := H, G0 := G } (wAs K c i ts Wout R) (fun E x hE => ?_) (fun σ1 ⟨B1, E1⟩ => ?_) F R ⟨fun h s' r' => ok.nx h s' (back r'), fun h s' r' => ok.bk h s' (back r'), fun h s' r' => ok.ct h s' (back r'), fun h n l dv => ok.rt h (z0.trans n) l dv, fun h n l n0 np ng nk c => ok.rn h (z0.trans n) l (up0 _ n0) np ng nk c⟩ C H σ [] G s ⟨⟨bh, fun a m => (z0.gg a m).elim (r.zk.gb a) fun z => r.zk.ab.free z⟩, Nx.refl z0.res z0.ch, by rw [vd_pin hp]; exact envR_all hp E0, fun j d e => absurd e (nb j d), (fun _ m => by cases m), (fun _ m => by cases m), r.lk, (fun _ _ m => by cases m)⟩
  · exact fun cn Cl dd vfs fs W' C2 H2 G2 hm hxx n lk nd hd hF => hE cn Cl dd vfs fs W' C2 H2 G2 hm hxx (z0.trans n) lk (up0 _ nd) hd hF
  · intro cn Cl dd vfs fs W' C2 H2 G2 hm hxx n lk nd hd hF
    obtain ⟨b, e1, hy, hn⟩ := hx cn fs W' Cl hxx hm
    refine ⟨b, e1, fun eb a na => ?_, fun eb => hO σ1 ⟨B1, E1⟩ cn Cl dd vfs fs W' C2 H2 G2 hm (hn eb) (z0.trans n) lk (up0 _ nd) hd hF⟩
    have r2 : Rx K Z C2 H2 σ1 ρ W' [] G2 := ⟨r.zk, z0.trans n, by rw [vd_pin hp]; exact envR_all hp ((pin_up hp E1 E0).mono n.cc), fun j d e => absurd e (nb j d), (fun _ m => by cases m), (fun _ m => by cases m), lk, (fun _ _ m => by cases m)⟩
    obtain ⟨A', r3⟩ := r2.setSh (Dv.ex (v := .ref a) hd hF) i
    refine hy eb a dd F { nx := fun σ' H' => R.nx (σ'.set i none) H', rt := R.rt, bk := fun σ' H' => R.bk (σ'.set i none) H', ct := fun σ' H' => R.ct (σ'.set i none) H' } ⟨fun hq s r => ?_, fun hq s r => ?_, fun hq s r => ?_, ok.rt, ok.rn⟩ C2 H2 _ A' G2 (s.trans n.cc) r3
    · obtain ⟨A'', r4⟩ := r.setNone i
      exact ok.nx hq s r4
    · obtain ⟨A'', r4⟩ := r.setNone i
      exact ok.bk hq s r4
    · obtain ⟨A'', r4⟩ := r.setNone i
      exact ok.ct hq s r4
in #guard_msgs in open Nat
/-- try: .. except C: .. -/
theorem xs_tryO {c : Value} {ts : Addr → Value → Option Addr → TS} {Wout : WX} {tb : WX → TS} (xE xO : XX) (hp : ρ.all pinS = true) (hO : EOkS K Z mg (WE Wout) ρ xO)
    (hb : ∀ (Z' : Zx) (Wx : WX), (∀ E x, EOkW K Z mg E x → EOkW K Z' mg E x) → EOkS K Z' mg (WE Wx) ρ xE → XS K Z' (tb Wx) ρ W P)
    (hx : ∀ cn fs W' C', xE cn fs W' → mg cn = some (.ref C') → ∃ b, PySem.W.exmOne K (.ref C') c = some b ∧ (b = true → ∀ a dd, XS K Z (ts a (.ref C') (some dd)) ρ W' P) ∧ (b = false → xO cn fs W')) :
    XS K Z (tTryO K c ts Wout tb) ρ W P := fun F R ok C H σ A G s r => by
  have z0 : Nx Z.C0 Z.H0 Z.G0 C H W G := r.nx
  have bh := r.bh
  have E0 : EnvS K C σ ρ := by have := r.ed; rwa [vd_pin hp] at this
  have up0 : ∀ a, H a = none → Z.H0 a = none := fun a n => by
    cases e : Z.H0 a with
    | none => rfl
    | some o => exact absurd n (z0.dm a (ne_none e))
  have nb : ∀ (j : Nat) (d : D), ρ[j]? ≠ some (.bo d) := fun j d e => Bool.noConfusion (List.all_eq_true.mp hp _ (List.mem_of_getElem? e))
  have back : ∀ {C' H' σ' ρ' W' A' G'}, Rx K { Z with C0 := C, H0 := H, G0 := G } C' H' σ' ρ' W' A' G' → Rx K Z C' H' σ' ρ' W' A' G' := fun r' => ⟨r.zk, z0.trans r'.nx, r'.env, r'.bo, r'.nd, fun a m => up0 a (r'.na a m), r'.lk, r'.la⟩
  refine hb { Z with C0 := C, H0 := H, G0 := G } (wOnly K c ts Wout R) (fun E x hE => ?_) (fun σ1 ⟨B1, E1⟩ => ?_) F R ⟨fun h s' r' => ok.nx h s' (back r'), fun h s' r' => ok.bk h s' (back r'), fun h s' r' => ok.ct h s' (back r'), fun h n l dv => ok.rt h (z0.trans n) l dv, fun h n l n0 np ng nk c => ok.rn h (z0.trans n) l (up0 _ n0) np ng nk c⟩ C H σ [] G s ⟨⟨bh, fun a m => (z0.gg a m).elim (r.zk.gb a) fun z => r.zk.ab.free z⟩, Nx.refl z0.res z0.ch, by rw [vd_pin hp]; exact envR_all hp E0, fun j d e => absurd e (nb j d), (fun _ m => by cases m), (fun _ m => by cases m), r.lk, (fun _ _ m => by cases m)⟩
  · exact fun cn Cl dd vfs fs W' C2 H2 G2 hm hxx n lk nd hd hF => hE cn Cl dd vfs fs W' C2 H2 G2 hm hxx (z0.trans n) lk (up0 _ nd) hd hF
  · intro cn Cl dd vfs fs W' C2 H2 G2 hm hxx n lk nd hd hF
    obtain ⟨b, e1, hy, hn⟩ := hx cn fs W' Cl hxx hm
    refine ⟨b, e1, fun eb a na => ?_, fun eb => hO σ1 ⟨B1, E1⟩ cn Cl dd vfs fs W' C2 H2 G2 hm (hn eb) (z0.trans n) lk (up0 _ nd) hd hF⟩
    have r2 : Rx K Z C2 H2 σ1 ρ W' [] G2 := ⟨r.zk, z0.trans n, by rw [vd_pin hp]; exact envR_all hp ((pin_up hp E1 E0).mono n.cc), fun j d e => absurd e (nb j d), (fun _ m => by cases m), (fun _ m => by cases m), lk, (fun _ _ m => by cases m)⟩
    exact hy eb a dd F R ok C2 H2 _ [] G2 (s.trans n.cc) r2
in #guard_msgs in open Nat
end
end Tg

/-! The engine: what is asked of a caught refusal. -/
namespace Tg
open PySem PySem.Spec L2 NdefX LamX
/-- the class of a refusal, as it is asked for -/
structure ExcK (K : PySem.W.Frag) (C : Addr) : Prop where
  xf : XfC K C
  cl : (PySem.W.clsIn K C).isSome = true
  ha : PySem.W.findIn K (.ref C) "__class__" = some (some (.builtin "object.__class__"))
  hn : PySem.W.specialIn K (.builtin "object.__class__") "__get__" = some (some (.builtin "getset_descriptor.__get__"))
  ht : PySem.W.takesIn K (.builtin "object.__class__") = some true
  hm : PySem.W.mroIn K C (.type "object") = some true
/-- isinstance(e, c), e caught -/
def rIsX (K : PySem.W.Frag) (a : Addr) (cls : Value) (d : Option Addr) : List V → Hp → VK → Prop := fun xs H Q => ∃ (C dd : Addr) (vfs : List (Str × V)), cls = .ref C ∧ d = some dd ∧ H dd = some (.xd vfs) ∧ ExcK K C ∧
  ((∃ (c : V) (cv : Value) (b : Bool), xs = [.ref a, c] ∧ ClsV c cv ∧ PySem.W.kitOne K (.ref C) cv = some b ∧ Q (.bl b) H) ∨
   ∃ (tp : Addr) (cs : List V) (us : List Value) (b : Bool), xs = [.ref a, .ref tp] ∧ H tp = some (.tup cs) ∧ Paired ClsV cs us ∧ PySem.W.kitAny K (.ref C) us = some b ∧ Q (.bl b) H)
section
variable {X : Cx} {a : Addr} {oe : Obj} {pn : List (Addr × Obj)} {cls : Value} {d : Option Addr}
theorem inst_of {C dd : Addr} {pins : List (Addr × Obj)} {vfs : List (Str × V)} {σ : L2.St} {H : Hp} {s : Shared} (hz : L2.Zc (.ref C) (some dd) oe) (hf : ∃ vs, oe.data = .fields vs) (I : Inv (X.suite a ((a, oe) :: pn)) pins σ H s) (hd : H dd = some (.xd vfs)) :
    ∃ od, PySem.W.InstAt s.heap a oe C (some od) := by
  obtain ⟨g, _⟩ := I.pin (a, oe) (List.mem_append_left _ List.mem_cons_self)
  obtain ⟨vs, hv⟩ := hf
  obtain ⟨mA, hns, _⟩ := (show ObjOk X.prog X.w H s.heap dd (.xd vfs) from I.hok dd _ hd)
  obtain ⟨od, ho, _⟩ := lookIn_ns hns
  obtain ⟨e1, e2⟩ := hz
  refine ⟨od, g, e1, ?_, ?_⟩
  · unfold PySem.W.notCls
    rw [hv]
  · rw [e2]
    exact ho
in #guard_msgs in open Nat
theorem call_isX (hz : L2.Zc cls d oe) (hf : ∃ vs, oe.data = .fields vs) : CallR (X.suite a ((a, oe) :: pn)) (.builtin "isinstance") (rIsX X.K a cls d) := by
  intro pins s σ H xs us Q I r h
  obtain ⟨C, dd, vfs, rfl, rfl, hd, T, h⟩ := h
  obtain ⟨od, J⟩ := inst_of hz hf I hd
  have Zk := PySem.W.kitx_exc (x := a) (ox := oe) (od := some od) T.cl T.xf.ga T.xf.gg T.xf.exC T.ha T.hn T.ht T.hm
  rcases h with ⟨c, cv, b, rfl, hc, e, q⟩ | ⟨tp, cs, ws, b, rfl, hT, hc, e, q⟩
  · obtain ⟨u1, u2, rfl, r1, r2⟩ := vals2 r
    have e2 := hc.eq r2
    subst e2
    cases (show u1 = Value.ref a from r1)
    exact PySem.W.kia_one Zk I.kIn J e (fun z => nomatch z) fun tk => ⟨.bl b, H, I.tok tk, rfl, q⟩
  · obtain ⟨u1, u2, rfl, r1, r2⟩ := vals2 r
    cases (show u1 = Value.ref a from r1)
    cases (show u2 = Value.ref tp from r2)
    obtain ⟨_, its, rv, o, h1, h2, n, h3⟩ := (show ObjOk X.prog X.w H s.heap tp (.tup cs) from I.hok tp _ hT)
    have e3 := ClsV.all hc rv
    subst e3
    obtain ⟨oc, oD, dt, sl⟩ := o
    simp only at h2 h3
    subst h2 h3
    exact PySem.W.kia_tup Zk I.kIn J h1 e (fun z => nomatch z) fun tk => ⟨.bl b, H, I.tok tk, rfl, q⟩
in #guard_msgs in open Nat
/-- e.f, e caught, whatever its class -/
def tXfD (K : PySem.W.Frag) (a : Addr) (cls : Value) (d : Option Addr) (f : Str) (te : TE) : TE := fun σ H Q => te σ H fun x H1 => x = .ref a ∧ ∃ (C dd : Addr) (fs : List (Str × V)) (v : V), cls = .ref C ∧ XfC K C ∧ PySem.W.findIn K (.ref C) f = some none ∧ d = some dd ∧ H1 dd = some (.xd fs) ∧ fs.lookup f = some v ∧ Q v H1
theorem pe_xfD {e : Expr} {te : TE} {pos : Pos} {n : Str} (hz : L2.Zc cls d oe) (hf : ∃ vs, oe.data = .fields vs) (he : PE (X.suite a ((a, oe) :: pn)) e te) (hb : attributeBase e n X.env (eval e X.env) = eval e X.env := by rfl) :
    PE (X.suite a ((a, oe) :: pn)) (.Attribute e n pos) (tXfD X.K a cls d n te) := by
  refine ⟨fun pins s σ H Q I h => ?_⟩
  refine attr_of hb (thn (he.run pins s σ H _ I h) fun u s1 hh => ?_)
  obtain ⟨x, H1, I1, rx, ex, C, dd, fs, v, ec, T, hno, ed, ea, l, q⟩ := hh
  subst ex ec ed
  obtain rfl : u = Value.ref a := rx
  have g := (I1.pin (a, oe) (List.mem_append_left _ List.mem_cons_self)).1
  obtain ⟨vs, hd⟩ := hf
  obtain ⟨mA, hns, hr⟩ := (show ObjOk X.prog X.w H1 s1.heap dd (.xd fs) from I1.hok dd _ ea)
  obtain ⟨od, ho, hl⟩ := lookIn_ns hns
  obtain ⟨u, hu, ru⟩ := RelO.some_of (v := v) (o := mA n) (by rw [← l]; exact hr n)
  have J : PySem.W.InstAt s1.heap a oe C (some od) := ⟨g, hz.1, by unfold PySem.W.notCls; rw [hd], by rw [hz.2]; exact ho⟩
  exact HandSPX.exc_get I1.kIn J T.ga T.gg T.exC (PySem.W.findObj_own T.hdC hno rfl (by rw [hl, hu])) (handed_of ru) ⟨v, H1, I1.tok _, ru, q⟩
in #guard_msgs in open Nat
end
section
variable {X : Cx} {K : PySem.W.Frag}
theorem pe_xfDK {a : Addr} {oe : Obj} {pn : List (Addr × Obj)} {cls : Value} {d : Option Addr} {e : Expr} {te : TE} {pos : Pos} {n : Str} (hK : X.K = K) (hz : L2.Zc cls d oe) (hf : ∃ vs, oe.data = .fields vs) (he : PE (X.suite a ((a, oe) :: pn)) e te) (hb : attributeBase e n X.env (eval e X.env) = eval e X.env := by rfl) :
    PE (X.suite a ((a, oe) :: pn)) (.Attribute e n pos) (tXfD K a cls d n te) := by subst hK; exact pe_xfD hz hf he hb
in #guard_msgs in open Nat
theorem call_isXK {a : Addr} {oe : Obj} {pn : List (Addr × Obj)} {cls : Value} {d : Option Addr} (hK : X.K = K) (hz : L2.Zc cls d oe) (hf : ∃ vs, oe.data = .fields vs) : CallR (X.suite a ((a, oe) :: pn)) (.builtin "isinstance") (rIsX K a cls d) := by subst hK; exact call_isX hz hf
in #guard_msgs in open Nat
theorem pe_globC {x : Str} {C : Addr} {pos : Pos} (hg : Gl X x) (h : X.mg x = some (.ref C)) (hd : (x == ("__debug__" : Str)) = false := by decide) : PE X (.Name x pos) (tC (.ref C)) := pe_glob hg h rfl hd
in #guard_msgs in open Nat
end
/-! ### the table of classes -/
def xcB (K : PySem.W.Frag) (C : Addr) : Bool := xfB K C && ((PySem.W.clsIn K C).isSome && (decide (PySem.W.findIn K (.ref C) "__class__" = some (some (.builtin "object.__class__"))) && (decide (PySem.W.specialIn K (.builtin "object.__class__") "__get__" = some (some (.builtin "getset_descriptor.__get__"))) && (decide (PySem.W.takesIn K (.builtin "object.__class__") = some true) && decide (PySem.W.mroIn K C (.type "object") = some true)))))
theorem xcB_ok {K : PySem.W.Frag} {C : Addr} (h : xcB K C = true) : ExcK K C := by
  unfold xcB at h
  simp only [Bool.and_eq_true, decide_eq_true_eq] at h
  obtain ⟨h1, h2, h3, h4, h5, h6⟩ := h
  exact ⟨xfB_ok h1, h2, h3, h4, h5, h6⟩
in #guard_msgs in open Nat
/-- of the classes Cs, all under C0: each its own, and none another's -/
def ecB (K : PySem.W.Frag) (C0 : Addr) (Cs : List Addr) : Bool := xcB K C0 && (Cs.all (fun C => xcB K C && (decide (PySem.W.kitOne K (.ref C) (.ref C0) = some true) && (decide (PySem.W.exmOne K (.ref C) (.ref C0) = some true) && decide (PySem.W.kitOne K (.ref C) (.type "ValueError") = some true)))) &&
  Cs.all fun C => Cs.all fun C' => decide (PySem.W.kitOne K (.ref C) (.ref C') = some (decide (C = C'))) && decide (PySem.W.exmOne K (.ref C) (.ref C') = some (decide (C = C'))))
structure EcOk (K : PySem.W.Frag) (C0 : Addr) (Cs : List Addr) : Prop where
  xc : ∀ C ∈ Cs, ExcK K C
  k0 : ∀ C ∈ Cs, PySem.W.kitOne K (.ref C) (.ref C0) = some true
  e0 : ∀ C ∈ Cs, PySem.W.exmOne K (.ref C) (.ref C0) = some true
  kv : ∀ C ∈ Cs, PySem.W.kitOne K (.ref C) (.type "ValueError") = some true
  kk : ∀ C ∈ Cs, ∀ C' ∈ Cs, PySem.W.kitOne K (.ref C) (.ref C') = some (decide (C = C'))
  ee : ∀ C ∈ Cs, ∀ C' ∈ Cs, PySem.W.exmOne K (.ref C) (.ref C') = some (decide (C = C'))
  nd : Cs.Nodup
theorem ecB_ok {K : PySem.W.Frag} {C0 : Addr} {Cs : List Addr} (h : ecB K C0 Cs = true) (nd : Cs.Nodup) : EcOk K C0 Cs := by
  unfold ecB at h
  simp only [Bool.and_eq_true, List.all_eq_true, decide_eq_true_eq] at h
  obtain ⟨h0, h1, h2⟩ := h
  exact ⟨fun C m => xcB_ok (h1 C m).1, fun C m => (h1 C m).2.1, fun C m => (h1 C m).2.2.1, fun C m => (h1 C m).2.2.2, fun C m C' m' => (h2 C m C' m').1, fun C m C' m' => (h2 C m C' m').2, nd⟩
in #guard_msgs in open Nat
theorem kitAny_no {K : PySem.W.Frag} {t : Value} : ∀ {us : List Value}, (∀ u ∈ us, PySem.W.kitOne K t u = some false) → PySem.W.kitAny K t us = some false
  | [], _ => rfl
  | u :: us, h => by
    unfold PySem.W.kitAny
    rw [h u List.mem_cons_self]
    exact kitAny_no fun u' m => h u' (List.mem_cons_of_mem _ m)
in #guard_msgs in open Nat
section
variable {K : PySem.W.Frag} {mg : Str → Option Value} {Z : Zx} {C C' B H H' F : Hp} {σ : L2.St} {ρ : List Sl} {W W' : List Res} {A G : List Addr} {P : AEnds} {i j : Nat} {d : D} {t : TS} {q : D → List Res → Prop} {tl : TA} {te : TE}
theorem xe_xf {a dd Cl : Addr} {f : Str} (T : XfC K Cl) (hn : PySem.W.findIn K (.ref Cl) f = some none) (h : XE K Z te ρ W fun d W1 => ∃ fs d', d = .ex (.ref a) dd fs ∧ fs.lookup f = some d' ∧ q d' W1) : XE K Z (tXfD K a (.ref Cl) (some dd) f te) ρ W q := fun σ C B H G p E Q k => by
  refine h σ C B H G p E _ fun d v W1 C1 H1 G1 ⟨fs, d', e, l, hq⟩ n1 dv => ?_
  have dv : Dv K (ov B C1) v d := dv
  subst e
  generalize hg : D.ex (.ref a) dd fs = g at dv
  cases dv with
  | @ex _ dd' vfs fs' hB hF =>
    cases hg
    obtain ⟨w, l2, dw⟩ := hF.look l
    exact ⟨rfl, Cl, dd, vfs, w, rfl, T, hn, rfl, (p.next n1).bh _ _ hB, l2, k d' w W1 C1 H1 G1 hq n1 dw⟩
  | _ => cases hg
in #guard_msgs in open Nat
theorem or_f {A B : Prop} (h : A) : (false = false → A) ∧ (false = true → B) := ⟨fun _ => h, fun z => Bool.noConfusion z⟩
theorem or_t {A B : Prop} (h : B) : (true = false → A) ∧ (true = true → B) := ⟨fun z => Bool.noConfusion z, fun _ => h⟩
/-- what stands for classes -/
inductive ClsD : D → Value → Prop
  | ty (n : String) : ClsD (.op (.ty n)) (.type n)
  | own (C : Addr) : ClsD (.op (.ref C)) (.ref C)
theorem ClsD.v {B : Hp} {v : V} {u : Value} (h : ClsD d u) (dv : Dv K B v d) : ClsV v u := by
  cases h with
  | ty n => cases dv; exact .ty n
  | own C => cases dv; exact .own C
in #guard_msgs in open Nat
theorem clsD_all {B : Hp} : ∀ {vs : List V} {ds : List D} {us : List Value}, Paired ClsD ds us → DvL K B vs ds → Paired ClsV vs us
  | _, _, _, .nil, .nil => .nil
  | _, _, _, .cons h t, .cons dv dt => .cons (h.v dv) (clsD_all t dt)
in #guard_msgs in open Nat
theorem xl_isX {a dd Cl : Addr} {fs : List (Str × D)} {c : D} {cv : Value} {b : Bool} (T : ExcK K Cl) (hc : ClsD c cv) (hk : PySem.W.kitOne K (.ref Cl) cv = some b) (hq : q (.bl b) W) : XL K Z (rIsX K a (.ref Cl) (some dd)) [.ex (.ref a) dd fs, c] W q := fun vs C B H G p dv Q k => by
  obtain ⟨x, y, rfl, dx, dy⟩ := dvl_two dv
  generalize hg : D.ex (.ref a) dd fs = g at dx
  cases dx with
  | @ex _ dd' vfs fs' hB hF =>
    cases hg
    exact ⟨Cl, dd, vfs, rfl, rfl, p.bh _ _ hB, T, .inl ⟨y, cv, b, rfl, hc.v dy, hk, k _ _ W C H G hq p.refl (.bl b)⟩⟩
  | _ => cases hg
in #guard_msgs in open Nat
theorem xl_isXT {a dd Cl : Addr} {fs : List (Str × D)} {cs : List D} {us : List Value} {b : Bool} (T : ExcK K Cl) (hc : Paired ClsD cs us) (hk : PySem.W.kitAny K (.ref Cl) us = some b) (hq : q (.bl b) W) : XL K Z (rIsX K a (.ref Cl) (some dd)) [.ex (.ref a) dd fs, .tup cs] W q := fun vs C B H G p dv Q k => by
  obtain ⟨x, y, rfl, dx, dy⟩ := dvl_two dv
  generalize hg : D.ex (.ref a) dd fs = g at dx
  cases dx with
  | @ex _ dd' vfs fs' hB hF =>
    cases hg
    cases dy with
    | @tup tp ws _ h1 h2 => exact ⟨Cl, dd, vfs, rfl, rfl, p.bh _ _ hB, T, .inr ⟨tp, ws, us, b, rfl, p.bh _ _ h1, clsD_all hc h2, hk, k _ _ W C H G hq p.refl (.bl b)⟩⟩
  | _ => cases hg
in #guard_msgs in open Nat
/-- .. by the table -/
theorem xl_isY {a dd C0 Cl : Addr} {Cs : List Addr} {fs : List (Str × D)} (ec : EcOk K C0 Cs) (m : Cl ∈ Cs) (hq : q (.bl true) W) : XL K Z (rIsX K a (.ref Cl) (some dd)) [.ex (.ref a) dd fs, .op (.ref Cl)] W q := xl_isX (ec.xc _ m) (.own _) (ec.kk _ m _ m) (by rw [decide_eq_true rfl]; exact hq)
in #guard_msgs in open Nat
theorem xl_isN {a dd C0 Cl C' : Addr} {Cs : List Addr} {fs : List (Str × D)} (ec : EcOk K C0 Cs) (m : Cl ∈ Cs) (m' : C' ∈ Cs) (ne : Cl ≠ C') (hq : q (.bl false) W) : XL K Z (rIsX K a (.ref Cl) (some dd)) [.ex (.ref a) dd fs, .op (.ref C')] W q := xl_isX (ec.xc _ m) (.own _) (ec.kk _ m _ m') (by rw [decide_eq_false ne]; exact hq)
in #guard_msgs in open Nat
theorem xl_is0 {a dd C0 Cl : Addr} {Cs : List Addr} {fs : List (Str × D)} (ec : EcOk K C0 Cs) (m : Cl ∈ Cs) (hq : q (.bl true) W) : XL K Z (rIsX K a (.ref Cl) (some dd)) [.ex (.ref a) dd fs, .op (.ref C0)] W q := xl_isX (ec.xc _ m) (.own _) (ec.k0 _ m) hq
in #guard_msgs in open Nat
theorem xl_isV {a dd C0 Cl : Addr} {Cs : List Addr} {fs : List (Str × D)} (ec : EcOk K C0 Cs) (m : Cl ∈ Cs) (hq : q (.bl true) W) : XL K Z (rIsX K a (.ref Cl) (some dd)) [.ex (.ref a) dd fs, .op (.ty "ValueError")] W q := xl_isX (ec.xc _ m) (.ty _) (ec.kv _ m) hq
in #guard_msgs in open Nat
/-- classes, none of them Cl -/
inductive NoneOf (Cs : List Addr) (Cl : Addr) : List D → Prop
  | nil : NoneOf Cs Cl []
  | cons {C' : Addr} {cs : List D} : C' ∈ Cs → Cl ≠ C' → NoneOf Cs Cl cs → NoneOf Cs Cl (.op (.ref C') :: cs)
theorem NoneOf.kit {C0 Cl : Addr} {Cs : List Addr} (ec : EcOk K C0 Cs) (m : Cl ∈ Cs) : ∀ {cs : List D}, NoneOf Cs Cl cs → ∃ us, Paired ClsD cs us ∧ PySem.W.kitAny K (.ref Cl) us = some false
  | _, .nil => ⟨[], .nil, rfl⟩
  | _, .cons (C' := C') m' ne t => by
    obtain ⟨us, h1, h2⟩ := t.kit ec m
    refine ⟨.ref C' :: us, .cons (.own C') h1, ?_⟩
    unfold PySem.W.kitAny
    rw [ec.kk _ m _ m', decide_eq_false ne]
    exact h2
in #guard_msgs in open Nat
theorem xl_isTN {a dd C0 Cl : Addr} {Cs : List Addr} {fs : List (Str × D)} {cs : List D} (ec : EcOk K C0 Cs) (m : Cl ∈ Cs) (n : NoneOf Cs Cl cs) (hq : q (.bl false) W) : XL K Z (rIsX K a (.ref Cl) (some dd)) [.ex (.ref a) dd fs, .tup cs] W q := by
  obtain ⟨us, h1, h2⟩ := n.kit ec m
  exact xl_isXT (ec.xc _ m) h1 h2 hq
in #guard_msgs in open Nat
/-- a global name that holds a class -/
theorem ae_cls {Cl : Addr} {q : D → Prop} (hq : q (.op (.ref Cl))) : AE K (tC (.ref Cl)) ρ q := fun B H σ s E Q k => k _ _ H hq (Same.refl _) (.op _)
/-- the list at an address, emptied -/
theorem xs_clearC (h : XE K Z te (vf ρ) W fun o W1 => ∃ p, o = .op (.ref p) ∧ ∃ (i : Nat) (ds : List D), W1[i]? = some (cel K p (.lst ds)) ∧ P.nx ρ (W1.set i (cel K p (.lst [])))) : XS K Z (tDrop (tBM0 K "list" rClear te)) ρ W P := fun F R ok C H σ A G s r =>
  h σ C _ H G r.pf r.ef _ fun o v W1 C1 H1 G1 ⟨p, e, i, ds, hi, hn⟩ n1 dv => by
    subst e
    have dv : Dv K _ v (.op (.ref p)) := dv
    cases dv
    have r1 := r.next n1
    obtain ⟨⟨vs, h1, h2⟩, pm⟩ := n1.res.cel hi
    exact ⟨.inl ⟨rfl, _, Sq_of h1⟩, p, vs, rfl, rfl, h1, ok.nx hn (s.trans n1.cc) (r1.next (r1.pd.put hi (d' := .lst []) ⟨[], upd_same, .nil⟩))⟩
in #guard_msgs in open Nat
end
end Tg

/-! The engine: what is held, lent to what changes nothing. -/
namespace Tg
open PySem PySem.Spec L2 NdefX LamX
section
variable {K : PySem.W.Frag} {mg : Str → Option Value} {Z : Zx} {C C' B H H' F : Hp} {σ : L2.St} {ρ : List Sl} {W W' : List Res} {A G : List Addr} {P : AEnds} {i j : Nat} {a b a' b' d : D} {t : TS} {q : D → List Res → Prop} {tl : TA} {te : TE}
def lentB (B H : Hp) (G : List Addr) : Hp := fun b => if b ∈ G then H b else B b
theorem Pr.lent_l (p : Pr K Z W C B H G) : Same B (lentB B H G) := fun b o e => (if_neg fun m => by rw [p.gB b m] at e; cases e).trans e
theorem Pr.lent_r (p : Pr K Z W C B H G) : Same (lentB B H G) H := fun b o e => by
  by_cases c : b ∈ G
  · have e' : (if b ∈ G then H b else B b) = some o := e
    rw [if_pos c] at e'
    exact e'
  · have e' : (if b ∈ G then H b else B b) = some o := e
    rw [if_neg c] at e'
    exact p.bh b o e'
in #guard_msgs in open Nat
theorem Vw.lent (p : Pr K Z W C B H G) {v : V} (w : Vw K a W b) (dv : Dv K B v a) : Dv K (lentB B H G) v b := by
  rcases w with rfl | ⟨i, l, rfl, hi⟩
  · exact dv.mono p.lent_l
  · cases dv
    obtain ⟨c, m⟩ := p.nx.res.cel hi
    exact c.dv (p.cb.trans p.lent_l) (if_pos m)
in #guard_msgs in open Nat
abbrev Vws (K : PySem.W.Frag) (W : List Res) (ds cs : List D) : Prop := Paired (fun d c => Vw K d W c) ds cs
theorem vws_lent (p : Pr K Z W C B H G) : ∀ {vs : List V} {ds cs : List D}, Vws K W ds cs → DvL K B vs ds → DvL K (lentB B H G) vs cs
  | _, _, _, .nil, .nil => .nil
  | _, _, _, .cons w t, .cons dv dt => .cons (w.lent p dv) (vws_lent p t dt)
in #guard_msgs in open Nat
theorem x1_ofV {r : V → Hp → VK → Prop} (va : Vw K a W a') (h : A1 K r a' fun d => scalD d = true ∧ q d W) : X1 K Z r a W q := fun x C B H G p E Q k => h _ H x p.lent_r (va.lent p E) Q fun d v H' hq s dv => k d v W _ H' G hq.2 (p.same s) (dv_scal dv hq.1)
in #guard_msgs in open Nat
theorem x2_ofV {r : R2} (va : Vw K a W a') (vb : Vw K b W b') (h : A2 K r a' b' fun d => scalD d = true ∧ q d W) : X2 K Z r a b W q := fun x y C B H G p E Q k => h _ H x y p.lent_r (va.lent p E.1) (vb.lent p E.2) Q fun d v H' hq s dv => k d v W _ H' G hq.2 (p.same s) (dv_scal dv hq.1)
in #guard_msgs in open Nat
theorem xl_ofV {r : List V → Hp → VK → Prop} {ds cs : List D} (va : Vws K W ds cs) (h : AL K r cs fun d => scalD d = true ∧ q d W) : XL K Z r ds W q := fun vs C B H G p E Q k => h _ H vs p.lent_r (vws_lent p va E) Q fun d v H' hq s dv => k d v W _ H' G hq.2 (p.same s) (dv_scal dv hq.1)
in #guard_msgs in open Nat
theorem Pr.newF (p : Pr K Z W C B H G) (s : Same H H') {l : Addr} (nl : H l = none) {B' : Hp} (c : NewC K B' H' l d) (f : flatD d = true) : rN K H (ov B (rem (ext C H H') l)) H' G (.ref l) d := p.newR s nl (newC_flat c f)
in #guard_msgs in open Nat
theorem xln_ofV {r : List V → Hp → VK → Prop} {ds cs : List D} (va : Vws K W ds cs) (h : ALN K r cs fun d => flatD d = true ∧ q d W) : XLN K Z r ds W q := fun vs C B H G p E Q k => h _ H vs p.lent_r (vws_lent p va E) Q fun d v H' hq np s dv => k d _ W _ H' G hq.2 (p.new s np) (p.newF s np dv hq.1)
in #guard_msgs in open Nat
theorem x2n_ofV {r : R2} (va : Vw K a W a') (vb : Vw K b W b') (h : A2N K r a' b' fun d => flatD d = true ∧ q d W) : X2N K Z r a b W q := fun x y C B H G p E Q k => h _ H x y p.lent_r (va.lent p E.1) (vb.lent p E.2) Q fun d v H' hq np s dv => k d _ W _ H' G hq.2 (p.new s np) (p.newF s np dv hq.1)
in #guard_msgs in open Nat
/-- f(..), f a def that changes nothing, of what is held -/
theorem xe_callPV {T : List D → (D → Prop) → Prop} {E' : XK} (h : XA K Z tl ρ W fun ds W1 => ∃ cs, Vws K W1 ds cs ∧ T cs fun d => scalD d = true ∧ q d W1) : XE K Z (tCall (pfn K T) [] E' tl) ρ W q := fun σ C B H G p En Q k => h σ C B H G p En _ fun ds vs W1 C1 H1 G1 ⟨cs, hv, hT⟩ n1 dx => by
  have p1 := p.next n1
  refine ⟨lentB (ov B C1) H1 G1, cs, _, p1.lent_r, by rw [List.append_nil]; exact vws_lent p1 hv dx, hT, fun d v H' hq s2 dv => ?_⟩
  exact k d v W1 _ H' G1 hq.2 (n1.trans (p1.same s2)) (dv_scal dv hq.1)
in #guard_msgs in open Nat
theorem xn_callPV {T : List D → (D → Prop) → Prop} {E' : XK} (h : XA K Z tl ρ W fun ds W1 => ∃ cs, Vws K W1 ds cs ∧ T cs fun d => flatD d = true ∧ q d W1) : XN K Z (tCall (pfnN K T) [] E' tl) ρ W q := fun σ C B H G p En Q k => h σ C B H G p En _ fun ds vs W1 C1 H1 G1 ⟨cs, hv, hT⟩ n1 dx => by
  have p1 := p.next n1
  refine ⟨lentB (ov B C1) H1 G1, cs, _, p1.lent_r, by rw [List.append_nil]; exact vws_lent p1 hv dx, hT, fun d l H' hq np s2 dv => ?_⟩
  refine k d _ W1 _ H' G1 hq.2 (n1.trans (p1.new s2 np)) (rN_up n1.dm ?_)
  rw [← ov_ov (p1.new s2 np).cc]
  exact p1.newF s2 np dv hq.1
in #guard_msgs in open Nat
/-- .. one of them held at least -/
inductive VwsH (K : PySem.W.Frag) (W : List Res) : List D → List D → Prop
  | here {p : Addr} {c : D} {ds cs : List D} : (∃ i : Nat, W[i]? = some (cel K p c)) → Vws K W ds cs → VwsH K W (.op (.ref p) :: ds) (c :: cs)
  | there {d : D} {ds cs : List D} : VwsH K W ds cs → VwsH K W (d :: ds) (d :: cs)
theorem VwsH.vws : ∀ {ds cs : List D}, VwsH K W ds cs → Vws K W ds cs
  | _, _, .here ⟨i, h⟩ t => .cons (.at i h) t
  | _, _, .there t => .cons .of t.vws
theorem Vw.at' {c : D} {p : Addr} (h : ∃ i : Nat, W[i]? = some (cel K p c)) : Vw K (.op (.ref p)) W c := h.elim fun i h => .at i h
theorem or_held {A : Prop} {ds cs : List D} {R : List D → Prop} (h : VwsH K W ds cs) (r : R cs) : A ∨ ∃ cs, VwsH K W ds cs ∧ R cs := .inr ⟨cs, h, r⟩
/-- f(..), f a def that changes nothing, of data or of what is held -/
theorem xe_callPQ {T : List D → (D → Prop) → Prop} {E' : XK} (h : XA K Z tl ρ W fun ds W1 => (T ds fun d => q d W1) ∨ ∃ cs, VwsH K W1 ds cs ∧ T cs fun d => scalD d = true ∧ q d W1) : XE K Z (tCall (pfn K T) [] E' tl) ρ W q := fun σ C B H G p En Q k => h σ C B H G p En _ fun ds vs W1 C1 H1 G1 hh n1 dx => by
  have p1 := p.next n1
  rcases hh with hT | ⟨cs, hv, hT⟩
  · refine ⟨ov B C1, ds, _, p1.bh, by rw [List.append_nil]; exact dx, hT, fun d v H' hq s2 dv => ?_⟩
    have x2 := p1.same s2
    refine k d v W1 _ H' G1 hq (n1.trans x2) ?_
    show Dv _ _ _ _
    rw [← ov_ov x2.cc, ov_ext p1.cb p1.bh]
    exact dv
  · refine ⟨lentB (ov B C1) H1 G1, cs, _, p1.lent_r, by rw [List.append_nil]; exact vws_lent p1 hv.vws dx, hT, fun d v H' hq s2 dv => ?_⟩
    exact k d v W1 _ H' G1 hq.2 (n1.trans (p1.same s2)) (dv_scal dv hq.1)
in #guard_msgs in open Nat
theorem xn_callPQ {T : List D → (D → Prop) → Prop} {E' : XK} (h : XA K Z tl ρ W fun ds W1 => (T ds fun d => q d W1) ∨ ∃ cs, VwsH K W1 ds cs ∧ T cs fun d => flatD d = true ∧ q d W1) : XN K Z (tCall (pfnN K T) [] E' tl) ρ W q := fun σ C B H G p En Q k => h σ C B H G p En _ fun ds vs W1 C1 H1 G1 hh n1 dx => by
  have p1 := p.next n1
  rcases hh with hT | ⟨cs, hv, hT⟩
  · refine ⟨ov B C1, ds, _, p1.bh, by rw [List.append_nil]; exact dx, hT, fun d l H' hq np s2 dv => ?_⟩
    have x2 := p1.new s2 np
    refine k d _ W1 _ H' G1 hq (n1.trans x2) (rN_up n1.dm ?_)
    rw [← ov_ov x2.cc]
    exact p1.newR s2 np dv
  · refine ⟨lentB (ov B C1) H1 G1, cs, _, p1.lent_r, by rw [List.append_nil]; exact vws_lent p1 hv.vws dx, hT, fun d l H' hq np s2 dv => ?_⟩
    refine k d _ W1 _ H' G1 hq.2 (n1.trans (p1.new s2 np)) (rN_up n1.dm ?_)
    rw [← ov_ov (p1.new s2 np).cc]
    exact p1.newF s2 np dv hq.1
in #guard_msgs in open Nat
end
end Tg

/-! The engine: x in xs, xs.index(x), data of any depth. -/
namespace Tg
open PySem PySem.Spec L2
theorem room65 {k : Nat} {A : Around} (r : Room k A) : A.units + 65 < cLine := by have := r.un; omega
section
variable {X : Cx} {K : PySem.W.Frag}
theorem op_inDK (hK : X.K = K) (hu : X.A.units + 65 < cLine) : OpR X (compareOp .In) (rInD K) := by subst hK; exact op_inD hu
theorem op_ninDK (hK : X.K = K) (hu : X.A.units + 65 < cLine) : OpR X (compareOp .NotIn) (rNotInD K) := by subst hK; exact op_notInD hu
theorem mt_indexDK (hK : X.K = K) (hu : X.A.units + 65 < cLine) : MtR X "list.index" (rIndexD K) := by subst hK; exact mt_indexD hu
end
theorem any_PPs (x : D) : ∀ ds : List D, ((PPs ds).any fun z => PyData.eqv z (PP x)) = inD x ds
  | [] => rfl
  | y :: ds => by
    rw [PPs, List.any_cons, any_PPs x ds]
    rfl
in #guard_msgs in open Nat
theorem PPs_at : ∀ (ds : List D) (j : Nat), (PPs ds)[j]? = (ds[j]?).map PP
  | [], j => by simp [PPs]
  | d :: ds, 0 => by simp [PPs]
  | d :: ds, j + 1 => by
    rw [PPs, List.getElem?_cons_succ, List.getElem?_cons_succ, PPs_at ds j]
in #guard_msgs in open Nat
section
variable {K : PySem.W.Frag} {a b d x : D} {q : D → Prop} {ds : List D}
theorem a2_inDL (pa : pln x = true) (pb : plns ds = true) (za : dep x ≤ 64) (zb : dep (.lst ds) ≤ 64) (hq : q (.bl (inD x ds))) : A2 K (rInD K) x (.lst ds) q := fun B H u v s h1 h2 Q k => by
  have e1 := sh_of h1 pa za
  have e2 := sh_of h2 (show pln (.lst ds) = true by rw [pln]; exact pb) zb
  refine ⟨_, PPs ds, dp_up s e1.1, dp_up s e2.1, e1.2, e2.2, ?_⟩
  rw [any_PPs]
  exact k _ _ H hq (Same.refl _) (.bl _)
in #guard_msgs in open Nat
theorem a2_ninDL (pa : pln x = true) (pb : plns ds = true) (za : dep x ≤ 64) (zb : dep (.lst ds) ≤ 64) (hq : q (.bl (!inD x ds))) : A2 K (rNotInD K) x (.lst ds) q := fun B H u v s h1 h2 Q k => by
  have e1 := sh_of h1 pa za
  have e2 := sh_of h2 (show pln (.lst ds) = true by rw [pln]; exact pb) zb
  refine ⟨_, PPs ds, dp_up s e1.1, dp_up s e2.1, e1.2, e2.2, ?_⟩
  rw [any_PPs]
  exact k _ _ H hq (Same.refl _) (.bl _)
in #guard_msgs in open Nat
theorem am_indexD {j : Nat} {z : D} (pa : pln x = true) (pb : plns ds = true) (za : dep x ≤ 64) (zb : dep (.lst ds) ≤ 64) (h1 : ds[j]? = some z) (h2 : deq z x = true) (h3 : ∀ m z', m < j → ds[m]? = some z' → deq z' x = false) (hq : q (.int j)) : AM K (rIndexD K) (.lst ds) x q := fun B H u v s g1 g2 Q k => by
  have e1 := sh_of g2 pa za
  have e2 := sh_of g1 (show pln (.lst ds) = true by rw [pln]; exact pb) zb
  cases g1 with
  | lst hs hv =>
    refine ⟨_, _, PP x, PPs ds, j, PP z, rfl, rfl, dp_up s e2.1, dp_up s e1.1, e2.2, e1.2, by rw [PPs_at, h1]; rfl, h2, fun m z' hm hz => ?_, k _ _ H hq (Same.refl _) (.int _)⟩
    rw [PPs_at] at hz
    cases e : ds[m]? with
    | none => rw [e] at hz; cases hz
    | some w =>
      rw [e] at hz
      cases hz
      exact h3 m w hm e
in #guard_msgs in open Nat
end
theorem ite_or {p A B : Prop} [Decidable p] (h1 : ¬ p → A) (h2 : p → B) : (decide p = false → A) ∧ (decide p = true → B) := ⟨fun h => h1 (of_decide_eq_false h), fun h => h2 (of_decide_eq_true h)⟩
in #guard_msgs in open Nat
theorem plns_map {α : Type} {f : α → D} : ∀ {xs : List α}, (∀ x ∈ xs, pln (f x) = true) → plns (xs.map f) = true
  | [], _ => rfl
  | x :: xs, h => by rw [List.map_cons, plns, h x List.mem_cons_self, plns_map fun y m => h y (List.mem_cons_of_mem _ m)]; rfl
in #guard_msgs in open Nat
def inS (x : D) (ns : List Str) : Bool := match x with
  | .str n => decide (n ∈ ns)
  | _ => false
theorem inD_odd {x : D} (p : pln x = true) (ns : List Str) : inD x (ns.map .str) = inS x ns := by
  cases x with
  | str n => exact inD_str n ns
  | _ =>
    unfold inD
    rw [List.any_map]
    show _ = false
    rw [List.any_eq_false]
    intro z _
    simp [deq, PP, PyData.eqv]
in #guard_msgs in open Nat
mutual
theorem deq_refl : ∀ d : D, pln d = true → deq d d = true
  | .non, _ => by simp [deq, PP, PyData.eqv]
  | .bl _, _ => by simp [deq, PP, PyData.eqv]
  | .int _, _ => by simp [deq, PP, PyData.eqv]
  | .str _, _ => by simp [deq, PP, PyData.eqv]
  | .lst xs, h => by
    unfold deq
    rw [PP, PyData.eqv]
    exact deqs_refl xs (by rwa [pln] at h)
  | .fls xs, h => by
    unfold deq
    rw [PP, PyData.eqv]
    exact deqs_refl xs (by rwa [pln] at h)
  | .tup xs, h => by
    unfold deq
    rw [PP, PyData.eqv]
    exact deqs_refl xs (by rwa [pln] at h)
  | .dk _, h => by simp [pln] at h
  | .dt _, h => by simp [pln] at h
  | .op _, h => by simp [pln] at h
  | .ex _ _ _, h => by simp [pln] at h
  | .vd _ _, h => by simp [pln] at h
theorem deqs_refl : ∀ ds : List D, plns ds = true → PyData.eqvAll (PPs ds) (PPs ds) = true
  | [], _ => by simp [PPs, PyData.eqvAll]
  | d :: ds, h => by
    rw [plns, Bool.and_eq_true] at h
    rw [PPs, PyData.eqvAll, deqs_refl ds h.2]
    have := deq_refl d h.1
    unfold deq at this
    rw [this]
    rfl
end
section
variable {K : PySem.W.Frag} {j : Nat} {te : TE} {ρ : List Sl} {q : D → Prop}
theorem alcI {xs : List D} (g : D → D) (hl : xs.length < 100000) (he : ∀ x ∈ xs, ∀ q : D → Prop, q (g x) → AE K te (ρ.set j (.sh x)) q) (hq : q (.lst (xs.map g))) : ALc K xs j tYes te ρ q := by
  have := alcA (f := fun d : D => d) (xs := xs) (j := j) (te := te) (ρ := ρ) g hl he hq
  rwa [List.map_id'] at this
in #guard_msgs in open Nat
end
section
variable {K : PySem.W.Frag} {B0 H0 : Hp} {F0 : List Addr} {W : List Res} {ρ : List Sl} {r rn : D → List Res → Prop} {n bk ct : List Sl → List Res → Prop}
theorem aforI {xs : List D} {g : TG} {tb : TS} (Iv : Nat → List Sl → Prop) (h0 : ∃ ρ', Wk ρ ρ' ∧ Iv 0 ρ') (hs : ∀ i x ρ', xs[i]? = some x → Iv i ρ' → AG ⟨K, B0, H0, F0⟩ g x ρ' W fun ρ2 W2 => AW ⟨K, B0, H0, F0⟩ tb ρ2 W2 ⟨fun ρ3 W3 => ∃ ρ4, Wk ρ3 ρ4 ∧ Iv (i + 1) ρ4 ∧ W3 = W, r, rn, n, fun ρ3 W3 => ∃ ρ4, Wk ρ3 ρ4 ∧ Iv (i + 1) ρ4 ∧ W3 = W⟩)
    (hd : ∀ ρ', Iv xs.length ρ' → n ρ' W) : AFor ⟨K, B0, H0, F0⟩ xs g tb ρ W ⟨n, r, rn, bk, ct⟩ := by
  have := aforM (f := fun d : D => d) (xs := xs) (K := K) (B0 := B0) (H0 := H0) (F0 := F0) (W := W) (ρ := ρ) (r := r) (rn := rn) (n := n) (bk := bk) (ct := ct) (g := g) (tb := tb) Iv h0 hs hd
  rwa [List.map_id'] at this
in #guard_msgs in open Nat
end
section
variable {K : PySem.W.Frag} {B0 H0 : Hp} {F0 : List Addr} {W : List Res} {ρ : List Sl} {r rn : D → List Res → Prop} {n bk ct : List Sl → List Res → Prop} {i : Nat} {d : D} {te : TE}
theorem s_asgOwn (e : ρ[i]? = some (.own d)) (h : AW ⟨K, B0, H0, F0⟩ (tAsgN (tOp rCat (tVar i) te) i) (ρ.set i (.sh d)) W ⟨n, r, rn, bk, ct⟩) : AW ⟨K, B0, H0, F0⟩ (tAsgN (tOp rCat (tVar i) te) i) ρ W ⟨n, r, rn, bk, ct⟩ := s_frz i e h
in #guard_msgs in open Nat
end
section
variable {K : PySem.W.Frag} {B0 H0 : Hp} {F0 : List Addr} {W : List Res} {ρ : List Sl} {r rn : D → List Res → Prop} {n bk ct : List Sl → List Res → Prop} {t : TS}
theorem s_forOwn {i : Nat} {d : D} {te : TE} {g : TG} {tb : TS} (e : ρ[i]? = some (.own d)) (h : AW ⟨K, B0, H0, F0⟩ (tFor (iList K (tOp rCat (tVar i) te)) g tb) (ρ.set i (.sh d)) W ⟨n, r, rn, bk, ct⟩) : AW ⟨K, B0, H0, F0⟩ (tFor (iList K (tOp rCat (tVar i) te)) g tb) ρ W ⟨n, r, rn, bk, ct⟩ := s_frz i e h
in #guard_msgs in open Nat
/-- the slots, written out -/
theorem s_norm {ρ' : List Sl} (e : ρ = ρ') (h : AW ⟨K, B0, H0, F0⟩ t ρ' W ⟨n, r, rn, bk, ct⟩) : AW ⟨K, B0, H0, F0⟩ t ρ W ⟨n, r, rn, bk, ct⟩ := e ▸ h
end
/-- data in which no list stands -/
def noLt : D → Bool
  | .tup xs => xs.all scalD
  | d => scalD d
section
variable {Z : Zc} {B B' H H' F : Hp} {σ : L2.St} {ρ : List Sl} {W : List Res} {A G : List Addr} {P : AEnds} {te : TE} {i : Nat} {d : D}
theorem dvl_sc {K : PySem.W.Frag} : ∀ {vs : List V} {ds : List D}, DvL K B vs ds → ds.all scalD = true → DvL K B' vs ds
  | _, _, .nil, _ => .nil
  | _, _, .cons h t, n => by
    rw [List.all_cons, Bool.and_eq_true] at n
    exact .cons (dv_scal h n.1) (dvl_sc t n.2)
in #guard_msgs in open Nat
theorem Rel.noLt (r : Rel Z B H σ ρ W A G) {v : V} (n : noLt d = true) (dv : Dv Z.K (ext (fzB B H A) H H') v d) : Dv Z.K (ext B H H') v d := by
  cases d with
  | tup xs =>
    cases dv with
    | @tup a vs _ h1 h2 =>
      refine .tup ?_ (dvl_sc h2 n)
      cases e : H a with
      | none =>
        rw [ext_new e] at h1 ⊢
        exact h1
      | some o =>
        rw [ext_old (ne_none e)] at h1 ⊢
        unfold fzB at h1
        by_cases m : a ∈ A
        · rw [if_pos m] at h1
          exact absurd h1 ((r.env.hard a m).2 vs)
        · rwa [if_neg m] at h1
  | _ => exact dv_scal dv n
in #guard_msgs in open Nat
theorem aw_appendT {ds : List D} (e : ρ[i]? = some (.own (.lst ds))) (h : AE Z.K te (fz ρ) fun d => Tg.noLt d = true ∧ ds.length < 100000 ∧ P.nx (ρ.set i (.own (.lst (ds ++ [d])))) W) : AW Z (tDrop (tBM Z.K "list" rAppend (tVar i) (tCons te tNil))) ρ W P := fun F R ok B H σ A G s r => by
  obtain ⟨a, h1, h2, h3, vs, h4, h5⟩ := r.env.getOwn e
  refine ⟨_, h1, .inl ⟨rfl, _, Sq_of h4⟩, ?_⟩
  refine h _ H σ r.fz.bh r.fz.env.envS _ fun d v H' hq s1 dv => ?_
  have r1 := r.step s1
  refine ⟨a, vs, v, rfl, rfl, s1 _ _ h4, smallL (by rw [h5.len]; exact hq.2.1), ok.nx hq.2.2 (s.trans (ext_l r.bh)) (r1.mut e h1 h2 ⟨_, upd_same, (h5.mono (ext_l r.bh)).append (.cons (r.noLt hq.1 dv) .nil)⟩)⟩
in #guard_msgs in open Nat
end
section
variable {K : PySem.W.Frag} {B0 H0 : Hp} {F0 : List Addr} {W : List Res} {ρ : List Sl} {r rn : D → List Res → Prop} {n bk ct : List Sl → List Res → Prop} {i : Nat} {tl : TA}
theorem s_appendT {ds : List D} (e : ρ[i]? = some (.own (.lst ds))) (h : AE K (tTup tl) (fz ρ) fun d => noLt d = true ∧ ds.length < 100000 ∧ n (ρ.set i (.own (.lst (ds ++ [d])))) W) : AW ⟨K, B0, H0, F0⟩ (tAppH K i (tTup tl)) ρ W ⟨n, r, rn, bk, ct⟩ := aw_appendT e h
in #guard_msgs in open Nat
end
end Tg

/-! The engine: methods of texts. -/
namespace Tg
open PySem PySem.Spec L2
def rSIx : V → List V → Hp → VK → Prop := fun x xs H Q => ∃ (a b : Str) (i : Nat) (rest : List Nat), x = .str a ∧ xs = [.str b] ∧ Builtin.Str.occurrences a b 0 a.length 1 = i :: rest ∧ Q (.int (i : Nat)) H
theorem mt_sIx {X : Cx} : MtR X "str.index" rSIx := mt_sindex
section
variable {K : PySem.W.Frag} {ρ : List Sl} {to te : TE} {q : D → Prop}
theorem ae_m1 {r : V → List V → Hp → VK → Prop} (h : AE K to ρ fun a => ∃ z, a = .str z ∧ AE K te ρ fun b => AM K r a b q) : AE K (tM1 r to te) ρ q := fun B H σ s E Q k => h B H σ s E _ fun a v H1 ⟨z, ea, h1⟩ s1 dv => by
  subst ea
  cases dv with
  | str _ ok =>
    refine ⟨⟨z, rfl⟩, h1 _ H1 σ (ext_r s s1) (E.mono (ext_l s)) _ fun b w H2 h2 s2 dw => ?_⟩
    have e2 := ext_r (ext_r s s1) s2
    refine h2 _ H2 _ _ e2 (.str z ok) dw _ fun d u H3 hq s3 du => k d u H3 hq (s1.trans (s2.trans s3)) ?_
    rw [ext_ext s1 s2, ext_ext (s1.trans s2) s3] at du
    exact du
in #guard_msgs in open Nat
def abc : Str := Str.ofString "abcdefghijklmnopqrstuvwxyz"
theorem abc_ix : ∀ c : Fin 26, Builtin.Str.occurrences abc ⟨#[97 + c.val]⟩ 0 abc.length 1 = [c.val] := by decide +kernel
theorem am_abc {i : Nat} (hi : i < 26) (hq : q (.int (i : Nat))) : AM K rSIx (.str (Str.ofString "abcdefghijklmnopqrstuvwxyz")) (.str ⟨#[97 + i]⟩) q := fun B H u v s h1 h2 Q k => by
  cases h1
  cases h2
  exact ⟨_, _, i, [], rfl, rfl, abc_ix ⟨i, hi⟩, k _ _ H hq (Same.refl _) (.int _)⟩
in #guard_msgs in open Nat
end
end Tg

/-! The engine: {k: v} with a tuple as its key; objects. -/
namespace Tg
open PySem PySem.Spec L2 PyProof.Rows
/-- {k: v}, k a tuple; the new dict stands empty while the pair is made -/
def tDispT1 (tk tv : TE) : TE := fun σ H Q => ∀ p, H p = none → tk σ (upd H p (.dT [])) fun x H1 => tv σ H1 fun y H2 => H2 p = some (.dT []) ∧ ∃ (b : Addr) (k : List Key), x = .ref b ∧ H2 b = some (.tup (k.map kV)) ∧ Q (.ref p) (upd H2 p (.dT [(k, y)]))
theorem pe_dispT1 {X : Cx} {pos : Pos} {k v : Expr} {tk tv : TE} (hu : X.A.units < cLine) (hk : PE X k tk) (hv : PE X v tv) : PE X (.Dict [some k] [v] pos) (tDispT1 tk tv) := by
  refine ⟨fun pins s σ H Q I q => ?_⟩
  have hn := I.hok.fresh (Nat.le_refl s.heap.objs.size)
  have I1 := I.laid (a := s.heap.objs.size) (o := .dT []) (h' := s.heap.push { cls := .type "dict", data := .dict #[] }) (t' := s.toks) (fun _ _ q => Heap.get?_push_of_some _ q) (Nat.le_refl _) (dt_empty s.heap I.big)
  have hp : L2.PPs X pos [some k] [v] [(tk, tv)] := pps_cons hk hv pps_nil
  have hl : (pairTrees [some k] [v] X.env pos).length = 1 := pairTrees_length [some k] [v] X.env pos rfl rfl
  rw [arm_eval_Dict, zip_pairTrees [some k] [v] X.env pos rfl rfl, dictDisplay_pairs _ (fun e => by rw [e] at hl; cases hl) (by rw [hl]; decide)]
  refine wpAny_bind (wpAny_standAt (wpAny_bind ?_))
  unfold subDict
  refine wpAny_bind (wpAny_alloc ?_)
  refine wpAny_bind (wpAny_holding ?_)
  rw [if_pos (by rw [hl]; decide)]
  have hrun := hp.run pins _ σ _ (fun ps H2 => match ps with
    | [(x, y)] => H2 s.heap.objs.size = some (.dT []) ∧ ∃ (b : Addr) (k : List Key), x = .ref b ∧ H2 b = some (.tup (k.map kV)) ∧ Q (.ref s.heap.objs.size) (upd H2 s.heap.objs.size (.dT [(k, y)]))
    | _ => False) I1 (q _ hn)
  refine wpAny_bind (wpAny_mono hrun (fun vs s1 h1 => ?_) fun _ _ e => e)
  obtain ⟨ps, H2, I2, rel, h1⟩ := h1
  match ps, rel, h1 with
  | [(x, y)], .cons (b := (u, u2)) ⟨rx, ry⟩ .nil, ⟨e, b, kk, ex, eb, q2⟩ =>
    subst ex
    cases (show u = Value.ref b from rx)
    refine wpAny_holding ?_
    rw [List.forIn_cons]
    obtain ⟨z, hd, xs, r0, dd⟩ := dt_of I2.hok e
    have hz : xs.length ≤ sizeLine := by rw [← Paired.length r0]; exact z
    refine wpAny_bind (wpAny_bind (wpAny_bind (wpAny_dictSet_heap (hsz := hz) hu (key_of I2.hok eb) dd fun h' dd' hs => wpAny_pure ?_)))
    show wpAny _ _ (forIn [] _ _) _ _ _
    rw [List.forIn_nil]
    obtain ⟨q, es, ep, hq, h2, h3, h4, _, h5⟩ := dd'
    refine wpAny_pure (wpAny_pure (wpAny_pure (wpAny_pure ⟨.ref s.heap.objs.size, _, ?_, rfl, q2⟩)))
    refine d_write I2 (by rw [e]; exact True.intro) hs ⟨q, hq⟩ ⟨by rw [sizeLine_eq, List.length_singleton]; omega, hd, _, (r0.put kk eb ry).keeps fun c ys ec => ?_, q, es, ep, hq, h2, h3, h4, h5⟩
    rw [upd_ne (ne_of ec e (fun z => nomatch z))]
    exact ec
in #guard_msgs in open Nat
/-- .. of data -/
theorem xn_dispT1 {K : PySem.W.Frag} {Z : Zx} {ρ : List Sl} {W : List Res} {tk tv : TE} {q : D → List Res → Prop} (h : XE K Z tk ρ W fun x W1 => ∃ k, x = tD k ∧ XE K Z tv ρ W1 fun y W2 => scalD y = true ∧ q (.dt [(k, y)]) W2) : XN K Z (tDispT1 tk tv) ρ W q := fun σ C B H G p En Q kk => fun l np => by
  obtain ⟨p0, x0⟩ := p.fresh (o := .dT []) np
  refine h σ C B _ G p0 En _ fun x v W1 C1 H1 G1 ⟨k, ex, h1⟩ n1 dx => ?_
  subst ex
  have p1 := p0.next n1
  refine h1 σ C1 _ H1 G1 p1 (En.mono ov_l) _ fun y u W2 C2 H2 G2 ⟨sc, hq⟩ n2 dy => ?_
  have n12 := n1.trans n2
  have hw : upd H l (.dT []) l = some (.dT []) := upd_same
  have gl : l ∉ G := fun m => (p.nx.res.there l m).2 np
  have g2 : l ∉ G2 := fun m => (n12.gg l m).elim gl (ne_none hw)
  have hard : Hard (upd H l (.dT []) l) := by rw [hw]; exact ⟨(fun z => by cases z), (fun _ z => by cases z)⟩
  have c2 : C2 l = none := by rw [n12.od l hard]; exact p.ch.free np
  have hl1 : H2 l = some (.dT []) := by rw [n12.at (ne_none hw) gl]; exact hw
  obtain ⟨b, rfl, hb⟩ := tD_v dx
  have p2 := p1.next n2
  refine ⟨hl1, b, k, rfl, p2.bh _ _ (ov_old hb), ?_⟩
  exact kk _ _ W2 C2 _ G2 hq ((x0.trans n12).poke (fun _ z => by cases z) np g2 c2) ⟨l, rfl, np, by rw [ov_new (p.bh.free np)]; exact c2, g2, [(k, u)], upd_same, .cons (dv_scal dy sc) .nil⟩
in #guard_msgs in open Nat
section
variable {K : PySem.W.Frag} {mg : Str → Option Value} {Z : Zx} {C C' B H H' F : Hp} {σ : L2.St} {ρ : List Sl} {W W' : List Res} {A G : List Addr} {P : AEnds} {i j : Nat} {d : D} {t : TS} {q : D → List Res → Prop} {tl : TA}
/-- a new list or dict becomes held -/
theorem Rx.hold {l : Addr} (r : Rx K Z C H σ ρ W A G) (n0 : Z.H0 l = none) (nA : l ∉ A) (nG : l ∉ G) (hk : ∀ p ∈ Z.Lk, p.1 ≠ l) (cl : C l = none) (c : Cell K C H l d) : Rx K Z C H σ ρ (cel K l d :: W) A ([l] ++ G) :=
  ⟨r.zk, ⟨r.nx.cc, r.nx.ch, r.nx.fr, r.nx.dm, r.nx.od, fun a m => (List.mem_append.mp m).elim (fun m => .inr (by rw [List.mem_singleton.mp m]; exact n0)) (r.nx.gg a), WR.cons (r := cel K l d) (fp := [l]) ⟨rfl, c⟩ (fun b m => by rw [List.mem_singleton.mp m]; exact nG) (fun b m => by rw [List.mem_singleton.mp m]; exact ⟨cl, c.hard⟩) r.nx.res, r.nx.dh⟩, r.env, r.bo,
    fun a m z => (List.mem_append.mp z).elim (fun z => nA (List.mem_singleton.mp z ▸ m)) (r.nd a m), r.na, fun p m => ⟨(r.lk p m).1, fun z => (List.mem_append.mp z).elim (fun z => hk p m (List.mem_singleton.mp z)) (r.lk p m).2.1, (r.lk p m).2.2.1, (r.lk p m).2.2.2⟩, r.la⟩
in #guard_msgs in open Nat
/-- o.f = a new list or dict, held from then on -/
theorem xs_fldN {Cl : Addr} {f : Str} {ta tv : TE} (h : XN K Z tv (vd ρ) W fun d W1 => ∀ l, XE K Z ta (vd ρ) (cel K l d :: W1) fun o W2 => ∃ a, o = .op (.ref a) ∧ ∃ (i : Nat) (fs : List (Str × D)), W2[i]? = some (obj K a Cl fs) ∧ fs.length < 1000 ∧ P.nx ρ (W2.set i (obj K a Cl (putD f (.op (.ref l)) fs)))) : XS K Z (sFldC Cl ta tv f) ρ W P := fun F R ok C H σ A G s r =>
  h σ C C H G r.pd r.ed _ fun d v W1 C1 H1 G1 h1 n1 ⟨l, ev, nl, bl, gl, c⟩ => by
    subst ev
    rw [ov_same n1.cc] at bl c
    have r1 := (r.next n1).hold (r.h0 nl) (fun m => (r.env.there l m).2 nl) gl (r.lkN nl) bl c
    refine h1 l σ C1 C1 H1 _ r1.pd r1.ed _ fun o w W2 C2 H2 G2 ⟨a, ea, i, fs, hi, hl, hn⟩ n2 dw => ?_
    subst ea
    cases dw
    have r2 := r1.next n2
    obtain ⟨dx, vfs, g1, g2, g3, _⟩ := n2.res.obj hi
    have x := r2.pd.putI hi g1 (DvF.put (f := f) (v := .ref l) (.op _) g3)
    exact ⟨a, dx, vfs, rfl, g1, by rw [g3.len]; exact hl, ok.nx hn (s.trans (n1.cc.trans n2.cc)) (r2.next x)⟩
in #guard_msgs in open Nat
/-- a field looked up -/
theorem fld_at {a Cl : Addr} {f : Str} {fs : List (Str × D)} {d' : D} {R : D → Prop} (h : ∃ i : Nat, W[i]? = some (obj K a Cl fs)) (hl : fs.lookup f = some d') (r : R d') : ∃ (i : Nat) (fs : List (Str × D)) (d' : D), W[i]? = some (obj K a Cl fs) ∧ fs.lookup f = some d' ∧ R d' := h.elim fun i h => ⟨i, fs, d', h, hl, r⟩
in #guard_msgs in open Nat
theorem look0 {f : Str} {d : D} {fs : List (Str × D)} : ((f, d) :: fs).lookup f = some d := by simp [List.lookup]
theorem look1 {f g : Str} {d : D} {o : Option D} {fs : List (Str × D)} (ne : f ≠ g) (h : fs.lookup f = o) : ((g, d) :: fs).lookup f = o := by
  rw [← h]
  simp [List.lookup, beq_eq_false_iff_ne.mpr ne]
in #guard_msgs in open Nat
theorem meth_at {a Cl : Addr} {m : Str} {fs : List (Str × D)} (h : ∃ i : Nat, W[i]? = some (obj K a Cl fs)) (hm : m ∉ fs.map (·.1)) : ∃ (i : Nat) (r : Res) (ns : List Str), W[i]? = some r ∧ IsIns r a Cl ns ∧ m ∉ ns := h.elim fun i h => ⟨i, _, _, h, isIns_obj, hm⟩
in #guard_msgs in open Nat
end
theorem putD_nil {f : Str} {v : D} : putD f v [] = [(f, v)] := rfl
theorem putD_same {f : Str} {v x : D} {r : List (Str × D)} : putD f v ((f, x) :: r) = (f, v) :: r := if_pos rfl
theorem putD_ne {f g : Str} {v x : D} {r r' : List (Str × D)} (ne : g ≠ f) (h : putD f v r = r') : putD f v ((g, x) :: r) = (g, x) :: r' := by
  rw [← h]
  exact if_neg ne
in #guard_msgs in open Nat
theorem put_at {K : PySem.W.Frag} {W : List Res} {a Cl : Addr} {f : Str} {d : D} {fs fs' : List (Str × D)} {R : List Res → Prop} {i : Nat} (h : W[i]? = some (obj K a Cl fs)) (hp : putD f d fs = fs') (hl : fs.length < 1000) (r : R (W.set i (obj K a Cl fs'))) : ∃ (i : Nat) (fs : List (Str × D)), W[i]? = some (obj K a Cl fs) ∧ fs.length < 1000 ∧ R (W.set i (obj K a Cl (putD f d fs))) := ⟨i, fs, h, hl, by rw [hp]; exact r⟩
in #guard_msgs in open Nat
theorem xs_normW {K : PySem.W.Frag} {Z : Zx} {t : TS} {ρ : List Sl} {W W' : List Res} {P : AEnds} (e : W = W') (h : XS K Z t ρ W' P) : XS K Z t ρ W P := e ▸ h
theorem gSetW {K : PySem.W.Frag} {Z : Zx} {t : TS} {ρ : List Sl} {i : Nat} {r : Res} {W : List Res} {P : AEnds} (h : XS K Z t ρ (W.set i r) P) : XS K Z t ρ (W.set i r) P := h
in #guard_msgs in open Nat
/-- x = a new tuple of scalars: durable -/
def tAsgT (te : TE) (i : Nat) : TS := tAsg te (gName i)
theorem ps_asT {X : Cx} {st : Stmt} {te : TE} {i : Nat} (h : PS X st (tAsg te (gName i))) : PS X st (tAsgT te i) := h
theorem xs_asgT {K : PySem.W.Frag} {Z : Zx} {ρ : List Sl} {W : List Res} {P : AEnds} {te : TE} {i : Nat} (h : XE K Z te (vf ρ) W fun d W' => noLs d = true ∧ P.nx (ρ.set i (.sh d)) W') : XS K Z (tAsgT te i) ρ W P := fun F R ok C H σ A G s r =>
  h σ C _ H G r.pf r.ef _ fun d v W' C' H' G' ⟨sc, hq⟩ n dv => by
    have p1 := r.pf.next n
    have n2 := n.tups
    obtain ⟨A', r'⟩ := (r.next n2).setSh (noL_tup (C := C') p1.bh sc dv) i
    exact ok.nx hq (s.trans n2.cc) r'
in #guard_msgs in open Nat
theorem xs_norm {K : PySem.W.Frag} {Z : Zx} {t : TS} {ρ ρ' : List Sl} {W : List Res} {P : AEnds} (e : ρ = ρ') (h : XS K Z t ρ' W P) : XS K Z t ρ W P := e ▸ h
theorem gSetX {K : PySem.W.Frag} {Z : Zx} {t : TS} {ρ : List Sl} {i : Nat} {s : Sl} {W : List Res} {P : AEnds} (h : XS K Z t (ρ.set i s) W P) : XS K Z t (ρ.set i s) W P := h
in #guard_msgs in open Nat
theorem gRhoE {K : PySem.W.Frag} {Z : Zx} {t : TS} {N : List Str} {ds : List D} {W : List Res} {P : AEnds} (h : XS K Z t (ρe N ds) W P) : XS K Z t (ρe N ds) W P := h
in #guard_msgs in open Nat
theorem gRho0 {K : PySem.W.Frag} {Z : Zx} {t : TS} {N : List Str} {ds : List D} {W : List Res} {P : AEnds} (h : XS K Z t (ρ0 N ds) W P) : XS K Z t (ρ0 N ds) W P := h
in #guard_msgs in open Nat
theorem ent_pick {W rest : List Res} {r : Res} (i : Nat) (h : W[i]? = some r) (t : Ent (W.eraseIdx i) rest) : Ent W (r :: rest) := Ent.trans (Ent.pick h) (Ent.app (Ent.refl [r]) t)
in #guard_msgs in open Nat
theorem ent_nil {W : List Res} : Ent W [] := Ent.drop (W := []) (W' := W)
theorem tD_map (ws : List Str) : D.tup (ws.map D.str) = tD (ws.map Sum.inr) := by
  unfold tD
  rw [List.map_map]
  rfl
section
variable {K : PySem.W.Frag} {W : List Res} {p : Addr} {y d : D} {R : List Res → Prop}
theorem gets_atT {ks : List (List Key × D)} {k : List Key} {R : Option D → Prop} (h : ∃ i : Nat, W[i]? = some (cel K p (.dt ks))) (e : y = tD k) (r : R (gK ks k)) : ∃ o, Gets K W (.op (.ref p)) y o ∧ R o := h.elim fun i h => ⟨_, .t ks k (.at i h) e, r⟩
in #guard_msgs in open Nat
theorem gets_atK {ks : List (Key × D)} {k : Key} {R : Option D → Prop} (h : ∃ i : Nat, W[i]? = some (cel K p (.dk ks))) (e : y = kD k) (r : R (gK ks k)) : ∃ o, Gets K W (.op (.ref p)) y o ∧ R o := h.elim fun i h => ⟨_, .k ks k (.at i h) e, r⟩
in #guard_msgs in open Nat
theorem gets_dT {ks : List (List Key × D)} {k : List Key} {R : Option D → Prop} (e : y = tD k) (r : R (gK ks k)) : ∃ o, Gets K W (.dt ks) y o ∧ R o := ⟨_, .t ks k .of e, r⟩
in #guard_msgs in open Nat
theorem gets_dK {ks : List (Key × D)} {k : Key} {R : Option D → Prop} (e : y = kD k) (r : R (gK ks k)) : ∃ o, Gets K W (.dk ks) y o ∧ R o := ⟨_, .k ks k .of e, r⟩
in #guard_msgs in open Nat
theorem gets_some {x : D} {R : D → Prop} (h : ∃ o, Gets K W x y o ∧ ∃ d, o = some d ∧ R d) : ∃ d, Gets K W x y (some d) ∧ R d := by
  obtain ⟨o, g, d, e, r⟩ := h
  subst e
  exact ⟨d, g, r⟩
in #guard_msgs in open Nat
theorem dputT_at {ks : List (List Key × D)} {k : List Key} (i : Nat) (h : W[i]? = some (cel K p (.dt ks))) (e : y = tD k) (hl : ks.length < 100000) (r : R (W.set i (cel K p (.dt (pK ks k d))))) : ∃ (i : Nat) (ks : List (List Key × D)) (k : List Key), W[i]? = some (cel K p (.dt ks)) ∧ y = tD k ∧ ks.length < 100000 ∧ R (W.set i (cel K p (.dt (pK ks k d)))) := ⟨i, ks, k, h, e, hl, r⟩
in #guard_msgs in open Nat
theorem dputK_at {ks : List (Key × D)} {k : Key} (i : Nat) (h : W[i]? = some (cel K p (.dk ks))) (e : y = kD k) (hl : ks.length < 100000) (r : R (W.set i (cel K p (.dk (pK ks k d))))) : ∃ (i : Nat) (ks : List (Key × D)) (k : Key), W[i]? = some (cel K p (.dk ks)) ∧ y = kD k ∧ ks.length < 100000 ∧ R (W.set i (cel K p (.dk (pK ks k d)))) := ⟨i, ks, k, h, e, hl, r⟩
in #guard_msgs in open Nat
theorem cel_at {ds : List D} (h : ∃ i : Nat, W[i]? = some (cel K p (.lst ds))) : ∃ (i : Nat) (ds : List D), W[i]? = some (cel K p (.lst ds)) := h.elim fun i h => ⟨i, ds, h⟩
in #guard_msgs in open Nat
theorem cel_and {ds : List D} {B : Prop} (h : ∃ i : Nat, W[i]? = some (cel K p (.lst ds))) (b : B) : (∃ (i : Nat) (ds : List D), W[i]? = some (cel K p (.lst ds))) ∧ B := ⟨h.elim fun i h => ⟨i, ds, h⟩, b⟩
in #guard_msgs in open Nat
theorem app_at {ds : List D} (i : Nat) (h : W[i]? = some (cel K p (.lst ds))) (hl : ds.length < 100000) (r : R (W.set i (cel K p (.lst (ds ++ [d]))))) : ∃ (i : Nat) (ds : List D), W[i]? = some (cel K p (.lst ds)) ∧ ds.length < 100000 ∧ R (W.set i (cel K p (.lst (ds ++ [d])))) := ⟨i, ds, h, hl, r⟩
in #guard_msgs in open Nat
theorem vw_at {ds : List D} {R : List D → Prop} (h : ∃ i : Nat, W[i]? = some (cel K p (.lst ds))) (r : R ds) : ∃ ds, Vw K (.op (.ref p)) W (.lst ds) ∧ R ds := ⟨ds, .at' h, r⟩
in #guard_msgs in open Nat
end
theorem xs_appendCC {K : PySem.W.Frag} {Z : Zx} {ρ : List Sl} {W : List Res} {P : AEnds} {to te : TE} (h : XE K Z to (vd ρ) W fun o W1 => ∃ p, o = .op (.ref p) ∧ (∃ (i : Nat) (ds : List D), W1[i]? = some (cel K p (.lst ds))) ∧ XE K Z te (vd ρ) W1 fun d W2 => ∃ (i : Nat) (ds : List D), W2[i]? = some (cel K p (.lst ds)) ∧ ds.length < 100000 ∧ P.nx ρ (W2.set i (cel K p (.lst (ds ++ [d]))))) : XS K Z (tAppC K to te) ρ W P := xs_appendC h
in #guard_msgs in open Nat
/-- a new list, durable from the start -/
def frzC (C' H' : Hp) (l : Addr) : Hp := fun b => if b = l then H' l else C' b
theorem frzC_at {C' H' : Hp} {l : Addr} : frzC C' H' l l = H' l := if_pos rfl
theorem frzC_ne {C' H' : Hp} {l b : Addr} (n : b ≠ l) : frzC C' H' l b = C' b := if_neg n
theorem frzC_l {C' H' : Hp} {l : Addr} (cl : C' l = none) : Same C' (frzC C' H' l) := fun b o e => by rw [frzC_ne fun z => by rw [z, cl] at e; cases e]; exact e
theorem frzC_r {C' H' : Hp} {l : Addr} (ch : Same C' H') : Same (frzC C' H' l) H' := fun b o e => by
  by_cases z : b = l
  · rw [z, frzC_at] at e
    rw [z]
    exact e
  · rw [frzC_ne z] at e
    exact ch b o e
in #guard_msgs in open Nat
theorem Nx.frz {C H C' H' : Hp} {G G' : List Addr} {W' : List Res} {l : Addr} (n : Nx C H G C' H' W' G') (nl : H l = none) (cl : C' l = none) (gl : l ∉ G') : Nx C H G (frzC C' H' l) H' W' G' :=
  ⟨n.cc.trans (frzC_l cl), frzC_r n.ch, n.fr, n.dm, fun a h => by rw [frzC_ne fun (z : a = l) => h.1 (by rw [z]; exact nl)]; exact n.od a h, n.gg, n.res.mono (frzC_l cl) (fun a m => by rw [frzC_ne fun (z : a = l) => gl (by rw [← z]; exact m)]; exact (n.res.there a m).1) (fun _ _ => rfl), n.dh⟩
in #guard_msgs in open Nat
def tAppF (K : PySem.W.Frag) (to te : TE) : TS := tDrop (tBM K "list" rAppend to (tCons te tNil))
theorem ps_apCF {X : Cx} {st : Stmt} {te to : TE} {K : PySem.W.Frag} (h : PS X st (tDrop (tBM K "list" rAppend to (tCons te tNil)))) : PS X st (tAppF K to te) := h
in #guard_msgs in open Nat
/-- xs.append(a new list of scalars), xs held -/
theorem xs_appendCF {K : PySem.W.Frag} {Z : Zx} {ρ : List Sl} {W : List Res} {P : AEnds} {to te : TE} (h : XE K Z to (vd ρ) W fun o W1 => ∃ p, o = .op (.ref p) ∧ (∃ (i : Nat) (ds : List D), W1[i]? = some (cel K p (.lst ds))) ∧ XN K Z te (vf ρ) W1 fun d W2 => flatD d = true ∧ ∃ (i : Nat) (ds : List D), W2[i]? = some (cel K p (.lst ds)) ∧ ds.length < 100000 ∧ P.nx ρ (W2.set i (cel K p (.lst (ds ++ [d]))))) : XS K Z (tAppF K to te) ρ W P := fun F R ok C H σ A G s r =>
  h σ C C H G r.pd r.ed _ fun o vo W1 C1 H1 G1 ⟨p, e, ⟨i0, ds0, h0⟩, h1⟩ n1 dx => by
    subst e
    cases dx
    have r1 := r.next n1
    obtain ⟨⟨vs0, g1, _⟩, _⟩ := n1.res.cel h0
    refine ⟨.inl ⟨rfl, vs0, Sq_of g1⟩, h1 σ C1 _ H1 G1 r1.pf r1.ef _ fun d v W2 C2 H2 G2 ⟨fl, i, ds, hi, hl, hn⟩ n2 ⟨l, ev, nl, bl, gl, c⟩ => ?_⟩
    subst ev
    have cl : C2 l = none := by rwa [ov_new (r1.pf.bh.free nl)] at bl
    have n3 := n2.frz nl cl gl
    have r2 := r1.next n3
    obtain ⟨⟨vs, g2, g3⟩, _⟩ := n3.res.cel hi
    have dv' : Dv K (frzC C2 H2 l) (.ref l) d := (cell_flat (B' := C2) c fl).dv (frzC_l cl) frzC_at
    have x := r2.pd.put (d' := .lst (ds ++ [d])) (o := .lst (vs ++ [.ref l])) hi ⟨_, upd_same, g3.append (.cons dv' .nil)⟩
    exact ⟨p, vs, .ref l, rfl, rfl, g2, smallL (by rw [g3.len]; exact hl), ok.nx hn (s.trans (n1.cc.trans n3.cc)) (r2.next x)⟩
in #guard_msgs in open Nat
theorem pe_revLK {X : Cx} {K : PySem.W.Frag} {e : Expr} {te : TE} {k : Nat} {p1 p2 p3 pos : Pos} (hK : X.K = K) (he : PE X e te) : PE X (.Subscript e (.Slice none none (some (.UnaryOp .USub (.Constant (.int 1) k p1) p2)) p3) pos) (tRevL K te) := by subst hK; exact pe_revL he
in #guard_msgs in open Nat
theorem xn_revL {K : PySem.W.Frag} {Z : Zx} {ρ : List Sl} {W : List Res} {te : TE} {q : D → List Res → Prop} (h : XE K Z te ρ W fun x W1 => ∃ ds, Vw K x W1 (.lst ds) ∧ q (.lst ds.reverse) W1) : XN K Z (tRevL K te) ρ W q := fun σ C B H G p E Q k => h σ C B H G p E _ fun x v W1 C1 H1 G1 ⟨ds, vw, hq⟩ n1 dx => by
  have p1 := p.next n1
  obtain ⟨a, vs, rfl, h1, h2⟩ := vw.lst p1 dx
  refine ⟨a, vs, rfl, Sq_of h1, fun l np => ?_⟩
  have s := same_upd (o := HO.lst vs.reverse) np
  refine k _ _ W1 _ _ G1 hq (n1.trans (p1.new s np)) (rN_up n1.dm ?_)
  rw [← ov_ov (p1.new s np).cc]
  exact p1.newR s np ⟨_, upd_same, (h2.mono (same_remx p1.bh np)).rev⟩
in #guard_msgs in open Nat
theorem meth_and {K : PySem.W.Frag} {W : List Res} {a Cl : Addr} {m : Str} {fs : List (Str × D)} {B : Prop} (h : ∃ i : Nat, W[i]? = some (obj K a Cl fs)) (hm : m ∉ fs.map (·.1)) (b : B) : (∃ (i : Nat) (r : Res) (ns : List Str), W[i]? = some r ∧ IsIns r a Cl ns ∧ m ∉ ns) ∧ B := ⟨meth_at h hm, b⟩
in #guard_msgs in open Nat
theorem yg_nameT {K : PySem.W.Frag} {Z : Zx} {j : Nat} {x : D} {ρ : List Sl} {W : List Res} {n : List Sl → List Res → Prop} (h : n (ρ.set j (.sh x)) W) : XG K Z true (gName j) x ρ W n := xg_name (by rw [if_pos rfl]; exact h)
in #guard_msgs in open Nat
theorem yg_nameF {K : PySem.W.Frag} {Z : Zx} {j : Nat} {x : D} {ρ : List Sl} {W : List Res} {n : List Sl → List Res → Prop} (h : n (ρ.set j (ent x)) W) : XG K Z false (gName j) x ρ W n := xg_name (by rw [if_neg Bool.false_ne_true]; exact h)
in #guard_msgs in open Nat
section
variable {K : PySem.W.Frag} {Z : Zx} {ρ : List Sl} {W : List Res} {te : TE} {tt : TT} {j : Nat} {q : D → List Res → Prop}
/-- a comprehension of data, beside what is held -/
theorem xlc_of {xs : List D} (h : ALc K xs j tt te ρ fun d => q d W) : XLc K Z xs j tt te ρ W q := by
  obtain ⟨Iv, h0, hs, hd⟩ := h
  refine ⟨fun i acc W' => Iv i acc ∧ W' = W, ⟨h0, rfl⟩, fun i x acc W1 hx hI => ?_, fun ys W' hI => by rw [hI.2]; exact hd ys hI.1⟩
  obtain ⟨hI, rfl⟩ := hI
  refine xt_of ?_
  exact fun B H σ s E Q k => hs i x acc hx hI B H σ s E Q fun b H' hb s' => k b H' ⟨fun e => xe_of (ae_mono (hb.1 e) fun d hd => ⟨hd.1, hd.2, rfl⟩), fun e => ⟨hb.2 e, rfl⟩⟩ s'
in #guard_msgs in open Nat
/-- .. over a tuple -/
theorem xn_lcT {tl : TE} {vs : List Nat} (hv : vs = [j]) (h : XE K Z tl ρ W fun d W1 => ∃ xs, d = .tup xs ∧ XLc K Z xs j tt te ρ W1 q) : XN K Z (tLc (iTup K tl) (gName j) tt te vs) ρ W q := by
  subst hv
  exact fun σ C B H G p E Q k => w_lcT (h σ C B H G p E _ fun d v W1 C1 H1 G1 ⟨xs, ed, Iv, h0, hs, hd⟩ n1 dv => by
    subst ed
    have p1 := p.next n1
    have E1 := E.mono (ov_l (C := C1))
    have dv : Dv K (ov B C1) v (.tup xs) := dv
    cases dv with
    | @tup a ws _ h1 h2 =>
      have hS : SqT K (ov B C1) a ws := .inl (.inl h1)
      refine lcT (K := K) (seqT_up p1.bh hS) (fun D0 i H' => LcAt K Z C1 (ov B C1) H1 G1 D0 (Iv i) H') (fun D0 nD => lcx_start p1 h0 nD) (fun D0 i H' _ hh => ?_) ?_ ?_
      · obtain ⟨_, C2, W2, G2, acc, ws', hI, p2, _⟩ := hh
        exact seqT_up ((ov_l).trans p2.bh) hS
      · rintro D0 i x H' hi hh
        obtain ⟨dx, e1, e2⟩ := h2.at' hi
        exact lcx_step p1 E1 (fun C' => e2.mono ov_l) (fun acc W2 hI => hs i dx acc W2 e1 hI) hh
      · rintro D0 H' nD hh
        rw [h2.len] at hh
        exact lcx_end hh hd fun d v W' C' H' G' hq n dn => k d v W' C' H' G' hq (n1.trans n) (rN_up n1.dm (by rw [ov_ov n.cc] at dn; exact dn)))
in #guard_msgs in open Nat
end
/-- a, b = .. -/
theorem xs_asgG {K : PySem.W.Frag} {Z : Zx} {ρ : List Sl} {W : List Res} {P : AEnds} {te : TE} {g : TG} (h : XE K Z te (vd ρ) W fun d W' => XG K Z true g d ρ W' P.nx) : XS K Z (tAsg te g) ρ W P := fun F R ok C H σ A G s r =>
  h σ C C H G r.pd r.ed _ fun d v W1 C1 H1 G1 hg n1 dv => by
    have r1 := r.next n1
    have dv' : Dv K C1 v d := by
      have dv0 : Dv K (ov C C1) v d := dv
      rwa [ov_same n1.cc] at dv0
    exact hg C1 H1 σ A G1 v r1 (by rw [if_pos rfl]; exact dv') _ fun ρ' W' C' H' σ' A' G' hn sC r' => ok.nx hn (s.trans (n1.cc.trans sC)) r'
in #guard_msgs in open Nat
/-- what stands behind a statement, told ahead by a relation -/
theorem xs_cutR {K : PySem.W.Frag} {Z : Zx} {ρ : List Sl} {W : List Res} {P : AEnds} {t : TS} (R : List Sl → List Res → Prop) (h : XS K Z t ρ W ⟨fun ρ3 W3 => ∃ ρ' W', Wk ρ3 ρ' ∧ Ent W3 W' ∧ R ρ' W', P.rt, P.rn, P.bk, P.ct⟩) (hn : ∀ ρ' W', R ρ' W' → P.nx ρ' W') : XS K Z t ρ W P := fun F Rr ok C H σ A G s r =>
  h F Rr ⟨fun hw s' r' => by
    obtain ⟨ρ', W', w, e, hI⟩ := hw
    obtain ⟨A', r2⟩ := r'.wk w
    obtain ⟨G', n, _⟩ := Nx.ent (Nx.refl r2.nx.res r2.nx.ch) e
    exact ok.nx (hn _ _ hI) s' (r2.next n), ok.bk, ok.ct, ok.rt, ok.rn⟩ C H σ A G s r
in #guard_msgs in open Nat
/-- d[k] = v with a text or a number as key: of an own dict, or of one that is held -/
def sDPutX (td ty tv : TE) : TS := sDPut td ty tv
theorem ps_dX {X : Cx} {st : Stmt} {td ty tv : TE} (h : PS X st (sDPut td ty tv)) : PS X st (sDPutX td ty tv) := h
section
variable {K : PySem.W.Frag} {Z : Zx} {ρ : List Sl} {W : List Res} {P : AEnds} {td ty tv : TE}
theorem xs_dputKX {i : Nat} {ks : List (Key × D)} (e : ρ[i]? = some (.own (.dk ks))) (h : XE K Z tv (vd ρ) W fun d W1 => XE K Z ty (vf ρ) W1 fun y W2 => ∃ k, y = kD k ∧ ks.length < 100000 ∧ P.nx (ρ.set i (.own (.dk (pK ks k d)))) W2) : XS K Z (sDPutX (tVar i) ty tv) ρ W P := xs_dputK e h
in #guard_msgs in open Nat
theorem xs_dputX (h : XE K Z tv (vd ρ) W fun d W1 => XE K Z td (vd ρ) W1 fun o W2 => ∃ p, o = .op (.ref p) ∧ XE K Z ty (vf ρ) W2 fun y W3 => ∃ (i : Nat) (ks : List (Key × D)) (k : Key), W3[i]? = some (cel K p (.dk ks)) ∧ y = kD k ∧ ks.length < 100000 ∧ P.nx ρ (W3.set i (cel K p (.dk (pK ks k d))))) : XS K Z (sDPutX td ty tv) ρ W P := xs_dputC h
in #guard_msgs in open Nat
theorem own_put {α : Type} {ks : List α} {y : D} {k : Key} {R : Key → Prop} (e : y = kD k) (hl : ks.length < 100000) (r : R k) : ∃ k, y = kD k ∧ ks.length < 100000 ∧ R k := ⟨k, e, hl, r⟩
in #guard_msgs in open Nat
end
end Tg

/-! The engine: dicts walked, further. -/
namespace Tg
open PySem PySem.Spec L2 NdefX LamX
section
variable {K : PySem.W.Frag} {Z : Zx} {C C' B H H' F : Hp} {σ : L2.St} {ρ : List Sl} {W W' : List Res} {A G : List Addr} {P : AEnds} {i j : Nat} {t : TS}
/-- .. over d.keys() -/
theorem xs_forKM {td : TE} {g : TG} {tb : TS} (h : XE K Z td (vd ρ) W fun d W' => ∃ (v : V) (i : Nat) (ks : List (Key × D)), d = .op v ∧ W'[i]? = some (fzd K v (.dk ks)) ∧ (∀ k ∈ ks.map (·.1), okK [k]) ∧ XForK K Z (ks.map (·.1)) g tb ρ W' P) : XS K Z (tFor (iKeysM td) g tb) ρ W P := fun F R ok C H σ A G s r => by
  refine h σ C C H G r.pd r.ed _ fun d v W1 C1 H1 G1 ⟨v', i, ks, ed, hi, hok, Iv, h0, hs, hd⟩ n1 dv => ?_
  subst ed
  cases dv
  have r1 := r.next n1
  obtain ⟨a, o, ev, hh⟩ := n1.res.fzd hi
  rcases hh with ⟨_, _, e1, _⟩ | ⟨ks', kvs, e1, g1, g2⟩
  · cases e1
  · cases e1
    subst ev
    have ek := dvk_keys g2
    have el : kvs.length = (ks.map (·.1)).length := by rw [← ek, List.length_map]
    refine ⟨a, o, kvs, rfl, r1.nx.ch _ _ g1, ?_⟩
    refine ⟨fun i m σ' H' => m = kvs.length - i ∧ i ≤ kvs.length ∧ LPx K Z C1 (Iv i) σ' H', ⟨_, rfl, Nat.zero_le _, lpx_wk h0 (Same.refl _) r1⟩, ?_⟩
    rintro i m σ' H' ⟨rfl, hi, ρ', W', C', A', G', hI, s', r'⟩
    have hH : H' a = some (.frz o (.dK kvs)) := r'.nx.ch _ _ (s' _ _ g1)
    by_cases hlt : i < kvs.length
    · refine .inr ⟨⟨hH, hlt⟩, LPx K Z C1 (Iv (i + 1)), fun σ2 H2 p2 => ⟨kvs.length - (i + 1), by omega, rfl, hlt, p2⟩, fun x H2 y => ?_⟩
      obtain ⟨e2, k, vv, h1, h2⟩ := y
      subst e2 h2
      have hk : (ks.map (·.1))[i]? = some k := by rw [← ek, List.getElem?_map, h1]; rfl
      have d2 : Dv K C' (kV k) (kD k) := by
        have ok1 := hok k (List.mem_of_getElem? hk)
        cases k with
        | inl i => exact .int i
        | inr z => exact .str z (ok1 z List.mem_cons_self)
      refine hs i k ρ' W' hk hI C' H2 σ' A' G' _ r' d2 _ fun ρ2 W2 B2 H3 σ2 A2 G2 h2 s2 r2 => ?_
      exact h2 C1 _ (ok.loop (s.trans n1.cc)) B2 H3 σ2 A2 G2 (s'.trans s2) r2
    · have e : i = kvs.length := by omega
      subst e
      rw [el] at hI
      exact .inl ⟨⟨hH, Nat.le_refl _⟩, ok.nx (hd _ _ hI) (s.trans (n1.cc.trans s')) r'⟩
in #guard_msgs in open Nat
/-- .. whose keys are texts -/
theorem xforKN {xs : List Str} {g : TG} {tb : TS} (Iv : Nat → List Sl → List Res → Prop) (h0 : ∃ ρ' W', Wk ρ ρ' ∧ Ent W W' ∧ Iv 0 ρ' W')
    (hs : ∀ i x ρ' W', xs[i]? = some x → Iv i ρ' W' → XG K Z true g (.str x) ρ' W' fun ρ2 W2 => XS K Z tb ρ2 W2 (loopP P (Iv (i + 1)))) (hd : ∀ ρ' W', Iv xs.length ρ' W' → P.nx ρ' W') : XForK K Z (xs.map .inr) g tb ρ W P := ⟨Iv, h0, fun i k ρ' W' hx hI => by
    rw [List.getElem?_map] at hx
    cases h : xs[i]? with
    | none => rw [h] at hx; cases hx
    | some y =>
      rw [h] at hx
      cases hx
      exact hs i y ρ' W' h hI, fun ρ' W' h => by
    rw [List.length_map] at h
    exact hd ρ' W' h⟩
in #guard_msgs in open Nat
end
section
variable {K : PySem.W.Frag} {mg : Str → Option Value} {Z : Zx} {C C' B H H' F : Hp} {σ : L2.St} {ρ : List Sl} {W W' : List Res} {A G : List Addr} {P : AEnds} {i j : Nat} {d : D} {t : TS} {q : D → List Res → Prop} {tl : TA}
/-- a def that changes nothing and refuses with one list of its own: the list is durable -/
theorem eok_ofD {x' : Str → List (Str × D) → Prop} {E : XK} {xE : XX} (p : Pr K Z W C B H G) (hE : EOkW K Z mg E xE) (hx : ∀ c fs, x' c fs → ∃ f xs, fs = [(f, .lst xs)] ∧ xs.all noLs = true ∧ xE c fs W) : EOkX K mg B H E x' := fun c Cl dd vfs fs H' hm hxx s nd hd hF hfr => by
  obtain ⟨f, xs, rfl, nl, hxE⟩ := hx c fs hxx
  cases hF with
  | @cons _ v vfs' _ _ h1 h2 =>
    cases h2
    have ex := ext_r p.bh s
    cases h1 with
    | @lst l vs _ e1 e2 =>
      have hl : H l = none := hfr f l xs (by simp [List.lookup]) (by simp [List.lookup])
      have ld : l ≠ dd := fun z => by rw [z, rem_at] at e1; cases e1
      have e1' : ext B H H' l = some (.lst vs) := by rwa [rem_off ld] at e1
      have hl' : H' l = some (.lst vs) := ex _ _ e1'
      have n1 := (p.new s hl).tups
      have lt : ∀ ys, H' l ≠ some (.tup ys) := fun ys z => by rw [hl'] at z; cases z
      have cl : tupC (rem (ext C H H') l) H' l = none := by rw [tupC_off lt]; exact rem_at
      have c1 : Cell K (tupC (rem (ext C H H') l) H') H' l (.lst xs) := ⟨vs, hl', noLL_tup (rem_same.trans ex) nl e2⟩
      have n2 := n1.frz hl cl (fun m => (p.nx.res.there l m).2 hl)
      have nd0 : Z.H0 dd = none := by
        cases e : Z.H0 dd with
        | none => rfl
        | some o => exact absurd nd (p.nx.dm dd (ne_none e))
      have hdd : frzC (tupC (rem (ext C H H') l) H') H' l dd = some (.xd [(f, .ref l)]) := by
        rw [frzC_ne (Ne.symm ld), tupC_off (fun ys z => by rw [hd] at z; cases z), rem_off (Ne.symm ld), ext_new nd]
        exact hd
      exact hE c Cl dd _ _ _ _ H' _ hm hxE (p.nx.trans n2) (p.lk.next n2) nd0 hdd (.cons (c1.dv (frzC_l cl) frzC_at) .nil)
in #guard_msgs in open Nat
/-- f(..), f a def that changes nothing and may refuse: the refusal's list is durable -/
theorem xe_callXD {T : List D → (D → Prop) → (Str → List (Str × D) → Prop) → Prop} {Ef : L2.St → XK} {xE : XX} (hE : EOkS K Z mg Ef ρ xE) (h : XA K Z tl ρ W fun ds W1 => T ds (fun d => q d W1) fun c fs => ∃ f xs, fs = [(f, .lst xs)] ∧ xs.all noLs = true ∧ xE c fs W1) : XE K Z (tCallSD (pfx K mg T) [] Ef tl) ρ W q := fun σ C B H G p En Q k => h σ C B H G p En _ fun ds vs W1 C1 H1 G1 hT n1 dx => by
  have p1 := p.next n1
  refine ⟨ov B C1, ds, _, _, p1.bh, by rw [List.append_nil]; exact dx, hT, fun d v H' hq s2 dv => ?_, ?_⟩
  · have x2 := p1.same s2
    refine k d v W1 _ H' G1 hq (n1.trans x2) ?_
    show Dv _ _ _ _
    rw [← ov_ov x2.cc, ov_ext p1.cb p1.bh]
    exact dv
  · exact eok_ofD p1 (hE σ ⟨B, En⟩) fun c fs h => h
in #guard_msgs in open Nat
end
section
variable {K : PySem.W.Frag} {mg : Str → Option Value} {Z : Zx} {ρ : List Sl} {W : List Res} {q : D → List Res → Prop} {tl : TA} {ta : TE} {Cl : Addr} {m : Str} {E : XK} {xE : XX} {T : TX}
theorem DvL.snocN {B : Hp} : ∀ {vs : List V} {ds : List D}, DvL K B vs ds → DvL K B (vs ++ [V.non]) (ds ++ [D.non])
  | _, _, .nil => .cons .non .nil
  | _, _, .cons h t => .cons h (DvL.snocN t)
in #guard_msgs in open Nat
/-- o.m(..), the last argument left out: None -/
theorem xe_methD (hE : EOkW K Z mg E xE) (h : XE K Z ta ρ W fun d W1 => ∃ a, d = .op (.ref a) ∧ (∃ (i : Nat) (r : Res) (ns : List Str), W1[i]? = some r ∧ IsIns r a Cl ns ∧ m ∉ ns) ∧ XA K Z tl ρ W1 fun ds W2 => CallX T (d :: (ds ++ [.non])) W2 q xE) : XE K Z (tMeth Cl m (pxf K mg T) [.non] E ta tl) ρ W q := fun σ C B H G p En Q k => h σ C B H G p En _ fun d v W1 C1 H1 G1 ⟨a, e, ⟨i, r, ns, hi, hI, hm⟩, hA⟩ n1 dv => by
  subst e
  cases dv
  have p1 := p.next n1
  obtain ⟨fp, hP, _⟩ := n1.res.get hi
  obtain ⟨dx, vfs, h1, h2⟩ := hI hP
  refine ⟨a, dx, vfs, rfl, h1, look_no (by rw [h2]; exact hm), hA σ C1 _ H1 G1 p1 (En.mono ov_l) _ fun ds vs W2 C2 H2 G2 hT n2 dx => ?_⟩
  have n12 := n1.trans n2
  have dx' : DvL K (ov B C2) vs ds := by
    have dx0 : DvL K (ov (ov B C1) C2) vs ds := dx
    rw [ov_ov n2.cc] at dx0
    exact dx0
  exact call_at (p.next n12) hE (.cons (.op _) dx'.snocN) hT fun d v W' C' H' G' hq n3 dv => k d v W' C' H' G' hq (n12.trans n3) (by rw [ov_ov n3.cc] at dv; exact dv)
in #guard_msgs in open Nat
end
/-- dict(d), d with texts or numbers as keys -/
def qDictOf : List V → Hp → VK → Prop := fun xs H Q => ∃ (a : Addr) (kvs : List (Key × V)), xs = [.ref a] ∧ Rd H a (.dK kvs) ∧ ∀ p, H p = none → Q (.ref p) (upd H p (.dK kvs))
theorem call_dictQ {X : Cx} : CallR X (.type "dict") qDictOf := call_dictD
section
variable {K : PySem.W.Frag} {Z : Zx} {ρ : List Sl} {W : List Res} {q : D → List Res → Prop} {x : D}
theorem xln_dictD {ks : List (Key × D)} (v : Vw K x W (.dk ks)) (hq : q (.dk ks) W) : XLN K Z qDictOf [x] W q := fun vs C B H G p dv Q k => by
  obtain ⟨vx, rfl, dx⟩ := dvl_one dv
  obtain ⟨a, ws, e1, e2, e3⟩ := v.dk p dx
  subst e1
  refine ⟨_, _, rfl, e2, fun l np => ?_⟩
  exact k _ _ W _ _ G hq (p.new (same_upd np) np) (p.newR (same_upd np) np ⟨_, upd_same, e3.mono (same_remx p.bh np)⟩)
in #guard_msgs in open Nat
end
section
variable {K : PySem.W.Frag} {Z : Zx} {ρ : List Sl} {W : List Res} {P : AEnds} {t : TS}
/-- a slot's text is a good one -/
theorem xs_ok {z : Str} (i : Nat) (e : (vd ρ)[i]? = some (.sh (.str z))) (h : okS z → XS K Z t ρ W P) : XS K Z t ρ W P := fun F R ok C H σ A G s r => by
  obtain ⟨v, _, dv⟩ := r.ed.2 i _ e
  cases dv with
  | str _ o => exact h o F R ok C H σ A G s r
in #guard_msgs in open Nat
/-- a slot's texts are good ones -/
theorem xs_okN {ns : List Str} (i : Nat) (e : (vb ρ)[i]? = some (.sh (eNs ns))) (h : (∀ n ∈ ns, okS n) → XS K Z t ρ W P) : XS K Z t ρ W P := fun F R ok C H σ A G s r => by
  obtain ⟨v, _, dv⟩ := r.eb.2 i _ e
  cases dv with
  | lst _ o => exact h (okS_all o) F R ok C H σ A G s r
in #guard_msgs in open Nat
end
end Tg

/-! The engine: held lists changed in place. -/
namespace Tg
open PySem PySem.Spec L2 NdefX LamX
section
variable {K : PySem.W.Frag} {mg : Str → Option Value} {Z : Zx} {C C' B H H' F : Hp} {σ : L2.St} {ρ : List Sl} {W W' : List Res} {A G : List Addr} {P : AEnds} {te ti to td ty tv : TE} {q : D → List Res → Prop}
/-- o[i] = v, o a held list -/
theorem xs_setC (h : XE K Z te (vd ρ) W fun d W1 => XE K Z to (vd ρ) W1 fun o W2 => ∃ p, o = .op (.ref p) ∧ XE K Z ti (vf ρ) W2 fun y W3 => ∃ (k : Int) (i j : Nat) (ds : List D), y = .int k ∧ W3[i]? = some (cel K p (.lst ds)) ∧ ixN ds.length k = some j ∧ P.nx ρ (W3.set i (cel K p (.lst (ds.set j d))))) : XS K Z (tAsg te (gSub to ti rSetL)) ρ W P := fun F R ok C H σ A G s r =>
  h σ C C H G r.pd r.ed _ fun d v W1 C1 H1 G1 h1 n1 dv => by
    have r1 := r.next n1
    refine h1 σ C1 C1 H1 G1 r1.pd r1.ed _ fun o vo W2 C2 H2 G2 ⟨p, eo, h2⟩ n2 dx => ?_
    subst eo
    cases dx
    have r2 := r1.next n2
    refine h2 σ C2 _ H2 G2 r2.pf r2.ef _ fun y vy W3 C3 H3 G3 ⟨k, i, j, ds, ey, hi, hj, hn⟩ n3 dy => ?_
    subst ey
    cases dy
    have r3 := r2.next n3
    obtain ⟨⟨vs, g2, g3⟩, _⟩ := n3.res.cel hi
    have dv' := (r.dd n1.cc dv).mono (n2.cc.trans n3.cc)
    have x := r3.pd.put (d' := .lst (ds.set j d)) (o := .lst (vs.set j v)) hi ⟨_, upd_same, g3.set j dv'⟩
    exact ⟨p, vs, k, j, rfl, rfl, g2, by rw [g3.len]; exact hj, ok.nx hn (s.trans (n1.cc.trans (n2.cc.trans n3.cc))) (r3.next x)⟩
in #guard_msgs in open Nat
/-- o.pop(i), o a held list; what goes is not kept -/
theorem xs_popC {tl : TA} (h : XE K Z to (vd ρ) W fun o W1 => ∃ p, o = .op (.ref p) ∧ (∃ (i : Nat) (ds : List D), W1[i]? = some (cel K p (.lst ds))) ∧ XE K Z ti (vf ρ) W1 fun y W2 => ∃ (i j : Nat) (ds : List D), y = .int (j : Nat) ∧ W2[i]? = some (cel K p (.lst ds)) ∧ j < ds.length ∧ ds.length < 100000 ∧ P.nx ρ (W2.set i (cel K p (.lst (ds.eraseIdx j))))) : XS K Z (tDrop (tBM K "list" rPopAt to (tCons ti tNil))) ρ W P := fun F R ok C H σ A G s r =>
  h σ C C H G r.pd r.ed _ fun o vo W1 C1 H1 G1 ⟨p, eo, ⟨i0, ds0, h0⟩, h1⟩ n1 dx => by
    subst eo
    cases dx
    have r1 := r.next n1
    obtain ⟨⟨vs0, g1, _⟩, _⟩ := n1.res.cel h0
    refine ⟨.inl ⟨rfl, vs0, Sq_of g1⟩, h1 σ C1 _ H1 G1 r1.pf r1.ef _ fun y vy W2 C2 H2 G2 ⟨i, j, ds, ey, hi, hj, hl, hn⟩ n2 dy => ?_⟩
    subst ey
    cases dy
    have r2 := r1.next n2
    obtain ⟨⟨vs, g2, g3⟩, _⟩ := n2.res.cel hi
    have hjv : j < vs.length := by rw [g3.len]; exact hj
    have x := r2.pd.put (d' := .lst (ds.eraseIdx j)) (o := .lst (vs.eraseIdx j)) hi ⟨_, upd_same, g3.erase j⟩
    refine ⟨p, vs, j, j, vs[j], rfl, rfl, g2, by omega, by rw [g3.len] at hjv; omega, ?_, List.getElem?_eq_getElem hjv, ok.nx hn (s.trans (n1.cc.trans n2.cc)) (r2.next x)⟩
    exact (ixN_seq (show ixN vs.length (j : Int) = some j by unfold ixN; rw [if_pos (by omega), if_pos (by omega), Int.toNat_natCast])).1
in #guard_msgs in open Nat
/-- d[k] = a new list or dict, held from then on -/
theorem xs_dputXN (h : XN K Z tv (vd ρ) W fun d W1 => ∀ l, XE K Z td (vd ρ) (cel K l d :: W1) fun o W2 => ∃ p, o = .op (.ref p) ∧ XE K Z ty (vf ρ) W2 fun y W3 => ∃ (i : Nat) (ks : List (Key × D)) (k : Key), W3[i]? = some (cel K p (.dk ks)) ∧ y = kD k ∧ ks.length < 100000 ∧ P.nx ρ (W3.set i (cel K p (.dk (pK ks k (.op (.ref l))))))) : XS K Z (sDPutX td ty tv) ρ W P := fun F R ok C H σ A G s r =>
  h σ C C H G r.pd r.ed _ fun d v W1 C1 H1 G1 h1 n1 ⟨l, ev, nl, bl, gl, c⟩ => by
    subst ev
    rw [ov_same n1.cc] at bl c
    have r1 := (r.next n1).hold (r.h0 nl) (fun m => (r.env.there l m).2 nl) gl (r.lkN nl) bl c
    refine h1 l σ C1 C1 H1 _ r1.pd r1.ed _ fun o vo W2 C2 H2 G2 ⟨p, eo, h2⟩ n2 dx => ?_
    subst eo
    cases dx
    have r2 := r1.next n2
    refine h2 σ C2 _ H2 G2 r2.pf r2.ef _ fun y vy W3 C3 H3 G3 ⟨i, ks, k, hi, ey, hl, hn⟩ n3 dy => ?_
    subst ey
    have r3 := r2.next n3
    obtain ⟨⟨vs, g2, g3⟩, _⟩ := n3.res.cel hi
    have x := r3.pd.put (d' := .dk (pK ks k (.op (.ref l)))) (o := .dK (putK vs k (.ref l))) hi ⟨_, upd_same, .of (g3.kv.put (.op _))⟩
    exact ⟨p, _, rfl, .inl ⟨vs, k, g2, kD_v dy, smallL (by rw [g3.kv.len]; exact hl), rfl⟩, ok.nx hn (s.trans (n1.cc.trans (n2.cc.trans n3.cc))) (r3.next x)⟩
in #guard_msgs in open Nat
/-- a new list of scalars, held from then on -/
theorem xe_hold (h : XN K Z te ρ W fun d W1 => ∃ xs, d = .lst xs ∧ xs.all scalD = true ∧ ∀ l, q (.op (.ref l)) (cel K l (.lst xs) :: W1)) : XE K Z te ρ W q := fun σ C B H G p E Q k => h σ C B H G p E _ fun d v W1 C1 H1 G1 ⟨xs, ed, fl, hq⟩ n1 ⟨l, ev, nl, bl, gl, c⟩ => by
  subst ev ed
  have cl : C1 l = none := by rwa [ov_new (p.bh.free nl)] at bl
  obtain ⟨vs, g1, g2⟩ := c
  exact k _ _ _ C1 H1 _ (hq l) (n1.cel nl cl gl ⟨vs, g1, dvl_scal g2 fl⟩) (.op _)
in #guard_msgs in open Nat
end
/-! ### zip -/
/-- for x, y in zip(xs, ys), as many of the one as of the other -/
def XForZ (K : PySem.W.Frag) (Z : Zx) (xs ys : List D) (g : TG) (tb : TS) (ρ : List Sl) (W : List Res) (P : AEnds) : Prop := ∃ Iv : Nat → List Sl → List Res → Prop, (∃ ρ' W', Wk ρ ρ' ∧ Ent W W' ∧ Iv 0 ρ' W') ∧
  (∀ i x y ρ' W', xs[i]? = some x → ys[i]? = some y → Iv i ρ' W' → XG K Z true g (.tup [x, y]) ρ' W' fun ρ2 W2 => XS K Z tb ρ2 W2 (loopP P (Iv (i + 1)))) ∧ ∀ ρ' W', Iv xs.length ρ' W' → P.nx ρ' W'
section
variable {K : PySem.W.Frag} {Z : Zx} {ρ : List Sl} {W W' : List Res} {P : AEnds}
/-- xs durable, ys a held list that stays as it is meanwhile -/
theorem xs_forZC {ta : TA} {g : TG} {tb : TS} (h : XA K Z ta (vd ρ) W fun ds W' => ∃ p, ∃ (xs ys : List D) (Wr : List Res), ds = [.lst xs, .op (.ref p)] ∧ xs.length = ys.length ∧ Ent W' ([cel K p (.lst ys)] ++ Wr) ∧ ∀ o, (p ∈ Z.G0 ∨ Z.H0 p = none) → (∀ q ∈ Z.Lk, q.1 ≠ p) → XForZ K (Z.lock p o (.lst ys)) xs ys g tb ρ Wr (lockP K p (.lst ys) P)) : XS K Z (tFor (iZip K ta) g tb) ρ W P := fun F R ok C H σ A G s r => by
  refine h σ C C H G r.pd r.ed _ fun ds vs W1 C1 H1 G1 ⟨p, xs, ys, Wr, ed, hl, he, hf⟩ n1 dv => ?_
  subst ed
  have dv' : DvL K C1 vs [.lst xs, .op (.ref p)] := by
    have dv0 : DvL K (ov C C1) vs [.lst xs, .op (.ref p)] := dv
    rwa [ov_same n1.cc] at dv0
  obtain ⟨vx, vy, rfl, dx, dy⟩ := dvl_two dv'
  cases dy
  obtain ⟨o, Gr, r2, g0, nl⟩ := (r.next n1).take he
  obtain ⟨ho, _, _, vs, h1, h2⟩ := r2.lk (p, o, .lst ys) List.mem_cons_self
  obtain ⟨Iv, h0, hs, hd⟩ := hf o g0 nl
  have ok2 := (XOk.lock (o := o) (d := .lst ys) ok g0 nl)
  have at_ : ∀ {C' H' σ' ρ' W' A' G'}, Rx K (Z.lock p o (.lst ys)) C' H' σ' ρ' W' A' G' → H' p = some (.lst vs) := fun {C' H' σ' ρ' W' A' G'} r' => by
    have q := (r'.lk (p, o, .lst ys) List.mem_cons_self).1
    rw [← h1, ho]
    exact q
  cases dx with
  | @lst a us _ ha hu =>
    have en : xs.length = min us.length vs.length := by rw [hu.len, h2.len, hl, Nat.min_self]
    refine ⟨a, p, us, vs, rfl, Sq_of (r2.nx.ch _ _ ha), Sq_of h1, for_it (walk_zip (K := K) (a := a) (b := p) (xs := us) (ys := vs) en) (fun i => LPx K (Z.lock p o (.lst ys)) C1 (Iv i)) (lpx_wk h0 (Same.refl _) r2) (fun i σ' H' _ ⟨ρ', W', C', A', G', _, s', r'⟩ => ⟨Sq_of (r'.nx.ch _ _ (s' _ _ ha)), Sq_of (at_ r')⟩) ?_ ?_⟩
    · rintro i x σ' H' H'' hi ⟨ρ', W', C', A', G', hI, s', r'⟩ ⟨T, y, z, rfl, nT, rfl, hy, hz⟩
      obtain ⟨dy, e1, e2⟩ := hu.at' hy
      obtain ⟨dz, e3, e4⟩ := h2.at' hz
      have s2 : Same H' (upd H' T (.tup [y, z])) := same_upd nT
      have x2 := r'.pd.same s2
      have r3 := r'.next x2
      have dT : Dv K (ext C' H' (upd H' T (.tup [y, z]))) (.ref T) (.tup [dy, dz]) := .tup (by rw [ext_new nT, upd_same]) (.cons ((e2.mono s').mono (ext_l r'.nx.ch)) (.cons ((e4.mono s').mono (ext_l r'.nx.ch)) .nil))
      refine hs i dy dz ρ' W' e1 e3 hI _ _ σ' A' G' _ r3 dT _ fun ρ2 W2 B2 H2 σ2 A2 G2 h5 s5 r5 => ?_
      exact h5 C1 _ (ok2.loop (s.trans n1.cc)) B2 H2 σ2 A2 G2 (s'.trans (x2.cc.trans s5)) r5
    · rintro σ' H' ⟨ρ', W', C', A', G', hI, s', r'⟩
      exact ok2.nx (hd _ _ hI) (s.trans (n1.cc.trans s')) r'
in #guard_msgs in open Nat
end
end Tg

/-! The engine: held things in bundles, lists within lists. -/
namespace Tg
open PySem PySem.Spec L2 NdefX LamX
/-! ### bundles -/
/-- several held things, side by side -/
inductive BR (B H : Hp) : List Res → List Addr → Prop
  | nil : BR B H [] []
  | cons {r : Res} {W : List Res} {fp G : List Addr} : r.P B H fp → (∀ a ∈ fp, a ∉ G) → BR B H W G → BR B H (r :: W) (fp ++ G)
theorem BR.frame {B H B' H' : Hp} (e : Same B B') : ∀ {W : List Res} {G : List Addr}, BR B H W G → (∀ a ∈ G, H' a = H a) → BR B' H' W G
  | _, _, .nil, _ => .nil
  | _, _, .cons p d t, h => .cons (Res.frame _ p e fun a m => h a (List.mem_append_left _ m)) d (BR.frame e t fun a m => h a (List.mem_append_right _ m))
in #guard_msgs in open Nat
/-- .. as one thing -/
def bun (W : List Res) : Res := ⟨fun B H fp => BR B H W fp, fun h s k => h.frame s k⟩
section
variable {C H : Hp} {W W' X rest : List Res} {G : List Addr} {r : Res} {i : Nat}
theorem WR.br : ∀ {W : List Res} {G : List Addr}, WR C H W G → BR C H W G
  | _, _, .nil => .nil
  | _, _, .cons p d n t => .cons p d t.br
theorem BR.wr : ∀ {W : List Res} {G : List Addr}, BR C H W G → (∀ a ∈ G, C a = none ∧ Hard (H a)) → WR C H W G
  | _, _, .nil, _ => .nil
  | _, _, .cons p d t, n => .cons p d (fun a m => n a (List.mem_append_left _ m)) (t.wr fun a m => n a (List.mem_append_right _ m))
in #guard_msgs in open Nat
theorem Ent.bun1 : Ent X [bun X] := fun {C H G} h => ⟨G ++ [], .cons (r := bun X) h.br (fun a _ z => by cases z) (fun a m => ⟨(h.there a m).1, h.hard a m⟩) .nil, fun a m => by simpa using m⟩
in #guard_msgs in open Nat
theorem Ent.unbun1 : Ent [bun X] X := fun {C H G} h => by
  cases h with
  | @cons _ _ fp G0 hp d n t => exact ⟨fp, BR.wr (C := C) (H := H) hp n, fun a m => List.mem_append_left _ m⟩
in #guard_msgs in open Nat
theorem ent_bun (t : Ent W (X ++ rest)) : Ent W (bun X :: rest) := Ent.trans t (Ent.app Ent.bun1 (Ent.refl rest))
theorem ent_un {T : List Res} (i : Nat) (h : W[i]? = some (bun X)) (e : T = X ++ rest) (t : Ent (W.eraseIdx i) rest) : Ent W T := by
  subst e
  exact Ent.trans (Ent.pick h) (Ent.app Ent.unbun1 t)
in #guard_msgs in open Nat
/-- something is held -/
def Has (W : List Res) (r : Res) : Prop := ∀ {C H : Hp} {G : List Addr}, WR C H W G → ∃ fp, r.P C H fp ∧ ∀ a ∈ fp, a ∈ G
theorem Has.at (i : Nat) (h : W[i]? = some r) : Has W r := fun w => by
  obtain ⟨fp, h1, h2, _⟩ := w.get h
  exact ⟨fp, h1, fun a m => (h2 a m).1⟩
theorem BR.get : ∀ {W : List Res} {G : List Addr}, BR C H W G → r ∈ W → ∃ fp, r.P C H fp ∧ ∀ a ∈ fp, a ∈ G
  | _, _, .nil, m => by cases m
  | _, _, .cons (fp := fp) p d t, m => by
    rcases List.mem_cons.mp m with rfl | m
    · exact ⟨fp, p, fun a m => List.mem_append_left _ m⟩
    · obtain ⟨fp', h1, h2⟩ := t.get m
      exact ⟨fp', h1, fun a m => List.mem_append_right _ (h2 a m)⟩
in #guard_msgs in open Nat
theorem Has.bun (i : Nat) (h : W[i]? = some (Tg.bun X)) (m : r ∈ X) : Has W r := fun w => by
  obtain ⟨fp, h1, h2, _⟩ := w.get h
  obtain ⟨fp', h3, h4⟩ := BR.get h1 m
  exact ⟨fp', h3, fun a m => (h2 a (h4 a m)).1⟩
in #guard_msgs in open Nat
theorem Has.mem (m : r ∈ W) : Has W r := by
  obtain ⟨i, h⟩ := List.mem_iff_getElem?.mp m
  exact Has.at i h
end
/-! ### seen all the way down -/
/-- what a stands for, while all that is held is lent -/
def VwD (K : PySem.W.Frag) (W : List Res) (a b : D) : Prop := ∀ {Z : Zx} {C B H : Hp} {G : List Addr}, Pr K Z W C B H G → ∀ {v : V}, Dv K B v a → Dv K (lentB B H G) v b
section
variable {K : PySem.W.Frag} {mg : Str → Option Value} {Z : Zx} {C C' B H H' F : Hp} {σ : L2.St} {ρ : List Sl} {W W' : List Res} {A G : List Addr} {P : AEnds} {i j : Nat} {a b a' b' d : D} {t : TS} {q : D → List Res → Prop} {tl : TA} {te : TE} {p : Addr}
theorem VwD.of : VwD K W a a := fun p _ dv => dv.mono p.lent_l
theorem VwD.vw (w : Vw K a W b) : VwD K W a b := fun p _ dv => w.lent p dv
theorem Has.lent (h : Has W (cel K p d)) (pr : Pr K Z W C B H G) : Cell K C H p d ∧ p ∈ G := by
  obtain ⟨fp, ⟨e, c⟩, h2⟩ := h pr.nx.res
  exact ⟨c, h2 p (by rw [e]; exact List.mem_cons_self)⟩
in #guard_msgs in open Nat
theorem VwD.cel (h : Has W (cel K p d)) : VwD K W (.op (.ref p)) d := fun pr _ dv => by
  cases dv
  obtain ⟨c, m⟩ := h.lent pr
  exact c.dv (pr.cb.trans pr.lent_l) (if_pos m)
in #guard_msgs in open Nat
theorem vwds_lent (pr : Pr K Z W C B H G) : ∀ {vs : List V} {ds cs : List D}, Paired (VwD K W) ds cs → DvL K B vs ds → DvL K (lentB B H G) vs cs
  | _, _, _, .nil, .nil => .nil
  | _, _, _, .cons w t, .cons dv dt => .cons (w pr dv) (vwds_lent pr t dt)
in #guard_msgs in open Nat
theorem VwD.lst {ds cs : List D} (h : Has W (Tg.cel K p (.lst ds))) (t : Paired (VwD K W) ds cs) : VwD K W (.op (.ref p)) (.lst cs) := fun pr _ dv => by
  cases dv
  obtain ⟨⟨vs, h1, h2⟩, m⟩ := h.lent pr
  exact .lst ((if_pos m : lentB _ _ _ p = _).trans h1) (vwds_lent pr t (h2.mono pr.cb))
in #guard_msgs in open Nat
theorem vwds_k (pr : Pr K Z W C B H G) : ∀ {vs : List (Key × V)} {ds cs : List (Key × D)}, Paired (fun x y => x.1 = y.1 ∧ VwD K W x.2 y.2) ds cs → DvK K B vs ds → DvK K (lentB B H G) vs cs
  | _, _, _, .nil, .nil => .nil
  | _, _, _, .cons (a := (k, x)) (b := (k', y)) w t, .cons dv dt => by
    obtain ⟨e, w⟩ := w
    have e : k = k' := e
    subst e
    exact .cons (w pr dv) (vwds_k pr t dt)
in #guard_msgs in open Nat
theorem VwD.dk {ds cs : List (Key × D)} (h : Has W (Tg.cel K p (.dk ds))) (t : Paired (fun x y => x.1 = y.1 ∧ VwD K W x.2 y.2) ds cs) : VwD K W (.op (.ref p)) (.dk cs) := fun pr _ dv => by
  cases dv
  obtain ⟨⟨vs, h1, h2⟩, m⟩ := h.lent pr
  exact .dk (.inl ((if_pos m : lentB _ _ _ p = _).trans h1)) (vwds_k pr t (h2.mono pr.cb))
in #guard_msgs in open Nat
theorem VwD.tup {ds cs : List D} (t : Paired (VwD K W) ds cs) : VwD K W (.tup ds) (.tup cs) := fun pr _ dv => by
  cases dv with
  | tup h1 h2 => exact .tup (pr.lent_l _ _ h1) (vwds_lent pr t h2)
in #guard_msgs in open Nat
theorem VwD.lst0 {ds cs : List D} (t : Paired (VwD K W) ds cs) : VwD K W (.lst ds) (.lst cs) := fun pr _ dv => by
  cases dv with
  | lst h1 h2 => exact .lst (pr.lent_l _ _ h1) (vwds_lent pr t h2)
in #guard_msgs in open Nat
theorem x1_ofD {r : V → Hp → VK → Prop} (va : VwD K W a a') (h : A1 K r a' fun d => scalD d = true ∧ q d W) : X1 K Z r a W q := fun x C B H G p E Q k => h _ H x p.lent_r (va p E) Q fun d v H' hq s dv => k d v W _ H' G hq.2 (p.same s) (dv_scal dv hq.1)
in #guard_msgs in open Nat
theorem x2_ofD {r : R2} (va : VwD K W a a') (vb : VwD K W b b') (h : A2 K r a' b' fun d => scalD d = true ∧ q d W) : X2 K Z r a b W q := fun x y C B H G p E Q k => h _ H x y p.lent_r (va p E.1) (vb p E.2) Q fun d v H' hq s dv => k d v W _ H' G hq.2 (p.same s) (dv_scal dv hq.1)
in #guard_msgs in open Nat
theorem xl_ofD {r : List V → Hp → VK → Prop} {ds cs : List D} (va : Paired (VwD K W) ds cs) (h : AL K r cs fun d => scalD d = true ∧ q d W) : XL K Z r ds W q := fun vs C B H G p E Q k => h _ H vs p.lent_r (vwds_lent p va E) Q fun d v H' hq s dv => k d v W _ H' G hq.2 (p.same s) (dv_scal dv hq.1)
in #guard_msgs in open Nat
theorem xln_ofD {r : List V → Hp → VK → Prop} {ds cs : List D} (va : Paired (VwD K W) ds cs) (h : ALN K r cs fun d => flatD d = true ∧ q d W) : XLN K Z r ds W q := fun vs C B H G p E Q k => h _ H vs p.lent_r (vwds_lent p va E) Q fun d v H' hq np s dv => k d _ W _ H' G hq.2 (p.new s np) (p.newF s np dv hq.1)
in #guard_msgs in open Nat
theorem x2n_ofD {r : R2} (va : VwD K W a a') (vb : VwD K W b b') (h : A2N K r a' b' fun d => flatD d = true ∧ q d W) : X2N K Z r a b W q := fun x y C B H G p E Q k => h _ H x y p.lent_r (va p E.1) (vb p E.2) Q fun d v H' hq np s dv => k d _ W _ H' G hq.2 (p.new s np) (p.newF s np dv hq.1)
in #guard_msgs in open Nat
/-- f(..), f a def that changes nothing, of what is held, all the way down -/
theorem xe_callPD {T : List D → (D → Prop) → Prop} {E' : XK} (h : XA K Z tl ρ W fun ds W1 => ∃ cs, Paired (VwD K W1) ds cs ∧ T cs fun d => scalD d = true ∧ q d W1) : XE K Z (tCall (pfn K T) [] E' tl) ρ W q := fun σ C B H G p En Q k => h σ C B H G p En _ fun ds vs W1 C1 H1 G1 ⟨cs, hv, hT⟩ n1 dx => by
  have p1 := p.next n1
  refine ⟨lentB (ov B C1) H1 G1, cs, _, p1.lent_r, by rw [List.append_nil]; exact vwds_lent p1 hv dx, hT, fun d v H' hq s2 dv => ?_⟩
  exact k d v W1 _ H' G1 hq.2 (n1.trans (p1.same s2)) (dv_scal dv hq.1)
in #guard_msgs in open Nat
theorem xn_callPD {T : List D → (D → Prop) → Prop} {E' : XK} (h : XA K Z tl ρ W fun ds W1 => ∃ cs, Paired (VwD K W1) ds cs ∧ T cs fun d => flatD d = true ∧ q d W1) : XN K Z (tCall (pfnN K T) [] E' tl) ρ W q := fun σ C B H G p En Q k => h σ C B H G p En _ fun ds vs W1 C1 H1 G1 ⟨cs, hv, hT⟩ n1 dx => by
  have p1 := p.next n1
  refine ⟨lentB (ov B C1) H1 G1, cs, _, p1.lent_r, by rw [List.append_nil]; exact vwds_lent p1 hv dx, hT, fun d l H' hq np s2 dv => ?_⟩
  refine k d _ W1 _ H' G1 hq.2 (n1.trans (p1.new s2 np)) (rN_up n1.dm ?_)
  rw [← ov_ov (p1.new s2 np).cc]
  exact p1.newF s2 np dv hq.1
in #guard_msgs in open Nat
/-- read at an index of a held list -/
theorem x2_ixH {ds : List D} {n : Int} (hw : Has W (cel K p (.lst ds))) (h : atI ds n = some d) (hq : q d W) : X2 K Z (rIxL K) (.op (.ref p)) (.int n) W q := fun vx vy C B H G pr ⟨dx, dy⟩ Q k => by
  cases dx
  cases dy
  obtain ⟨⟨vs, e2, e3⟩, _⟩ := hw.lent pr
  have e3 := e3.mono pr.cb
  obtain ⟨j, g1, g2, g3, g4, g5⟩ := atI_get h
  obtain ⟨w, e6, dw⟩ := e3.at g2
  refine ⟨_, _, n, w, rfl, rfl, Sq_of e2, ?_, k d w W C H G hq pr.refl (dw.mono ov_l)⟩
  unfold atI at h ⊢
  rw [e3.len]
  cases e : ixN ds.length n with
  | none => rw [e] at h; cases h
  | some j' =>
    have q1 := ixN_seq e
    rw [g1] at q1
    cases q1.1
    exact e6
in #guard_msgs in open Nat
theorem xl_lenH {ds : List D} (hw : Has W (cel K p (.lst ds))) (hq : q (.int ds.length) W) : XL K Z (qLenQ K) [.op (.ref p)] W q := fun vs C B H G pr dv Q k => by
  obtain ⟨vx, rfl, dx⟩ := dvl_one dv
  cases dx
  obtain ⟨⟨ws, e2, e3⟩, _⟩ := hw.lent pr
  exact ⟨_, _, rfl, .inl (Sq_of e2), by rw [e3.len]; exact k _ _ W C H G hq pr.refl (Dv.int _)⟩
in #guard_msgs in open Nat
end
/-! ### list(d) -/
section
variable {K : PySem.W.Frag} {Z : Zx} {W : List Res} {q : D → List Res → Prop} {x : D}
def qListD : List V → Hp → VK → Prop := fun xs H Q => ∃ (a : Addr) (kvs : List (Key × V)), xs = [.ref a] ∧ Rd H a (.dK kvs) ∧ ∀ p, H p = none → Q (.ref p) (upd H p (.lst (kvs.map fun kv => kV kv.1)))
theorem call_listDQ {X : Cx} (hc : X.calm = true) : CallR X (.type "list") qListD := call_listD hc
theorem dvl_keysK {B : Hp} : ∀ {vs : List (Key × V)} {ks : List (Key × D)}, DvK K B vs ks → (∀ k ∈ ks.map (·.1), okK [k]) → DvL K B (vs.map fun kv => kV kv.1) (ks.map fun kv => kD kv.1)
  | _, _, .nil, _ => .nil
  | _, _, .cons (k := k) h t, ok => by
    refine .cons ?_ (dvl_keysK t fun k m => ok k (List.mem_cons_of_mem _ m))
    have o := ok k List.mem_cons_self
    cases k with
    | inl i => exact .int i
    | inr z => exact .str z (o z List.mem_cons_self)
in #guard_msgs in open Nat
theorem xln_listD {ks : List (Key × D)} (v : Vw K x W (.dk ks)) (ok : ∀ k ∈ ks.map (·.1), okK [k]) (hq : q (.lst (ks.map fun kv => kD kv.1)) W) : XLN K Z qListD [x] W q := fun vs C B H G p dv Q k => by
  obtain ⟨vx, rfl, dx⟩ := dvl_one dv
  obtain ⟨a, ws, e1, e2, e3⟩ := v.dk p dx
  subst e1
  refine ⟨_, _, rfl, e2, fun l np => ?_⟩
  exact k _ _ W _ _ G hq (p.new (same_upd np) np) (p.newR (same_upd np) np ⟨_, upd_same, dvl_keysK (e3.mono (same_remx p.bh np)) ok⟩)
in #guard_msgs in open Nat
end
/-! ### a comprehension over a held list, which stays as it is -/
section
variable {K : PySem.W.Frag} {Z : Zx} {C C' B H H' F : Hp} {σ : L2.St} {ρ : List Sl} {W W' Wr : List Res} {A G : List Addr} {te : TE} {tt : TT} {i j : Nat} {d x y : D} {q : D → List Res → Prop} {p : Addr}
theorem Pr.take (pr : Pr K Z W C B H G) (e : Ent W ([cel K p d] ++ Wr)) : ∃ (o : HO) (Gr : List Addr), H p = some o ∧ Cell K C H p d ∧ Pr K (Z.lock p o d) Wr C B H Gr ∧ WR C H [cel K p d] [p] ∧ p ∉ Gr ∧ p ∈ G ∧ ∀ a ∈ Gr, a ∈ G := by
  obtain ⟨G1, h1, e1⟩ := e pr.nx.res
  cases h1 with
  | @cons _ _ fp Gr hp dj th t =>
    obtain ⟨efp, c⟩ := hp
    have mp : p ∈ fp := by rw [efp]; exact List.mem_cons_self
    obtain ⟨o, ho⟩ : ∃ o, H p = some o := by
      cases e : H p with
      | none => exact absurd e c.there
      | some o => exact ⟨o, rfl⟩
    have sub : ∀ a ∈ Gr, a ∈ G := fun a m => e1 a (List.mem_append_right _ m)
    refine ⟨o, Gr, ho, c, ⟨fun q m => ?_, ⟨pr.nx.cc, pr.nx.ch, pr.nx.fr, pr.nx.dm, pr.nx.od, fun a m => pr.nx.gg a (sub a m), t, pr.nx.dh⟩, pr.cb, pr.bh, fun a m => pr.gB a (sub a m)⟩, WR.cons (r := cel K p d) (fp := [p]) (G := []) ⟨rfl, c⟩ (fun _ _ z => by cases z) (fun a m => by rw [List.mem_singleton.mp m]; exact th p mp) .nil, dj p mp, e1 p (List.mem_append_left _ mp), sub⟩
    rcases List.mem_cons.mp m with rfl | m
    · exact ⟨ho, dj p mp, (th p mp).1, c⟩
    · obtain ⟨k1, k2, k3, k4⟩ := pr.lk q m
      exact ⟨k1, fun z => k2 (sub _ z), k3, k4⟩
in #guard_msgs in open Nat
theorem xn_lcC {tl : TE} {vs : List Nat} (hv : vs = [j]) (h : XE K Z tl ρ W fun d W1 => ∃ p xs Wr, d = .op (.ref p) ∧ Ent W1 ([cel K p (.lst xs)] ++ Wr) ∧ ∀ o, XLc K (Z.lock p o (.lst xs)) xs j tt te ρ Wr fun d W' => q d (W' ++ [cel K p (.lst xs)])) : XN K Z (tLc (iList K tl) (gName j) tt te vs) ρ W q := by
  subst hv
  exact fun σ C B H G p E Q k => w_lcL (h σ C B H G p E _ fun d v W1 C1 H1 G1 ⟨l, xs, Wr, ed, he, hx⟩ n1 dv => by
    have p1 := p.next n1
    subst ed
    have E1 := E.mono (ov_l (C := C1))
    have dv0 : Dv K (ov B C1) v (.op (.ref l)) := dv
    cases dv0
    obtain ⟨o, Gr, ho, ⟨ws, g1, g2⟩, pL, hw, nl, ml, sub⟩ := p1.take he
    obtain ⟨Iv, h0, hs, hd⟩ := hx o
    have at_ : ∀ {C' B' H' W' G'}, Pr K (Z.lock l o (.lst xs)) W' C' B' H' G' → H' l = some (.lst ws) := fun {C' B' H' W' G'} r' => by
      have q := (r'.lk (l, o, .lst xs) List.mem_cons_self).1
      rw [← g1, ho]
      exact q
    have g2 := g2.mono p1.cb
    refine lcL (K := K) (Sq_of g1) (fun D0 i H' => LcAt K (Z.lock l o (.lst xs)) C1 (ov B C1) H1 Gr D0 (Iv i) H') (fun D0 nD => lcx_start pL h0 nD) (fun D0 i H' _ hh => ?_) ?_ ?_
    · obtain ⟨_, C2, W2, G2, acc, ws', hI, p2, _⟩ := hh
      exact Sq_of (at_ p2)
    · rintro D0 i x H' hi hh
      obtain ⟨dx, e1, e2⟩ := g2.at' hi
      exact lcx_step pL E1 (fun C' => e2.mono ov_l) (fun acc W2 hI => hs i dx acc W2 e1 hI) hh
    · rintro D0 H' nD hh
      rw [g2.len] at hh
      refine lcx_end (q := fun d W' => q d (W' ++ [cel K l (.lst xs)])) hh hd fun d v W' C' H' G' hq n dn => ?_
      have nw := Nx.whole (G := G1) (Gf := [l]) hw (fun a m z => nl (List.mem_singleton.mp z ▸ m)) sub (fun a m => by rw [List.mem_singleton.mp m]; exact ml) n
      refine k d v _ C' H' _ hq (n1.trans nw) (rN_up n1.dm ?_)
      obtain ⟨t, e1, e2, e3, e4, e5⟩ := dn
      rw [ov_ov n.cc] at e3 e5
      refine ⟨t, e1, e2, e3, fun m => (List.mem_append.mp m).elim e4 fun m => ?_, e5⟩
      rw [List.mem_singleton.mp m, ho] at e2
      cases e2)
in #guard_msgs in open Nat
end
/-! ### {k: v, ..} -/
def rP (K : PySem.W.Frag) : RelX (List (V × V)) (List (D × D)) := fun _ B _ _ v d => Paired (fun a b => Dv K B a.1 b.1 ∧ Dv K B a.2 b.2) v d
abbrev XPs (K : PySem.W.Frag) (Z : Zx) (trs : List (TE × TE)) (ρ : List Sl) (W : List Res) (q : List (D × D) → List Res → Prop) : Prop := XM K Z (rP K) (L2.tPairs trs) ρ W q
section
variable {K : PySem.W.Frag} {Z : Zx} {C C' B H H' F : Hp} {σ : L2.St} {ρ : List Sl} {W W' : List Res} {A G : List Addr} {tk tv : TE} {trs : List (TE × TE)} {q : D → List Res → Prop}
theorem rp_mono {B B' : Hp} (s : Same B B') : ∀ {v : List (V × V)} {d : List (D × D)}, Paired (fun a b => Dv K B a.1 b.1 ∧ Dv K B a.2 b.2) v d → Paired (fun a b => Dv K B' a.1 b.1 ∧ Dv K B' a.2 b.2) v d
  | _, _, .nil => .nil
  | _, _, .cons h t => .cons ⟨h.1.mono s, h.2.mono s⟩ (rp_mono s t)
in #guard_msgs in open Nat
theorem xp_nil {q : List (D × D) → List Res → Prop} (h : q [] W) : XPs K Z [] ρ W q := fun σ C B H G p E Q k => k [] [] W C H G h p.refl .nil
theorem xp_cons {q : List (D × D) → List Res → Prop} (h : XE K Z tk ρ W fun x W1 => XE K Z tv ρ W1 fun y W2 => XPs K Z trs ρ W2 fun ds W3 => q ((x, y) :: ds) W3) : XPs K Z ((tk, tv) :: trs) ρ W q := fun σ C B H G p E Q k => h σ C B H G p E _ fun x vx W1 C1 H1 G1 h1 n1 dx =>
  h1 σ C1 _ H1 G1 (p.next n1) (E.mono ov_l) _ fun y vy W2 C2 H2 G2 h2 n2 dy => by
    have n12 := n1.trans n2
    have dx' : Dv K (ov B C2) vx x := Dv.mono (ov_mono n2.cc) dx
    have dy' : Dv K (ov B C2) vy y := by rw [← ov_ov n2.cc]; exact dy
    refine h2 σ C2 _ H2 G2 (p.next n12) (E.mono ov_l) _ fun ds ps W3 C3 H3 G3 h3 n3 dz => ?_
    have dz' : Paired (fun a b => Dv K (ov B C3) a.1 b.1 ∧ Dv K (ov B C3) a.2 b.2) ps ds := by
      have d0 : Paired (fun a b => Dv K (ov (ov B C2) C3) a.1 b.1 ∧ Dv K (ov (ov B C2) C3) a.2 b.2) ps ds := dz
      rw [ov_ov n3.cc] at d0
      exact d0
    exact k _ _ W3 C3 H3 G3 h3 (n12.trans n3) (.cons ⟨dx'.mono (ov_mono n3.cc), dy'.mono (ov_mono n3.cc)⟩ dz')
in #guard_msgs in open Nat
def mrgK (ks more : List (Key × D)) : List (Key × D) := more.foldl (fun acc kv => pK acc kv.1 kv.2) ks
theorem KvL.mrg {R : V → D → Prop} : ∀ {more : List (Key × V)} {md : List (Key × D)} {ks : List (Key × V)} {ds : List (Key × D)}, KvL R more md → KvL R ks ds → KvL R (mergeK ks more) (mrgK ds md)
  | _, _, _, _, .nil, h => h
  | (k, v) :: more, (k', d) :: md, ks, ds, .cons h t, h2 => by
    have e : k = k' := h.1
    subst e
    exact KvL.mrg (more := more) (md := md) t (h2.put h.2)
in #guard_msgs in open Nat
theorem rp_kv {B : Hp} : ∀ {ps : List (V × V)} {ks : List (Key × D)}, Paired (fun a b => Dv K B a.1 b.1 ∧ Dv K B a.2 b.2) ps (ks.map fun kv => (kD kv.1, kv.2)) → ∃ kvs : List (Key × V), ps = kvs.map (fun kv => (kV kv.1, kv.2)) ∧ KvL (Dv K B) kvs ks
  | _, [], .nil => ⟨[], rfl, .nil⟩
  | (x, y) :: ps, (k, d) :: ks, .cons h t => by
    obtain ⟨kvs, e, r⟩ := rp_kv t
    have e1 : x = kV k := kD_v h.1
    exact ⟨(k, y) :: kvs, by rw [e, e1]; rfl, .cons ⟨rfl, h.2⟩ r⟩
in #guard_msgs in open Nat
theorem xn_disp (h : XPs K Z trs ρ W fun ps W1 => ∃ ks : List (Key × D), ps = ks.map (fun kv => (kD kv.1, kv.2)) ∧ ks.length ≤ 15 ∧ q (.dk (mrgK [] ks)) W1) : XN K Z (L2.tDisp trs) ρ W q := fun σ C B H G p En Q kk => fun l np => by
  obtain ⟨p0, x0⟩ := p.fresh (o := .dK []) np
  refine h σ C B _ G p0 En _ fun ds ps W1 C1 H1 G1 ⟨ks, ek, hl, hq⟩ n1 dx => ?_
  subst ek
  have dx' : Paired (fun a b => Dv K (ov B C1) a.1 b.1 ∧ Dv K (ov B C1) a.2 b.2) ps (ks.map fun kv => (kD kv.1, kv.2)) := dx
  obtain ⟨kvs, e, r⟩ := rp_kv dx'
  have hw : upd H l (.dK []) l = some (.dK []) := upd_same
  have gl : l ∉ G := fun m => (p.nx.res.there l m).2 np
  have g1 : l ∉ G1 := fun m => (n1.gg l m).elim gl (ne_none hw)
  have hard : Hard (upd H l (.dK []) l) := by rw [hw]; exact ⟨(fun z => by cases z), (fun _ z => by cases z)⟩
  have c1 : C1 l = none := by rw [n1.od l hard]; exact p.ch.free np
  have hl1 : H1 l = some (.dK []) := by rw [n1.at (ne_none hw) gl]; exact hw
  refine ⟨hl1, kvs, e, by rw [r.len]; exact hl, ?_⟩
  exact kk _ _ W1 C1 _ G1 hq ((x0.trans n1).poke (fun _ z => by cases z) np g1 c1) ⟨l, rfl, np, by rw [ov_new (p.bh.free np)]; exact c1, g1, _, upd_same, .of (KvL.mrg r .nil)⟩
in #guard_msgs in open Nat
end
/-! ### for i in range(a, b, -1) -/
section
variable {K : PySem.W.Frag} {Z : Zx} {ρ : List Sl} {W W' : List Res} {P : AEnds}
def XForD (K : PySem.W.Frag) (Z : Zx) (lo : Int) (m : Nat) (g : TG) (tb : TS) (ρ : List Sl) (W : List Res) (P : AEnds) : Prop := ∃ Iv : Nat → List Sl → List Res → Prop, (∃ ρ' W', Wk ρ ρ' ∧ Ent W W' ∧ Iv 0 ρ' W') ∧
  (∀ i ρ' W', i < m → Iv i ρ' W' → XG K Z true g (.int (lo + (i : Nat) * (-1))) ρ' W' fun ρ2 W2 => XS K Z tb ρ2 W2 (loopP P (Iv (i + 1)))) ∧ ∀ ρ' W', Iv m ρ' W' → P.nx ρ' W'
theorem xs_forR3 {tl : TA} {g : TG} {tb : TS} (h : XA K Z tl (vf ρ) W fun ds W' => ∃ i j : Int, ds = [.int i, .int j, .int (-1)] ∧ (-(2 ^ 62) ≤ i ∧ i < 2 ^ 62 ∧ -(2 ^ 62) ≤ j ∧ j < 2 ^ 62) ∧ XForD K Z i (i - j).toNat g tb ρ W' P) : XS K Z (tFor (iRng3 tl) g tb) ρ W P := fun F R ok C H σ A G s r =>
  h σ C _ H G r.pf r.ef _ fun ds vs W1 C1 H1 G1 ⟨i, j, e, ⟨b1, b2, b3, b4⟩, Iv, h0, hs, hd⟩ n dv => by
    subst e
    have sF := s.trans n.cc
    cases dv with
    | cons d1 dv =>
      cases dv with
      | cons d2 dv =>
        cases dv with
        | cons d3 dv =>
          cases dv
          cases d1
          cases d2
          cases d3
          refine ⟨i, j, -1, (i - j).toNat, rfl, RgC.neg b1 b2 b3 b4, for_rangeC (fun i => LPx K Z F (Iv i)) (lpx_wk h0 sF (r.next n)) ?_ ?_⟩
          · rintro i σ' H' hi ⟨ρ', W', C', A', G', hI, s', r'⟩
            refine hs i ρ' W' hi hI C' H' σ' A' G' _ r' (.int _) _ fun ρ2 W2 B2 H2 σ2 A2 G2 h2 s2 r2 => ?_
            exact h2 F _ (ok.loop (Same.refl F)) B2 H2 σ2 A2 G2 (s'.trans s2) r2
          · rintro σ' H' ⟨ρ', W', C', A', G', hI, s', r'⟩
            exact ok.nx (hd _ _ hI) s' r'
in #guard_msgs in open Nat
end
/-! ### methods of held lists -/
section
variable {K : PySem.W.Frag} {Z : Zx} {ρ : List Sl} {W W' : List Res} {P : AEnds} {te : TE}
/-- o.reverse(), o a held list -/
theorem xs_reverseC (h : XE K Z te (vf ρ) W fun o W1 => ∃ p, o = .op (.ref p) ∧ ∃ (i : Nat) (ds : List D), W1[i]? = some (cel K p (.lst ds)) ∧ P.nx ρ (W1.set i (cel K p (.lst ds.reverse)))) : XS K Z (tDrop (tBM0 K "list" rReverse te)) ρ W P := fun F R ok C H σ A G s r =>
  h σ C _ H G r.pf r.ef _ fun o v W1 C1 H1 G1 ⟨p, e, i, ds, hi, hn⟩ n1 dv => by
    subst e
    have dv : Dv K _ v (.op (.ref p)) := dv
    cases dv
    have r1 := r.next n1
    obtain ⟨⟨vs, h1, h2⟩, pm⟩ := n1.res.cel hi
    exact ⟨.inl ⟨rfl, _, Sq_of h1⟩, p, vs, rfl, rfl, h1, ok.nx hn (s.trans n1.cc) (r1.next (r1.pd.put hi (d' := .lst ds.reverse) ⟨_, upd_same, h2.rev⟩))⟩
in #guard_msgs in open Nat
end
/-! ### calls told otherwise; methods of what is bundled -/
section
variable {K : PySem.W.Frag} {mg : Str → Option Value} {Z : Zx} {ρ : List Sl} {W W' X : List Res} {q q' : D → List Res → Prop} {tl : TA} {ta : TE} {Cl a : Addr} {m : Str} {E : XK} {xE x : XX} {T : TX} {ds : List D} {fs : List (Str × D)} {B : Prop}
theorem CallX.pre (e : Ent W W') (h : CallX T ds W' q x) : CallX T ds W q x := by
  obtain ⟨Wc, Wf, e2, h2⟩ := h
  exact ⟨Wc, Wf, Ent.trans e e2, h2⟩
theorem isIns_bun (h : obj K a Cl fs ∈ X) : IsIns (bun X) a Cl (fs.map (·.1)) := fun hP => by
  obtain ⟨fp, h1, _⟩ := BR.get hP h
  exact isIns_obj h1
theorem meth_bun (h : ∃ i : Nat, W[i]? = some (bun X)) (hx : obj K a Cl fs ∈ X) (hm : m ∉ fs.map (·.1)) (b : B) : (∃ (i : Nat) (r : Res) (ns : List Str), W[i]? = some r ∧ IsIns r a Cl ns ∧ m ∉ ns) ∧ B := ⟨h.elim fun i h => ⟨i, _, _, h, isIns_bun hx, hm⟩, b⟩
in #guard_msgs in open Nat
/-- o.m(..) that tells a new list, the last argument left out: None -/
theorem xn_methD (hE : EOkW K Z mg E xE) (h : XE K Z ta ρ W fun d W1 => ∃ a, d = .op (.ref a) ∧ (∃ (i : Nat) (r : Res) (ns : List Str), W1[i]? = some r ∧ IsIns r a Cl ns ∧ m ∉ ns) ∧ XA K Z tl ρ W1 fun ds W2 => CallX T (d :: (ds ++ [.non])) W2 q xE) : XN K Z (tMeth Cl m (pxfN K mg T) [.non] E ta tl) ρ W q := fun σ C B H G p En Q k => h σ C B H G p En _ fun d v W1 C1 H1 G1 ⟨a, e, ⟨i, r, ns, hi, hI, hm⟩, hA⟩ n1 dv => by
  subst e
  cases dv
  have p1 := p.next n1
  obtain ⟨fp, hP, _⟩ := n1.res.get hi
  obtain ⟨dx, vfs, h1, h2⟩ := hI hP
  refine ⟨a, dx, vfs, rfl, h1, look_no (by rw [h2]; exact hm), hA σ C1 _ H1 G1 p1 (En.mono ov_l) _ fun ds vs W2 C2 H2 G2 hT n2 dx => ?_⟩
  have n12 := n1.trans n2
  have dx' : DvL K (ov B C2) vs ds := by
    have dx0 : DvL K (ov (ov B C1) C2) vs ds := dx
    rw [ov_ov n2.cc] at dx0
    exact dx0
  exact callN_at (p.next n12) hE (.cons (.op _) dx'.snocN) hT fun d v W' C' H' G' hq n3 dv => k d v W' C' H' G' hq (n12.trans n3) (by rw [ov_ov n3.cc] at dv; exact rN_up n12.dm dv)
in #guard_msgs in open Nat
end
end Tg

/-! The engine: lists of lists held, and calls that make new ones. -/
namespace Tg
open PySem PySem.Spec L2 NdefX LamX
theorem Nx.wide {C H C' H' : Hp} {G G1 G' : List Addr} {W' : List Res} (x : Nx C H G1 C' H' W' G') (h : ∀ a ∈ G1, a ∈ G) : Nx C H G C' H' W' G' := ⟨x.cc, x.ch, fun a o e n => x.fr a o e fun m => n (h a m), x.dm, x.od, fun a m => (x.gg a m).imp (h a) id, x.res, x.dh⟩
in #guard_msgs in open Nat
/-- list(xs), xs held somewhere -/
theorem xln_listH {K : PySem.W.Frag} {Z : Zx} {W : List Res} {q : D → List Res → Prop} {p : Addr} {ds : List D} (hw : Has W (cel K p (.lst ds))) (hq : q (.lst ds) W) : XLN K Z (qListOf K) [.op (.ref p)] W q := fun vs C B H G pr dv Q k => by
  obtain ⟨vx, rfl, dx⟩ := dvl_one dv
  cases dx
  obtain ⟨⟨ws, e2, e3⟩, _⟩ := hw.lent pr
  refine ⟨_, _, rfl, .inl (Sq_of e2), fun l np => ?_⟩
  exact k _ _ W _ _ G hq (pr.new (same_upd np) np) (pr.newR (same_upd np) np ⟨_, upd_same, (e3.mono pr.cb).mono (same_remx pr.bh np)⟩)
in #guard_msgs in open Nat
section
variable {K : PySem.W.Frag} {mg : Str → Option Value} {Z : Zx} {ρ : List Sl} {W : List Res} {P : AEnds} {t : TS} {d : D} {tl : TA} {T : TX} {E : XK} {q : D → List Res → Prop}
/-- an own slot let go: its place is new -/
theorem xs_letF (i : Nat) (e : ρ[i]? = some (.own d)) (h : ∀ l, Z.H0 l = none → XS K Z t (ρ.set i (.sh (.op (.ref l)))) ([cel K l d] ++ W) P) : XS K Z t ρ W P := fun F R ok C H σ A G s r => by
  obtain ⟨l, A', h1, r'⟩ := r.letGo e
  obtain ⟨a, g1, g2, _⟩ := r.own e
  rw [h1] at g1
  cases g1
  exact h l (r.na l g2) F R ok C H σ A' _ s r'
in #guard_msgs in open Nat
/-- a call that is handed nothing that is held: what it makes is new -/
theorem xn_callF (h : XA K Z tl ρ W fun ds W1 => T ds [] (fun d W' => ∃ L, W' = [bun L] ∧ ((∀ p d, cel K p d ∈ L → Z.H0 p = none) → q d (bun L :: W1))) xNo) : XN K Z (tCall (pxfN K mg T) [] E tl) ρ W q := fun σ C B H G p En Q k => h σ C B H G p En _ fun ds vs W1 C1 H1 G1 hT n1 dx => by
  rw [List.append_nil]
  have p1 := p.next n1
  refine ⟨C1, ov B C1, ds, [], [], _, xNo, p1.cb, p1.bh, (fun a m => (by cases m)), .nil, dx, hT, fun d v W' C' H' G' ⟨L, eW, hq⟩ n2 ⟨l, e1, e2, e3, e4, e5⟩ => ?_, fun c Cl dd vfs fs W' C' H' G' hm hx => hx.elim⟩
  subst eW
  have fr : ∀ p0 d0, cel K p0 d0 ∈ L → Z.H0 p0 = none := fun p0 d0 m => by
    have hg := n2.res
    cases hg with
    | @cons _ _ fp G0 hp dj n t =>
      obtain ⟨fp', ⟨ef, _⟩, sub⟩ := BR.get (W := L) hp m
      have m0 : p0 ∈ fp ++ G0 := List.mem_append_left _ (sub p0 (by rw [ef]; exact List.mem_cons_self))
      rcases n2.gg p0 m0 with z | z
      · cases z
      · cases e : Z.H0 p0 with
        | none => rfl
        | some o => exact absurd z (p1.nx.dm p0 (ne_none e))
  have nw := Nx.whole (G := G1) (Gc := []) (Gf := G1) p1.nx.res (fun a m => (by cases m)) (fun a m => (by cases m)) (fun a m => m) n2
  refine k d v _ C' H' _ (hq fr) (n1.trans nw) (rN_up n1.dm ?_)
  rw [← ov_ov n2.cc]
  refine ⟨l, e1, e2, e3, fun m => ?_, e5⟩
  exact (List.mem_append.mp m).elim e4 fun m => (p1.nx.res.there l m).2 e2
in #guard_msgs in open Nat
end
abbrev Rn := List (Addr × List Str)
def cN (K : PySem.W.Frag) (r : Addr × List Str) : Res := cel K r.1 (eNs r.2)
def rwZ (K : PySem.W.Frag) (R : Rn) : List Res := R.map (cN K)
abbrev ptR (R : Rn) : List D := R.map fun r => D.op (.ref r.1)
theorem rwz_mem {K : PySem.W.Frag} {R : Rn} {r : Addr × List Str} (h : r ∈ R) : cel K r.1 (eNs r.2) ∈ rwZ K R := List.mem_map_of_mem (f := cN K) h
theorem ent_rz {Y : List Res} {r : Res} {rest : List Res} {j : Nat} (h : Y[j]? = some r) : Ent (bun Y :: rest) (r :: bun (Y.eraseIdx j) :: rest) := by
  have e1 : Ent [bun Y] ([r] ++ Y.eraseIdx j) := Ent.trans Ent.unbun1 (Ent.pick h)
  have e2 : Ent [bun Y] ([r] ++ [bun (Y.eraseIdx j)]) := Ent.trans e1 (Ent.app (Ent.refl [r]) Ent.bun1)
  exact fun {C H G} h => Ent.app e2 (Ent.refl rest) h
in #guard_msgs in open Nat
theorem ent_rzb {Y : List Res} {r r' : Res} {rest : List Res} {j : Nat} (h : Y[j]? = some r) : Ent (r' :: bun (Y.eraseIdx j) :: rest) (bun (Y.set j r') :: rest) := by
  have e1 : Ent ([r'] ++ [bun (Y.eraseIdx j)]) ([r'] ++ Y.eraseIdx j) := Ent.app (Ent.refl [r']) Ent.unbun1
  have e2 : Ent ([r'] ++ [bun (Y.eraseIdx j)]) [bun (Y.set j r')] := Ent.trans (Ent.trans e1 (Ent.back h)) Ent.bun1
  exact fun {C H G} h => Ent.app e2 (Ent.refl rest) h
in #guard_msgs in open Nat
theorem br_rwz {K : PySem.W.Frag} {C H : Hp} : ∀ {R : Rn} {fp : List Addr}, BR C H (rwZ K R) fp → (∀ a ∈ fp, ∃ r ∈ R, a = r.1) ∧ ∀ r ∈ R, r.1 ∈ fp ∧ Cell K C H r.1 (eNs r.2)
  | [], _, .nil => ⟨(fun _ m => (by cases m)), fun _ m => (by cases m)⟩
  | r :: R, _, .cons (fp := f1) (G := G1) hp dj t => by
    obtain ⟨ef, c⟩ := hp
    obtain ⟨h1, h2⟩ := br_rwz (R := R) t
    refine ⟨fun a m => ?_, fun s m => ?_⟩
    · rcases List.mem_append.mp m with m | m
      · rw [ef] at m
        exact ⟨r, List.mem_cons_self, List.mem_singleton.mp m⟩
      · obtain ⟨s, ms, es⟩ := h1 a m
        exact ⟨s, List.mem_cons_of_mem _ ms, es⟩
    · rcases List.mem_cons.mp m with rfl | m
      · exact ⟨List.mem_append_left _ (by rw [ef]; exact List.mem_cons_self), c⟩
      · exact ⟨List.mem_append_right _ (h2 s m).1, (h2 s m).2⟩
in #guard_msgs in open Nat
theorem dvl_pt {K : PySem.W.Frag} {C C' : Hp} : ∀ {R : Rn} {vs : List V}, DvL K C vs (ptR R) → (∀ r ∈ R, Dv K C' (.ref r.1) (eNs r.2)) → DvL K C' vs (R.map fun r => eNs r.2)
  | [], _, .nil, _ => .nil
  | r :: R, _, .cons h t, hr => by
    cases h
    exact .cons (hr r List.mem_cons_self) (dvl_pt t fun s m => hr s (List.mem_cons_of_mem _ m))
in #guard_msgs in open Nat
/-- rows that are new become durable -/
theorem xs_frzR {K : PySem.W.Frag} {Z : Zx} {ρ : List Sl} {P : AEnds} {t : TS} {rw : Addr} {R : Rn} (f0 : Z.H0 rw = none) (f1 : ∀ r ∈ R, Z.H0 r.1 = none) (h : XS K Z t ρ [dat K (.ref rw) (eRs (R.map (·.2)))] P) : XS K Z t ρ [cel K rw (.lst (ptR R)), bun (rwZ K R)] P := fun F Rr ok C H σ A G s r => by
  have hres := r.nx.res
  cases hres with
  | @cons _ _ fp0 G0 hp0 dj0 n0 t0 =>
  cases t0 with
  | @cons _ _ fp1 G1 hp1 dj1 n1 t1 =>
  cases t1
  obtain ⟨e0, vs, g1, g2⟩ := hp0
  obtain ⟨b1, b2⟩ := br_rwz (R := R) (show BR C H (rwZ K R) fp1 from hp1)
  have fr : ∀ a ∈ fp0 ++ (fp1 ++ []), Z.H0 a = none := fun a m => by
    rcases List.mem_append.mp m with m | m
    · rw [e0] at m
      rw [List.mem_singleton.mp m]
      exact f0
    · rw [List.append_nil] at m
      obtain ⟨x, mx, ex⟩ := b1 a m
      rw [ex]
      exact f1 x mx
  have cn : ∀ a ∈ fp0 ++ (fp1 ++ []), C a = none := fun a m => (r.nx.res.there a m).1
  have s1 : Same C (fun b => if b ∈ fp0 ++ (fp1 ++ []) then H b else C b) := fun b o e => (if_neg fun m => by rw [cn b m] at e; cases e).trans e
  have off : ∀ b, b ∉ fp0 ++ (fp1 ++ []) → (fun b => if b ∈ fp0 ++ (fp1 ++ []) then H b else C b) b = C b := fun b n => if_neg n
  have at_ : ∀ b, b ∈ fp0 ++ (fp1 ++ []) → (fun b => if b ∈ fp0 ++ (fp1 ++ []) then H b else C b) b = H b := fun b n => if_pos n
  have m0 : rw ∈ fp0 ++ (fp1 ++ []) := List.mem_append_left _ (by rw [e0]; exact List.mem_cons_self)
  have hD : Dv K (fun b => if b ∈ fp0 ++ (fp1 ++ []) then H b else C b) (.ref rw) (eRs (R.map (·.2))) := by
    have e : eRs (R.map (·.2)) = .lst (R.map fun r => eNs r.2) := by
      show D.lst _ = _
      rw [List.map_map]
      rfl
    rw [e]
    refine .lst ((at_ rw m0).trans g1) (dvl_pt g2 fun x mx => ?_)
    obtain ⟨c1, c2⟩ := b2 x mx
    exact c2.dv s1 (at_ x.1 (List.mem_append_right _ (by rw [List.append_nil]; exact c1)))
  refine h F Rr ok (fun b => if b ∈ fp0 ++ (fp1 ++ []) then H b else C b) H σ A [] (s.trans s1) ⟨r.zk, ⟨r.nx.cc.trans s1, fun b o e => ?_, r.nx.fr, r.nx.dm, fun b n => (off b fun z => n.1 (fr b z)).trans (r.nx.od b n), fun _ m => (by cases m), WR.addF (m := fun h s => h.mono s) .nil hD, r.nx.dh⟩, r.env.mono s1 (fun a m => (off a fun z => r.nd a m z).trans (r.env.there a m).1) (fun _ _ => rfl), fun i d hb => ?_, fun _ _ z => (by cases z), r.na, fun q m => ?_, r.la⟩
  · by_cases c : b ∈ fp0 ++ (fp1 ++ [])
    · have e' : (if b ∈ fp0 ++ (fp1 ++ []) then H b else C b) = some o := e
      rwa [if_pos c] at e'
    · have e' : (if b ∈ fp0 ++ (fp1 ++ []) then H b else C b) = some o := e
      rw [if_neg c] at e'
      exact r.nx.ch b o e'
  · obtain ⟨v, h5, h6⟩ := r.bo i d hb
    exact ⟨v, h5, h6.mono (ov_mono s1)⟩
  · obtain ⟨k1, k2, k3, k4⟩ := r.lk q m
    exact ⟨k1, (fun z => (by cases z)), (off _ k2).trans k3, k4.mono s1 rfl⟩
in #guard_msgs in open Nat
/-- what is held, told otherwise ahead of a reading -/
theorem xm_ent {α δ : Type} {K : PySem.W.Frag} {Z : Zx} {rel : RelX α δ} {m : L2.St → Hp → (α → Hp → Prop) → Prop} {ρ : List Sl} {W W' : List Res} {q : δ → List Res → Prop} (e : Ent W W') (h : XM K Z rel m ρ W' q) : XM K Z rel m ρ W q := fun σ C B H G p E Q k => by
  obtain ⟨G1, n, sub⟩ := Nx.ent p.nx e
  exact h σ C B H G1 ⟨fun x mx => by
    obtain ⟨k1, k2, k3, k4⟩ := p.lk x mx
    exact ⟨k1, fun z => k2 (sub _ z), k3, k4⟩, n, p.cb, p.bh, fun a ma => p.gB a (sub a ma)⟩ E Q fun d v W2 C' H' G' hq x r => k d v W2 C' H' G' hq (x.wide sub) r
in #guard_msgs in open Nat
/-- a comprehension whose elements are new flat lists, each held -/
theorem xlc_rows {α : Type} {K : PySem.W.Frag} {Z : Zx} {ρ : List Sl} {te : TE} {j : Nat} {f : α → D} {xs : List α} {W0 : List Res} {q : D → List Res → Prop} (g : α → List Str) (hl : xs.length < 100000)
    (he : ∀ x ∈ xs, ∀ (X : Res) (q2 : D → List Res → Prop), (∀ l, q2 (.op (.ref l)) (cel K l (eNs (g x)) :: (W0 ++ [X]))) → XE K Z te (ρ.set j (.sh (f x))) (W0 ++ [X]) q2)
    (hq : ∀ R : Rn, R.map (·.2) = xs.map g → ∀ W', Ent W' (W0 ++ [bun (rwZ K R)]) → q (.lst (ptR R)) W') : XLc K Z (xs.map f) j tYes te ρ W0 q := by
  refine ⟨fun i acc W' => ∃ R : Rn, acc = ptR R ∧ Ent W' (W0 ++ [bun (rwZ K R)]) ∧ R.map (·.2) = (xs.take i).map g, ⟨[], rfl, ?_, rfl⟩, ?_, ?_⟩
  · have h : Ent (W0 ++ []) (W0 ++ [bun (rwZ K [])]) := fun {C H G} h => Ent.app (Ent.refl W0) (Ent.bun1 (X := [])) h
    rw [List.append_nil] at h
    exact fun {C H G} x => h x
  · rintro i x acc W1 hx ⟨R, rfl, hw, hr⟩
    rw [List.getElem?_map] at hx
    obtain ⟨y, hy, rfl⟩ := Option.map_eq_some_iff.mp hx
    refine xt_yes ⟨fun _ => ?_, fun z => by cases z⟩
    refine xm_ent hw ?_
    refine he y (List.mem_of_getElem? hy) _ _ fun l => ⟨?_, R ++ [(l, g y)], ?_, ?_, ?_⟩
    · have := congrArg List.length hr
      rw [List.length_map, List.length_map, List.length_take] at this
      rw [List.length_map]
      omega
    · show _ = List.map _ _
      rw [List.map_append]
      rfl
    · have e1 : Ent [cel K l (eNs (g y)), bun (rwZ K R)] [bun (rwZ K (R ++ [(l, g y)]))] := by
        have e2 : rwZ K (R ++ [(l, g y)]) = rwZ K R ++ [cel K l (eNs (g y))] := by
          unfold rwZ
          rw [List.map_append]
          rfl
        rw [e2]
        exact fun {C H G} h => Ent.trans (Ent.perm (List.Perm.swap _ _ [])) (Ent.trans (Ent.app Ent.unbun1 (Ent.refl [cel K l (eNs (g y))])) Ent.bun1) h
      exact fun {C H G} h => Ent.trans (Ent.perm List.perm_middle.symm) (Ent.app (Ent.refl W0) e1) h
    · rw [List.map_append, hr, List.take_add_one, hy, List.map_append]
      rfl
  · rintro ys W' ⟨R, rfl, hw, hr⟩
    rw [List.length_map, List.take_length] at hr
    exact hq R hr W' hw
in #guard_msgs in open Nat
end Tg
namespace Tg
open PySem PySem.Spec L2 NdefX LamX
local macro_rules | `(tactic| walk_at "sz") => `(tactic| first | assumption | (exact small (by omega)) | (exact small (by decide)) | (exact small (Nat.le_of_ble_eq_true rfl)) | decide)
local macro_rules | `(tactic| walk_at "isi") => `(tactic| first
  | (with_reducible refine w_i_NoneType_str ?_)
  | (with_reducible refine w_i_NoneType_int ?_)
  | (with_reducible refine w_i_NoneType_bool ?_)
  | (with_reducible refine w_i_NoneType_list ?_)
  | (with_reducible refine w_i_NoneType_tuple ?_)
  | (with_reducible refine w_i_NoneType_dict ?_)
  | (with_reducible refine w_i_bool_str ?_)
  | (with_reducible refine w_i_bool_int ?_)
  | (with_reducible refine w_i_bool_bool ?_)
  | (with_reducible refine w_i_bool_list ?_)
  | (with_reducible refine w_i_bool_tuple ?_)
  | (with_reducible refine w_i_bool_dict ?_)
  | (with_reducible refine w_i_int_str ?_)
  | (with_reducible refine w_i_int_int ?_)
  | (with_reducible refine w_i_int_bool ?_)
  | (with_reducible refine w_i_int_list ?_)
  | (with_reducible refine w_i_int_tuple ?_)
  | (with_reducible refine w_i_int_dict ?_)
  | (with_reducible refine w_i_str_str ?_)
  | (with_reducible refine w_i_str_int ?_)
  | (with_reducible refine w_i_str_bool ?_)
  | (with_reducible refine w_i_str_list ?_)
  | (with_reducible refine w_i_str_tuple ?_)
  | (with_reducible refine w_i_str_dict ?_)
  | ((with_reducible apply w_i_list_str); (· walk_at "hp"))
  | ((with_reducible apply w_i_list_int); (· walk_at "hp"))
  | ((with_reducible apply w_i_list_bool); (· walk_at "hp"))
  | ((with_reducible apply w_i_list_list); (· walk_at "hp"))
  | ((with_reducible apply w_i_list_tuple); (· walk_at "hp"))
  | ((with_reducible apply w_i_list_dict); (· walk_at "hp"))
  | ((with_reducible apply w_i_tuple_str); (· walk_at "hp"))
  | ((with_reducible apply w_i_tuple_int); (· walk_at "hp"))
  | ((with_reducible apply w_i_tuple_bool); (· walk_at "hp"))
  | ((with_reducible apply w_i_tuple_list); (· walk_at "hp"))
  | ((with_reducible apply w_i_tuple_tuple); (· walk_at "hp"))
  | ((with_reducible apply w_i_tuple_dict); (· walk_at "hp"))
  | ((with_reducible apply w_i_dict_str); (· walk_at "hp"))
  | ((with_reducible apply w_i_dict_int); (· walk_at "hp"))
  | ((with_reducible apply w_i_dict_bool); (· walk_at "hp"))
  | ((with_reducible apply w_i_dict_list); (· walk_at "hp"))
  | ((with_reducible apply w_i_dict_tuple); (· walk_at "hp"))
  | ((with_reducible apply w_i_dict_dict); (· walk_at "hp")))
local macro_rules | `(tactic| walk_at "w2") => `(tactic| fail)
local macro_rules | `(tactic| walk_at "w") => `(tactic| first
  | (with_reducible refine w_seq ?_)
  | (with_reducible refine w_asg ?_)
  | (with_reducible refine w_name ?_)
  | ((with_reducible apply w_var); · exact rfl)
  | (with_reducible refine w_c ?_)
  | (with_reducible refine w_op ?_)
  | (with_reducible refine w_rI0 ?_)
  | ((with_reducible refine w_rI ?_ ?_); · (first | (show (0 : Int) < _; first | decide | omega) | exact ⟨by decide, by decide⟩ | (constructor <;> omega)))
  | ((with_reducible refine w_rEq ?_ ?_); · exact rfl)
  | ((with_reducible refine w_rNe ?_ ?_); · exact rfl)
  | (with_reducible refine w_tTest ?_)
  | (with_reducible refine w_tB ?_)
  | (with_reducible refine w_tNot ?_)
  | ((with_reducible apply w_andB); (· intro Q q; walk_at "go"; exact q); (· intro he Q q; walk_at "go"; exact q))
  | ((with_reducible apply w_orB); (· intro Q q; walk_at "go"; exact q); (· intro he Q q; walk_at "go"; exact q))
  | (with_reducible refine w_tAnd ?_)
  | (with_reducible refine w_tOr ?_)
  | (with_reducible refine w_bl ?_)
  | (with_reducible refine w_if ?_)
  | (with_reducible refine w_ret ?_)
  | (with_reducible refine w_cons ?_)
  | (with_reducible refine w_nil ?_)
  | (with_reducible refine w_cb ?_)
  | (with_reducible refine w_call ?_)
  | (with_reducible refine w_chain ?_)
  | (with_reducible refine w_next ?_)
  | (with_reducible refine w_drop ?_)
  | (with_reducible refine w_un ?_)
  | (with_reducible refine w_rU ?_)
  | (with_reducible refine w_lst ?_)
  | (with_reducible refine w_tup ?_)
  | (with_reducible refine w_forS ?_)
  | (with_reducible refine w_forL ?_)
  | (with_reducible refine w_forR1 ?_)
  | (with_reducible refine w_forR2 ?_)
  | (with_reducible refine w_lcL ?_)
  | (with_reducible refine w_lcS ?_)
  | (with_reducible refine w_yes ?_)
  | ((with_reducible refine w_wipe ?_ ?_); (· rfl))
  | ((with_reducible show rIsi _ _ _ _); walk_at "isi")
  | (with_reducible refine w_lcR1 ?_)
  | (with_reducible refine w_fld ?_)
  | (with_reducible refine w_sl ?_)
  | (with_reducible refine w_nopart ?_)
  | (with_reducible refine w_part ?_)
  | (with_reducible refine w_int ?_)
  | ((with_reducible refine w_rng1 ?_ ?_ ?_); (· omega); (· omega))
  | ((with_reducible refine w_rng2 ?_ ?_); · omega)
  | (with_reducible refine w_str ?_)
  | (with_reducible refine w_andV ?_)
  | (with_reducible refine w_orV ?_)
  | (with_reducible refine w_notV ?_)
  | (with_reducible refine w_ifE ?_)
  | (with_reducible refine w_isN ?_)
  | (with_reducible refine w_notN ?_)
  | ((with_reducible refine w_lenS ?_ ?_); · walk_at "sz")
  | ((with_reducible refine w_addS ?_ ?_); · walk_at "sz")
  | (with_reducible refine w_inS ?_)
  | (with_reducible refine w_ninS ?_)
  | ((with_reducible refine w_slS ?_ ?_); · walk_at "sz")
  | ((with_reducible apply w_lenL); · walk_at "sq")
  | ((with_reducible apply w_lenT); · walk_at "sq")
  | ((with_reducible apply w_slL); (· walk_at "sq"); intro _ _ _ _ _)
  | (with_reducible refine w_min ?_)
  | (with_reducible refine w_intB ?_)
  | ((with_reducible apply w_listL); (· walk_at "sq"); intro _ _ _ _ _)
  | ((with_reducible apply w_tupL); (· walk_at "sq"); intro _ _ _ _ _)
  | (with_reducible refine w_disp fun _ _ _ _ _ => ?_)
  | (with_reducible refine w_pnil ?_)
  | (with_reducible refine w_pcons ?_)
  | ((with_reducible refine u_mixR ?_ ?_ fun _ _ => ?_); (· omega); (· first | omega | decide +kernel))
  | ((with_reducible refine w_newL ?_ fun _ _ _ _ _ => ?_); (· walk_at "sz"))
  | ((with_reducible refine w_newT ?_ fun _ _ _ _ _ => ?_); (· walk_at "sz"))
  | (with_reducible refine w_bm ?_)
  | (with_reducible refine w_bm0 ?_)
  | (with_reducible refine w_gnil ?_)
  | (with_reducible refine w_gcons ?_)
  | (with_reducible refine w_brk ?_)
  | (with_reducible refine w_cont ?_)
  | (with_reducible refine w_retN ?_)
  | walk_at "w2"
  | ((with_reducible refine w_iteT ?_ ?_); · decide)
  | ((with_reducible refine w_iteF ?_ ?_); · decide)
  | ((with_reducible refine w_iteF ?_ ?_); · (first | exact dn_str | exact dn_int | exact dn_ref | exact dn_bl))
  | ((with_reducible refine w_iteT ?_ ?_); · (first | exact dn'_str | exact dn'_int | exact dn'_ref)))
local macro_rules | `(tactic| walk_at "hp") => `(tactic| first
  | assumption
  | exact upd_same
  | ((with_reducible refine (upd_ne ?_).trans ?_); · (first | assumption | (exact ne_of_none ‹_› ‹_›)); walk_at "hp")
  | ((with_reducible refine (‹Same _ _› : Same _ _) _ _ ?_); walk_at "hp"))
local macro_rules | `(tactic| walk_at "sq") => `(tactic| first
  | assumption
  | (apply Sq_of; walk_at "hp")
  | (apply St_of; walk_at "hp")
  | (apply Same.seq; (· assumption); walk_at "sq")
  | (apply same_t; (· assumption); walk_at "sq"))
local macro_rules | `(tactic| walk_at "go") => `(tactic| repeat walk_at "w")
local macro_rules | `(tactic| walk_at "same") => `(tactic| first
  | assumption
  | exact Same.refl _
  | (refine same_new ?_ (by assumption); walk_at "same")
  | (refine Same.trans ?_ (by assumption); walk_at "same"))
local macro_rules | `(tactic| walk_at "nm") => `(tactic| fail)
local macro_rules | `(tactic| walk_at "len") => `(tactic| first | assumption | omega | (simp only [List.length_cons, List.length_nil, List.length_map, List.length_append, List.length_take, List.length_reverse]; omega) | decide | (simp; done))
local macro_rules | `(tactic| walk_at "oks") => `(tactic| first | assumption | (exact okS_of (by decide +kernel) (by decide +kernel)) | (exact ⟨by decide +kernel, by decide +kernel⟩))
local macro_rules | `(tactic| walk_at "x2") => `(tactic| fail)
local macro_rules | `(tactic| walk_at "x") => `(tactic| first
  | ((with_reducible refine gAW ?_); first
    | ((with_reducible refine gSet ?_); walk_at "nm")
    | (with_reducible refine s_seq ?_)
    | (with_reducible refine s_next ?_)
    | (with_reducible refine s_asgH ?_)
    | (with_reducible refine s_asgS ?_)
    | (with_reducible refine s_asgN ?_)
    | (with_reducible refine s_asgNF ?_)
    | (with_reducible refine s_asgE ?_)
    | (with_reducible refine s_if ?_)
    | ((with_reducible apply s_append); (· exact rfl))
    | ((with_reducible apply s_appendS); (· exact rfl))
    | ((with_reducible apply s_appendPop); (· exact rfl); (· exact rfl); (· decide))
    | ((with_reducible apply s_insert); (· exact rfl))
    | ((with_reducible apply s_reverse); (· exact rfl))
    | ((with_reducible apply s_clear); (· exact rfl))
    | ((with_reducible apply s_retOwn); (· exact rfl))
    | (with_reducible refine s_retNewZ (te := tLst _) ?_)
    | (with_reducible refine s_retNewZ (te := tLc _ _ _ _ _) ?_)
    | (with_reducible refine s_retNewZ (te := tSl (rSlL _) _ _ _) ?_)
    | (with_reducible refine s_retNewZ (te := tOp rCat _ _) ?_)
    | (with_reducible refine s_retNewZ (te := tCB (qListOf _) _) ?_)
    | (with_reducible refine s_retNewZ (te := tCall (pfnN _ _) _ _ _) ?_)
    | (with_reducible refine s_ret ?_)
    | (with_reducible refine s_retN ?_)
    | (with_reducible refine s_brk ?_)
    | (with_reducible refine s_cont ?_)
    | (with_reducible refine s_drop ?_)
    | (with_reducible refine s_forL ?_)
    | (with_reducible refine s_forR1 ?_)
    | (with_reducible refine s_forR2 ?_))
  | ((with_reducible refine gAG ?_); first
    | (with_reducible refine sg_name ?_)
    | ((with_reducible refine sg_tup ?_ ?_); (· rfl)))
  | ((with_reducible refine gAGs ?_); first
    | (with_reducible refine sgs_cons ?_)
    | (with_reducible refine sgs_nil ?_))
  | ((with_reducible refine gAE ?_); first
    | ((with_reducible apply ae_var); (· exact rfl))
    | (with_reducible refine ae_int ?_)
    | (with_reducible refine ae_bl ?_)
    | (with_reducible refine ae_c ?_)
    | ((with_reducible refine ae_str ?_ ?_); (· walk_at "oks"))
    | (with_reducible refine ae_ty ?_)
    | (with_reducible refine ae_of_an (te := tLst _) ?_)
    | (with_reducible refine ae_of_an (te := tLc _ _ _ _ _) ?_)
    | (with_reducible refine ae_of_an (te := tSl (rSlL _) _ _ _) ?_)
    | (with_reducible refine ae_of_an (te := tOp rCat _ _) ?_)
    | (with_reducible refine ae_of_an (te := tCB (qListOf _) _) ?_)
    | (with_reducible refine ae_of_an (te := tCall (pfnN _ _) _ _ _) ?_)
    | (with_reducible refine ae_of_an (te := tDNewK) ?_)
    | (with_reducible refine ae_slS ?_)
    | (with_reducible refine ae_join ?_)
    | (with_reducible refine ae_of_an (te := tCB (rSortedS _) _) ?_)
    | (with_reducible refine ae_of_an (te := tCB (rSorted _) _) ?_)
    | (with_reducible refine ae_bmL ?_)
    | (with_reducible refine ae_op ?_)
    | (with_reducible refine ae_un ?_)
    | (with_reducible refine ae_cb ?_)
    | (with_reducible refine ae_call ?_)
    | (with_reducible refine ae_tup ?_)
    | ((with_reducible apply ae_andVB); (· intro q hq; walk_at "xo"; exact hq); (· intro he q hq; walk_at "xo"; exact hq))
    | ((with_reducible apply ae_orVB); (· intro q hq; walk_at "xo"; exact hq); (· intro he q hq; walk_at "xo"; exact hq))
    | (with_reducible refine ae_notV ?_)
    | (with_reducible refine ae_isN ?_)
    | (with_reducible refine ae_notN ?_)
    | (with_reducible refine ae_chain ?_)
    | (with_reducible refine ae_ifE ?_))
  | ((with_reducible refine gAN ?_); first
    | (with_reducible refine an_op (r := rCat) ?_)
    | (with_reducible refine an_lst ?_)
    | (with_reducible refine an_cb (r := qListOf _) ?_)
    | (with_reducible refine an_call ?_)
    | (with_reducible refine an_slL ?_)
    | (with_reducible refine an_dnew ?_)
    | ((with_reducible refine an_lcL ?_ ?_); (· rfl))
    | ((with_reducible refine an_lcR1 ?_ ?_); (· rfl))
    | (with_reducible refine an_cb (r := rSortedS _) ?_)
    | (with_reducible refine an_cb (r := rSorted _) ?_))
  | ((with_reducible refine gAA ?_); first
    | (with_reducible refine aa_nil ?_)
    | (with_reducible refine aa_cons ?_))
  | ((with_reducible refine gAO ?_); first
    | (with_reducible refine ao_no ?_)
    | ((with_reducible refine ao_some ?_)))
  | ((with_reducible refine gAT ?_); first
    | (with_reducible refine at_b ?_)
    | (with_reducible refine at_test ?_)
    | (with_reducible refine at_not ?_)
    | ((with_reducible apply at_andB); (· intro q hq; walk_at "xo"; exact hq); (· intro he q hq; walk_at "xo"; exact hq))
    | ((with_reducible apply at_orB); (· intro q hq; walk_at "xo"; exact hq); (· intro he q hq; walk_at "xo"; exact hq)))
  | ((with_reducible refine gA2 ?_); first
    | ((with_reducible apply a2_I0); (· intro B; first | exact .int _ | exact .bl _))
    | ((with_reducible apply a2_I); (· intro B; first | exact .int _ | exact .bl _); (· (first | (show (0 : Int) < _; first | decide | omega) | exact ⟨by decide, by decide⟩ | (constructor <;> omega) | (exact .inl ⟨by omega, by omega⟩) | (exact .inr ⟨by omega, by omega⟩))))
    | (with_reducible refine a2_eqI ?_)
    | (with_reducible refine a2_neI ?_)
    | (with_reducible refine a2_eqS ?_)
    | (with_reducible refine a2_neS ?_)
    | (with_reducible refine a2_eqB ?_)
    | (with_reducible refine a2_neB ?_)
    | (with_reducible refine a2_notB ?_)
    | (with_reducible refine a2_isB ?_)
    | (with_reducible refine a2_neNS ?_)
    | (with_reducible refine a2_eqNS ?_)
    | (with_reducible refine a2_neNI ?_)
    | (with_reducible refine a2_eqNI ?_)
    | ((with_reducible refine a2_inNs ?_))
    | ((with_reducible refine a2_ninNs ?_))
    | ((with_reducible refine a2_inIs ?_))
    | (with_reducible refine a2_inSg ?_)
    | (with_reducible refine a2_ninSg ?_)
    | ((with_reducible refine a2_eqD ?_ ?_ ?_ ?_ ?_); (· walk_at "pln"); (· walk_at "pln"); (· walk_at "dep"); (· walk_at "dep"))
    | ((with_reducible refine a2_neD ?_ ?_ ?_ ?_ ?_); (· walk_at "pln"); (· walk_at "pln"); (· walk_at "dep"); (· walk_at "dep")))
  | ((with_reducible refine gA1 ?_); first
    | ((with_reducible apply a1_U); (· intro B; first | exact .int _ | exact .bl _)))
  | ((with_reducible refine gA2N ?_); first
    | ((with_reducible refine a2n_cat ?_ ?_); (· walk_at "len")))
  | ((with_reducible refine gAL ?_); first
    | (with_reducible refine al_lenL ?_)
    | (with_reducible refine al_lenF ?_)
    | (with_reducible refine al_lenT ?_)
    | (with_reducible refine al_lenS ?_)
    | (with_reducible refine al_min ?_)
    | (with_reducible refine al_intB ?_)
    | (with_reducible refine al_tupL ?_)
    | (with_reducible refine al_all ?_)
    | (with_reducible refine al_any ?_)
    | (with_reducible refine al_allT ?_)
    | (with_reducible refine al_allM ?_)
    | (with_reducible refine al_anyM ?_)
    | ((with_reducible apply al_isi (r := true)); (· exact rfl); (· exact kit_ty (by decide +kernel)))
    | ((with_reducible apply al_isi (r := false)); (· exact rfl); (· exact kit_ty (by decide +kernel))))
  | ((with_reducible refine gALN ?_); first
    | (with_reducible refine aln_listL ?_)
    | ((with_reducible refine aln_sortedS ?_ fun _ _ _ => ?_); (· walk_at "len"))
    | ((with_reducible refine aln_sortedI ?_ fun _ _ _ => ?_); (· walk_at "len"))
    | (with_reducible refine aln_listT ?_))
  | ((with_reducible refine gAM ?_); first
    | ((with_reducible refine am_indexS ?_ ?_); (· assumption)))
  | walk_at "x2"
  | ((with_reducible refine ⟨_, rfl, ⟨?_, ?_⟩, ?_⟩); (· omega); (· omega))
  | ((with_reducible refine ⟨⟨?_, ?_⟩, ?_⟩); (· omega); (· omega))
  | ((with_reducible refine ⟨_, rfl, ?_⟩))
  | ((with_reducible refine ⟨_, .inl rfl, ?_⟩))
  | ((with_reducible refine ⟨_, .inr rfl, ?_⟩))
  | ((with_reducible refine And.intro (a := flatD _ = true) ?_ ?_); (· first | exact flatD_eNs _ | exact flatD_eIs _ | rfl))
  | ((with_reducible refine ⟨rfl, ?_⟩))
  | (with_reducible refine ite_t ?_)
  | (with_reducible refine ite_f ?_)
  | ((with_reducible refine And.intro (a := _ ≤ _) ?_ ?_); (· walk_at "len"))
  | ((with_reducible refine And.intro (a := _ < _) ?_ ?_); (· walk_at "len"))
  | ((with_reducible refine And.intro (a := _ → AW _ _ _ _ _) (fun h => absurd h ?_) (fun _ => ?_)); (· first | exact Bool.false_ne_true | exact (fun h => Bool.noConfusion (show true = false from h)) | (simp; done)))
  | ((with_reducible refine And.intro (a := _ → AW _ _ _ _ _) (fun _ => ?_) (fun h => absurd h ?_)); rotate_left; (· first | exact Bool.false_ne_true | exact (fun h => Bool.noConfusion (show true = false from h)) | (simp; done)))
  | ((with_reducible refine And.intro (a := _ → AE _ _ _ _) (fun h => absurd h ?_) (fun _ => ?_)); (· first | exact Bool.false_ne_true | exact (fun h => Bool.noConfusion (show true = false from h)) | (simp; done)))
  | ((with_reducible refine And.intro (a := _ → AE _ _ _ _) (fun _ => ?_) (fun h => absurd h ?_)); rotate_left; (· first | exact Bool.false_ne_true | exact (fun h => Bool.noConfusion (show true = false from h)) | (simp; done)))
  | ((with_reducible refine And.intro (a := _ → AT _ _ _ _) (fun h => absurd h ?_) (fun _ => ?_)); (· first | exact Bool.false_ne_true | exact (fun h => Bool.noConfusion (show true = false from h)) | (simp; done)))
  | ((with_reducible refine And.intro (a := _ → AT _ _ _ _) (fun _ => ?_) (fun h => absurd h ?_)); rotate_left; (· first | exact Bool.false_ne_true | exact (fun h => Bool.noConfusion (show true = false from h)) | (simp; done)))
  | (rw [cut_map])
  | (rw [ow2_eq])
  | (rw [deq_eNs])
  | (rw [deq_nil])
  | (rw [deq_eN1])
  | (rw [deq_eIs])
  | (rw [deq_eRs])
  | (rw [eO_some])
  | (rw [eO_none])
  | (rw [cut1])
  | (rw [List.length_map]))
local macro_rules | `(tactic| walk_at "xo") => `(tactic| repeat walk_at "x")
local macro_rules | `(tactic| walk_at "pln") => `(tactic| first | (exact pln_of_cln _ (cln_eRs _)) | (exact pln_of_cln _ (cln_eNs _)) | (exact pln_of_cln _ (cln_eIs _)) | (exact pln_of_cln _ (cln_eNs [_])) | (exact pln_of_cln _ (cln_eNs [_, _])) | (exact rfl) | assumption)
local macro_rules | `(tactic| walk_at "dep") => `(tactic| first | (exact Nat.le_trans (dep_eRs _) (by decide)) | (exact Nat.le_trans (dep_eNs _) (by decide)) | (exact Nat.le_trans (dep_eIs _) (by decide)) | (exact Nat.le_trans (dep_eNs [_]) (by decide)) | (exact Nat.le_trans (dep_eNs [_, _]) (by decide)) | decide | assumption)
local macro_rules | `(tactic| walk_at "wk") => `(tactic| repeat (first | exact wk_nil | (refine wk_cons (.inr rfl) ?_) | (refine wk_cons (.inl rfl) ?_)))
local macro_rules | `(tactic| walk_at "st") => `(tactic| (refine ⟨_, ?_, rfl, rfl⟩; walk_at "wk"))
local macro_rules | `(tactic| walk_at "xi") => `(tactic| repeat ((fail_if_success (with_reducible refine s_if ?_)); walk_at "x"))
local macro_rules | `(tactic| walk_at "ct") => `(tactic| (refine ⟨?_, rfl⟩; walk_at "wk"))
local macro_rules | `(tactic| walk_at "x") => `(tactic| first
  | (with_reducible refine s_forE ?_)
  | (with_reducible refine s_asgG (g := gTup _ _ _) ?_)
  | (with_reducible refine ae_lenSetG ?_)
  | ((with_reducible apply s_xf); (· rfl))
  | (with_reducible refine s_retNewZ (te := tLstRev _ _) ?_)
  | (with_reducible refine an_listRev ?_)
  | (with_reducible refine ae_of_an (te := tLstRev _ _) ?_))
local macro_rules | `(tactic| walk_at "x2") => `(tactic| first
  | ((with_reducible refine u_mix ⟨?_, ?_⟩ ?_ ?_); (· first | decide | omega); (· first | decide | omega); (· first | decide | omega))
  | ((with_reducible refine u_drw ⟨?_, ?_⟩ ?_ ?_); (· first | decide | omega); (· first | decide | omega); (· first | decide | omega))
  | (with_reducible refine a2_ixTP (by decide) (by with_unfolding_all rfl) ?_)
  | ((with_reducible refine an_lcT ?_ ?_); (· rfl)))
local macro_rules | `(tactic| walk_at "vwi") => `(tactic| first | exact ⟨0, rfl⟩ | exact ⟨1, rfl⟩ | exact ⟨2, rfl⟩ | exact ⟨3, rfl⟩ | exact ⟨4, rfl⟩ | exact ⟨5, rfl⟩ | exact ⟨6, rfl⟩ | exact ⟨7, rfl⟩ | exact ⟨8, rfl⟩ | exact ⟨9, rfl⟩)
local macro_rules | `(tactic| walk_at "vwt") => `(tactic| first | exact Paired.nil | ((apply Paired.cons); (· apply Vw.at'; walk_at "vwi"); (· walk_at "vwt")) | ((apply Paired.cons); (· exact Vw.of); (· walk_at "vwt")))
local macro_rules | `(tactic| walk_at "vwh") => `(tactic| first | ((apply VwsH.here); (· walk_at "vwi"); (· walk_at "vwt")) | ((apply VwsH.there); walk_at "vwh"))
local macro_rules | `(tactic| walk_at "y2") => `(tactic| fail)
local macro_rules | `(tactic| walk_at "y") => `(tactic| first
  | (with_reducible refine y_seq ?_)
  | (with_reducible refine y_next ?_)
  | (with_reducible refine y_asgH ?_)
  | (with_reducible refine y_asgS ?_)
  | (with_reducible refine y_asgN ?_)
  | (with_reducible refine y_asgF ?_)
  | (with_reducible refine y_asgE ?_)
  | (with_reducible refine y_asgB ?_)
  | (with_reducible refine y_if ?_)
  | ((with_reducible apply y_append); (· exact rfl))
  | ((with_reducible apply y_appendS); (· exact rfl))
  | ((with_reducible apply y_insert); (· exact rfl))
  | ((with_reducible apply y_reverse); (· exact rfl))
  | ((with_reducible apply y_clear); (· exact rfl))
  | (with_reducible refine xs_clearC ?_)
  | ((with_reducible apply y_dputT); (· exact rfl))
  | ((with_reducible apply y_dputK); (· exact rfl))
  | ((with_reducible apply y_retOwn); (· exact rfl))
  | (with_reducible refine y_retN ?_)
  | (with_reducible refine y_ret ?_)
  | (with_reducible refine y_brk ?_)
  | (with_reducible refine y_cont ?_)
  | (with_reducible refine y_drop ?_)
  | (with_reducible refine y_forR1 ?_)
  | (with_reducible refine y_forR2 ?_)
  | ((with_reducible refine yg_nameS ?_ ?_); (· rfl))
  | ((fail_if_success (have nc9 : NoCast := by assumption)); (with_reducible refine xe_cast (xe_of ?_)); (with_reducible apply ae_var); (· exact rfl); (first | (refine ⟨0, _, _, rfl, rfl, ?_⟩) | (refine ⟨1, _, _, rfl, rfl, ?_⟩) | (refine ⟨2, _, _, rfl, rfl, ?_⟩) | (refine ⟨3, _, _, rfl, rfl, ?_⟩)))
  | ((with_reducible refine xe_of ?_); (with_reducible apply ae_var); (· exact rfl))
  | ((with_reducible refine xe_of ?_); first | (with_reducible refine ae_int ?_) | (with_reducible refine ae_bl ?_) | (with_reducible refine ae_c ?_) | ((with_reducible refine ae_str ?_ ?_); (· walk_at "oks")) | (with_reducible refine ae_ty ?_))
  | (with_reducible refine xn_lst ?_)
  | (with_reducible refine xn_dnewT ?_)
  | (with_reducible refine xn_dnewK ?_)
  | (with_reducible refine xl_lenDT .of ?_)
  | (with_reducible refine xl_lenDK .of ?_)
  | (with_reducible refine xn_op (r := rCat) ?_)
  | (with_reducible refine xn_cb (r := qListOf _) ?_)
  | (with_reducible refine xn_callPQ ?_)
  | (with_reducible refine xn_call eokw_no ?_)
  | (with_reducible refine xn_slL ?_)
  | (with_reducible refine xe_of_xn (te := tLst _) ?_)
  | (with_reducible refine xe_of_xn (te := tLc _ _ _ _ _) ?_)
  | (with_reducible refine xe_of_xn (te := tSl (rSlL _) _ _ _) ?_)
  | (with_reducible refine xe_of_xn (te := tOp rCat _ _) ?_)
  | (with_reducible refine xe_of_xn (te := tCB (qListOf _) _) ?_)
  | (with_reducible refine xe_of_xn (te := tCall (pfnN _ _) _ _ _) ?_)
  | (with_reducible refine xe_of_xn (te := tCall (pxfN _ _ _) _ _ _) ?_)
  | (with_reducible refine xe_op ?_)
  | (with_reducible refine xe_un ?_)
  | (with_reducible refine xe_cb ?_)
  | (with_reducible refine xe_callPQ ?_)
  | ((with_reducible apply or_held); (· walk_at "vwh"))
  | (with_reducible refine Or.inl (b := ∃ cs, VwsH _ _ _ cs ∧ _) ?_)
  | (with_reducible refine xe_call eokw_no ?_)
  | (with_reducible refine xe_tup ?_)
  | (with_reducible refine xe_dget ?_)
  | (with_reducible refine xe_din ?_)
  | (with_reducible refine xe_dnin ?_)
  | (with_reducible refine xe_isN ?_)
  | (with_reducible refine xe_notN ?_)
  | (with_reducible refine xa_nil ?_)
  | (with_reducible refine xa_cons ?_)
  | ((with_reducible refine xo_of ?_); with_reducible refine ao_no ?_)
  | ((with_reducible refine xo_of ?_); with_reducible refine ao_some ?_)
  | ((with_reducible refine xt_of ?_); (with_reducible apply at_andB); (· intro q hq; walk_at "xo"; exact hq); (· intro he q hq; walk_at "xo"; exact hq))
  | ((with_reducible refine xt_of ?_); (with_reducible apply at_orB); (· intro q hq; walk_at "xo"; exact hq); (· intro he q hq; walk_at "xo"; exact hq))
  | (with_reducible refine xt_b ?_)
  | (with_reducible refine xt_test ?_)
  | (with_reducible refine xt_not ?_)
  | ((with_reducible refine xe_of ?_); (with_reducible apply ae_andVB); (· intro q hq; walk_at "xo"; exact hq); (· intro he q hq; walk_at "xo"; exact hq))
  | ((with_reducible refine xe_of ?_); (with_reducible apply ae_orVB); (· intro q hq; walk_at "xo"; exact hq); (· intro he q hq; walk_at "xo"; exact hq))
  | (with_reducible refine xe_notV ?_)
  | (with_reducible refine xe_ifE ?_)
  | walk_at "y2"
  | ((with_reducible refine x2_of ?_); walk_at "x")
  | ((with_reducible refine x1_of ?_); walk_at "x")
  | ((with_reducible refine xl_of ?_); walk_at "x")
  | ((with_reducible refine x2n_of ?_); walk_at "x")
  | ((with_reducible refine xln_of ?_); walk_at "x")
  | ((with_reducible refine And.intro (a := scalD _ = true) ?_ ?_); (· rfl))
  | (with_reducible refine ⟨_, Vw.of, ?_⟩)
  | ((with_reducible refine And.intro (a := _ → XS _ _ _ _ _ _) (fun h => absurd h ?_) (fun _ => ?_)); (· first | exact Bool.false_ne_true | exact (fun h => Bool.noConfusion (show true = false from h)) | (simp; done)))
  | ((with_reducible refine And.intro (a := _ → XS _ _ _ _ _ _) (fun _ => ?_) (fun h => absurd h ?_)); rotate_left; (· first | exact Bool.false_ne_true | exact (fun h => Bool.noConfusion (show true = false from h)) | (simp; done)))
  | ((with_reducible refine And.intro (a := _ → XT _ _ _ _ _ _) (fun h => absurd h ?_) (fun _ => ?_)); (· first | exact Bool.false_ne_true | exact (fun h => Bool.noConfusion (show true = false from h)) | (simp; done)))
  | ((with_reducible refine And.intro (a := _ → XT _ _ _ _ _ _) (fun _ => ?_) (fun h => absurd h ?_)); rotate_left; (· first | exact Bool.false_ne_true | exact (fun h => Bool.noConfusion (show true = false from h)) | (simp; done)))
  | ((with_reducible refine And.intro (a := _ → XE _ _ _ _ _ _) (fun h => absurd h ?_) (fun _ => ?_)); (· first | exact Bool.false_ne_true | exact (fun h => Bool.noConfusion (show true = false from h)) | (simp; done)))
  | ((with_reducible refine And.intro (a := _ → XE _ _ _ _ _ _) (fun _ => ?_) (fun h => absurd h ?_)); rotate_left; (· first | exact Bool.false_ne_true | exact (fun h => Bool.noConfusion (show true = false from h)) | (simp; done)))
  | ((with_reducible refine xe_of ?_); walk_at "x")
  | ((with_reducible refine xt_of ?_); walk_at "x")
  | walk_at "x")
local macro_rules | `(tactic| walk_at "yo") => `(tactic| repeat walk_at "y")
local macro_rules | `(tactic| walk_at "emem") => `(tactic| first | assumption | exact List.mem_cons_self | (simp; done))
local macro_rules | `(tactic| walk_at "ene") => `(tactic| (intro h; have nd := (show EcOk _ _ _ by assumption).nd; simp [h] at nd; done))
local macro_rules | `(tactic| walk_at "eno") => `(tactic| repeat (first | exact NoneOf.nil | ((refine NoneOf.cons ?_ ?_ ?_); (· walk_at "emem"); (· walk_at "ene"))))
local macro_rules | `(tactic| walk_at "y2") => `(tactic| first
  | ((with_reducible refine xe_of ?_); (with_reducible refine ae_cls ?_))
  | ((with_reducible refine xl_isY (by assumption) ?_ ?_); (· walk_at "emem"))
  | ((with_reducible refine xl_is0 (by assumption) ?_ ?_); (· walk_at "emem"))
  | ((with_reducible refine xl_isV (by assumption) ?_ ?_); (· walk_at "emem"))
  | ((with_reducible refine xl_isN (by assumption) ?_ ?_ ?_ ?_); (· walk_at "emem"); (· walk_at "emem"); (· walk_at "ene"))
  | ((with_reducible refine xl_isTN (by assumption) ?_ ?_ ?_); (· walk_at "emem"); (· walk_at "eno"))
  | (with_reducible refine xt_and ?_)
  | (with_reducible refine xt_or ?_)
  | (with_reducible refine xe_andV ?_)
  | (with_reducible refine xe_orV ?_)
  | (with_reducible refine or_f ?_)
  | (with_reducible refine or_t ?_))
local macro_rules | `(tactic| walk_at "kdk") => `(tactic| first | exact (show D.str _ = kD (.inr _) from rfl) | exact (show D.int _ = kD (.inl _) from rfl) | exact rfl)
local macro_rules | `(tactic| walk_at "tdk") => `(tactic| first | exact tD_map _ | exact (rfl : D.tup [D.str _] = tD [.inr _]) | exact (rfl : D.tup [D.str _, D.str _] = tD [.inr _, .inr _]) | exact (rfl : D.tup [D.str _, D.str _, D.str _] = tD [.inr _, .inr _, .inr _]))
local macro_rules | `(tactic| walk_at "nls") => `(tactic| first | rfl | (show List.all _ _ = true; simp [scalD]; done))
local macro_rules | `(tactic| walk_at "pd") => `(tactic| first | (with_reducible exact putD_nil) | (with_reducible exact putD_same) | ((with_reducible apply putD_ne); (· decide +kernel); walk_at "pd"))
local macro_rules | `(tactic| walk_at "nmw") => `(tactic| first | (refine xs_normW (W' := [_]) rfl ?_) | (refine xs_normW (W' := [_, _]) rfl ?_) | (refine xs_normW (W' := [_, _, _]) rfl ?_) | (refine xs_normW (W' := [_, _, _, _]) rfl ?_) | (refine xs_normW (W' := [_, _, _, _, _]) rfl ?_) | (refine xs_normW (W' := [_, _, _, _, _, _]) rfl ?_) | (refine xs_normW (W' := [_, _, _, _, _, _, _]) rfl ?_) | (refine xs_normW (W' := [_, _, _, _, _, _, _, _]) rfl ?_) | (refine xs_normW (W' := [_, _, _, _, _, _, _, _, _]) rfl ?_) | (refine xs_normW (W' := [_, _, _, _, _, _, _, _, _, _]) rfl ?_) | (refine xs_normW (W' := [_, _, _, _, _, _, _, _, _, _, _]) rfl ?_) | (refine xs_normW (W' := [_, _, _, _, _, _, _, _, _, _, _, _]) rfl ?_) | (refine xs_normW (W' := [_, _, _, _, _, _, _, _, _, _, _, _, _]) rfl ?_) | (refine xs_normW (W' := [_, _, _, _, _, _, _, _, _, _, _, _, _, _]) rfl ?_))
local macro_rules | `(tactic| walk_at "ent") => `(tactic| first | exact Ent.refl _ | ((refine ent_pick 0 rfl ?_); walk_at "ent") | ((refine ent_pick 1 rfl ?_); walk_at "ent") | ((refine ent_pick 2 rfl ?_); walk_at "ent") | ((refine ent_pick 3 rfl ?_); walk_at "ent") | ((refine ent_pick 4 rfl ?_); walk_at "ent") | ((refine ent_pick 5 rfl ?_); walk_at "ent") | ((refine ent_pick 6 rfl ?_); walk_at "ent") | ((refine ent_pick 7 rfl ?_); walk_at "ent") | ((refine ent_pick 8 rfl ?_); walk_at "ent") | ((refine ent_pick 9 rfl ?_); walk_at "ent") | ((refine ent_pick 10 rfl ?_); walk_at "ent") | ((refine ent_pick 11 rfl ?_); walk_at "ent") | exact ent_nil)
local macro_rules | `(tactic| walk_at "lk") => `(tactic| first | (with_reducible exact look0) | ((with_reducible refine look1 ?_ ?_); (· decide +kernel); walk_at "lk"))
local macro_rules | `(tactic| walk_at "y2") => `(tactic| first
  | (with_reducible refine xs_asgT ?_)
  | ((with_reducible refine And.intro (a := noLs _ = true) ?_ ?_); (· walk_at "nls"))
  | (with_reducible refine xs_fldN (tv := tLst _) ?_)
  | (with_reducible refine xs_fldN (tv := tDispT1 _ _) ?_)
  | (with_reducible refine xs_fldN (tv := tLc _ _ _ _ _) ?_)
  | (with_reducible refine xs_fldN (tv := tCB (qListOf _) _) ?_)
  | (with_reducible refine xs_fldN (tv := tDNewK) ?_)
  | (with_reducible refine xs_fldN (tv := tDNewT) ?_)
  | (with_reducible refine xs_fldN (tv := tSl (rSlL _) _ _ _) ?_)
  | (with_reducible refine xs_fldN (tv := tOp rCat _ _) ?_)
  | (with_reducible refine xs_fld ?_)
  | ((apply put_at (i := 0)); (· exact rfl); (· walk_at "pd"); (· simp only [List.length_cons, List.length_nil]; omega))
  | ((apply put_at (i := 1)); (· exact rfl); (· walk_at "pd"); (· simp only [List.length_cons, List.length_nil]; omega))
  | ((apply put_at (i := 2)); (· exact rfl); (· walk_at "pd"); (· simp only [List.length_cons, List.length_nil]; omega))
  | ((apply put_at (i := 3)); (· exact rfl); (· walk_at "pd"); (· simp only [List.length_cons, List.length_nil]; omega))
  | ((apply put_at (i := 4)); (· exact rfl); (· walk_at "pd"); (· simp only [List.length_cons, List.length_nil]; omega))
  | ((apply put_at (i := 5)); (· exact rfl); (· walk_at "pd"); (· simp only [List.length_cons, List.length_nil]; omega))
  | ((apply put_at (i := 6)); (· exact rfl); (· walk_at "pd"); (· simp only [List.length_cons, List.length_nil]; omega))
  | ((apply put_at (i := 7)); (· exact rfl); (· walk_at "pd"); (· simp only [List.length_cons, List.length_nil]; omega))
  | ((apply put_at (i := 8)); (· exact rfl); (· walk_at "pd"); (· simp only [List.length_cons, List.length_nil]; omega))
  | ((apply put_at (i := 9)); (· exact rfl); (· walk_at "pd"); (· simp only [List.length_cons, List.length_nil]; omega))
  | ((with_reducible apply xl_lenL); (· apply Vw.at'; walk_at "vwi"))
  | ((with_reducible apply xl_tupL); (· apply Vw.at'; walk_at "vwi"))
  | ((with_reducible apply xln_listL); (· apply Vw.at'; walk_at "vwi"))
  | ((with_reducible apply xln_dictD); (· apply Vw.at'; walk_at "vwi"))
  | (with_reducible refine xln_dictD .of ?_)
  | (with_reducible refine xn_cb (r := qDictOf) ?_)
  | ((with_reducible apply vw_at); (· walk_at "vwi"))
  | ((with_reducible apply gets_atT); (· walk_at "vwi"); (· walk_at "tdk"))
  | ((with_reducible apply gets_atK); (· walk_at "vwi"); (· walk_at "kdk"))
  | ((with_reducible apply gets_dT); (· walk_at "tdk"))
  | ((with_reducible apply gets_dK); (· walk_at "kdk"))
  | (with_reducible refine gets_some ?_)
  | ((with_reducible apply xs_dputKX); (· exact rfl))
  | (with_reducible refine xs_dputX ?_)
  | ((with_reducible apply own_put); (· walk_at "kdk"); (· walk_at "len"))
  | (with_reducible refine xs_dputCT (ty := _) (tv := _) ?_)
  | ((apply dputT_at 0); (· exact rfl); (· walk_at "tdk"); (· walk_at "len"))
  | ((apply dputT_at 1); (· exact rfl); (· walk_at "tdk"); (· walk_at "len"))
  | ((apply dputT_at 2); (· exact rfl); (· walk_at "tdk"); (· walk_at "len"))
  | ((apply dputT_at 3); (· exact rfl); (· walk_at "tdk"); (· walk_at "len"))
  | ((apply dputT_at 4); (· exact rfl); (· walk_at "tdk"); (· walk_at "len"))
  | ((apply dputT_at 5); (· exact rfl); (· walk_at "tdk"); (· walk_at "len"))
  | ((apply dputT_at 6); (· exact rfl); (· walk_at "tdk"); (· walk_at "len"))
  | ((apply dputT_at 7); (· exact rfl); (· walk_at "tdk"); (· walk_at "len"))
  | ((apply dputT_at 8); (· exact rfl); (· walk_at "tdk"); (· walk_at "len"))
  | ((apply dputT_at 9); (· exact rfl); (· walk_at "tdk"); (· walk_at "len"))
  | ((apply dputK_at 0); (· exact rfl); (· walk_at "kdk"); (· walk_at "len"))
  | ((apply dputK_at 1); (· exact rfl); (· walk_at "kdk"); (· walk_at "len"))
  | ((apply dputK_at 2); (· exact rfl); (· walk_at "kdk"); (· walk_at "len"))
  | ((apply dputK_at 3); (· exact rfl); (· walk_at "kdk"); (· walk_at "len"))
  | ((apply dputK_at 4); (· exact rfl); (· walk_at "kdk"); (· walk_at "len"))
  | ((apply dputK_at 5); (· exact rfl); (· walk_at "kdk"); (· walk_at "len"))
  | ((apply dputK_at 6); (· exact rfl); (· walk_at "kdk"); (· walk_at "len"))
  | ((apply dputK_at 7); (· exact rfl); (· walk_at "kdk"); (· walk_at "len"))
  | ((apply dputK_at 8); (· exact rfl); (· walk_at "kdk"); (· walk_at "len"))
  | ((apply dputK_at 9); (· exact rfl); (· walk_at "kdk"); (· walk_at "len"))
  | ((apply app_at 0); (· exact rfl); (· walk_at "len"))
  | ((apply app_at 1); (· exact rfl); (· walk_at "len"))
  | ((apply app_at 2); (· exact rfl); (· walk_at "len"))
  | ((apply app_at 3); (· exact rfl); (· walk_at "len"))
  | ((apply app_at 4); (· exact rfl); (· walk_at "len"))
  | ((apply app_at 5); (· exact rfl); (· walk_at "len"))
  | ((apply app_at 6); (· exact rfl); (· walk_at "len"))
  | ((apply app_at 7); (· exact rfl); (· walk_at "len"))
  | ((apply app_at 8); (· exact rfl); (· walk_at "len"))
  | ((apply app_at 9); (· exact rfl); (· walk_at "len"))
  | (with_reducible refine xs_appendC ?_)
  | (with_reducible refine xs_asgG (g := gTup _ _ _) ?_)
  | ((with_reducible refine xg_tup ?_ ?_); (· rfl))
  | (with_reducible refine xgs_cons ?_)
  | (with_reducible refine xgs_nil ?_)
  | (with_reducible refine yg_nameT ?_)
  | (with_reducible refine yg_nameF ?_)
  | (with_reducible refine xe_bmL ?_)
  | (with_reducible refine xs_appendCC ?_)
  | (with_reducible refine xs_appendCF ?_)
  | (with_reducible refine xn_revL ?_)
  | (with_reducible refine xe_of_xn (te := tRevL _ _) ?_)
  | ((with_reducible apply cel_and); (· walk_at "vwi"))
  | ((with_reducible apply cel_at); (· walk_at "vwi"))
  | (with_reducible refine xe_fld ?_)
  | ((with_reducible apply fld_at); (· walk_at "vwi"); (· walk_at "lk"))
  | (with_reducible refine xe_meth (by assumption) ?_)
  | (with_reducible refine xe_meth eokw_no ?_)
  | (with_reducible refine xe_methD (by assumption) ?_)
  | (with_reducible refine xe_methD eokw_no ?_)
  | ((with_reducible apply meth_and); (· walk_at "vwi"); (· simp only [List.map_cons, List.map_nil]; decide +kernel))
  | (with_reducible refine xn_meth eokw_no ?_)
  | (with_reducible refine xe_of_xn (te := tMeth _ _ (pxfN _ _ _) _ _ _ _) ?_)
  | (with_reducible refine xe_make eokw_no ?_))
local macro_rules | `(tactic| walk_at "nmx") => `(tactic| fail)
local macro_rules | `(tactic| walk_at "y") => `(tactic| first | (with_reducible refine y_retNew (te := tLst _) ?_) | (with_reducible refine y_retNew (te := tLc _ _ _ _ _) ?_) | (with_reducible refine y_retNew (te := tSl (rSlL _) _ _ _) ?_) | (with_reducible refine y_retNew (te := tOp rCat _ _) ?_) | (with_reducible refine y_retNew (te := tCB (qListOf _) _) ?_) | (with_reducible refine y_retNew (te := tCall (pfnN _ _) _ _ _) ?_) | (with_reducible refine y_retNew (te := tCall (pxfN _ _ _) _ _ _) ?_) | (with_reducible refine y_retNew (te := tMeth _ _ (pxfN _ _ _) _ _ _ _) ?_) | ((with_reducible refine gSetX ?_); walk_at "nmx") | ((with_reducible refine gSetW ?_); walk_at "nmw") | ((with_reducible refine gRhoE ?_); walk_at "nmx") | ((with_reducible refine gRho0 ?_); walk_at "nmx"))
local macro_rules | `(tactic| walk_at "yi") => `(tactic| repeat ((fail_if_success (with_reducible refine y_if ?_)); walk_at "y"))
local macro_rules | `(tactic| walk_at "yf") => `(tactic| repeat ((fail_if_success (with_reducible refine y_forL ?_)); walk_at "y"))
local macro_rules | `(tactic| walk_at "yr") => `(tactic| repeat ((fail_if_success (with_reducible refine y_forR1 ?_)); walk_at "y"))
def topS (i : Nat) : Stmt := PySem.Challenge.pw_taglook_k32_asked_in_order.main.body.getD i (.Pass ⟨0, 0, 0, 0⟩)
structure Cs where
  clo : Addr → TX → Res
  tb_law : Addr
structure Txt (K : PySem.W.Frag) (mg : Str → Option Value) (c : Cs) : Prop where
  b_tuple : mg "tuple" = none
  b_len : mg "len" = none
  b_range : mg "range" = none
  b_min : mg "min" = none
section
variable {P : Program} {w : World} {K : PySem.W.Frag} {mg : Str → Option Value} {base : Heap} {c : Cs}
section
abbrev s_found_all : Stmt := topS 2
theorem sc_found_all : FnScope ["line", "word", "strength", "kind"] ["line", "word", "strength"] (defScope s_found_all) := ⟨rfl, rfl, rfl, by decide +kernel, rfl, by decide +kernel, by decide +kernel⟩
in #guard_msgs in open Nat
abbrev s_paper_of : Stmt := topS 1
theorem sc_paper_of : FnScope ["line", "word", "strength", "passed", "kind", "found"] ["line", "word", "strength"] (defScope s_paper_of) := ⟨rfl, rfl, rfl, by decide +kernel, rfl, by decide +kernel, by decide +kernel⟩
in #guard_msgs in open Nat
abbrev s_wrong_at : Stmt := topS 3
theorem sc_wrong_at : FnScope ["line", "word", "strength", "paper", "passed", "found", "told", "k", "at"] ["line", "word", "strength", "paper"] (defScope s_wrong_at) := ⟨rfl, rfl, rfl, by decide +kernel, rfl, by decide +kernel, by decide +kernel⟩
in #guard_msgs in open Nat
abbrev s_l_mix : Stmt := topS 5
theorem sc_l_mix : FnScope ["_law_cell", "_law_turn", "_law_many", "_law_rest", "_law_k", "_law_turns", "_law_one", "_law_two"] ["_law_cell", "_law_turn", "_law_many"] (defScope s_l_mix) := ⟨rfl, rfl, rfl, by decide +kernel, rfl, by decide +kernel, by decide +kernel⟩
in #guard_msgs in open Nat
abbrev s_l_drawn : Stmt := topS 6
theorem sc_l_drawn : FnScope ["_law_script", "_law_k", "_law_many", "_law_cell"] ["_law_script", "_law_k", "_law_many"] (defScope s_l_drawn) := ⟨rfl, rfl, rfl, by decide +kernel, rfl, by decide +kernel, by decide +kernel⟩
in #guard_msgs in open Nat
abbrev s_l_namesP : Stmt := topS 7
theorem sc_l_namesP : FnScope ["_law_script", "_law_at", "_law_many", "_law_letters", "_law_first", "_law_step", "_law_base", "_law_size", "_law_place", "_law_names_here", "_law_k", "_law_sign", "_law_j"] ["_law_script", "_law_at", "_law_many"] (defScope s_l_namesP) := ⟨rfl, rfl, rfl, by decide +kernel, rfl, by decide +kernel, by decide +kernel⟩
in #guard_msgs in open Nat
abbrev s_l_table : Stmt := topS 8
theorem sc_l_table : FnScope ["_law_script", "_law_at", "_law_kinds", "_law_words", "_law_table_here", "_law_dense", "_law_kind", "_law_word", "_law_pick"] ["_law_script", "_law_at", "_law_kinds", "_law_words"] (defScope s_l_table) := ⟨rfl, rfl, rfl, by decide +kernel, rfl, by decide +kernel, by decide +kernel⟩
in #guard_msgs in open Nat
abbrev s_l_paper : Stmt := topS 9
theorem sc_l_paper : FnScope ["_law_line", "_law_word", "_law_table_here", "_law_k"] ["_law_line", "_law_word", "_law_table_here"] (defScope s_l_paper) := ⟨rfl, rfl, rfl, by decide +kernel, rfl, by decide +kernel, by decide +kernel⟩
in #guard_msgs in open Nat
abbrev s_l_cut_short : Stmt := topS 10
theorem sc_l_cut_short : FnScope ["_law_line", "_law_word", "_law_passed", "_law_strength", "_law_asked", "_law_at", "_law_paper_here", "_law_pair", "_law_kind"] ["_law_line", "_law_word", "_law_passed", "_law_strength", "_law_asked"] (defScope s_l_cut_short) := ⟨rfl, rfl, rfl, by decide +kernel, rfl, by decide +kernel, by decide +kernel⟩
in #guard_msgs in open Nat
abbrev s_law : Stmt := topS 11
theorem sc_law : FnScope ["_law_script", "_law_kinds", "_law_words", "_law_strength", "_law_word", "_law_size", "_law_line", "_law_passed", "_law_found", "_law_told", "_law_due", "_law_at", "_law_spoilt", "_law_asked", "_law_table_here", "_law_kind", "_law_pair"] ["_law_script"] (defScope s_law) := ⟨rfl, rfl, rfl, by decide +kernel, rfl, by decide +kernel, by decide +kernel⟩
in #guard_msgs in open Nat
abbrev nm_law : Nat → Nat → Str := fun l _ => "law.<locals>._law_strength"
abbrev s_law_l_strength : Stmt := (defBody s_law).getD 4 (.Pass ⟨0, 0, 0, 0⟩)
theorem sc_law_l_strength : NScope ["_law_kind", "_law_word", "_law_asked", "_law_table_here"] ["_law_kind", "_law_word"] ["_law_asked", "_law_table_here"] (C8.fnScope s_law_l_strength) := nscope_by (by decide +kernel)
in #guard_msgs in open Nat
theorem nb_law_l_strength : ndefB (defScope s_law) (C8.fnScope s_law_l_strength) ["_law_asked", "_law_table_here"] = true := by decide +kernel

end
section
/-- what a line of kinds tells of a word whose strengths are g -/
def pap (g : Str → Int) : List Str → List Str × Option Str × Int
  | [] => ([], none, 0)
  | z :: r => if 0 < g z then ([], some z, g z) else (z :: (pap g r).1, (pap g r).2)
def eOs : Option Str → D
  | none => .non
  | some z => .str z
abbrev ePap (p : List Str × Option Str × Int) : D := .tup [.tup (p.1.map .str), eOs p.2.1, .int p.2.2]
theorem pap_none {g : Str → Int} : ∀ {l : List Str}, (∀ z ∈ l, ¬ 0 < g z) → pap g l = (l, none, 0)
  | [], _ => rfl
  | z :: r, h => by
    rw [pap, if_neg (h z List.mem_cons_self), pap_none fun y m => h y (List.mem_cons_of_mem _ m)]
in #guard_msgs in open Nat
theorem pap_at {g : Str → Int} : ∀ {l : List Str} {i : Nat} {z : Str}, l[i]? = some z → (∀ y ∈ l.take i, ¬ 0 < g y) → 0 < g z → pap g l = (l.take i, some z, g z)
  | [], i, z, h, _, _ => by simp at h
  | y :: l, 0, z, h, _, hg => by
    have e : y = z := by simpa using h
    subst e
    rw [pap, if_pos hg]; rfl
  | y :: l, i + 1, z, h, hb, hg => by
    rw [List.take_succ_cons] at hb
    rw [pap, if_neg (hb y List.mem_cons_self), pap_at (l := l) (i := i) (by simpa using h) (fun x m => hb x (List.mem_cons_of_mem _ m)) hg, List.take_succ_cons]
in #guard_msgs in open Nat
theorem pap_len {g : Str → Int} : ∀ {l : List Str}, (pap g l).1.length ≤ l.length
  | [] => Nat.le_refl _
  | z :: r => by
    rw [pap]
    split
    · exact Nat.zero_le _
    · exact Nat.succ_le_succ pap_len
in #guard_msgs in open Nat
theorem take_at {α : Type} {l : List α} {i : Nat} {x : α} (h : l[i]? = some x) : l.take (i + 1) = l.take i ++ [x] := by rw [List.take_add_one, h]; rfl
/-- the kinds that are asked for a paper -/
def papA (g : Str → Int) : List Str → List Str
  | [] => []
  | z :: r => if 0 < g z then [z] else z :: papA g r
theorem papA_none {g : Str → Int} : ∀ {l : List Str}, (∀ z ∈ l, ¬ 0 < g z) → papA g l = l
  | [], _ => rfl
  | z :: r, h => by rw [papA, if_neg (h z List.mem_cons_self), papA_none fun y m => h y (List.mem_cons_of_mem _ m)]
in #guard_msgs in open Nat
theorem papA_at {g : Str → Int} : ∀ {l : List Str} {i : Nat} {z : Str}, l[i]? = some z → (∀ y ∈ l.take i, ¬ 0 < g y) → 0 < g z → papA g l = l.take (i + 1)
  | [], i, z, h, _, _ => by simp at h
  | y :: l, 0, z, h, _, hg => by
    have e : y = z := by simpa using h
    subst e
    rw [papA, if_pos hg]; rfl
  | y :: l, i + 1, z, h, hb, hg => by
    rw [List.take_succ_cons] at hb
    rw [papA, if_neg (hb y List.mem_cons_self), papA_at (l := l) (i := i) (by simpa using h) (fun x m => hb x (List.mem_cons_of_mem _ m)) hg, List.take_succ_cons]
in #guard_msgs in open Nat
/-- a function that is handed in: what it answers hangs not on its state, which goes on with each call -/
structure Tel (dom : Str → Str → Prop) (T : TX) {S : Type} (r : S → Res) (g : Str → Str → Int) (nx : S → Str → Str → S) (sz : S → Nat) : Prop where
  ask : ∀ s z w, dom z w → sz s < 90000 → ∀ (q : D → List Res → Prop) (x : XX), q (.int (g z w)) [r (nx s z w)] → T [.str z, .str w] [r s] q x
  up : ∀ s z w, sz (nx s z w) ≤ sz s + 1
/-- the state behind some kinds asked -/
def askL {S : Type} (nx : S → Str → Str → S) (w : Str) (s : S) (l : List Str) : S := l.foldl (fun s z => nx s z w) s
theorem askL_snoc {S : Type} {nx : S → Str → Str → S} {w : Str} {s : S} {l : List Str} {z : Str} : askL nx w s (l ++ [z]) = nx (askL nx w s l) z w := by unfold askL; rw [List.foldl_append]; rfl
in #guard_msgs in open Nat
theorem Tel.len {dom : Str → Str → Prop} {T : TX} {S : Type} {r : S → Res} {g : Str → Str → Int} {nx : S → Str → Str → S} {sz : S → Nat} (h : Tel dom T r g nx sz) {w : Str} : ∀ {l : List Str} {s : S}, sz (askL nx w s l) ≤ sz s + l.length
  | [], s => Nat.le_refl _
  | z :: l, s => by
    have h1 := h.up s z w
    have h2 := h.len (w := w) (l := l) (s := nx s z w)
    show sz (askL nx w (nx s z w) l) ≤ sz s + (l.length + 1)
    omega
in #guard_msgs in open Nat
theorem Tel.askT {dom : Str → Str → Prop} {T : TX} {S : Type} {r : S → Res} {g : Str → Str → Int} {nx : S → Str → Str → S} {sz : S → Nat} (h : Tel dom T r g nx sz) {w : Str} {line : List Str} {i : Nat} {s : S} (hs : sz s ≤ 80000) (hl : line.length ≤ 1000) (z : Str) (hd : dom z w) (q : D → List Res → Prop) (x : XX) (hq : q (.int (g z w)) [r (nx (askL nx w s (line.take i)) z w)]) : T [.str z, .str w] [r (askL nx w s (line.take i))] q x := by
  refine h.ask _ z w hd ?_ q x hq
  have h1 := h.len (w := w) (l := line.take i) (s := s)
  rw [List.length_take] at h1
  omega
in #guard_msgs in open Nat
def T_paper_of (K : PySem.W.Frag) (c : Cs) : TX := fun ds W q _ => ∃ (line : List Str) (w : Str) (f : Addr) (T : TX) (S : Type) (r : S → Res) (g : Str → Str → Int) (nx : S → Str → Str → S) (dom : Str → Str → Prop) (sz : S → Nat) (s : S), ds = [eNs line, .str w, .op (.ref f)] ∧ line.length ≤ 1000 ∧ W = [c.clo f T, r s] ∧ Tel dom T r g nx sz ∧ sz s ≤ 80000 ∧ (∀ z ∈ line, dom z w) ∧ q (ePap (pap (fun z => g z w) line)) [c.clo f T, r (askL nx w s (papA (fun z => g z w) line))]
local macro_rules | `(tactic| walk_at "nm") => `(tactic| refine aw_norm (ρ' := [_, _, _, _, _, _]) rfl ?_)
local macro_rules | `(tactic| walk_at "nmx") => `(tactic| refine xs_norm (ρ' := [_, _, _, _, _, _]) rfl ?_)
abbrev sp_paper_of (K : PySem.W.Frag) (mg : Str → Option Value) (c : Cs) : Sp := pxf K mg (T_paper_of K c)
theorem ok_paper_of {f : Addr} {fd : FuncData} (F : Fun K "paper_of" "paper_of" s_paper_of f fd) (T : Txt K mg c) (hcl : c.clo = RClo P w K mg base 12) : FnOk P w K mg base CX0 13 f fd ["line", "word", "strength"] (sp_paper_of K mg c) := by
  refine F.ok sc_paper_of (fun vs H Q E h => ?_) (fun cdv A outer s H vs Q E hr h => ?_)
  · (obtain ⟨_, _, _, _, _, _, _, _, _, _, _, dv, hT, _⟩ := h; rw [dv.len]; first | (obtain ⟨rfl, _⟩ := hT; rfl) | (obtain ⟨_, rfl, _⟩ := hT; rfl) | (obtain ⟨_, _, rfl, _⟩ := hT; rfl) | (obtain ⟨_, _, _, rfl, _⟩ := hT; rfl) | (obtain ⟨_, _, _, _, rfl, _⟩ := hT; rfl) | (obtain ⟨_, _, _, _, _, rfl, _⟩ := hT; rfl) | (obtain ⟨_, _, _, _, _, _, rfl, _⟩ := hT; rfl) | (obtain ⟨_, _, _, _, _, _, _, rfl, _⟩ := hT; rfl) | (obtain ⟨_, _, _, _, _, _, _, _, rfl, _⟩ := hT; rfl) | (obtain ⟨_, _, _, _, _, _, _, _, _, rfl, _⟩ := hT; rfl) | (obtain ⟨_, _, _, _, _, _, _, _, _, _, rfl, _⟩ := hT; rfl) | (obtain ⟨_, _, _, _, _, _, _, _, _, _, _, rfl, _⟩ := hT; rfl) | (obtain ⟨_, _, _, _, _, _, _, _, _, _, _, _, rfl, _⟩ := hT; rfl) | (obtain ⟨_, _, _, _, _, _, _, _, _, _, _, _, _, rfl, _⟩ := hT; rfl) | (obtain ⟨_, _, _, _, _, _, _, _, _, _, _, _, _, _, rfl, _⟩ := hT; rfl) | (obtain ⟨_, _, _, _, _, _, _, _, _, _, _, _, _, _, _, rfl, _⟩ := hT; rfl) | (obtain ⟨_, _, _, _, _, _, _, _, _, _, _, _, _, _, _, _, rfl, _⟩ := hT; rfl))
  refine ⟨_, (pss_cons (ps_asN (ps_set (i := 3) sc_paper_of.nd rfl (Or.inl rfl) (pe_lst pa_nil)))
      (pss_cons (ps_for PassesOwn.never rfl (pi_listK (K := K) rfl (pv 0)) (pg_name (i := 4) sc_paper_of.nd rfl (Or.inl rfl))
        (pss_cons (ps_asS (ps_set (i := 5) sc_paper_of.nd rfl (Or.inl rfl) (pe_callfn (k := 12) (E := E0) (i := 2) (hr.mono (by decide)) rfl (by first | exact Or.inl rfl | exact Or.inr (Or.inl rfl) | exact Or.inr (Or.inr rfl)) (pa_cons (pv 4) (pa_cons (pv 1) pa_nil)))))
        (pss_cons (ps_if (pt_cmpR op_gt (pv 5) pe_int (nomark _))
          (pss_one (ps_ret (pe_tup (pa_cons (pe_callTy (call_tupK (K := K) rfl) (by rfl) T.b_tuple (by decide +kernel) (pa_cons (pv 3) pa_nil)) (pa_cons (pv 4) (pa_cons (pv 5) pa_nil))))))
          pss_nil)
        (pss_one (ps_apS (ps_expr (pe_bmKK (K := K) rfl PySem.F.plainAttrs_list PySem.F.slot_list_append PySem.F.type_list_append mt_append (pv 3) (pa_cons (pv 4) pa_nil))))))))
      (pss_one (ps_ret (pe_tup (pa_cons (pe_callTy (call_tupK (K := K) rfl) (by rfl) T.b_tuple (by decide +kernel) (pa_cons (pv 3) pa_nil)) (pa_cons pe_non (pa_cons pe_int pa_nil)))))))), pxf_enter h ?_⟩
  rintro ds W q x Z ⟨line, w, f, T, S, r, g, nx, dom, sz, s, rfl, hl, rfl, hT, hs, hd, hq⟩ hE
  walk_at "yo"
  refine y_forB ?_
  walk_at "yo"
  refine xforM (f := D.str) (xs := line) (fun i ρ' W' => ρ' = [.bo (eNs line), .sh (.str w), .sh (.op (.ref f)), .own (eNs (line.take i)), .un, .un] ∧ W' = [c.clo f T, r (askL nx w s (line.take i))] ∧ ∀ y ∈ line.take i, ¬ 0 < g y w) ⟨_, _, by walk_at "wk", Ent.refl _, rfl, rfl, by simp⟩ ?_ ?_
  · rintro i z ρ' W' hz ⟨rfl, rfl, hb⟩
    walk_at "yo"
    refine xe_callfnC hcl eokw_no rfl ⟨0, _, rfl⟩ ?_
    walk_at "yo"
    refine ⟨0, T, rfl, ⟨[r (askL nx w s (line.take i))], [c.clo f T], Ent.perm (.swap _ _ _), hT.askT hs hl z (hd z (List.mem_of_getElem? hz)) _ _ ⟨[c.clo f T, r (askL nx w s (line.take (i + 1)))], ?_, ?_⟩⟩⟩
    · rw [take_at hz, askL_snoc]
      exact Ent.perm (.swap _ _ _)
    walk_at "yo"
    refine ite_ok (fun h => ?_) (fun h => ?_)
    · walk_at "yo"
      rw [pap_at hz hb h, papA_at hz hb h] at hq
      exact ⟨_, Ent.refl _, hq⟩
    · walk_at "yo"
      rw [eNs_snoc, ← take_at hz]
      refine ⟨_, _, by walk_at "wk", Ent.refl _, rfl, rfl, fun y m => ?_⟩
      rw [take_at hz] at m
      exact (List.mem_append.mp m).elim (hb y) fun m => by rw [List.mem_singleton.mp m]; exact h
  · rintro ρ' W' ⟨rfl, rfl, hb⟩
    rw [List.take_length] at hb ⊢
    walk_at "yo"
    rw [pap_none hb, papA_none hb] at hq
    exact ⟨_, Ent.refl _, hq⟩
in #guard_msgs in open Nat
theorem u_paper_of {K : PySem.W.Frag} {c : Cs} {W Wf : List Res} {line : List Str} {w : Str} {f : Addr} {T : TX} {S : Type} {r : S → Res} {g : Str → Str → Int} {nx : S → Str → Str → S} {dom : Str → Str → Prop} {sz : S → Nat} {s : S} {q : D → List Res → Prop} {x : XX} (e : Ent W ([c.clo f T, r s] ++ Wf)) (hT : Tel dom T r g nx sz) (hs : sz s ≤ 80000) (hl : line.length ≤ 1000) (hd : ∀ z ∈ line, dom z w) (hq : q (ePap (pap (fun z => g z w) line)) ([c.clo f T, r (askL nx w s (papA (fun z => g z w) line))] ++ Wf)) : CallX (T_paper_of K c) [eNs line, .str w, .op (.ref f)] W q x :=
  ⟨_, Wf, e, line, w, f, T, S, r, g, nx, dom, sz, s, rfl, hl, rfl, hT, hs, hd, ⟨_, Ent.refl _, hq⟩⟩
in #guard_msgs in open Nat
/-- f(..), f a name that holds a function, within a comprehension -/
theorem pe_callfnE {X : Cx} {k i : Nat} {E : XK} {x : Str} {p pos : Pos} {e : Expr} {es : List Expr} {t : TA} {P : Program} {w : World} {K : PySem.W.Frag} {mg : Str → Option Value} {base : Heap} (h1 : X.prog = P) (h2 : X.w = w) (h3 : X.K = K) (h4 : X.mg = mg) (h5 : X.base = base) (hr : Room k X.A) (hN : X.N[i]? = some x) (hv : Vis X.env.scope x) (ha : PA X (e :: es) t)
    (hd : (x == ("__debug__" : Str)) = false := by decide) (hcd : (x == ("__classdict__" : Str)) = false := by decide)
    (he : starEach (e :: es) X.env = (false, eval e X.env) :: starEach es X.env := by rfl) (hpl : (backTo pos (starEach es X.env)).any (·.1) = false := by rfl) :
    PE X (.Call (.Name x p) (e :: es) [] pos) (tCallFn P w K mg base k i E t) := by
  subst h1 h2 h3 h4 h5
  exact pe_callfn hr hN hv ha hd hcd he hpl
in #guard_msgs in open Nat
def T_found_all (K : PySem.W.Frag) (c : Cs) : TX := fun ds W q _ => ∃ (line : List Str) (w : Str) (f : Addr) (T : TX) (S : Type) (r : S → Res) (g : Str → Str → Int) (nx : S → Str → Str → S) (dom : Str → Str → Prop) (sz : S → Nat) (s : S), ds = [eNs line, .str w, .op (.ref f)] ∧ line.length ≤ 1000 ∧ W = [c.clo f T, r s] ∧ Tel dom T r g nx sz ∧ sz s ≤ 80000 ∧ (∀ z ∈ line, dom z w) ∧ q (eNs (line.filter fun z => decide (0 < g z w))) [c.clo f T, r (askL nx w s line)]
local macro_rules | `(tactic| walk_at "nm") => `(tactic| refine aw_norm (ρ' := [_, _, _, _]) rfl ?_)
local macro_rules | `(tactic| walk_at "nmx") => `(tactic| refine xs_norm (ρ' := [_, _, _, _]) rfl ?_)
abbrev sp_found_all (K : PySem.W.Frag) (mg : Str → Option Value) (c : Cs) : Sp := pxfN K mg (T_found_all K c)
theorem ok_found_all {f : Addr} {fd : FuncData} (F : Fun K "found_all" "found_all" s_found_all f fd) (T : Txt K mg c) (hcl : c.clo = RClo P w K mg base 12) : FnOk P w K mg base CX0 13 f fd ["line", "word", "strength"] (sp_found_all K mg c) := by
  refine F.ok sc_found_all (fun vs H Q E h => ?_) (fun cdv A outer s H vs Q E hr h => ?_)
  · (obtain ⟨_, _, _, _, _, _, _, _, _, _, _, dv, hT, _⟩ := h; rw [dv.len]; first | (obtain ⟨rfl, _⟩ := hT; rfl) | (obtain ⟨_, rfl, _⟩ := hT; rfl) | (obtain ⟨_, _, rfl, _⟩ := hT; rfl) | (obtain ⟨_, _, _, rfl, _⟩ := hT; rfl) | (obtain ⟨_, _, _, _, rfl, _⟩ := hT; rfl) | (obtain ⟨_, _, _, _, _, rfl, _⟩ := hT; rfl) | (obtain ⟨_, _, _, _, _, _, rfl, _⟩ := hT; rfl) | (obtain ⟨_, _, _, _, _, _, _, rfl, _⟩ := hT; rfl) | (obtain ⟨_, _, _, _, _, _, _, _, rfl, _⟩ := hT; rfl) | (obtain ⟨_, _, _, _, _, _, _, _, _, rfl, _⟩ := hT; rfl) | (obtain ⟨_, _, _, _, _, _, _, _, _, _, rfl, _⟩ := hT; rfl) | (obtain ⟨_, _, _, _, _, _, _, _, _, _, _, rfl, _⟩ := hT; rfl) | (obtain ⟨_, _, _, _, _, _, _, _, _, _, _, _, rfl, _⟩ := hT; rfl) | (obtain ⟨_, _, _, _, _, _, _, _, _, _, _, _, _, rfl, _⟩ := hT; rfl) | (obtain ⟨_, _, _, _, _, _, _, _, _, _, _, _, _, _, rfl, _⟩ := hT; rfl) | (obtain ⟨_, _, _, _, _, _, _, _, _, _, _, _, _, _, _, rfl, _⟩ := hT; rfl) | (obtain ⟨_, _, _, _, _, _, _, _, _, _, _, _, _, _, _, _, rfl, _⟩ := hT; rfl))
  refine ⟨_, (pss_one (ps_ret (pe_lc (own := [("kind", 3)]) (g := gName 3) (by rfl) sc_found_all.nd (pi_listK (K := K) rfl (pv 0)) (blkOk_by (own := [("kind", 3)]) (N := ["line", "word", "strength", "kind"]) (sc := defScope s_found_all) (by decide +kernel)) (fun _ _ _ _ _ => (pg_name (i := 3) sc_found_all.nd rfl (Or.inl rfl))) (fun _ _ _ _ _ => (pts_one (pt_cmpR op_gt (pe_callfnE (P := P) (w := w) (K := K) (mg := mg) (base := base) (k := 12) (E := E0) (i := 2) (by rfl) (by rfl) (by rfl) (by rfl) (by rfl) (hr.mono (by decide)) (by rfl) (by first | exact Or.inl rfl | exact Or.inr (Or.inl rfl) | exact Or.inr (Or.inr rfl)) (pa_cons (pv 3) (pa_cons (pv 1) pa_nil))) pe_int (nomark _)))) (fun _ _ _ _ _ => (pv 3))))), pxfN_enter h ?_⟩
  rintro ds W q x Z ⟨line, w, f, T, S, r, g, nx, dom, sz, s, rfl, hl, rfl, hT, hs, hd, hq⟩ hE
  walk_at "yo"
  refine xn_lcL rfl ?_
  walk_at "yo"
  refine ⟨fun i acc W' => W' = [c.clo f T, r (askL nx w s (line.take i))] ∧ acc = ((line.take i).filter fun z => decide (0 < g z w)).map D.str, ⟨rfl, rfl⟩, fun i y acc W1 hy ha => ?_, fun ys W' h => ?_⟩
  · obtain ⟨rfl, rfl⟩ := ha
    rw [List.getElem?_map] at hy
    obtain ⟨z, hz, rfl⟩ := Option.map_eq_some_iff.mp hy
    have la : ((line.take i).filter fun z => decide (0 < g z w)).length < 100000 := by
      have h1 := List.length_filter_le (fun z => decide (0 < g z w)) (line.take i)
      rw [List.length_take] at h1
      omega
    have es : line.take (i + 1) = line.take i ++ [z] := take_at hz
    refine xt_test (xe_op (xe_callfnC hcl eokw_no rfl ⟨0, _, rfl⟩ ?_))
    walk_at "yo"
    refine ⟨0, T, rfl, ⟨[r (askL nx w s (line.take i))], [c.clo f T], Ent.perm (.swap _ _ _), hT.askT hs hl z (hd z (List.mem_of_getElem? hz)) _ _ ⟨[c.clo f T, r (askL nx w s (line.take (i + 1)))], ?_, ?_⟩⟩⟩
    · rw [es, askL_snoc]
      exact Ent.perm (.swap _ _ _)
    walk_at "yo"
    refine ⟨fun h => ?_, fun h => ?_⟩
    · walk_at "yo"
      rw [es, List.filter_append, List.map_append, List.filter_cons_of_pos (by exact h)]
      rfl
    · refine ⟨rfl, ?_⟩
      rw [es, List.filter_append, List.filter_cons_of_neg (by rw [h]; decide), List.filter_nil, List.append_nil]
  · obtain ⟨rfl, rfl⟩ := h
    rw [List.length_map, List.take_length]
    walk_at "yo"
    exact ⟨_, Ent.refl _, hq⟩
in #guard_msgs in open Nat
theorem u_found_all {K : PySem.W.Frag} {c : Cs} {W Wf : List Res} {line : List Str} {w : Str} {f : Addr} {T : TX} {S : Type} {r : S → Res} {g : Str → Str → Int} {nx : S → Str → Str → S} {dom : Str → Str → Prop} {sz : S → Nat} {s : S} {q : D → List Res → Prop} {x : XX} (e : Ent W ([c.clo f T, r s] ++ Wf)) (hT : Tel dom T r g nx sz) (hs : sz s ≤ 80000) (hl : line.length ≤ 1000) (hd : ∀ z ∈ line, dom z w) (hq : q (eNs (line.filter fun z => decide (0 < g z w))) ([c.clo f T, r (askL nx w s line)] ++ Wf)) : CallX (T_found_all K c) [eNs line, .str w, .op (.ref f)] W q x :=
  ⟨_, Wf, e, line, w, f, T, S, r, g, nx, dom, sz, s, rfl, hl, rfl, hT, hs, hd, ⟨_, Ent.refl _, hq⟩⟩
in #guard_msgs in open Nat

end
section
/-- how far the passed ones of a paper are right: the first wrong place, how many kinds are asked -/
def wrG (g : Str → Int) : List Str → List Str → Nat → Option Nat × Nat
  | _, [], k => (none, k)
  | [], _ :: _, k => (some k, k)
  | z :: l, p :: ps, k => if z ≠ p then (some k, k) else if g z ≠ 0 then (some k, k + 1) else wrG g l ps (k + 1)
/-- the first wrong place of a paper, how many kinds are asked -/
def wrP (g : Str → Int) (line passed : List Str) (found : Option Str) (told : Int) : Option Nat × Nat :=
  match wrG g line passed 0 with
  | (some k, a) => (some k, a)
  | (none, a) => match found with
    | none => if passed.length < line.length ∨ told ≠ 0 then (some passed.length, a) else (none, a)
    | some y => if line[passed.length]? ≠ some y ∨ told = 0 then (some passed.length, a) else if g y ≠ told then (some passed.length, a + 1) else (none, a + 1)
def eOn : Option Nat → D
  | none => .non
  | some k => .int (k : Int)
theorem wrG_none {g : Str → Int} : ∀ {line passed : List Str} {k a : Nat}, wrG g line passed k = (none, a) → a = k + passed.length ∧ passed.length ≤ line.length
  | line, [], k, a, h => by
    have h1 : ((none, k) : Option Nat × Nat) = (none, a) := by unfold wrG at h; cases line <;> exact h
    cases h1
    exact ⟨rfl, Nat.zero_le _⟩
  | [], p :: ps, k, a, h => by
    have h1 : ((some k, k) : Option Nat × Nat) = (none, a) := h
    cases h1
  | z :: l, p :: ps, k, a, h => by
    unfold wrG at h
    split at h
    · cases h
    · split at h
      · cases h
      · obtain ⟨h1, h2⟩ := wrG_none h
        exact ⟨by rw [h1, List.length_cons]; omega, Nat.succ_le_succ h2⟩
in #guard_msgs in open Nat
theorem drop_get {α : Type} {xs : List α} {i : Nat} {x : α} (h : xs[i]? = some x) : xs.drop i = x :: xs.drop (i + 1) := by
  obtain ⟨hi, e⟩ := List.getElem?_eq_some_iff.mp h
  rw [List.drop_eq_getElem_cons hi, e]
in #guard_msgs in open Nat
def T_wrong_at (K : PySem.W.Frag) (c : Cs) : TX := fun ds W q _ => ∃ (line : List Str) (w : Str) (f : Addr) (T : TX) (S : Type) (r : S → Res) (g : Str → Str → Int) (nx : S → Str → Str → S) (dom : Str → Str → Prop) (sz : S → Nat) (s : S) (passed : List Str) (found : Option Str) (told : Int), ds = [eNs line, .str w, .op (.ref f), .tup [.tup (passed.map .str), eOs found, .int told]] ∧ line.length ≤ 1000 ∧ passed.length ≤ 1000 ∧ W = [c.clo f T, r s] ∧ Tel dom T r g nx sz ∧ sz s ≤ 80000 ∧ (∀ z ∈ line, dom z w) ∧ q (eOn (wrP (fun z => g z w) line passed found told).1) [c.clo f T, r (askL nx w s (line.take (wrP (fun z => g z w) line passed found told).2))]
/-- names for the parts of a tuple that is lent -/
theorem xs_asgGB {K : PySem.W.Frag} {Z : Zx} {ρ : List Sl} {W : List Res} {P : AEnds} {te : TE} {g : TG} (h : XE K Z te (vb ρ) W fun d W' => XG K Z false g d ρ W' P.nx) : XS K Z (tAsg te g) ρ W P := fun F R ok C H σ A G s r =>
  h σ C _ H G r.pb r.eb _ fun d v W1 C1 H1 G1 hg n1 dv => by
    have r1 := r.next n1
    have dv' : Dv K (ov Z.Ba C1) v d := by
      have d0 : Dv K (ov (ov Z.Ba C) C1) v d := dv
      rwa [ov_ov n1.cc] at d0
    exact hg C1 H1 σ A G1 v r1 (by rw [if_neg Bool.false_ne_true]; exact dv') _ fun ρ' W' C' H' σ' A' G' hn sC r' => ok.nx hn (s.trans (n1.cc.trans sC)) r'
in #guard_msgs in open Nat
theorem scal_eOs {o : Option Str} : scalD (eOs o) = true := by cases o <;> rfl
section
local macro_rules | `(tactic| walk_at "y") => `(tactic| first | (with_reducible refine xs_asgGB (g := gTup _ _ _) ?_) | (with_reducible refine yg_nameS scal_eOs ?_))
local macro_rules | `(tactic| walk_at "nm") => `(tactic| refine aw_norm (ρ' := [_, _, _, _, _, _, _, _, _]) rfl ?_)
local macro_rules | `(tactic| walk_at "nmx") => `(tactic| refine xs_norm (ρ' := [_, _, _, _, _, _, _, _, _]) rfl ?_)
abbrev sp_wrong_at (K : PySem.W.Frag) (mg : Str → Option Value) (c : Cs) : Sp := pxf K mg (T_wrong_at K c)
theorem ok_wrong_at {f : Addr} {fd : FuncData} (F : Fun K "wrong_at" "wrong_at" s_wrong_at f fd) (T : Txt K mg c) (hcl : c.clo = RClo P w K mg base 12) : FnOk P w K mg base CX0 13 f fd ["line", "word", "strength", "paper"] (sp_wrong_at K mg c) := by
  refine F.ok sc_wrong_at (fun vs H Q E h => ?_) (fun cdv A outer s H vs Q E hr h => ?_)
  · (obtain ⟨_, _, _, _, _, _, _, _, _, _, _, dv, hT, _⟩ := h; rw [dv.len]; first | (obtain ⟨rfl, _⟩ := hT; rfl) | (obtain ⟨_, rfl, _⟩ := hT; rfl) | (obtain ⟨_, _, rfl, _⟩ := hT; rfl) | (obtain ⟨_, _, _, rfl, _⟩ := hT; rfl) | (obtain ⟨_, _, _, _, rfl, _⟩ := hT; rfl) | (obtain ⟨_, _, _, _, _, rfl, _⟩ := hT; rfl) | (obtain ⟨_, _, _, _, _, _, rfl, _⟩ := hT; rfl) | (obtain ⟨_, _, _, _, _, _, _, rfl, _⟩ := hT; rfl) | (obtain ⟨_, _, _, _, _, _, _, _, rfl, _⟩ := hT; rfl) | (obtain ⟨_, _, _, _, _, _, _, _, _, rfl, _⟩ := hT; rfl) | (obtain ⟨_, _, _, _, _, _, _, _, _, _, rfl, _⟩ := hT; rfl) | (obtain ⟨_, _, _, _, _, _, _, _, _, _, _, rfl, _⟩ := hT; rfl) | (obtain ⟨_, _, _, _, _, _, _, _, _, _, _, _, rfl, _⟩ := hT; rfl) | (obtain ⟨_, _, _, _, _, _, _, _, _, _, _, _, _, rfl, _⟩ := hT; rfl) | (obtain ⟨_, _, _, _, _, _, _, _, _, _, _, _, _, _, rfl, _⟩ := hT; rfl) | (obtain ⟨_, _, _, _, _, _, _, _, _, _, _, _, _, _, _, rfl, _⟩ := hT; rfl) | (obtain ⟨_, _, _, _, _, _, _, _, _, _, _, _, _, _, _, _, rfl, _⟩ := hT; rfl))
  refine ⟨_, (pss_cons (ps_asg (pv 3) (pg_tupK (K := K) rfl rfl (pgs_cons (pg_name (i := 4) sc_wrong_at.nd rfl (Or.inl rfl)) (pgs_cons (pg_name (i := 5) sc_wrong_at.nd rfl (Or.inl rfl)) (pgs_cons (pg_name (i := 6) sc_wrong_at.nd rfl (Or.inl rfl)) pgs_nil)))))
      (pss_cons (ps_for PassesOwn.never rfl (pi_range1 rfl T.b_range (pa_cons (pe_callB (call_lenK (K := K) rfl) (by rfl) T.b_len PySem.boot_len (pa_cons (pv 4) pa_nil)) pa_nil)) (pg_name (i := 7) sc_wrong_at.nd rfl (Or.inl rfl))
        (pss_one (ps_if (pw_or (pt_cmpR op_ge (pv 7) (pe_callB (call_lenK (K := K) rfl) (by rfl) T.b_len PySem.boot_len (pa_cons (pv 0) pa_nil)) (nomark _)) (pw_or (pt_cmpR op_ne (pe_ix (ix_listK (K := K) rfl) (pv 0) (pv 7) (fun _ _ => rfl)) (pe_ix (ix_tupK (K := K) rfl) (pv 4) (pv 7) (fun _ _ => rfl)) (nomark _)) (pw_or1 (pt_cmpR op_ne (pe_callfn (k := 12) (E := E0) (i := 2) (hr.mono (by decide)) rfl (by first | exact Or.inl rfl | exact Or.inr (Or.inl rfl) | exact Or.inr (Or.inr rfl)) (pa_cons (pe_ix (ix_listK (K := K) rfl) (pv 0) (pv 7) (fun _ _ => rfl)) (pa_cons (pv 1) pa_nil))) pe_int (nomark _))))).pt
          (pss_one (ps_ret (pv 7)))
          pss_nil)))
      (pss_cons (ps_asS (ps_set (i := 8) sc_wrong_at.nd rfl (Or.inl rfl) (pe_callB (call_lenK (K := K) rfl) (by rfl) T.b_len PySem.boot_len (pa_cons (pv 4) pa_nil))))
      (pss_cons (ps_if (pt_cmp (pc_isN (pv 5) ))
        (pss_one (ps_if (pw_or (pt_cmpR op_lt (pv 8) (pe_callB (call_lenK (K := K) rfl) (by rfl) T.b_len PySem.boot_len (pa_cons (pv 0) pa_nil)) (nomark _)) (pw_or1 (pt_cmpR op_ne (pv 6) pe_int (nomark _)))).pt
          (pss_one (ps_ret (pv 8)))
          pss_nil))
        (pss_one (ps_if (pw_or (pt_cmpR op_ge (pv 8) (pe_callB (call_lenK (K := K) rfl) (by rfl) T.b_len PySem.boot_len (pa_cons (pv 0) pa_nil)) (nomark _)) (pw_or (pt_cmpR op_ne (pe_ix (ix_listK (K := K) rfl) (pv 0) (pv 8) (fun _ _ => rfl)) (pv 5) (nomark _)) (pw_or (pt_cmpR op_eq (pv 6) pe_int (nomark _)) (pw_or1 (pt_cmpR op_ne (pe_callfn (k := 12) (E := E0) (i := 2) (hr.mono (by decide)) rfl (by first | exact Or.inl rfl | exact Or.inr (Or.inl rfl) | exact Or.inr (Or.inr rfl)) (pa_cons (pv 5) (pa_cons (pv 1) pa_nil))) (pv 6) (nomark _)))))).pt
          (pss_one (ps_ret (pv 8)))
          pss_nil)))
      (pss_one (ps_ret pe_non)))))), pxf_enter h ?_⟩
  rintro ds W q x Z ⟨line, w, f, T, S, r, g, nx, dom, sz, s, passed, found, told, rfl, hl, hp, rfl, hT, hs, hd, hq⟩ hE
  unfold wrP at hq
  walk_at "yo"
  refine xforR0 (fun i ρ' W' => ρ' = [.bo (eNs line), .sh (.str w), .sh (.op (.ref f)), ent (.tup [.tup (passed.map .str), eOs found, .int told]), ent (.tup (passed.map .str)), .sh (eOs found), .sh (.int told), .un, .un] ∧ W' = [c.clo f T, r (askL nx w s (line.take i))] ∧ i ≤ line.length ∧ wrG (fun z => g z w) line passed 0 = wrG (fun z => g z w) (line.drop i) (passed.drop i) i) ⟨_, _, by walk_at "wk", Ent.refl _, rfl, rfl, Nat.zero_le _, rfl⟩ ?_ ?_
  · rintro i ρ' W' hi ⟨rfl, rfl, hil, he⟩
    have hi2 : i < passed.length := by
      have : i < Int.toNat (passed.length : Int) := hi
      omega
    obtain ⟨p, hpi⟩ : ∃ p, passed[i]? = some p := ⟨_, List.getElem?_eq_getElem hi2⟩
    rw [drop_get hpi] at he
    walk_at "yo"
    by_cases hil2 : i < line.length
    · obtain ⟨z, hz⟩ : ∃ z, line[i]? = some z := ⟨_, List.getElem?_eq_getElem hil2⟩
      rw [drop_get hz, wrG] at he
      have et : line.take (i + 1) = line.take i ++ [z] := take_at hz
      refine ⟨fun _ => ?_, fun h => absurd (of_decide_eq_true h) (by omega)⟩
      refine xt_or (xt_test (xe_op ?_))
      walk_at "yo"
      refine x2_of (a2_ixN (f := D.str) (x := z) hz ?_)
      walk_at "yo"
      refine x2_of (a2_ixTP (d := .str p) (by omega) (by rw [Int.toNat_natCast, List.getElem?_map, hpi]; rfl) ?_)
      walk_at "yo"
      refine ⟨fun h => ?_, fun h => ?_⟩
      · have ezp : z = p := by simpa using h
        subst ezp
        rw [if_neg (not_not_intro rfl)] at he
        refine xt_test (xe_op (xe_callfnC hcl eokw_no rfl ⟨0, _, rfl⟩ ?_))
        walk_at "yo"
        refine x2_of (a2_ixN (f := D.str) (x := z) hz ?_)
        walk_at "yo"
        refine ⟨0, T, rfl, ⟨[r (askL nx w s (line.take i))], [c.clo f T], Ent.perm (.swap _ _ _), hT.askT hs hl z (hd z (List.mem_of_getElem? hz)) _ _ ⟨[c.clo f T, r (askL nx w s (line.take (i + 1)))], ?_, ?_⟩⟩⟩
        · rw [et, askL_snoc]
          exact Ent.perm (.swap _ _ _)
        walk_at "yo"
        refine ⟨fun h => ?_, fun h => ?_⟩
        · have hg : g z w ≠ 0 := by simpa using h
          rw [if_pos hg] at he
          rw [he] at hq
          walk_at "yo"
          exact ⟨_, Ent.refl _, hq⟩
        · have hg : g z w = 0 := by simpa using h
          rw [if_neg (not_not_intro hg)] at he
          walk_at "yo"
          exact ⟨_, _, by walk_at "wk", Ent.refl _, rfl, rfl, hil2, he⟩
      · have ezp : z ≠ p := by simpa using h
        rw [if_pos ezp] at he
        rw [he] at hq
        walk_at "yo"
        exact ⟨_, Ent.refl _, hq⟩
    · rw [List.drop_of_length_le (by omega), wrG] at he
      refine ⟨fun h => absurd (of_decide_eq_false h) (by omega), fun _ => ?_⟩
      walk_at "yo"
      rw [he] at hq
      exact ⟨_, Ent.refl _, hq⟩
  · rintro ρ' W' ⟨rfl, rfl, hil, he⟩
    rw [Int.toNat_natCast] at hil he ⊢
    rw [List.drop_length, wrG] at he
    rw [he] at hq
    walk_at "yo"
    cases found with
    | none =>
      dsimp only at hq
      walk_at "yo"
      refine ⟨fun h => ?_, fun h => ?_⟩
      · have hb : passed.length < line.length ∨ told ≠ 0 := by
          rw [Bool.or_eq_true, Bool.not_eq_true', decide_eq_true_eq, decide_eq_false_iff_not] at h
          omega
        rw [if_pos hb] at hq
        walk_at "yo"
        exact ⟨_, Ent.refl _, hq⟩
      · have hb : ¬ (passed.length < line.length ∨ told ≠ 0) := by
          rw [Bool.or_eq_false_iff, Bool.not_eq_false', decide_eq_true_eq, decide_eq_false_iff_not] at h
          omega
        rw [if_neg hb] at hq
        walk_at "yo"
        exact ⟨_, Ent.refl _, hq⟩
    | some y =>
      dsimp only at hq
      walk_at "yo"
      refine ⟨fun h1 => ?_, fun h1 => ?_⟩
      · have h1' := of_decide_eq_false h1
        have hpl : passed.length < line.length := by omega
        obtain ⟨z, hz⟩ : ∃ z, line[passed.length]? = some z := ⟨_, List.getElem?_eq_getElem hpl⟩
        have et : line.take (passed.length + 1) = line.take passed.length ++ [z] := take_at hz
        rw [hz] at hq
        refine xt_or (xt_test (xe_op ?_))
        walk_at "yo"
        refine x2_of (a2_ixN (f := D.str) (x := z) hz ?_)
        walk_at "yo"
        show X2 K Z rNe (.str z) (.str y) _ _
        walk_at "yo"
        refine ⟨fun h2 => ?_, fun h2 => ?_⟩
        · have ezy : z = y := by simpa using h2
          subst ezy
          refine xt_or (xt_test (xe_op ?_))
          walk_at "yo"
          refine ⟨fun h3 => ?_, fun h3 => ?_⟩
          · have ht0 : told ≠ 0 := of_decide_eq_false h3
            rw [if_neg (by rintro (h | h); exact h rfl; exact ht0 h)] at hq
            refine xt_test (xe_op (xe_callfnC hcl eokw_no rfl ⟨0, _, rfl⟩ ?_))
            walk_at "yo"
            refine ⟨0, T, rfl, ⟨[r (askL nx w s (line.take passed.length))], [c.clo f T], Ent.perm (.swap _ _ _), hT.askT hs hl z (hd z (List.mem_of_getElem? hz)) _ _ ⟨[c.clo f T, r (askL nx w s (line.take (passed.length + 1)))], ?_, ?_⟩⟩⟩
            · rw [et, askL_snoc]
              exact Ent.perm (.swap _ _ _)
            walk_at "yo"
            refine ⟨fun h => ?_, fun h => ?_⟩
            · have hg : g z w ≠ told := by simpa using h
              rw [if_pos hg] at hq
              walk_at "yo"
              exact ⟨_, Ent.refl _, hq⟩
            · have hg : g z w = told := by simpa using h
              rw [if_neg (not_not_intro hg)] at hq
              walk_at "yo"
              exact ⟨_, Ent.refl _, hq⟩
          · have ht0 : told = 0 := of_decide_eq_true h3
            rw [if_pos (.inr ht0)] at hq
            walk_at "yo"
            exact ⟨_, Ent.refl _, hq⟩
        · have ezy : z ≠ y := by simpa using h2
          rw [if_pos (.inl fun e => ezy (Option.some.inj e))] at hq
          walk_at "yo"
          exact ⟨_, Ent.refl _, hq⟩
      · have h1' := of_decide_eq_true h1
        have hno : line[passed.length]? = none := List.getElem?_eq_none (by omega)
        rw [hno, if_pos (.inl (by intro e; cases e))] at hq
        walk_at "yo"
        exact ⟨_, Ent.refl _, hq⟩
in #guard_msgs in open Nat
end
theorem u_wrong_at {K : PySem.W.Frag} {c : Cs} {W Wf : List Res} {line : List Str} {w : Str} {f : Addr} {T : TX} {S : Type} {r : S → Res} {g : Str → Str → Int} {nx : S → Str → Str → S} {dom : Str → Str → Prop} {sz : S → Nat} {s : S} {passed : List Str} {found : Option Str} {told : Int} {q : D → List Res → Prop} {x : XX} (e : Ent W ([c.clo f T, r s] ++ Wf)) (hT : Tel dom T r g nx sz) (hs : sz s ≤ 80000) (hl : line.length ≤ 1000) (hp : passed.length ≤ 1000) (hd : ∀ z ∈ line, dom z w) (hq : q (eOn (wrP (fun z => g z w) line passed found told).1) ([c.clo f T, r (askL nx w s (line.take (wrP (fun z => g z w) line passed found told).2))] ++ Wf)) : CallX (T_wrong_at K c) [eNs line, .str w, .op (.ref f), .tup [.tup (passed.map .str), eOs found, .int told]] W q x :=
  ⟨_, Wf, e, line, w, f, T, S, r, g, nx, dom, sz, s, passed, found, told, rfl, hl, hp, rfl, hT, hs, hd, ⟨_, Ent.refl _, hq⟩⟩
in #guard_msgs in open Nat
/-- what is asked of a paper: not more than one kind behind the passed ones, none from a wrong one on -/
theorem wrG_len {g : Str → Int} : ∀ {line passed : List Str} {k : Nat}, (wrG g line passed k).2 ≤ k + passed.length ∧ ∀ i, line[i]? ≠ passed[i]? → i < passed.length → (wrG g line passed k).2 ≤ k + i
  | line, [], k => by
    have e : wrG g line [] k = (none, k) := by unfold wrG; cases line <;> rfl
    rw [e]
    exact ⟨Nat.le_refl _, fun i _ h => absurd h (Nat.not_lt_zero _)⟩
  | [], p :: ps, k => ⟨Nat.le_add_right _ _, fun i _ _ => Nat.le_add_right _ _⟩
  | z :: l, p :: ps, k => by
    unfold wrG
    split
    · exact ⟨Nat.le_add_right _ _, fun i _ _ => Nat.le_add_right _ _⟩
    · rename_i hz
      have hz : z = p := Classical.byContradiction fun c => hz c
      subst hz
      have big : ∀ i, (z :: l)[i]? ≠ (z :: ps)[i]? → 0 < i := fun i h => Nat.pos_of_ne_zero fun e => by subst e; exact h rfl
      split
      · refine ⟨by rw [List.length_cons]; show k + 1 ≤ _; omega, fun i h _ => ?_⟩
        have := big i h
        show k + 1 ≤ k + i
        omega
      · obtain ⟨h1, h2⟩ := wrG_len (g := g) (line := l) (passed := ps) (k := k + 1)
        refine ⟨by rw [List.length_cons]; omega, fun i h hi => ?_⟩
        have hi0 := big i h
        obtain ⟨j, rfl⟩ : ∃ j, i = j + 1 := ⟨i - 1, by omega⟩
        rw [List.getElem?_cons_succ, List.getElem?_cons_succ] at h
        rw [List.length_cons] at hi
        have := h2 j h (by omega)
        omega
in #guard_msgs in open Nat
theorem wrP_len {g : Str → Int} {line passed : List Str} {found : Option Str} {told : Int} : (wrP g line passed found told).2 ≤ passed.length + 1 ∧ ∀ i, line[i]? ≠ passed[i]? → i < passed.length → (wrP g line passed found told).2 ≤ i := by
  obtain ⟨h1, h2⟩ := wrG_len (g := g) (line := line) (passed := passed) (k := 0)
  unfold wrP
  cases e : wrG g line passed 0 with
  | mk o a =>
    rw [e] at h1 h2
    have h1 : a ≤ 0 + passed.length := h1
    have h2 : ∀ i, line[i]? ≠ passed[i]? → i < passed.length → a ≤ 0 + i := h2
    cases o with
    | some k => exact ⟨by show a ≤ _; omega, fun i h hi => by have := h2 i h hi; show a ≤ _; omega⟩
    | none =>
      have h3 := (wrG_none e).1
      have no : ∀ i, line[i]? ≠ passed[i]? → ¬ i < passed.length := fun i h hi => by
        have := h2 i h hi
        omega
      refine ⟨?_, fun i h hi => absurd hi (no i h)⟩
      cases found with
      | none =>
        dsimp only
        split
        · show a ≤ _; omega
        · show a ≤ _; omega
      | some y =>
        dsimp only
        split
        · show a ≤ _; omega
        · split
          · show a + 1 ≤ _; omega
          · show a + 1 ≤ _; omega
in #guard_msgs in open Nat

end
section
local macro_rules | `(tactic| walk_at "nm") => `(tactic| refine aw_norm (ρ' := [_, _, _, _, _, _, _, _]) rfl ?_)
local macro_rules | `(tactic| walk_at "nmx") => `(tactic| refine xs_norm (ρ' := [_, _, _, _, _, _, _, _]) rfl ?_)
abbrev sp_l_mix (K : PySem.W.Frag) : Sp := pfn K T_l_mix
theorem ok_l_mix {f : Addr} {fd : FuncData} (F : Fun K "_law_mix" "_law_mix" s_l_mix f fd) (T : Txt K mg c)  : FnOk P w K mg base CX0 1 f fd ["_law_cell", "_law_turn", "_law_many"] (sp_l_mix K) := by
  refine F.ok sc_l_mix (fun vs H Q E h => ?_) (fun cdv A outer s H vs Q E hr h => ?_)
  · (obtain ⟨_, _, _, _, dv, hT, _⟩ := h; rw [dv.len]; first | (obtain ⟨rfl, _⟩ := hT; rfl) | (obtain ⟨_, rfl, _⟩ := hT; rfl) | (obtain ⟨_, _, rfl, _⟩ := hT; rfl) | (obtain ⟨_, _, _, rfl, _⟩ := hT; rfl) | (obtain ⟨_, _, _, _, rfl, _⟩ := hT; rfl) | (obtain ⟨_, _, _, _, _, rfl, _⟩ := hT; rfl) | (obtain ⟨_, _, _, _, _, _, rfl, _⟩ := hT; rfl) | (obtain ⟨_, _, _, _, _, _, _, rfl, _⟩ := hT; rfl) | (obtain ⟨_, _, _, _, _, _, _, _, rfl, _⟩ := hT; rfl) | (obtain ⟨_, _, _, _, _, _, _, _, _, rfl, _⟩ := hT; rfl) | (obtain ⟨_, _, _, _, _, _, _, _, _, _, rfl, _⟩ := hT; rfl) | (obtain ⟨_, _, _, _, _, _, _, _, _, _, _, rfl, _⟩ := hT; rfl) | (obtain ⟨_, _, _, _, _, _, _, _, _, _, _, _, rfl, _⟩ := hT; rfl) | (obtain ⟨_, _, _, _, _, _, _, _, _, _, _, _, _, rfl, _⟩ := hT; rfl) | (obtain ⟨_, _, _, _, _, _, _, _, _, _, _, _, _, _, rfl, _⟩ := hT; rfl) | (obtain ⟨_, _, _, _, _, _, _, _, _, _, _, _, _, _, _, rfl, _⟩ := hT; rfl) | (obtain ⟨_, _, _, _, _, _, _, _, _, _, _, _, _, _, _, _, rfl, _⟩ := hT; rfl))
  refine ⟨_, (pss_cons (ps_asS (ps_set (i := 3) sc_l_mix.nd rfl (Or.inl rfl) (pe_op op_fdiv (pv 0) pe_int)))
      (pss_cons (ps_if (pw_and (pt_cmpR op_eq (pe_op op_mod (pv 0) pe_int) pe_int (nomark _)) (pw_and1 (pt_cmpR op_gt (pv 0) (pe_op op_pow pe_int pe_int) (nomark _)))).pt
        (pss_cons (ps_for PassesOwn.never rfl (pi_range1 rfl T.b_range (pa_cons (pv 1) pa_nil)) (pg_name (i := 4) sc_l_mix.nd rfl (Or.inl rfl))
          (pss_one (ps_asS (ps_set (i := 3) sc_l_mix.nd rfl (Or.inl rfl) (pe_op op_fdiv (pv 3) pe_int)))))
        (pss_one (ps_ret (pe_op op_mod (pe_op op_mod (pv 3) pe_int) (pv 2)))))
        pss_nil)
      (pss_cons (ps_asH (ps_set (i := 5) sc_l_mix.nd rfl (Or.inl rfl) (pe_lst (pa_cons pe_int (pa_cons pe_int (pa_cons pe_int (pa_cons pe_int (pa_cons pe_int (pa_cons pe_int (pa_cons pe_int (pa_cons pe_int (pa_cons pe_int (pa_cons pe_int (pa_cons pe_int (pa_cons pe_int (pa_cons pe_int (pa_cons pe_int pa_nil)))))))))))))))))
      (pss_cons (ps_asS (ps_set (i := 6) sc_l_mix.nd rfl (Or.inl rfl) (pe_op op_mod (pe_op op_mul (pe_op op_add (pe_op op_mod (pv 0) pe_int) pe_int) (pe_ix (ix_listK (K := K) rfl) (pv 5) (pe_op op_mod (pv 1) pe_int) (fun _ _ => rfl))) pe_int)))
      (pss_cons (ps_asS (ps_set (i := 7) sc_l_mix.nd rfl (Or.inl rfl) (pe_op op_mod (pe_op op_mul (pv 6) (pe_op op_add (pv 6) (pv 1))) pe_int)))
      (pss_one (ps_ret (pe_op op_mod (pe_op op_fdiv (pe_op op_mod (pe_op op_mul (pv 7) pe_int) pe_int) pe_int) (pv 2))))))))), pfn_enter h ?_⟩
  rintro ds q B0 H0 ⟨c, t, m, rfl, ht, hm, hq⟩
  walk_at "xo"
  refine ⟨fun h => ?_, fun h => ?_⟩
  · have h' : c % 2 = 1 ∧ 10 ^ 18 < c := by simpa using h
    rw [mix, if_pos h'] at hq
    walk_at "xo"
    refine aforRF (fun i => [.sh (.int c), .sh (.int t), .sh (.int m), .sh (.int (mixA c i)), .un, .un, .un, .un]) (by walk_at "wk") (fun i hi => ?_) ?_
    · walk_at "xo"
      walk_at "st"
    · walk_at "xo"
      exact hq
  · have h' : ¬ (c % 2 = 1 ∧ 10 ^ 18 < c) := by simpa using h
    rw [mix, if_neg h'] at hq
    have h14 : 0 ≤ t % 14 ∧ t % 14 < 14 := ⟨Int.emod_nonneg _ (by decide), Int.emod_lt_of_pos _ (by decide)⟩
    have hat : turns[(t % 14).toNat]? = some (turns.getD (t % 14).toNat 0) := turns_at h14.1 h14.2
    have hb := turns_bound (t % 14).toNat
    have h1 := @mixOne_bound c t
    have h2 := @mixTwo_bound c t
    walk_at "xo"
    refine a2_ixM (f := D.int) (xs := turns) h14.1 hat ?_
    walk_at "xo"
    rw [show (c % 1000000007 + 11) * turns.getD (t % 14).toNat 0 % 2147483629 = mixOne c t from rfl]
    walk_at "xo"
    rw [show mixOne c t * (mixOne c t + t) % 1999999973 = mixTwo c t from rfl]
    walk_at "xo"
    exact hq
in #guard_msgs in open Nat
local macro_rules | `(tactic| walk_at "nm") => `(tactic| refine aw_norm (ρ' := [_, _, _, _]) rfl ?_)
local macro_rules | `(tactic| walk_at "nmx") => `(tactic| refine xs_norm (ρ' := [_, _, _, _]) rfl ?_)
abbrev sp_l_drawn (K : PySem.W.Frag) : Sp := pfn K T_l_drawn
theorem ok_l_drawn {f : Addr} {fd : FuncData} (F : Fun K "_law_drawn" "_law_drawn" s_l_drawn f fd) (T : Txt K mg c) {f_l_mix : Addr} {fd_l_mix : FuncData} (D_l_mix : Dk P w K mg base CX0 1 f_l_mix fd_l_mix "_law_mix" ["_law_cell", "_law_turn", "_law_many"] [] (sp_l_mix K)) : FnOk P w K mg base CX0 2 f fd ["_law_script", "_law_k", "_law_many"] (sp_l_drawn K) := by
  refine F.ok sc_l_drawn (fun vs H Q E h => ?_) (fun cdv A outer s H vs Q E hr h => ?_)
  · (obtain ⟨_, _, _, _, dv, hT, _⟩ := h; rw [dv.len]; first | (obtain ⟨rfl, _⟩ := hT; rfl) | (obtain ⟨_, rfl, _⟩ := hT; rfl) | (obtain ⟨_, _, rfl, _⟩ := hT; rfl) | (obtain ⟨_, _, _, rfl, _⟩ := hT; rfl) | (obtain ⟨_, _, _, _, rfl, _⟩ := hT; rfl) | (obtain ⟨_, _, _, _, _, rfl, _⟩ := hT; rfl) | (obtain ⟨_, _, _, _, _, _, rfl, _⟩ := hT; rfl) | (obtain ⟨_, _, _, _, _, _, _, rfl, _⟩ := hT; rfl) | (obtain ⟨_, _, _, _, _, _, _, _, rfl, _⟩ := hT; rfl) | (obtain ⟨_, _, _, _, _, _, _, _, _, rfl, _⟩ := hT; rfl) | (obtain ⟨_, _, _, _, _, _, _, _, _, _, rfl, _⟩ := hT; rfl) | (obtain ⟨_, _, _, _, _, _, _, _, _, _, _, rfl, _⟩ := hT; rfl) | (obtain ⟨_, _, _, _, _, _, _, _, _, _, _, _, rfl, _⟩ := hT; rfl) | (obtain ⟨_, _, _, _, _, _, _, _, _, _, _, _, _, rfl, _⟩ := hT; rfl) | (obtain ⟨_, _, _, _, _, _, _, _, _, _, _, _, _, _, rfl, _⟩ := hT; rfl) | (obtain ⟨_, _, _, _, _, _, _, _, _, _, _, _, _, _, _, rfl, _⟩ := hT; rfl) | (obtain ⟨_, _, _, _, _, _, _, _, _, _, _, _, _, _, _, _, rfl, _⟩ := hT; rfl))
  refine ⟨_, (pss_cons (ps_asS (ps_set (i := 3) sc_l_drawn.nd rfl (Or.inl rfl) (pe_op op_mul pe_int (pe_op op_add (pe_op op_mul pe_int (pv 1)) pe_int))))
      (pss_cons (ps_if (pt_cmpR op_lt (pe_op op_mod (pv 1) pe_int) (pe_callB (call_lenK (K := K) rfl) (by rfl) T.b_len PySem.boot_len (pa_cons (pv 0) pa_nil)) (nomark _))
        (pss_one (ps_asS (ps_set (i := 3) sc_l_drawn.nd rfl (Or.inl rfl) (pe_ix (ix_listK (K := K) rfl) (pv 0) (pe_op op_mod (pv 1) pe_int) (fun _ _ => rfl)))))
        pss_nil)
      (pss_one (ps_ret (pe_call D_l_mix.F (hr.mono (by decide)) (by rfl) D_l_mix.g D_l_mix.kp D_l_mix.b .nil pass0 (pa_cons (pv 3) (pa_cons (pe_op op_fdiv (pv 1) pe_int) (pa_cons (pv 2) pa_nil)))))))), pfn_enter h ?_⟩
  rintro ds q B0 H0 ⟨ns, k, m, rfl, hk, hm, hq⟩
  have h63 : 0 ≤ k % 63 ∧ k % 63 < 63 := ⟨Int.emod_nonneg _ (by decide), Int.emod_lt_of_pos _ (by decide)⟩
  have hd : 0 ≤ k / 63 ∧ k / 63 ≤ 1000 := by omega
  walk_at "xo"
  refine ite_ok (fun h => ?_) (fun h => ?_)
  · have hk' : (k % 63).toNat < ns.length := by omega
    walk_at "xo"
    refine a2_ixFM (x := ns[(k % 63).toNat]) h63.1 (List.getElem?_eq_getElem hk') ?_
    walk_at "xo"
    rw [drw, drwC, if_pos h, List.getD_eq_getElem?_getD, List.getElem?_eq_getElem hk'] at hq
    exact hq
  · walk_at "xo"
    rw [drw, drwC, if_neg h] at hq
    exact hq
in #guard_msgs in open Nat
local macro_rules | `(tactic| walk_at "nm") => `(tactic| refine aw_norm (ρ' := [_, _, _, _, _, _, _, _, _, _, _, _, _]) rfl ?_)
local macro_rules | `(tactic| walk_at "nmx") => `(tactic| refine xs_norm (ρ' := [_, _, _, _, _, _, _, _, _, _, _, _, _]) rfl ?_)
abbrev sp_l_namesP (K : PySem.W.Frag) : Sp := pfn K T_l_namesP
theorem ok_l_namesP {f : Addr} {fd : FuncData} (F : Fun K "_law_names" "_law_names" s_l_namesP f fd) (T : Txt K mg c) {f_l_drawn : Addr} {fd_l_drawn : FuncData} (D_l_drawn : Dk P w K mg base CX0 2 f_l_drawn fd_l_drawn "_law_drawn" ["_law_script", "_law_k", "_law_many"] [] (sp_l_drawn K)) : FnOk P w K mg base CX0 3 f fd ["_law_script", "_law_at", "_law_many"] (sp_l_namesP K) := by
  refine F.ok sc_l_namesP (fun vs H Q E h => ?_) (fun cdv A outer s H vs Q E hr h => ?_)
  · (obtain ⟨_, _, _, _, dv, hT, _⟩ := h; rw [dv.len]; first | (obtain ⟨rfl, _⟩ := hT; rfl) | (obtain ⟨_, rfl, _⟩ := hT; rfl) | (obtain ⟨_, _, rfl, _⟩ := hT; rfl) | (obtain ⟨_, _, _, rfl, _⟩ := hT; rfl) | (obtain ⟨_, _, _, _, rfl, _⟩ := hT; rfl) | (obtain ⟨_, _, _, _, _, rfl, _⟩ := hT; rfl) | (obtain ⟨_, _, _, _, _, _, rfl, _⟩ := hT; rfl) | (obtain ⟨_, _, _, _, _, _, _, rfl, _⟩ := hT; rfl) | (obtain ⟨_, _, _, _, _, _, _, _, rfl, _⟩ := hT; rfl) | (obtain ⟨_, _, _, _, _, _, _, _, _, rfl, _⟩ := hT; rfl) | (obtain ⟨_, _, _, _, _, _, _, _, _, _, rfl, _⟩ := hT; rfl) | (obtain ⟨_, _, _, _, _, _, _, _, _, _, _, rfl, _⟩ := hT; rfl) | (obtain ⟨_, _, _, _, _, _, _, _, _, _, _, _, rfl, _⟩ := hT; rfl) | (obtain ⟨_, _, _, _, _, _, _, _, _, _, _, _, _, rfl, _⟩ := hT; rfl) | (obtain ⟨_, _, _, _, _, _, _, _, _, _, _, _, _, _, rfl, _⟩ := hT; rfl) | (obtain ⟨_, _, _, _, _, _, _, _, _, _, _, _, _, _, _, rfl, _⟩ := hT; rfl) | (obtain ⟨_, _, _, _, _, _, _, _, _, _, _, _, _, _, _, _, rfl, _⟩ := hT; rfl))
  refine ⟨_, (pss_cons (ps_asS (ps_set (i := 3) sc_l_namesP.nd rfl (Or.inr rfl) pe_str))
      (pss_cons (ps_asS (ps_set (i := 4) sc_l_namesP.nd rfl (Or.inr rfl) (pe_call D_l_drawn.F (hr.mono (by decide)) (by rfl) D_l_drawn.g D_l_drawn.kp D_l_drawn.b .nil pass0 (pa_cons (pv 0) (pa_cons (pv 1) (pa_cons pe_int pa_nil))))))
      (pss_cons (ps_asS (ps_set (i := 5) sc_l_namesP.nd rfl (Or.inr rfl) (pe_op op_add pe_int (pe_call D_l_drawn.F (hr.mono (by decide)) (by rfl) D_l_drawn.g D_l_drawn.kp D_l_drawn.b .nil pass0 (pa_cons (pv 0) (pa_cons (pe_op op_add (pv 1) pe_int) (pa_cons pe_int pa_nil)))))))
      (pss_cons (ps_asS (ps_set (i := 6) sc_l_namesP.nd rfl (Or.inr rfl) (pe_joinK (K := K) rfl pe_str (pe_lc (own := [("_law_j", 12)]) (g := gName 12) (by rfl) sc_l_namesP.nd (pi_range1 rfl T.b_range (pa_cons pe_int pa_nil)) (blkOk_by (own := [("_law_j", 12)]) (N := ["_law_script", "_law_at", "_law_many", "_law_letters", "_law_first", "_law_step", "_law_base", "_law_size", "_law_place", "_law_names_here", "_law_k", "_law_sign", "_law_j"]) (sc := defScope s_l_namesP) (by decide +kernel)) (fun _ _ _ _ _ => (pg_name (i := 12) sc_l_namesP.nd rfl (Or.inl rfl))) (fun _ _ _ _ _ => pts_nil) (fun _ _ _ _ _ => (pe_ix ix_str (pv 3) (pe_op op_mod (pe_op op_add (pv 4) (pe_op op_mul (pv 12) (pv 5))) pe_int) (fun _ _ => rfl)))))))
      (pss_cons (ps_asS (ps_set (i := 7) sc_l_namesP.nd rfl (Or.inl rfl) (pe_op op_add pe_int (pe_call D_l_drawn.F (hr.mono (by decide)) (by rfl) D_l_drawn.g D_l_drawn.kp D_l_drawn.b .nil pass0 (pa_cons (pv 0) (pa_cons (pe_op op_add (pv 1) pe_int) (pa_cons pe_int pa_nil)))))))
      (pss_cons (ps_asS (ps_set (i := 8) sc_l_namesP.nd rfl (Or.inl rfl) (pe_call D_l_drawn.F (hr.mono (by decide)) (by rfl) D_l_drawn.g D_l_drawn.kp D_l_drawn.b .nil pass0 (pa_cons (pv 0) (pa_cons (pe_op op_add (pv 1) pe_int) (pa_cons (pv 7) pa_nil))))))
      (pss_cons (ps_asN (ps_set (i := 9) sc_l_namesP.nd rfl (Or.inl rfl) (pe_lst pa_nil)))
      (pss_cons (ps_for PassesOwn.never rfl (pi_range1 rfl T.b_range (pa_cons (pv 2) pa_nil)) (pg_name (i := 10) sc_l_namesP.nd rfl (Or.inl rfl))
        (pss_cons (ps_asS (ps_set (i := 11) sc_l_namesP.nd rfl (Or.inl rfl) (pe_ix ix_str (pv 3) (pe_op op_mod (pe_op op_add (pe_op op_add (pv 4) (pe_op op_mul (pv 8) (pv 5))) (pv 10)) pe_int) (fun _ _ => rfl))))
        (pss_one (ps_apS (ps_expr (pe_bmKK (K := K) rfl PySem.F.plainAttrs_list PySem.F.slot_list_append PySem.F.type_list_append mt_append (pv 9) (pa_cons (pe_op op_addS (pe_op op_addS (pe_slice sl_str (pv 6) po_none (po_some (pv 8))) (pv 11)) (pe_slice sl_str (pv 6) (po_some (pe_op op_add (pv 8) pe_int)) (po_some (pv 7)))) pa_nil)))))))
      (pss_cons (ps_if (pw_and (pt_cmpR op_lt (pv 2) pe_int (nomark _)) (pw_and1 (pt_cmpR op_eq (pe_call D_l_drawn.F (hr.mono (by decide)) (by rfl) D_l_drawn.g D_l_drawn.kp D_l_drawn.b .nil pass0 (pa_cons (pv 0) (pa_cons (pe_op op_add (pv 1) pe_int) (pa_cons pe_int pa_nil)))) pe_int (nomark _)))).pt
        (pss_one (ps_asN (ps_setLc (i := 9) (own := [("_law_k", 10)]) (g := gName 10) (by rfl) sc_l_namesP.nd rfl rfl (sw_true rfl rfl rfl (by decide +kernel)) (pi_range1 rfl T.b_range (pa_cons (pv 2) pa_nil)) (blkOk_by (own := [("_law_k", 10)]) (N := ["_law_script", "_law_at", "_law_many", "_law_letters", "_law_first", "_law_step", "_law_base", "_law_size", "_law_place", "_law_names_here", "_law_k", "_law_sign", "_law_j"]) (sc := defScope s_l_namesP) (by decide +kernel)) (fun _ _ _ _ _ => (pg_name (i := 10) sc_l_namesP.nd rfl (Or.inl rfl))) (fun _ _ _ _ _ => pts_nil) (fun _ _ _ _ _ => (pe_slice sl_str (pv 6) po_none (po_some (pe_op op_add (pv 10) pe_int)))))))
        pss_nil)
      (pss_cons (ps_if (pt_cmpR op_eq (pe_call D_l_drawn.F (hr.mono (by decide)) (by rfl) D_l_drawn.g D_l_drawn.kp D_l_drawn.b .nil pass0 (pa_cons (pv 0) (pa_cons (pe_op op_add (pv 1) pe_int) (pa_cons pe_int pa_nil)))) pe_int (nomark _))
        (pss_one (ps_expr (pe_bm0KK (K := K) rfl PySem.F.plainAttrs_list PySem.F.slot_list_reverse PySem.F.type_list_reverse mt_reverse (pv 9))))
        pss_nil)
      (pss_one (ps_ret (pv 9))))))))))))), pfn_enter h ?_⟩
  rintro ds q B0 H0 ⟨ns, a, m, rfl, ha, hm, hq⟩
  walk_at "xo"
  have ef : 0 ≤ drw ns a 26 ∧ drw ns a 26 < 26 := ⟨drw_nn (by decide), drw_lt (by decide)⟩
  have es : 0 ≤ drw ns (a + 1) 25 ∧ drw ns (a + 1) 25 < 25 := ⟨drw_nn (by decide), drw_lt (by decide)⟩
  have ez : 0 ≤ drw ns (a + 2) 8 ∧ drw ns (a + 2) 8 < 8 := ⟨drw_nn (by decide), drw_lt (by decide)⟩
  refine alcA (f := fun i : Nat => D.int i) (fun j : Nat => D.str ⟨#[sgn ((drw ns a 26 + j * (1 + drw ns (a + 1) 25)) % 26)]⟩) (by decide) (fun j hj q hq => by
    walk_at "xo"
    exact a2_ixS (abc_sgn (mod26 _).1 (mod26 _).2) hq) ?_
  have e : ((List.range (Int.toNat 8)).map fun j : Nat => D.str ⟨#[sgn ((drw ns a 26 + j * (1 + drw ns (a + 1) 25)) % 26)]⟩) = ((basN (drw ns a 26) (1 + drw ns (a + 1) 25)).map fun x => (⟨#[x]⟩ : Str)).map D.str := by
    rw [basN, List.map_map, List.map_map]
    rfl
  rw [e]
  generalize hf : drw ns a 26 = f at *
  generalize hs : 1 + drw ns (a + 1) 25 = s at *
  have hl : ∀ l : List Nat, ((l.map fun x => (⟨#[x]⟩ : Str)).map (·.length)).sum = l.length := by
    intro l
    induction l with
    | nil => rfl
    | cons x l ih =>
      rw [List.map_cons, List.map_cons, List.sum_cons, ih, List.length_cons, slen_one]
      omega
  refine ⟨_, rfl, ?_, ?_, ?_⟩
  · rw [hl, List.length_map, basN_len, show (Str.ofString "").length = 0 from rfl]
    omega
  · rw [join_chars]
    exact okS_mkS (by rw [basN_len]; omega) (basN_low f s)
  rw [join_chars]
  walk_at "xo"
  generalize hz : 1 + drw ns (a + 2) 8 = size at *
  have hz' : 1 ≤ size ∧ size ≤ 8 := by omega
  have hp : 0 ≤ drw ns (a + 3) size ∧ drw ns (a + 3) size < size := ⟨drw_nn (by omega), drw_lt (by omega)⟩
  walk_at "xo"
  generalize hpl : drw ns (a + 3) size = place at *
  refine aforRF (fun i => [.sh (.fls (ns.map .int)), .sh (.int a), .sh (.int m), .sh (.str "abcdefghijklmnopqrstuvwxyz"), .sh (.int f), .sh (.int s), .sh (.str (mkS (basN f s))), .sh (.int size), .sh (.int place), .own (eNs ((List.range i).map fun k => mkS (nmR f s size place k))), .un, .un, .un]) (by walk_at "wk") (fun i hi => ?_) ?_
  · walk_at "xo"
    refine a2_ixS (abc_sgn (mod26 _).1 (mod26 _).2) ?_
    walk_at "xo"
    rw [cutS_mkS, cutQ _ hp.1]
    refine a2_addS (fun _ _ => ?_) ?_
    · rw [mkS_len, List.length_take, basN_len, slen_one]
      omega
    walk_at "xo"
    rw [cutS_mkS, cutM _ (by omega) (by omega)]
    refine a2_addS (fun _ _ => ?_) ?_
    · rw [slen_app, mkS_len, mkS_len, List.length_take, List.length_take, List.length_drop, basN_len, slen_one]
      omega
    have et : mkS ((basN f s).take place.toNat) ++ ⟨#[sgn ((f + place * s + i) % 26)]⟩ ++ mkS (((basN f s).drop (place + 1).toNat).take (size - (place + 1)).toNat) = mkS (nmR f s size place i) := by
      rw [mkS_snoc, mkS_app]
      rfl
    rw [et]
    have snoc : D.lst (((List.range i).map fun k => mkS (nmR f s size place k)).map D.str ++ [D.str (mkS (nmR f s size place i))]) = eNs ((List.range (i + 1)).map fun k => mkS (nmR f s size place k)) := by
      rw [List.range_succ, List.map_append, List.map_cons, List.map_nil, ← eNs_snoc]
    have bnd : (((List.range i).map fun k => mkS (nmR f s size place k)).map D.str).length < 100000 := by
      rw [List.length_map, List.length_map, List.length_range]
      omega
    walk_at "xo"
    rw [snoc]
    refine ⟨by rw [List.length_range]; omega, ?_⟩
    walk_at "st"
  · walk_at "xo"
    have fin : ∀ zs : List Str, NamesOk zs → zs.length = m.toNat → ∀ (b : Bool), (b = true → q (eNs zs.reverse)) ∧ (b = false → q (eNs zs)) := fun zs h1 h2 b => ⟨fun _ => hq _ h1.rev (by rw [List.length_reverse]; exact h2), fun _ => hq _ h1 h2⟩
    refine ite_b (fun h => ?_) (fun h => ?_)
    · have h' : m < 9 ∧ drw ns (a + 4) 4 = 1 := by simpa using h
      walk_at "xo"
      refine alcA (f := fun i : Nat => D.int i) (fun k : Nat => D.str (mkS (nmB f s k))) (by rw [List.length_range]; omega) (fun k hk q hq => by
        walk_at "xo"
        rw [cutS_mkS, cutQ _ (by omega), show ((k : Int) + 1).toNat = k + 1 by omega]
        exact hq) ?_
      have e2 : (List.range m.toNat).map (fun k => D.str (mkS (nmB f s k))) = ((List.range m.toNat).map fun k => mkS (nmB f s k)).map D.str := by rw [List.map_map]; rfl
      rw [e2]
      have F := fin ((List.range m.toNat).map fun k => mkS (nmB f s k)) (namesB_ok (by omega)) (by rw [List.length_map, List.length_range])
      walk_at "xo"
      refine ⟨fun h => ?_, fun h => ?_⟩
      · walk_at "xo"
        rw [← List.map_reverse]
        exact (F true).1 rfl
      · walk_at "xo"
        exact (F false).2 rfl
    · have F := fin ((List.range m.toNat).map fun k => mkS (nmR f s size place k)) (namesR_ok hp.1 hp.2 hz'.2 (by omega)) (by rw [List.length_map, List.length_range])
      walk_at "xo"
      refine ⟨fun h => ?_, fun h => ?_⟩
      · walk_at "xo"
        rw [← List.map_reverse]
        exact (F true).1 rfl
      · walk_at "xo"
        exact (F false).2 rfl
in #guard_msgs in open Nat

end
section
def T_l_table (K : PySem.W.Frag) (c : Cs) : TX := fun ds W q _ => ∃ (ns : List Int) (a : Int) (kinds words : List Str), ds = [.fls (ns.map .int), .int a, eNs kinds, eNs words] ∧ (0 ≤ a ∧ a ≤ 1000) ∧ kinds.length ≤ 26 ∧ words.length ≤ 26 ∧ W = [] ∧ ∀ ks : List (List Key × D), (∀ z ∈ kinds, ∀ w ∈ words, ∃ v : Int, (0 ≤ v ∧ v ≤ 2) ∧ gK ks [.inr z, .inr w] = some (.int v)) → q (.dt ks) []
local macro_rules | `(tactic| walk_at "nm") => `(tactic| refine aw_norm (ρ' := [_, _, _, _, _, _, _, _, _]) rfl ?_)
local macro_rules | `(tactic| walk_at "nmx") => `(tactic| refine xs_norm (ρ' := [_, _, _, _, _, _, _, _, _]) rfl ?_)
abbrev sp_l_table (K : PySem.W.Frag) (mg : Str → Option Value) (c : Cs) : Sp := pxfN K mg (T_l_table K c)
theorem ok_l_table {f : Addr} {fd : FuncData} (F : Fun K "_law_table" "_law_table" s_l_table f fd) (T : Txt K mg c) {f_l_drawn : Addr} {fd_l_drawn : FuncData} (D_l_drawn : Dk P w K mg base CX0 2 f_l_drawn fd_l_drawn "_law_drawn" ["_law_script", "_law_k", "_law_many"] [] (sp_l_drawn K)) : FnOk P w K mg base CX0 3 f fd ["_law_script", "_law_at", "_law_kinds", "_law_words"] (sp_l_table K mg c) := by
  refine F.ok sc_l_table (fun vs H Q E h => ?_) (fun cdv A outer s H vs Q E hr h => ?_)
  · (obtain ⟨_, _, _, _, _, _, _, _, _, _, _, dv, hT, _⟩ := h; rw [dv.len]; first | (obtain ⟨rfl, _⟩ := hT; rfl) | (obtain ⟨_, rfl, _⟩ := hT; rfl) | (obtain ⟨_, _, rfl, _⟩ := hT; rfl) | (obtain ⟨_, _, _, rfl, _⟩ := hT; rfl) | (obtain ⟨_, _, _, _, rfl, _⟩ := hT; rfl) | (obtain ⟨_, _, _, _, _, rfl, _⟩ := hT; rfl) | (obtain ⟨_, _, _, _, _, _, rfl, _⟩ := hT; rfl) | (obtain ⟨_, _, _, _, _, _, _, rfl, _⟩ := hT; rfl) | (obtain ⟨_, _, _, _, _, _, _, _, rfl, _⟩ := hT; rfl) | (obtain ⟨_, _, _, _, _, _, _, _, _, rfl, _⟩ := hT; rfl) | (obtain ⟨_, _, _, _, _, _, _, _, _, _, rfl, _⟩ := hT; rfl) | (obtain ⟨_, _, _, _, _, _, _, _, _, _, _, rfl, _⟩ := hT; rfl) | (obtain ⟨_, _, _, _, _, _, _, _, _, _, _, _, rfl, _⟩ := hT; rfl) | (obtain ⟨_, _, _, _, _, _, _, _, _, _, _, _, _, rfl, _⟩ := hT; rfl) | (obtain ⟨_, _, _, _, _, _, _, _, _, _, _, _, _, _, rfl, _⟩ := hT; rfl) | (obtain ⟨_, _, _, _, _, _, _, _, _, _, _, _, _, _, _, rfl, _⟩ := hT; rfl) | (obtain ⟨_, _, _, _, _, _, _, _, _, _, _, _, _, _, _, _, rfl, _⟩ := hT; rfl))
  refine ⟨_, (pss_cons (ps_asN (ps_set (i := 4) sc_l_table.nd rfl (Or.inl rfl) pe_dnewT))
      (pss_cons (ps_asS (ps_set (i := 5) sc_l_table.nd rfl (Or.inl rfl) (pe_ix (ix_listK (K := K) rfl) (pe_lst (pa_cons pe_int (pa_cons pe_int (pa_cons pe_int pa_nil)))) (pe_call D_l_drawn.F (hr.mono (by decide)) (by rfl) D_l_drawn.g D_l_drawn.kp D_l_drawn.b .nil pass0 (pa_cons (pv 0) (pa_cons (pv 1) (pa_cons pe_int pa_nil)))) (fun _ _ => rfl))))
      (pss_cons (ps_for PassesOwn.never rfl (pi_listK (K := K) rfl (pv 2)) (pg_name (i := 6) sc_l_table.nd rfl (Or.inl rfl))
        (pss_one (ps_for PassesOwn.never rfl (pi_listK (K := K) rfl (pv 3)) (pg_name (i := 7) sc_l_table.nd rfl (Or.inl rfl))
          (pss_cons (ps_asS (ps_set (i := 8) sc_l_table.nd rfl (Or.inl rfl) (pe_call D_l_drawn.F (hr.mono (by decide)) (by rfl) D_l_drawn.g D_l_drawn.kp D_l_drawn.b .nil pass0 (pa_cons (pv 0) (pa_cons (pe_op op_add (pe_op op_add (pv 1) pe_int) (pe_callB call_lenDX (by rfl) T.b_len PySem.boot_len (pa_cons (pv 4) pa_nil))) (pa_cons (pe_op op_mul pe_int (pv 5)) pa_nil))))))
          (pss_one (ps_dput (hu_of hr) (pv 4) (pe_tup (pa_cons (pv 6) (pa_cons (pv 7) pa_nil))) (pe_ix (ix_listK (K := K) rfl) (pe_lst (pa_cons pe_int (pa_cons pe_int (pa_cons pe_int pa_nil)))) (pe_callB (call_minI rfl) (by rfl) T.b_min (by decide +kernel) (pa_cons pe_int (pa_cons (pv 8) pa_nil))) (fun _ _ => rfl)) rfl))))))
      (pss_one (ps_ret (pv 4)))))), pxfN_enter h ?_⟩
  rintro ds W q x Z ⟨ns, a, kinds, words, rfl, ha, hk, hw, rfl, hq⟩ hE
  have h3 : ∃ de : Int, (0 < de ∧ de ≤ 9) ∧ [D.int 2, D.int 4, D.int 9][(drw ns a 3).toNat]? = some (.int de) := by
    have h0 : 0 ≤ drw ns a 3 := drw_nn (by decide)
    have h1 : drw ns a 3 < 3 := drw_lt (by decide)
    rcases (by omega : drw ns a 3 = 0 ∨ drw ns a 3 = 1 ∨ drw ns a 3 = 2) with e | e | e <;> rw [e]
    · exact ⟨2, by decide, rfl⟩
    · exact ⟨4, by decide, rfl⟩
    · exact ⟨9, by decide, rfl⟩
  obtain ⟨de, hde, hix⟩ := h3
  walk_at "yo"
  refine x2_of (a2_ixP (drw_nn (by decide)) hix ?_)
  walk_at "yo"
  refine y_forB ?_
  walk_at "yo"
  have kb : ∀ i, i < kinds.length → i * words.length + words.length ≤ 676 := fun i hi => by
    have := Nat.mul_le_mul (show i ≤ 25 by omega) hw
    omega
  refine xforM (f := D.str) (xs := kinds) (fun i ρ' W' => ∃ ks : List (List Key × D), ρ' = [.bo (.fls (ns.map .int)), .sh (.int a), .bo (eNs kinds), .bo (eNs words), .own (.dt ks), .sh (.int de), .un, .un, .un] ∧ W' = [] ∧ ks.length ≤ i * words.length ∧ ∀ z ∈ kinds.take i, ∀ w ∈ words, ∃ v : Int, (0 ≤ v ∧ v ≤ 2) ∧ gK ks [.inr z, .inr w] = some (.int v)) ⟨_, _, by walk_at "wk", Ent.refl _, [], rfl, rfl, by simp, by simp⟩ ?_ ?_
  · rintro i z ρ' W' hz ⟨ks, rfl, rfl, hlen, hgood⟩
    have hi : i < kinds.length := (List.getElem?_eq_some_iff.mp hz).1
    walk_at "yo"
    refine y_forB ?_
    walk_at "yo"
    refine xforM (f := D.str) (xs := words) (fun j ρ' W' => ∃ ks : List (List Key × D), ρ' = [.bo (.fls (ns.map .int)), .sh (.int a), .bo (eNs kinds), .bo (eNs words), .own (.dt ks), .sh (.int de), .sh (.str z), .un, .un] ∧ W' = [] ∧ ks.length ≤ i * words.length + j ∧ (∀ z ∈ kinds.take i, ∀ w ∈ words, ∃ v : Int, (0 ≤ v ∧ v ≤ 2) ∧ gK ks [.inr z, .inr w] = some (.int v)) ∧ ∀ w ∈ words.take j, ∃ v : Int, (0 ≤ v ∧ v ≤ 2) ∧ gK ks [.inr z, .inr w] = some (.int v)) ⟨_, _, by walk_at "wk", Ent.refl _, ks, rfl, rfl, by omega, hgood, by simp⟩ ?_ ?_
    · clear hlen hgood ks
      rintro j y ρ' W' hy ⟨ks, rfl, rfl, hlen, hgood, hin⟩
      have hj : j < words.length := (List.getElem?_eq_some_iff.mp hy).1
      have hb := kb i hi
      walk_at "yo"
      have hp : 0 ≤ drw ns (a + 1 + ks.length) (2 * de) := drw_nn (by omega)
      obtain ⟨v, hv, hix2⟩ : ∃ v : Int, (0 ≤ v ∧ v ≤ 2) ∧ [D.int 1, D.int 2, D.int 0][(if drw ns (a + 1 + ks.length) (2 * de) < 2 then drw ns (a + 1 + ks.length) (2 * de) else 2).toNat]? = some (.int v) := by
        generalize drw ns (a + 1 + ks.length) (2 * de) = p at *
        by_cases c : p < 2
        · rw [if_pos c]
          rcases (by omega : p = 0 ∨ p = 1) with e | e <;> rw [e]
          · exact ⟨1, by decide, rfl⟩
          · exact ⟨2, by decide, rfl⟩
        · rw [if_neg c]
          exact ⟨0, by decide, rfl⟩
      refine x2_of (a2_ixP (by split <;> omega) hix2 ?_)
      walk_at "yo"
      have put : ∀ z' w', (∃ v' : Int, (0 ≤ v' ∧ v' ≤ 2) ∧ gK ks [.inr z', .inr w'] = some (.int v')) ∨ (z' = z ∧ w' = y) → ∃ v' : Int, (0 ≤ v' ∧ v' ≤ 2) ∧ gK (pK ks [.inr z, .inr y] (.int v)) [.inr z', .inr w'] = some (.int v') := fun z' w' h => by
        rw [gK_put]
        by_cases c : ([.inr z, .inr y] : List Key) = [.inr z', .inr w']
        · rw [if_pos c]
          exact ⟨v, hv, rfl⟩
        · rw [if_neg c]
          rcases h with h | ⟨e1, e2⟩
          · exact h
          · exact absurd (by rw [e1, e2]) c
      refine ⟨[.inr z, .inr y], rfl, by omega, _, _, by walk_at "wk", Ent.refl _, pK ks [.inr z, .inr y] (.int v), rfl, rfl, ?_, fun z' m w' mw => put z' w' (.inl (hgood z' m w' mw)), fun w' mw => ?_⟩
      · have := @pK_len _ _ _ ks [.inr z, .inr y] (D.int v)
        omega
      · rw [take_at hy] at mw
        rcases List.mem_append.mp mw with mw | mw
        · exact put z w' (.inl (hin w' mw))
        · exact put z w' (.inr ⟨rfl, List.mem_singleton.mp mw⟩)
    · rintro ρ' W' ⟨ks, rfl, rfl, hlen, hgood, hin⟩
      rw [List.take_length] at hin
      refine ⟨_, _, by walk_at "wk", Ent.refl _, ks, rfl, rfl, by rw [Nat.succ_mul]; exact hlen, fun y m => ?_⟩
      rw [take_at hz] at m
      rcases List.mem_append.mp m with m | m
      · exact hgood y m
      · rw [List.mem_singleton.mp m]
        exact hin
  · rintro ρ' W' ⟨ks, rfl, rfl, hlen, hgood⟩
    rw [List.take_length] at hgood
    walk_at "yo"
    exact ⟨_, Ent.refl _, hq ks hgood⟩
in #guard_msgs in open Nat
def T_l_paper (K : PySem.W.Frag) (c : Cs) : TX := fun ds W q _ => ∃ (line : List Str) (w : Str) (ks : List (List Key × D)) (g : Str → Int), ds = [eNs line, .str w, .dt ks] ∧ line.length ≤ 1000 ∧ W = [] ∧ (∀ z ∈ line, gK ks [.inr z, .inr w] = some (.int (g z))) ∧ q (ePap (pap g line)) []
local macro_rules | `(tactic| walk_at "nm") => `(tactic| refine aw_norm (ρ' := [_, _, _, _]) rfl ?_)
local macro_rules | `(tactic| walk_at "nmx") => `(tactic| refine xs_norm (ρ' := [_, _, _, _]) rfl ?_)
abbrev sp_l_paper (K : PySem.W.Frag) (mg : Str → Option Value) (c : Cs) : Sp := pxf K mg (T_l_paper K c)
theorem ok_l_paper {f : Addr} {fd : FuncData} (F : Fun K "_law_paper" "_law_paper" s_l_paper f fd) (T : Txt K mg c)  : FnOk P w K mg base CX0 1 f fd ["_law_line", "_law_word", "_law_table_here"] (sp_l_paper K mg c) := by
  refine F.ok sc_l_paper (fun vs H Q E h => ?_) (fun cdv A outer s H vs Q E hr h => ?_)
  · (obtain ⟨_, _, _, _, _, _, _, _, _, _, _, dv, hT, _⟩ := h; rw [dv.len]; first | (obtain ⟨rfl, _⟩ := hT; rfl) | (obtain ⟨_, rfl, _⟩ := hT; rfl) | (obtain ⟨_, _, rfl, _⟩ := hT; rfl) | (obtain ⟨_, _, _, rfl, _⟩ := hT; rfl) | (obtain ⟨_, _, _, _, rfl, _⟩ := hT; rfl) | (obtain ⟨_, _, _, _, _, rfl, _⟩ := hT; rfl) | (obtain ⟨_, _, _, _, _, _, rfl, _⟩ := hT; rfl) | (obtain ⟨_, _, _, _, _, _, _, rfl, _⟩ := hT; rfl) | (obtain ⟨_, _, _, _, _, _, _, _, rfl, _⟩ := hT; rfl) | (obtain ⟨_, _, _, _, _, _, _, _, _, rfl, _⟩ := hT; rfl) | (obtain ⟨_, _, _, _, _, _, _, _, _, _, rfl, _⟩ := hT; rfl) | (obtain ⟨_, _, _, _, _, _, _, _, _, _, _, rfl, _⟩ := hT; rfl) | (obtain ⟨_, _, _, _, _, _, _, _, _, _, _, _, rfl, _⟩ := hT; rfl) | (obtain ⟨_, _, _, _, _, _, _, _, _, _, _, _, _, rfl, _⟩ := hT; rfl) | (obtain ⟨_, _, _, _, _, _, _, _, _, _, _, _, _, _, rfl, _⟩ := hT; rfl) | (obtain ⟨_, _, _, _, _, _, _, _, _, _, _, _, _, _, _, rfl, _⟩ := hT; rfl) | (obtain ⟨_, _, _, _, _, _, _, _, _, _, _, _, _, _, _, _, rfl, _⟩ := hT; rfl))
  refine ⟨_, (pss_cons (ps_for PassesOwn.never rfl (pi_range1 rfl T.b_range (pa_cons (pe_callB (call_lenK (K := K) rfl) (by rfl) T.b_len PySem.boot_len (pa_cons (pv 0) pa_nil)) pa_nil)) (pg_name (i := 3) sc_l_paper.nd rfl (Or.inl rfl))
        (pss_one (ps_if (pt_cmpR op_gt (pe_dget (hu_of hr) (pv 2) (pe_tup (pa_cons (pe_ix (ix_listK (K := K) rfl) (pv 0) (pv 3) (fun _ _ => rfl)) (pa_cons (pv 1) pa_nil))) (fun _ _ => rfl)) pe_int (nomark _))
          (pss_one (ps_ret (pe_tup (pa_cons (pe_callTy (call_tupK (K := K) rfl) (by rfl) T.b_tuple (by decide +kernel) (pa_cons (pe_slice (sl_listK (K := K) rfl) (pv 0) po_none (po_some (pv 3))) pa_nil)) (pa_cons (pe_ix (ix_listK (K := K) rfl) (pv 0) (pv 3) (fun _ _ => rfl)) (pa_cons (pe_dget (hu_of hr) (pv 2) (pe_tup (pa_cons (pe_ix (ix_listK (K := K) rfl) (pv 0) (pv 3) (fun _ _ => rfl)) (pa_cons (pv 1) pa_nil))) (fun _ _ => rfl)) pa_nil))))))
          pss_nil)))
      (pss_one (ps_ret (pe_tup (pa_cons (pe_callTy (call_tupK (K := K) rfl) (by rfl) T.b_tuple (by decide +kernel) (pa_cons (pv 0) pa_nil)) (pa_cons pe_non (pa_cons pe_int pa_nil))))))), pxf_enter h ?_⟩
  rintro ds W q x Z ⟨line, w, ks, g, rfl, hl, rfl, hg, hq⟩ hE
  walk_at "yo"
  refine xforR0 (fun i ρ' W' => ρ' = [.bo (eNs line), .sh (.str w), .bo (.dt ks), .un] ∧ W' = [] ∧ ∀ y ∈ line.take i, ¬ 0 < g y) ⟨_, _, by walk_at "wk", Ent.refl _, rfl, rfl, by simp⟩ ?_ ?_
  · rintro i ρ' W' hi ⟨rfl, rfl, hb⟩
    have hi' : i < line.length := by simpa using hi
    have hz := List.getElem?_eq_getElem hi'
    generalize line[i] = z at hz
    have m := List.mem_of_getElem? hz
    walk_at "yo"
    refine x2_of (a2_ixN hz ?_)
    walk_at "yo"
    refine ⟨_, gets_t (hg z m) rfl, ?_⟩
    walk_at "yo"
    refine ite_ok (fun h => ?_) (fun h => ?_)
    · walk_at "yo"
      refine a2_ixN hz ?_
      walk_at "yo"
      refine x2_of (a2_ixN hz ?_)
      walk_at "yo"
      refine ⟨_, gets_t (hg z m) rfl, ?_⟩
      walk_at "yo"
      rw [pap_at hz hb h] at hq
      rw [cutQ _ (by omega), Int.toNat_natCast]
      exact ⟨_, Ent.refl _, hq⟩
    · walk_at "yo"
      refine ⟨_, _, by walk_at "wk", Ent.refl _, rfl, rfl, fun y m => ?_⟩
      rw [take_at hz] at m
      exact (List.mem_append.mp m).elim (hb y) fun m => by rw [List.mem_singleton.mp m]; exact h
  · rintro ρ' W' ⟨rfl, rfl, hb⟩
    rw [show Int.toNat (line.length : Int) = line.length by simp, List.take_length] at hb
    walk_at "yo"
    rw [pap_none hb] at hq
    exact ⟨_, Ent.refl _, hq⟩
in #guard_msgs in open Nat

end
section
section
local macro_rules | `(tactic| walk_at "entP") => `(tactic| first | exact Ent.refl _ | ((refine ent_pick 0 rfl ?_); walk_at "entB") | ((refine ent_pick 1 rfl ?_); walk_at "entB") | ((refine ent_pick 2 rfl ?_); walk_at "entB") | ((refine ent_pick 3 rfl ?_); walk_at "entB") | ((refine ent_pick 4 rfl ?_); walk_at "entB") | ((refine ent_pick 5 rfl ?_); walk_at "entB") | ((refine ent_pick 6 rfl ?_); walk_at "entB") | ((refine ent_pick 7 rfl ?_); walk_at "entB") | ((refine ent_pick 8 rfl ?_); walk_at "entB") | ((refine ent_pick 9 rfl ?_); walk_at "entB") | ((refine ent_pick 10 rfl ?_); walk_at "entB") | ((refine ent_pick 11 rfl ?_); walk_at "entB"))
local macro_rules | `(tactic| walk_at "entU") => `(tactic| first | ((apply ent_un 0); (· exact rfl); (· exact rfl); walk_at "entB") | ((apply ent_un 1); (· exact rfl); (· exact rfl); walk_at "entB") | ((apply ent_un 2); (· exact rfl); (· exact rfl); walk_at "entB") | ((apply ent_un 3); (· exact rfl); (· exact rfl); walk_at "entB") | ((apply ent_un 4); (· exact rfl); (· exact rfl); walk_at "entB") | ((apply ent_un 5); (· exact rfl); (· exact rfl); walk_at "entB") | ((apply ent_un 6); (· exact rfl); (· exact rfl); walk_at "entB") | ((apply ent_un 7); (· exact rfl); (· exact rfl); walk_at "entB"))
local macro_rules | `(tactic| walk_at "entB") => `(tactic| first | walk_at "entP" | walk_at "entU" | ((refine ent_bun ?_); walk_at "entB") | exact ent_nil)
local macro_rules | `(tactic| walk_at "y") => `(tactic| first
  | (with_reducible refine xn_cb (r := qListD) ?_)
  | (with_reducible refine xe_of_xn (te := tCB qListD _) ?_))
local macro_rules | `(tactic| walk_at "y2") => `(tactic| first
  | (with_reducible refine xn_methD eokw_no ?_)
  | ((with_reducible apply meth_and); (· walk_at "vwi"); (· simp only [List.map_cons, List.map_nil]; decide +kernel))
  | ((with_reducible apply meth_bun); (· walk_at "vwi"); (· exact List.mem_cons_self); (· simp only [List.map_cons, List.map_nil]; decide +kernel)))
abbrev eP (p : Str × Str) : D := .tup [.str p.1, .str p.2]
abbrev ePs (s : List (Str × Str)) : D := .lst (s.map eP)
def nxP (s : List (Str × Str)) (z w : Str) : List (Str × Str) := s ++ [(z, w)]
theorem askP {w : Str} : ∀ {l : List Str} {s : List (Str × Str)}, askL nxP w s l = s ++ l.map fun z => (z, w)
  | [], s => by rw [List.map_nil, List.append_nil]; rfl
  | z :: l, s => by
    show askL nxP w (nxP s z w) l = _
    rw [askP]
    unfold nxP
    rw [List.append_assoc]
    rfl
in #guard_msgs in open Nat
theorem dep_eP (y : Str × Str) : dep (eP y) ≤ 2 := Nat.le_of_ble_eq_true rfl
theorem plns_eP (s : List (Str × Str)) : plns (s.map eP) = true := plns_map fun _ _ => rfl
theorem dep_ePs (s : List (Str × Str)) : dep (ePs s) ≤ 64 := Nat.le_trans (dep_lst s fun y _ => dep_eP y) (by decide)
theorem inD_eP {y : Str × Str} {s : List (Str × Str)} (h : y ∈ s) : inD (eP y) (s.map eP) = true := List.any_eq_true.mpr ⟨_, List.mem_map_of_mem h, deq_refl _ rfl⟩
in #guard_msgs in open Nat
def T_law_l_strength (K : PySem.W.Frag) (c : Cs) : TX := fun ds W q _ => ∃ (z w : Str) (p : Addr) (ks : List (List Key × D)) (n : Int) (s : List (Str × Str)), ds = [.str z, .str w, .op (.ref p), .dt ks] ∧ gK ks [.inr z, .inr w] = some (.int n) ∧ s.length < 90000 ∧ W = [cel K p (ePs s)] ∧ q (.int n) [cel K p (ePs (nxP s z w))]
local macro_rules | `(tactic| walk_at "nm") => `(tactic| refine aw_norm (ρ' := [_, _, _, _]) rfl ?_)
local macro_rules | `(tactic| walk_at "nmx") => `(tactic| refine xs_norm (ρ' := [_, _, _, _]) rfl ?_)
theorem nk_law_l_strength (T : Txt K mg c)  {f : Addr} {cl : List (Str × Addr)} {z : Addr} : NOk P w K mg base CX0 1 f (NF.of s_law_l_strength "_law_strength" "law.<locals>._law_strength" cl z) ["_law_kind", "_law_word"] ["_law_asked", "_law_table_here"] (nsp K mg 2 (T_law_l_strength K c)) := by
  refine nok_of (N := ["_law_kind", "_law_word", "_law_asked", "_law_table_here"]) sc_law_l_strength (fun _ _ _ us hl => match us, hl with | [_, _], _ => rfl) (fun ws vs H Q E h => ?_) (fun A outer s H vs ws Q E hr hf hcc hl h => ?_)
  · obtain ⟨wvs, _, hw, _, _, _, _, _, _, _, _, _, _, _, dv, hT, _⟩ := h; have hl := dv.len; rw [List.length_append, hw] at hl; (first | (obtain ⟨rfl, _⟩ := hT; simp only [List.length_cons, List.length_nil] at hl ⊢; omega) | (obtain ⟨_, rfl, _⟩ := hT; simp only [List.length_cons, List.length_nil] at hl ⊢; omega) | (obtain ⟨_, _, rfl, _⟩ := hT; simp only [List.length_cons, List.length_nil] at hl ⊢; omega) | (obtain ⟨_, _, _, rfl, _⟩ := hT; simp only [List.length_cons, List.length_nil] at hl ⊢; omega) | (obtain ⟨_, _, _, _, rfl, _⟩ := hT; simp only [List.length_cons, List.length_nil] at hl ⊢; omega) | (obtain ⟨_, _, _, _, _, rfl, _⟩ := hT; simp only [List.length_cons, List.length_nil] at hl ⊢; omega) | (obtain ⟨_, _, _, _, _, _, rfl, _⟩ := hT; simp only [List.length_cons, List.length_nil] at hl ⊢; omega) | (obtain ⟨_, _, _, _, _, _, _, rfl, _⟩ := hT; simp only [List.length_cons, List.length_nil] at hl ⊢; omega) | (obtain ⟨_, _, _, _, _, _, _, _, rfl, _⟩ := hT; simp only [List.length_cons, List.length_nil] at hl ⊢; omega) | (obtain ⟨_, _, _, _, _, _, _, _, _, rfl, _⟩ := hT; simp only [List.length_cons, List.length_nil] at hl ⊢; omega) | (obtain ⟨_, _, _, _, _, _, _, _, _, _, rfl, _⟩ := hT; simp only [List.length_cons, List.length_nil] at hl ⊢; omega) | (obtain ⟨_, _, _, _, _, _, _, _, _, _, _, rfl, _⟩ := hT; simp only [List.length_cons, List.length_nil] at hl ⊢; omega) | (obtain ⟨_, _, _, _, _, _, _, _, _, _, _, _, rfl, _⟩ := hT; simp only [List.length_cons, List.length_nil] at hl ⊢; omega) | (obtain ⟨_, _, _, _, _, _, _, _, _, _, _, _, _, rfl, _⟩ := hT; simp only [List.length_cons, List.length_nil] at hl ⊢; omega) | (obtain ⟨_, _, _, _, _, _, _, _, _, _, _, _, _, _, rfl, _⟩ := hT; simp only [List.length_cons, List.length_nil] at hl ⊢; omega) | (obtain ⟨_, _, _, _, _, _, _, _, _, _, _, _, _, _, _, rfl, _⟩ := hT; simp only [List.length_cons, List.length_nil] at hl ⊢; omega) | (obtain ⟨_, _, _, _, _, _, _, _, _, _, _, _, _, _, _, _, rfl, _⟩ := hT; simp only [List.length_cons, List.length_nil] at hl ⊢; omega))
  obtain ⟨wvs, rfl, hw, h⟩ := h
  rw [startF_eq (ps := ["_law_kind", "_law_word"]) (fr := ["_law_asked", "_law_table_here"])]
  refine ⟨_, (pss_cons (ps_apC (ps_expr (pe_bmKK (K := K) rfl PySem.F.plainAttrs_list PySem.F.slot_list_append PySem.F.type_list_append mt_append (pv 2) (pa_cons (pe_tup (pa_cons (pv 0) (pa_cons (pv 1) pa_nil))) pa_nil))))
      (pss_one (ps_ret (pe_dget (hu_of hr) (pv 3) (pe_tup (pa_cons (pv 0) (pa_cons (pv 1) pa_nil))) (fun _ _ => rfl))))), pxf_enter h ?_⟩
  rintro ds W q x Z ⟨z, w, p, ks, n, s, rfl, hg, hs, rfl, hq⟩ hE
  have en : D.lst (s.map eP ++ [.tup [.str z, .str w]]) = ePs (nxP s z w) := by
    unfold nxP
    show _ = D.lst _
    rw [List.map_append]
    rfl
  walk_at "yo"
  refine ⟨_, gets_t hg rfl, ?_⟩
  walk_at "yo"
  rw [en]
  exact ⟨_, Ent.refl _, hq⟩
in #guard_msgs in open Nat
def T_l_cut_short (K : PySem.W.Frag) (c : Cs) : TX := fun ds W q _ => ∃ (line : List Str) (w : Str) (passed : List Str) (f p : Addr) (T : TX) (g : Str → Str → Int) (dom : Str → Str → Prop), ds = [eNs line, .str w, .tup (passed.map .str), .op (.ref f), .op (.ref p)] ∧ line.length ≤ 1000 ∧ passed.length ≤ 1000 ∧ W = [c.clo f T, cel K p (ePs [])] ∧ Tel dom T (fun s => cel K p (ePs s)) g nxP List.length ∧ (∀ z ∈ line, dom z w) ∧ q (.bl true) [c.clo f T, cel K p (ePs [])]
local macro_rules | `(tactic| walk_at "y") => `(tactic| first | (with_reducible refine xe_slT ?_))
local macro_rules | `(tactic| walk_at "nm") => `(tactic| refine aw_norm (ρ' := [_, _, _, _, _, _, _, _, _]) rfl ?_)
local macro_rules | `(tactic| walk_at "nmx") => `(tactic| refine xs_norm (ρ' := [_, _, _, _, _, _, _, _, _]) rfl ?_)
abbrev sp_l_cut_short (K : PySem.W.Frag) (mg : Str → Option Value) (c : Cs) : Sp := pxf K mg (T_l_cut_short K c)
theorem ok_l_cut_short {f : Addr} {fd : FuncData} (F : Fun K "_law_cut_short" "_law_cut_short" s_l_cut_short f fd) (T : Txt K mg c) {f_wrong_at : Addr} {fd_wrong_at : FuncData} (D_wrong_at : Dk P w K mg base CX0 13 f_wrong_at fd_wrong_at "wrong_at" ["line", "word", "strength", "paper"] [] (sp_wrong_at K mg c)) : FnOk P w K mg base CX0 14 f fd ["_law_line", "_law_word", "_law_passed", "_law_strength", "_law_asked"] (sp_l_cut_short K mg c) := by
  refine F.ok sc_l_cut_short (fun vs H Q E h => ?_) (fun cdv A outer s H vs Q E hr h => ?_)
  · (obtain ⟨_, _, _, _, _, _, _, _, _, _, _, dv, hT, _⟩ := h; rw [dv.len]; first | (obtain ⟨rfl, _⟩ := hT; rfl) | (obtain ⟨_, rfl, _⟩ := hT; rfl) | (obtain ⟨_, _, rfl, _⟩ := hT; rfl) | (obtain ⟨_, _, _, rfl, _⟩ := hT; rfl) | (obtain ⟨_, _, _, _, rfl, _⟩ := hT; rfl) | (obtain ⟨_, _, _, _, _, rfl, _⟩ := hT; rfl) | (obtain ⟨_, _, _, _, _, _, rfl, _⟩ := hT; rfl) | (obtain ⟨_, _, _, _, _, _, _, rfl, _⟩ := hT; rfl) | (obtain ⟨_, _, _, _, _, _, _, _, rfl, _⟩ := hT; rfl) | (obtain ⟨_, _, _, _, _, _, _, _, _, rfl, _⟩ := hT; rfl) | (obtain ⟨_, _, _, _, _, _, _, _, _, _, rfl, _⟩ := hT; rfl) | (obtain ⟨_, _, _, _, _, _, _, _, _, _, _, rfl, _⟩ := hT; rfl) | (obtain ⟨_, _, _, _, _, _, _, _, _, _, _, _, rfl, _⟩ := hT; rfl) | (obtain ⟨_, _, _, _, _, _, _, _, _, _, _, _, _, rfl, _⟩ := hT; rfl) | (obtain ⟨_, _, _, _, _, _, _, _, _, _, _, _, _, _, rfl, _⟩ := hT; rfl) | (obtain ⟨_, _, _, _, _, _, _, _, _, _, _, _, _, _, _, rfl, _⟩ := hT; rfl) | (obtain ⟨_, _, _, _, _, _, _, _, _, _, _, _, _, _, _, _, rfl, _⟩ := hT; rfl))
  refine ⟨_, (pss_cons (ps_for PassesOwn.never rfl (pi_range1 rfl T.b_range (pa_cons (pe_callB (call_minI rfl) (by rfl) T.b_min (by decide +kernel) (pa_cons (pe_op op_add (pe_callB (call_lenK (K := K) rfl) (by rfl) T.b_len PySem.boot_len (pa_cons (pv 2) pa_nil)) pe_int) (pa_cons (pe_callB (call_lenK (K := K) rfl) (by rfl) T.b_len PySem.boot_len (pa_cons (pv 0) pa_nil)) pa_nil))) pa_nil)) (pg_name (i := 5) sc_l_cut_short.nd rfl (Or.inr rfl))
        (pss_cons (ps_for PassesOwn.never rfl (pi_listK (K := K) rfl (pe_lst (pa_cons (pe_tup (pa_cons (pe_slice (sl_tupAK (K := K) rfl) (pv 2) po_none (po_some (pv 5))) (pa_cons pe_non (pa_cons pe_int pa_nil)))) (pa_cons (pe_tup (pa_cons (pe_slice (sl_tupAK (K := K) rfl) (pv 2) po_none (po_some (pv 5))) (pa_cons (pe_ix (ix_listK (K := K) rfl) (pv 0) (pv 5) (fun _ _ => rfl)) (pa_cons pe_int pa_nil)))) pa_nil)))) (pg_name (i := 6) sc_l_cut_short.nd rfl (Or.inl rfl))
          (pss_one (ps_expr (pe_call D_wrong_at.F (hr.mono (by decide)) (by rfl) D_wrong_at.g D_wrong_at.kp D_wrong_at.b .nil pass0 (pa_cons (pv 0) (pa_cons (pv 1) (pa_cons (pv 3) (pa_cons (pv 6) pa_nil))))))))
        (pss_cons (ps_if (pt_cmpR (op_neDK (K := K) rfl hr.units) (pe_lc (own := [("_law_pair", 7)]) (g := gName 7) (by rfl) sc_l_cut_short.nd (pi_listK (K := K) rfl (pv 4)) (blkOk_by (own := [("_law_pair", 7)]) (N := ["_law_line", "_law_word", "_law_passed", "_law_strength", "_law_asked", "_law_at", "_law_paper_here", "_law_pair", "_law_kind"]) (sc := defScope s_l_cut_short) (by decide +kernel)) (fun _ _ _ _ _ => (pg_name (i := 7) sc_l_cut_short.nd rfl (Or.inl rfl))) (fun _ _ _ _ _ => (pts_one (pt_cmpR (op_ninDK (K := K) rfl (room65 hr)) (pv 7) (by
          apply pe_lc (own := [("_law_kind", 8)]) (g := gName 8) (by rfl) sc_l_cut_short.nd
          · exact (pi_listK (K := K) rfl (pe_slice (sl_listK (K := K) rfl) (pv 0) po_none (po_some (pe_op op_add (pv 5) pe_int))))
          · exact (blkOk_by (own := [("_law_kind", 8)]) (N := ["_law_line", "_law_word", "_law_passed", "_law_strength", "_law_asked", "_law_at", "_law_paper_here", "_law_pair", "_law_kind"]) (by with_unfolding_all rfl))
          · exact (fun _ _ _ _ _ => (pg_name (i := 8) sc_l_cut_short.nd rfl (Or.inl rfl)))
          · exact (fun _ _ _ _ _ => pts_nil)
          · exact (fun _ _ _ _ _ => (pe_tup (pa_cons (pv 8) (pa_cons (pv 1) pa_nil))))) rfl))) (fun _ _ _ _ _ => (pv 7))) (pe_lst pa_nil) (nomark _))
          (pss_one (ps_ret pe_bl))
          pss_nil)
        (pss_one (ps_expr (pe_bm0KK (K := K) rfl PySem.F.plainAttrs_list PySem.F.slot_list_clear PySem.F.type_list_clear mt_clear (pv 4)))))))
      (pss_one (ps_ret pe_bl))), pxf_enter h ?_⟩
  rintro ds W q x Z ⟨line, w, passed, f, p, T, g, dom, rfl, hl, hp, rfl, hT, hd, hq⟩ hE
  walk_at "yo"
  refine xforR0 (fun i ρ' W' => ρ' = [ent (eNs line), ent (.str w), ent (.tup (passed.map .str)), ent (.op (.ref f)), ent (.op (.ref p)), .un, .un, .un, .un] ∧ W' = [c.clo f T, cel K p (ePs [])]) ⟨_, _, by walk_at "wk", Ent.refl _, rfl, rfl⟩ ?_ ?_
  · rintro i ρ' W' hi ⟨rfl, rfl⟩
    have hi1 : i < line.length ∧ i ≤ passed.length := by
      split at hi <;> omega
    walk_at "yf"
    refine y_forB ?_
    obtain ⟨z, hz⟩ : ∃ z, line[i]? = some z := ⟨_, List.getElem?_eq_getElem hi1.1⟩
    walk_at "yo"
    refine a2_ixN (f := D.str) (x := z) hz ?_
    walk_at "yo"
    have ec : cut passed none (some (i : Int)) = passed.take i := by rw [cutQ passed (by omega), Int.toNat_natCast]
    have lt : (passed.take i).length = i := by rw [List.length_take]; omega
    rw [ec]
    refine xforM (f := fun u : Option Str × Int => D.tup [.tup ((passed.take i).map .str), eOs u.1, .int u.2]) (xs := [(none, 0), (some z, 1)]) (fun j ρ' W' => ∃ s, ρ' = [ent (eNs line), ent (.str w), ent (.tup (passed.map .str)), ent (.op (.ref f)), ent (.op (.ref p)), .sh (.int i), .un, .un, .un] ∧ W' = [c.clo f T, cel K p (ePs s)] ∧ s.length ≤ 2000 * j ∧ ∀ y ∈ s, y ∈ (line.take (i + 1)).map fun k => (k, w)) ⟨_, _, by walk_at "wk", Ent.refl _, [], rfl, rfl, Nat.zero_le _, fun y m => by cases m⟩ ?_ ?_
    · rintro j u ρ' W' hu ⟨s, rfl, rfl, ls, hs⟩
      have hj : j < 2 := (List.getElem?_eq_some_iff.mp hu).1
      have hw2 := wrP_len (g := fun z => g z w) (line := line) (passed := passed.take i) (found := u.1) (told := u.2)
      walk_at "yo"
      refine u_wrong_at (s := s) (r := fun s => cel K p (ePs s)) (passed := passed.take i) (found := u.1) (told := u.2) (Wf := []) (by walk_at "ent") hT (by omega) hl (by omega) hd ?_
      generalize (wrP (fun z => g z w) line (passed.take i) u.1 u.2).2 = a at hw2
      have ha : a ≤ i + 1 := by omega
      walk_at "yo"
      refine ⟨_, _, by walk_at "wk", Ent.refl _, _, rfl, rfl, ?_, fun y m => ?_⟩
      · rw [askP, List.length_append, List.length_map, List.length_take]
        omega
      · rw [askP] at m
        rcases List.mem_append.mp m with m | m
        · exact hs y m
        · obtain ⟨k, mk, rfl⟩ := List.mem_map.mp m
          refine List.mem_map.mpr ⟨k, ?_, rfl⟩
          have e : line.take a = (line.take (i + 1)).take a := by rw [List.take_take, Nat.min_eq_left ha]
          rw [e] at mk
          exact List.mem_of_mem_take mk
    · rintro ρ' W' ⟨s, rfl, rfl, ls, hs⟩
      have ls : s.length ≤ 4000 := ls
      walk_at "yo"
      refine xn_lcC rfl ?_
      walk_at "yo"
      refine ⟨p, s.map eP, [c.clo f T], rfl, by walk_at "ent", fun _ => ?_⟩
      refine xlc (f := eP) (xs := s) (fun _ => false) eP (by omega) (fun y m q2 hq2 => ?_) (fun y m h q2 hq2 => by cases h) ?_
      · refine xt_test (xe_op ?_)
        walk_at "yo"
        refine xn_lcL rfl ?_
        walk_at "yo"
        have ec2 : cut line none (some ((i : Int) + 1)) = line.take (i + 1) := by rw [cutQ line (by omega), show ((i : Int) + 1).toNat = i + 1 by omega]
        rw [ec2]
        refine xlcA (f := D.str) (xs := line.take (i + 1)) (fun k => eP (k, w)) (by rw [List.length_take]; omega) (fun k m2 q3 hq3 => ?_) ?_
        · walk_at "yo"
          exact hq3
        have em : (line.take (i + 1)).map (fun k => eP (k, w)) = ((line.take (i + 1)).map fun k => (k, w)).map eP := by rw [List.map_map]; rfl
        rw [em]
        refine x2_of (a2_ninDL rfl (plns_eP _) (Nat.le_trans (dep_eP y) (by decide)) (dep_ePs _) ?_)
        rw [inD_eP (hs y m)]
        exact ⟨_, rfl, hq2⟩
      · rw [List.filter_eq_nil_iff.mpr (fun _ _ => Bool.false_ne_true)]
        walk_at "yo"
        refine ⟨1, _, rfl, ?_⟩
        exact ⟨_, _, by walk_at "wk", Ent.refl _, rfl, rfl⟩
  · rintro ρ' W' ⟨rfl, rfl⟩
    walk_at "yo"
    exact ⟨_, Ent.refl _, hq⟩
in #guard_msgs in open Nat
theorem u_cut_short {K : PySem.W.Frag} {c : Cs} {W Wf : List Res} {line passed : List Str} {w : Str} {f p : Addr} {T : TX} {g : Str → Str → Int} {dom : Str → Str → Prop} {q : D → List Res → Prop} {x : XX} (e : Ent W ([c.clo f T, cel K p (ePs [])] ++ Wf)) (hT : Tel dom T (fun s => cel K p (ePs s)) g nxP List.length) (hl : line.length ≤ 1000) (hp : passed.length ≤ 1000) (hd : ∀ z ∈ line, dom z w) (hq : q (.bl true) ([c.clo f T, cel K p (ePs [])] ++ Wf)) : CallX (T_l_cut_short K c) [eNs line, .str w, .tup (passed.map .str), .op (.ref f), .op (.ref p)] W q x :=
  ⟨_, Wf, e, line, w, passed, f, p, T, g, dom, rfl, hl, hp, rfl, hT, hd, ⟨_, Ent.refl _, hq⟩⟩
in #guard_msgs in open Nat
end

end
section
section
local macro_rules | `(tactic| walk_at "entP") => `(tactic| first | exact Ent.refl _ | ((refine ent_pick 0 rfl ?_); walk_at "entB") | ((refine ent_pick 1 rfl ?_); walk_at "entB") | ((refine ent_pick 2 rfl ?_); walk_at "entB") | ((refine ent_pick 3 rfl ?_); walk_at "entB") | ((refine ent_pick 4 rfl ?_); walk_at "entB") | ((refine ent_pick 5 rfl ?_); walk_at "entB") | ((refine ent_pick 6 rfl ?_); walk_at "entB") | ((refine ent_pick 7 rfl ?_); walk_at "entB") | ((refine ent_pick 8 rfl ?_); walk_at "entB") | ((refine ent_pick 9 rfl ?_); walk_at "entB") | ((refine ent_pick 10 rfl ?_); walk_at "entB") | ((refine ent_pick 11 rfl ?_); walk_at "entB"))
local macro_rules | `(tactic| walk_at "entU") => `(tactic| first | ((apply ent_un 0); (· exact rfl); (· exact rfl); walk_at "entB") | ((apply ent_un 1); (· exact rfl); (· exact rfl); walk_at "entB") | ((apply ent_un 2); (· exact rfl); (· exact rfl); walk_at "entB") | ((apply ent_un 3); (· exact rfl); (· exact rfl); walk_at "entB") | ((apply ent_un 4); (· exact rfl); (· exact rfl); walk_at "entB") | ((apply ent_un 5); (· exact rfl); (· exact rfl); walk_at "entB") | ((apply ent_un 6); (· exact rfl); (· exact rfl); walk_at "entB") | ((apply ent_un 7); (· exact rfl); (· exact rfl); walk_at "entB"))
local macro_rules | `(tactic| walk_at "entB") => `(tactic| first | walk_at "entP" | walk_at "entU" | ((refine ent_bun ?_); walk_at "entB") | exact ent_nil)
local macro_rules | `(tactic| walk_at "y") => `(tactic| first
  | (with_reducible refine xn_cb (r := qListD) ?_)
  | (with_reducible refine xe_of_xn (te := tCB qListD _) ?_))
local macro_rules | `(tactic| walk_at "y2") => `(tactic| first
  | (with_reducible refine xn_methD eokw_no ?_)
  | ((with_reducible apply meth_and); (· walk_at "vwi"); (· simp only [List.map_cons, List.map_nil]; decide +kernel))
  | ((with_reducible apply meth_bun); (· walk_at "vwi"); (· exact List.mem_cons_self); (· simp only [List.map_cons, List.map_nil]; decide +kernel)))
local macro_rules | `(tactic| walk_at "y") => `(tactic| first | (with_reducible refine xe_slT ?_))
def T_lawX (K : PySem.W.Frag) (c : Cs) : TX := fun ds W q _ => ∃ ns : List Int, ds = [.fls (ns.map .int)] ∧ ns.length ≤ 63 ∧ W = [RTab c.tb_law nm_law] ∧ ∀ W', q (.bl true) W'
def gOf (ks : List (List Key × D)) (z w : Str) : Int := match gK ks [.inr z, .inr w] with
  | some (.int v) => v
  | _ => 0
theorem papA_take {g : Str → Int} : ∀ {l : List Str}, papA g l = l.take ((pap g l).1.length + 1)
  | [] => rfl
  | z :: r => by
    rw [papA, pap]
    split
    · rfl
    · rw [papA_take (l := r)]
      rfl
in #guard_msgs in open Nat
local macro_rules | `(tactic| walk_at "nm") => `(tactic| refine aw_norm (ρ' := [_, _, _, _, _, _, _, _, _, _, _, _, _, _, _, _, _]) rfl ?_)
local macro_rules | `(tactic| walk_at "nmx") => `(tactic| refine xs_norm (ρ' := [_, _, _, _, _, _, _, _, _, _, _, _, _, _, _, _, _]) rfl ?_)
abbrev sp_law (K : PySem.W.Frag) (mg : Str → Option Value) (c : Cs) : Sp := pxfD K mg (T_lawX K c)
theorem ok_law {f : Addr} {fd : FuncData} (F : Fun K "law" "law" s_law f fd) (T : Txt K mg c) {f_l_drawn : Addr} {fd_l_drawn : FuncData} (D_l_drawn : Dk P w K mg base CX0 2 f_l_drawn fd_l_drawn "_law_drawn" ["_law_script", "_law_k", "_law_many"] [] (sp_l_drawn K)) {f_l_namesP : Addr} {fd_l_namesP : FuncData} (D_l_namesP : Dk P w K mg base CX0 3 f_l_namesP fd_l_namesP "_law_names" ["_law_script", "_law_at", "_law_many"] [] (sp_l_namesP K)) {f_l_table : Addr} {fd_l_table : FuncData} (D_l_table : Dk P w K mg base CX0 3 f_l_table fd_l_table "_law_table" ["_law_script", "_law_at", "_law_kinds", "_law_words"] [] (sp_l_table K mg c)) {f_l_paper : Addr} {fd_l_paper : FuncData} (D_l_paper : Dk P w K mg base CX0 1 f_l_paper fd_l_paper "_law_paper" ["_law_line", "_law_word", "_law_table_here"] [] (sp_l_paper K mg c)) {f_paper_of : Addr} {fd_paper_of : FuncData} (D_paper_of : Dk P w K mg base CX0 13 f_paper_of fd_paper_of "paper_of" ["line", "word", "strength"] [] (sp_paper_of K mg c)) {f_found_all : Addr} {fd_found_all : FuncData} (D_found_all : Dk P w K mg base CX0 13 f_found_all fd_found_all "found_all" ["line", "word", "strength"] [] (sp_found_all K mg c)) {f_wrong_at : Addr} {fd_wrong_at : FuncData} (D_wrong_at : Dk P w K mg base CX0 13 f_wrong_at fd_wrong_at "wrong_at" ["line", "word", "strength", "paper"] [] (sp_wrong_at K mg c)) {f_l_cut_short : Addr} {fd_l_cut_short : FuncData} (D_l_cut_short : Dk P w K mg base CX0 14 f_l_cut_short fd_l_cut_short "_law_cut_short" ["_law_line", "_law_word", "_law_passed", "_law_strength", "_law_asked"] [] (sp_l_cut_short K mg c)) (N_law_l_strength : ∀ (f : Addr) (cl : List (Str × Addr)) (z : Addr), NOk P w K mg base CX0 12 f (NF.of s_law_l_strength "_law_strength" "law.<locals>._law_strength" cl z) ["_law_kind", "_law_word"] ["_law_asked", "_law_table_here"] (nsp K mg 2 (T_law_l_strength K c))) {co_law : Addr} (FC : FunC K "law" "law" s_law f fd co_law) (TB : TabB base mg co_law c.tb_law) (hcl : c.clo = RClo P w K mg base 12) : FnOk P w K mg base CX0 15 f fd ["_law_script"] (sp_law K mg c) := by
  refine FC.ok sc_law (fun vs H Q E h => ?_) (fun A outer s H vs Q E hr h => ?_)
  · (obtain ⟨_, _, _, _, _, _, _, _, dv, hT, _⟩ := h; rw [dv.len]; first | (obtain ⟨rfl, _⟩ := hT; rfl) | (obtain ⟨_, rfl, _⟩ := hT; rfl) | (obtain ⟨_, _, rfl, _⟩ := hT; rfl) | (obtain ⟨_, _, _, rfl, _⟩ := hT; rfl) | (obtain ⟨_, _, _, _, rfl, _⟩ := hT; rfl) | (obtain ⟨_, _, _, _, _, rfl, _⟩ := hT; rfl) | (obtain ⟨_, _, _, _, _, _, rfl, _⟩ := hT; rfl) | (obtain ⟨_, _, _, _, _, _, _, rfl, _⟩ := hT; rfl) | (obtain ⟨_, _, _, _, _, _, _, _, rfl, _⟩ := hT; rfl) | (obtain ⟨_, _, _, _, _, _, _, _, _, rfl, _⟩ := hT; rfl) | (obtain ⟨_, _, _, _, _, _, _, _, _, _, rfl, _⟩ := hT; rfl) | (obtain ⟨_, _, _, _, _, _, _, _, _, _, _, rfl, _⟩ := hT; rfl) | (obtain ⟨_, _, _, _, _, _, _, _, _, _, _, _, rfl, _⟩ := hT; rfl) | (obtain ⟨_, _, _, _, _, _, _, _, _, _, _, _, _, rfl, _⟩ := hT; rfl) | (obtain ⟨_, _, _, _, _, _, _, _, _, _, _, _, _, _, rfl, _⟩ := hT; rfl) | (obtain ⟨_, _, _, _, _, _, _, _, _, _, _, _, _, _, _, rfl, _⟩ := hT; rfl) | (obtain ⟨_, _, _, _, _, _, _, _, _, _, _, _, _, _, _, _, rfl, _⟩ := hT; rfl))
  refine ⟨_, (pss_cons (ps_asH (ps_set (i := 1) sc_law.nd rfl (Or.inl rfl) (pe_call D_l_namesP.F (hr.mono (by decide)) (by rfl) D_l_namesP.g D_l_namesP.kp D_l_namesP.b .nil pass0 (pa_cons (pv 0) (pa_cons pe_int (pa_cons (pe_call D_l_drawn.F (hr.mono (by decide)) (by rfl) D_l_drawn.g D_l_drawn.kp D_l_drawn.b .nil pass0 (pa_cons (pv 0) (pa_cons pe_int (pa_cons pe_int pa_nil)))) pa_nil))))))
      (pss_cons (ps_asH (ps_set (i := 2) sc_law.nd rfl (Or.inl rfl) (pe_call D_l_namesP.F (hr.mono (by decide)) (by rfl) D_l_namesP.g D_l_namesP.kp D_l_namesP.b .nil pass0 (pa_cons (pv 0) (pa_cons pe_int (pa_cons (pe_op op_add pe_int (pe_call D_l_drawn.F (hr.mono (by decide)) (by rfl) D_l_drawn.g D_l_drawn.kp D_l_drawn.b .nil pass0 (pa_cons (pv 0) (pa_cons pe_int (pa_cons pe_int pa_nil))))) pa_nil))))))
      (pss_cons (ps_asH (ps_set (i := 14) sc_law.nd rfl (Or.inr rfl) (pe_call D_l_table.F (hr.mono (by decide)) (by rfl) D_l_table.g D_l_table.kp D_l_table.b .nil pass0 (pa_cons (pv 0) (pa_cons pe_int (pa_cons (pv 1) (pa_cons (pv 2) pa_nil)))))))
      (pss_cons (ps_asN (ps_set (i := 13) sc_law.nd rfl (Or.inr rfl) (pe_lst pa_nil)))
      (pss_cons (ps_ndefX (i := 3) (st := s_law_l_strength) (nm := nm_law) rfl TB rfl (by rfl) (ndef_free nb_law_l_strength) rfl rfl (by rfl) sc_law.nd rfl (Or.inl rfl) (Or.inl rfl))
      (pss_cons (ps_for PassesOwn.never rfl (pi_listK (K := K) rfl (pv 2)) (pg_name (i := 4) sc_law.nd rfl (Or.inr rfl))
        (pss_one (ps_for PassesOwn.never rfl (pi_range1 rfl T.b_range (pa_cons (pe_op op_add (pe_callB (call_lenK (K := K) rfl) (by rfl) T.b_len PySem.boot_len (pa_cons (pv 1) pa_nil)) pe_int) pa_nil)) (pg_name (i := 5) sc_law.nd rfl (Or.inl rfl))
          (pss_cons (ps_asH (ps_set (i := 6) sc_law.nd rfl (Or.inr rfl) (pe_slice (sl_listK (K := K) rfl) (pv 1) (po_some (pv 5)) po_none)))
          (pss_cons (ps_asg (pe_call D_l_paper.F (hr.mono (by decide)) (by rfl) D_l_paper.g D_l_paper.kp D_l_paper.b .nil pass0 (pa_cons (pv 6) (pa_cons (pv 4) (pa_cons (pv 14) pa_nil)))) (pg_tupK (K := K) rfl rfl (pgs_cons (pg_name (i := 7) sc_law.nd rfl (Or.inl rfl)) (pgs_cons (pg_name (i := 8) sc_law.nd rfl (Or.inl rfl)) (pgs_cons (pg_name (i := 9) sc_law.nd rfl (Or.inl rfl)) pgs_nil)))))
          (pss_cons (ps_asH (ps_set (i := 10) sc_law.nd rfl (Or.inr rfl) (pe_lc (own := [("_law_kind", 15)]) (g := gName 15) (by rfl) sc_law.nd (pi_listK (K := K) rfl (pe_slice (sl_listK (K := K) rfl) (pv 6) po_none (po_some (pe_op op_add (pe_callB (call_lenK (K := K) rfl) (by rfl) T.b_len PySem.boot_len (pa_cons (pv 7) pa_nil)) pe_int)))) (blkOk_by (own := [("_law_kind", 15)]) (N := ["_law_script", "_law_kinds", "_law_words", "_law_strength", "_law_word", "_law_size", "_law_line", "_law_passed", "_law_found", "_law_told", "_law_due", "_law_at", "_law_spoilt", "_law_asked", "_law_table_here", "_law_kind", "_law_pair"]) (sc := defScope s_law) (by decide +kernel)) (fun _ _ _ _ _ => (pg_name (i := 15) sc_law.nd rfl (Or.inl rfl))) (fun _ _ _ _ _ => pts_nil) (fun _ _ _ _ _ => (pe_tup (pa_cons (pv 15) (pa_cons (pv 4) pa_nil)))))))
          (pss_cons (ps_expr (pe_callSh (js := [13, 14]) (fr := ["_law_asked", "_law_table_here"]) (E := E0) ⟨fun ok => Caps.made ok (ndef_free nb_law_l_strength) (ndef_fr nb_law_l_strength) rfl, fun _ => rfl⟩ D_paper_of.F (hr.mono (by decide)) (by rfl) D_paper_of.g D_paper_of.kp D_paper_of.b .nil (pa_cons (pv 6) (pa_cons (pv 4) (pa_cons (pv 3) pa_nil)))))
          (pss_cons (ps_if (pt_cmpR (op_neDK (K := K) rfl hr.units) (pv 13) (pv 10) (nomark _))
            (pss_one (ps_ret pe_bl))
            pss_nil)
          (pss_cons (ps_expr (pe_bm0KK (K := K) rfl PySem.F.plainAttrs_list PySem.F.slot_list_clear PySem.F.type_list_clear mt_clear (pv 13)))
          (pss_cons (ps_expr (pe_callSh (js := [13, 14]) (fr := ["_law_asked", "_law_table_here"]) (E := E0) ⟨fun ok => Caps.made ok (ndef_free nb_law_l_strength) (ndef_fr nb_law_l_strength) rfl, fun _ => rfl⟩ D_found_all.F (hr.mono (by decide)) (by rfl) D_found_all.g D_found_all.kp D_found_all.b .nil (pa_cons (pv 6) (pa_cons (pv 4) (pa_cons (pv 3) pa_nil)))))
          (pss_cons (ps_if (pt_cmpR (op_neDK (K := K) rfl hr.units) (pv 13) (pe_lc (own := [("_law_kind", 15)]) (g := gName 15) (by rfl) sc_law.nd (pi_listK (K := K) rfl (pv 6)) (blkOk_by (own := [("_law_kind", 15)]) (N := ["_law_script", "_law_kinds", "_law_words", "_law_strength", "_law_word", "_law_size", "_law_line", "_law_passed", "_law_found", "_law_told", "_law_due", "_law_at", "_law_spoilt", "_law_asked", "_law_table_here", "_law_kind", "_law_pair"]) (sc := defScope s_law) (by decide +kernel)) (fun _ _ _ _ _ => (pg_name (i := 15) sc_law.nd rfl (Or.inl rfl))) (fun _ _ _ _ _ => pts_nil) (fun _ _ _ _ _ => (pe_tup (pa_cons (pv 15) (pa_cons (pv 4) pa_nil))))) (nomark _))
            (pss_one (ps_ret pe_bl))
            pss_nil)
          (pss_cons (ps_expr (pe_bm0KK (K := K) rfl PySem.F.plainAttrs_list PySem.F.slot_list_clear PySem.F.type_list_clear mt_clear (pv 13)))
          (pss_cons (ps_expr (pe_callSh (js := [13, 14]) (fr := ["_law_asked", "_law_table_here"]) (E := E0) ⟨fun ok => Caps.made ok (ndef_free nb_law_l_strength) (ndef_fr nb_law_l_strength) rfl, fun _ => rfl⟩ D_wrong_at.F (hr.mono (by decide)) (by rfl) D_wrong_at.g D_wrong_at.kp D_wrong_at.b .nil (pa_cons (pv 6) (pa_cons (pv 4) (pa_cons (pv 3) (pa_cons (pe_tup (pa_cons (pv 7) (pa_cons (pv 8) (pa_cons (pv 9) pa_nil)))) pa_nil))))))
          (pss_cons (ps_if (pt_cmpR (op_neDK (K := K) rfl hr.units) (pe_lc (own := [("_law_pair", 16)]) (g := gName 16) (by rfl) sc_law.nd (pi_listK (K := K) rfl (pv 13)) (blkOk_by (own := [("_law_pair", 16)]) (N := ["_law_script", "_law_kinds", "_law_words", "_law_strength", "_law_word", "_law_size", "_law_line", "_law_passed", "_law_found", "_law_told", "_law_due", "_law_at", "_law_spoilt", "_law_asked", "_law_table_here", "_law_kind", "_law_pair"]) (sc := defScope s_law) (by decide +kernel)) (fun _ _ _ _ _ => (pg_name (i := 16) sc_law.nd rfl (Or.inl rfl))) (fun _ _ _ _ _ => (pts_one (pt_cmpR (op_ninDK (K := K) rfl (room65 hr)) (pv 16) (pv 10) rfl))) (fun _ _ _ _ _ => (pv 16))) (pe_lst pa_nil) (nomark _))
            (pss_one (ps_ret pe_bl))
            pss_nil)
          (pss_cons (ps_expr (pe_bm0KK (K := K) rfl PySem.F.plainAttrs_list PySem.F.slot_list_clear PySem.F.type_list_clear mt_clear (pv 13)))
          (pss_cons (ps_asS (ps_set (i := 11) sc_law.nd rfl (Or.inr rfl) (pe_call D_l_drawn.F (hr.mono (by decide)) (by rfl) D_l_drawn.g D_l_drawn.kp D_l_drawn.b .nil pass0 (pa_cons (pv 0) (pa_cons (pe_op op_add pe_int (pv 5)) (pa_cons (pe_op op_add (pe_callB (call_lenK (K := K) rfl) (by rfl) T.b_len PySem.boot_len (pa_cons (pv 7) pa_nil)) pe_int) pa_nil))))))
          (pss_cons (ps_asH (ps_set (i := 12) sc_law.nd rfl (Or.inl rfl) (pe_op (op_catAK (K := K) rfl) (pe_op (op_catAK (K := K) rfl) (pe_slice (sl_tupAK (K := K) rfl) (pv 7) po_none (po_some (pv 11))) (pe_tup (pa_cons pe_str pa_nil))) (pe_slice (sl_tupAK (K := K) rfl) (pv 7) (po_some (pe_op op_add (pv 11) pe_int)) po_none))))
          (pss_cons (ps_expr (pe_callSh (js := [13, 14]) (fr := ["_law_asked", "_law_table_here"]) (E := E0) ⟨fun ok => Caps.made ok (ndef_free nb_law_l_strength) (ndef_fr nb_law_l_strength) rfl, fun _ => rfl⟩ D_wrong_at.F (hr.mono (by decide)) (by rfl) D_wrong_at.g D_wrong_at.kp D_wrong_at.b .nil (pa_cons (pv 6) (pa_cons (pv 4) (pa_cons (pv 3) (pa_cons (pe_tup (pa_cons (pv 12) (pa_cons (pv 8) (pa_cons (pv 9) pa_nil)))) pa_nil))))))
          (pss_cons (ps_if (pt_cmpR (op_neDK (K := K) rfl hr.units) (pe_lc (own := [("_law_pair", 16)]) (g := gName 16) (by rfl) sc_law.nd (pi_listK (K := K) rfl (pv 13)) (blkOk_by (own := [("_law_pair", 16)]) (N := ["_law_script", "_law_kinds", "_law_words", "_law_strength", "_law_word", "_law_size", "_law_line", "_law_passed", "_law_found", "_law_told", "_law_due", "_law_at", "_law_spoilt", "_law_asked", "_law_table_here", "_law_kind", "_law_pair"]) (sc := defScope s_law) (by decide +kernel)) (fun _ _ _ _ _ => (pg_name (i := 16) sc_law.nd rfl (Or.inl rfl))) (fun _ _ _ _ _ => (pts_one (pt_cmpR (op_ninDK (K := K) rfl (room65 hr)) (pv 16) (by
          apply pe_lc (own := [("_law_kind", 15)]) (g := gName 15) (by rfl) sc_law.nd
          · exact (pi_listK (K := K) rfl (pe_slice (sl_listK (K := K) rfl) (pv 6) po_none (po_some (pe_op op_add (pv 11) pe_int))))
          · exact (blkOk_by (own := [("_law_kind", 15)]) (N := ["_law_script", "_law_kinds", "_law_words", "_law_strength", "_law_word", "_law_size", "_law_line", "_law_passed", "_law_found", "_law_told", "_law_due", "_law_at", "_law_spoilt", "_law_asked", "_law_table_here", "_law_kind", "_law_pair"]) (by with_unfolding_all rfl))
          · exact (fun _ _ _ _ _ => (pg_name (i := 15) sc_law.nd rfl (Or.inl rfl)))
          · exact (fun _ _ _ _ _ => pts_nil)
          · exact (fun _ _ _ _ _ => (pe_tup (pa_cons (pv 15) (pa_cons (pv 4) pa_nil))))) rfl))) (fun _ _ _ _ _ => (pv 16))) (pe_lst pa_nil) (nomark _))
            (pss_one (ps_ret pe_bl))
            pss_nil)
          (pss_cons (ps_expr (pe_bm0KK (K := K) rfl PySem.F.plainAttrs_list PySem.F.slot_list_clear PySem.F.type_list_clear mt_clear (pv 13)))
          (pss_one (ps_if (pt_not (pt_val (pe_callSh (js := [13, 14]) (fr := ["_law_asked", "_law_table_here"]) (E := E0) ⟨fun ok => Caps.made ok (ndef_free nb_law_l_strength) (ndef_fr nb_law_l_strength) rfl, fun _ => rfl⟩ D_l_cut_short.F (hr.mono (by decide)) (by rfl) D_l_cut_short.g D_l_cut_short.kp D_l_cut_short.b .nil (pa_cons (pv 6) (pa_cons (pv 4) (pa_cons (pv 7) (pa_cons (pv 3) (pa_cons (pv 13) pa_nil))))))))
            (pss_one (ps_ret pe_bl))
            pss_nil))))))))))))))))))))))
      (pss_one (ps_ret pe_bl)))))))), pxfD_enter h ?_⟩
  rintro ds W q x Z ⟨ns, rfl, hn, rfl, hq⟩ hE
  walk_at "yo"
  have b1 : 0 ≤ drw ns 6 13 ∧ drw ns 6 13 < 13 := ⟨drw_nn (by decide), drw_lt (by decide)⟩
  have b2 : 0 ≤ drw ns 16 3 ∧ drw ns 16 3 < 3 := ⟨drw_nn (by decide), drw_lt (by decide)⟩
  refine u_namesP (by decide) ⟨by omega, by omega⟩ fun kinds k1 k2 => ?_
  walk_at "yo"
  refine u_namesP (by decide) ⟨by omega, by omega⟩ fun words w1 w2 => ?_
  walk_at "yo"
  have lk : kinds.length ≤ 12 := by omega
  have lw : words.length ≤ 3 := by omega
  refine callX0 ⟨ns, 20, kinds, words, rfl, by decide, by omega, by omega, rfl, fun ks hks => ⟨_, Ent.refl _, ?_⟩⟩
  have hg : ∀ w ∈ words, ∀ z ∈ kinds, gK ks [.inr z, .inr w] = some (.int (gOf ks z w)) := fun w mw z mz => by
    obtain ⟨v, _, e⟩ := hks z mz w mw
    unfold gOf
    rw [e]
  walk_at "yo"
  refine y_dat 14 rfl fun v => ?_
  refine xs_let 13 rfl fun p => ?_
  walk_at "nmx"
  refine y_ndef 2 rfl rfl (fun z => ⟨rfl, rfl⟩) fun f z => ?_
  walk_at "yo"
  refine y_forL ?_
  walk_at "yo"
  refine xforM (f := D.str) (xs := words) (fun i ρ' W' => ρ' = [.sh (.fls (ns.map .int)), .sh (eNs kinds), .sh (eNs words), .sh (.op (.ref f)), .un, .un, .un, .un, .un, .un, .un, .un, .un, .sh (.op (.ref p)), .sh (.op v), .un, .un] ∧ W' = _) ⟨_, _, by walk_at "wk", Ent.refl _, rfl, rfl⟩ ?_ ?_
  · rintro i w ρ' W' hw ⟨rfl, rfl⟩
    have mw := List.mem_of_getElem? hw
    walk_at "yo"
    refine xforR0 (fun i ρ' W' => ρ' = [.sh (.fls (ns.map .int)), .sh (eNs kinds), .sh (eNs words), .sh (.op (.ref f)), .sh (.str w), .un, .un, .un, .un, .un, .un, .un, .un, .sh (.op (.ref p)), .sh (.op v), .un, .un] ∧ W' = _) ⟨_, _, by walk_at "wk", Ent.refl _, rfl, rfl⟩ ?_ ?_
    · rintro j ρ' W' hj ⟨rfl, rfl⟩
      walk_at "yo"
      have ej : cut kinds (some (j : Int)) none = kinds.drop j := by rw [cutP kinds (by omega), Int.toNat_natCast]
      rw [ej]
      have hd : ∀ z ∈ kinds.drop j, z ∈ kinds := fun z m => List.mem_of_mem_drop m
      have ll : (kinds.drop j).length ≤ 12 := by rw [List.length_drop]; omega
      generalize kinds.drop j = line at hd ll
      refine callX0 ⟨line, w, ks, fun z => gOf ks z w, rfl, by omega, rfl, fun z m => hg w mw z (hd z m), ⟨_, Ent.refl _, ?_⟩⟩
      have pl := pap_len (g := fun z => gOf ks z w) (l := line)
      have pA := papA_take (g := fun z => gOf ks z w) (l := line)
      generalize pap (fun z => gOf ks z w) line = P at pl pA
      obtain ⟨passed, found, told⟩ := P
      have pl : passed.length ≤ line.length := pl
      have pA : papA (fun z => gOf ks z w) line = line.take (passed.length + 1) := pA
      show XG K Z true _ (.tup [.tup (passed.map .str), eOs found, .int told]) _ _ _
      have hT : Tel (fun z w => w ∈ words ∧ z ∈ kinds) (TClo [.op (.ref p), .dt ks] (T_law_l_strength K c)) (fun s => cel K p (ePs s)) (gOf ks) nxP List.length := ⟨fun s z w h hs q x hq => ⟨.cons (fun cs => cut_cel) .nil, z, w, p, ks, gOf ks z w, s, rfl, hg w h.1 z h.2, hs, rfl, hq⟩, fun s z w => by unfold nxP; rw [List.length_append]; exact Nat.le_refl _⟩
      have hdm : ∀ z ∈ line, w ∈ words ∧ z ∈ kinds := fun z m => ⟨mw, hd z m⟩
      have l1000 : line.length ≤ 1000 := by omega
      walk_at "yo"
      refine xn_lcL rfl ?_
      walk_at "yo"
      have ec : cut line none (some ((passed.length : Int) + 1)) = line.take (passed.length + 1) := by rw [cutQ line (by omega), show ((passed.length : Int) + 1).toNat = passed.length + 1 by omega]
      rw [ec]
      refine xlcA (f := D.str) (xs := line.take (passed.length + 1)) (fun k => eP (k, w)) (by rw [List.length_take]; omega) (fun k m2 q3 hq3 => ?_) ?_
      · walk_at "yo"
        exact hq3
      have em : D.lst ((line.take (passed.length + 1)).map (fun k => eP (k, w))) = ePs ((line.take (passed.length + 1)).map fun k => (k, w)) := by show _ = D.lst _; rw [List.map_map]; rfl
      rw [em]
      walk_at "yo"
      refine xe_callSh (cds := [.op (.ref p), .op v]) rfl rfl ?_
      walk_at "yo"
      refine ⟨[c.clo f (TClo [.op (.ref p), .dt ks] (T_law_l_strength K c)), cel K p (ePs [])], [RFn f _, dat K v (.dt ks), RTab c.tb_law nm_law], (ents_cloC hcl (N_law_l_strength _ _ _) rfl 0 rfl (.same _ (.dat 2 rfl .nil))).trans (EntS.of (by walk_at "ent")), ?_⟩
      refine ⟨line, w, f, _, _, _, gOf ks, nxP, _, List.length, [], rfl, l1000, rfl, hT, by decide, hdm, [RFn f _, cel K p (ePs _), dat K v (.dt ks), RTab c.tb_law nm_law], by walk_at "ent", .cons (fun cs => cut_fn) (.cons (fun cs => cut_cel) (.cons (fun cs => cut_dat) (.cons (fun cs => cut_tab) .nil))), ?_⟩
      have ea : ∀ l : List Str, askL nxP w [] l = l.map fun z => (z, w) := fun l => by rw [askP, List.nil_append]
      have prP : ∀ s : List (Str × Str), pln (ePs s) = true := fun s => by
        rw [pln]
        exact plns_eP s
      rw [pA, ea]
      walk_at "yo"
      refine x2_ofD (VwD.cel (Has.at 1 rfl)) VwD.of (a2_neD (prP _) (prP _) (dep_ePs _) (dep_ePs _) ⟨rfl, ?_⟩)
      rw [deq_refl _ (prP _)]
      walk_at "yo"
      refine ⟨1, _, rfl, ?_⟩
      walk_at "yo"
      refine xe_of_xn (xn_callSh (cds := [.op (.ref p), .op v]) rfl rfl ?_)
      walk_at "yo"
      refine ⟨[c.clo f (TClo [.op (.ref p), .dt ks] (T_law_l_strength K c)), cel K p (ePs [])], [RFn f _, dat K v (.dt ks), RTab c.tb_law nm_law], (ents_cloC hcl (N_law_l_strength _ _ _) rfl 0 rfl (.same _ (.dat 2 rfl .nil))).trans (EntS.of (by walk_at "ent")), ?_⟩
      refine ⟨line, w, f, _, _, _, gOf ks, nxP, _, List.length, [], rfl, l1000, rfl, hT, by decide, hdm, [RFn f _, cel K p (ePs _), dat K v (.dt ks), RTab c.tb_law nm_law], by walk_at "ent", .cons (fun cs => cut_fn) (.cons (fun cs => cut_cel) (.cons (fun cs => cut_dat) (.cons (fun cs => cut_tab) .nil))), ?_⟩
      rw [ea]
      have cmp : ∀ s : List (Str × Str), pln (ePs s) = true ∧ dep (ePs s) ≤ 64 := fun s => ⟨prP s, dep_ePs s⟩
      walk_at "yo"
      refine xn_lcL rfl ?_
      walk_at "yo"
      refine xlcA (f := D.str) (xs := line) (fun k => eP (k, w)) (by omega) (fun k m2 q3 hq3 => ?_) ?_
      · walk_at "yo"
        exact hq3
      have em2 : D.lst (line.map (fun k => eP (k, w))) = ePs (line.map fun k => (k, w)) := by show _ = D.lst _; rw [List.map_map]; rfl
      rw [em2]
      refine x2_ofD (VwD.cel (Has.at 1 rfl)) VwD.of (a2_neD (prP _) (prP _) (dep_ePs _) (dep_ePs _) ⟨rfl, ?_⟩)
      rw [deq_refl _ (prP _)]
      walk_at "yo"
      refine ⟨1, _, rfl, ?_⟩
      walk_at "yo"
      refine xe_callSh (cds := [.op (.ref p), .op v]) rfl rfl ?_
      walk_at "yo"
      refine ⟨[c.clo f (TClo [.op (.ref p), .dt ks] (T_law_l_strength K c)), cel K p (ePs [])], [RFn f _, dat K v (.dt ks), RTab c.tb_law nm_law], (ents_cloC hcl (N_law_l_strength _ _ _) rfl 0 rfl (.same _ (.dat 2 rfl .nil))).trans (EntS.of (by walk_at "ent")), ?_⟩
      refine ⟨line, w, f, _, _, _, gOf ks, nxP, _, List.length, [], passed, found, told, rfl, l1000, by omega, rfl, hT, by decide, hdm, [RFn f _, cel K p (ePs _), dat K v (.dt ks), RTab c.tb_law nm_law], by walk_at "ent", .cons (fun cs => cut_fn) (.cons (fun cs => cut_cel) (.cons (fun cs => cut_dat) (.cons (fun cs => cut_tab) .nil))), ?_⟩
      rw [ea]
      have hw1 := (wrP_len (g := fun z => gOf ks z w) (line := line) (passed := passed) (found := found) (told := told)).1
      generalize (wrP (fun z => gOf ks z w) line passed found told).2 = a1 at hw1
      have sub : ∀ {a n : Nat}, a ≤ n → ∀ y ∈ (line.take a).map fun z => (z, w), y ∈ (line.take n).map fun k => (k, w) := fun {a n} h y m => by
        obtain ⟨k, mk, rfl⟩ := List.mem_map.mp m
        refine List.mem_map.mpr ⟨k, ?_, rfl⟩
        have e : line.take a = (line.take n).take a := by rw [List.take_take, Nat.min_eq_left h]
        rw [e] at mk
        exact List.mem_of_mem_take mk
      have s1 := sub hw1
      have ls1 : ((line.take a1).map fun z => (z, w)).length < 100000 := by rw [List.length_map, List.length_take]; omega
      generalize ((line.take a1).map fun z => (z, w)) = s at s1 ls1
      walk_at "yo"
      refine xn_lcC rfl ?_
      walk_at "yo"
      refine ⟨p, s.map eP, [RFn f _, dat K v (.dt ks), RTab c.tb_law nm_law], rfl, by walk_at "ent", fun _ => ?_⟩
      refine xlc (f := eP) (xs := s) (fun _ => false) eP ls1 (fun y m q2 hq2 => ?_) (fun y m h q2 hq2 => by cases h) ?_
      · walk_at "yo"
        refine x2_of (a2_ninDL rfl (plns_eP _) (Nat.le_trans (dep_eP y) (by decide)) (dep_ePs _) ?_)
        rw [inD_eP (s1 y m)]
        exact ⟨_, rfl, hq2⟩
      rw [List.filter_eq_nil_iff.mpr (fun _ _ => Bool.false_ne_true)]
      walk_at "yo"
      refine ⟨3, _, rfl, ?_⟩
      have at0 : 0 ≤ drw ns (40 + (j : Int)) ((passed.length : Int) + 1) := drw_nn (by omega)
      have at1 : drw ns (40 + (j : Int)) ((passed.length : Int) + 1) < (passed.length : Int) + 1 := drw_lt (by omega)
      have hj2 : j ≤ 12 := by
        have : j < Int.toNat ((kinds.length : Int) + 1) := hj
        omega
      walk_at "yo"
      generalize drw ns (40 + (j : Int)) ((passed.length : Int) + 1) = k at at0 at1
      have e1 : cut passed none (some k) = passed.take k.toNat := cutQ passed at0
      have e2 : cut passed (some (k + 1)) none = passed.drop (k.toNat + 1) := by rw [cutP passed (by omega), show (k + 1).toNat = k.toNat + 1 by omega]
      rw [e1]
      refine a2_catT ?_ ?_
      · rw [List.length_map, List.length_take]
        show _ + 1 ≤ _
        omega
      walk_at "yo"
      rw [e2]
      refine a2_catT ?_ ?_
      · rw [List.length_append, List.length_map, List.length_map, List.length_take, List.length_drop]
        show _ + 1 + _ ≤ _
        omega
      have es : D.tup (List.map D.str (passed.take k.toNat) ++ [D.str (Str.ofString "-")] ++ List.map D.str (passed.drop (k.toNat + 1))) = .tup ((passed.take k.toNat ++ [Str.ofString "-"] ++ passed.drop (k.toNat + 1)).map .str) := by rw [List.map_append, List.map_append]; rfl
      rw [es]
      have lsp : (passed.take k.toNat ++ [Str.ofString "-"] ++ passed.drop (k.toNat + 1)).length ≤ 1000 := by rw [List.length_append, List.length_append, List.length_take, List.length_drop]; show _ + 1 + _ ≤ _; omega
      have lsk : k.toNat < (passed.take k.toNat ++ [Str.ofString "-"] ++ passed.drop (k.toNat + 1)).length := by rw [List.length_append, List.length_append, List.length_take, List.length_drop]; show _ < _ + 1 + _; omega
      have hat : (passed.take k.toNat ++ [Str.ofString "-"] ++ passed.drop (k.toNat + 1))[k.toNat]? = some (Str.ofString "-") := by
        rw [List.append_assoc, List.getElem?_append_right (by rw [List.length_take]; omega), List.length_take, Nat.min_eq_left (by omega), Nat.sub_self]
        rfl
      have hne : line[k.toNat]? ≠ (passed.take k.toNat ++ [Str.ofString "-"] ++ passed.drop (k.toNat + 1))[k.toNat]? := fun e => by
        rw [hat] at e
        have m := hd _ (List.mem_of_getElem? e)
        have := (nameOk_iff.mp (k1.2 _ m)).2.2 45 (by decide)
        omega
      generalize (passed.take k.toNat ++ [Str.ofString "-"] ++ passed.drop (k.toNat + 1)) = spoilt at lsp lsk hne
      clear hat es
      walk_at "yo"
      refine xe_callSh (cds := [.op (.ref p), .op v]) rfl rfl ?_
      walk_at "yo"
      refine ⟨[c.clo f (TClo [.op (.ref p), .dt ks] (T_law_l_strength K c)), cel K p (ePs [])], [RFn f _, dat K v (.dt ks), RTab c.tb_law nm_law], (ents_cloC hcl (N_law_l_strength _ _ _) rfl 0 rfl (.same _ (.dat 1 rfl .nil))).trans (EntS.of (by walk_at "ent")), ?_⟩
      refine ⟨line, w, f, _, _, _, gOf ks, nxP, _, List.length, [], spoilt, found, told, rfl, l1000, lsp, rfl, hT, by decide, hdm, [RFn f _, dat K v (.dt ks), RTab c.tb_law nm_law, cel K p (ePs _)], by walk_at "ent", .cons (fun cs => cut_fn) (.cons (fun cs => cut_dat) (.cons (fun cs => cut_tab) (.cons (fun cs => cut_cel) .nil))), ?_⟩
      rw [ea]
      have hw2 := (wrP_len (g := fun z => gOf ks z w) (line := line) (passed := spoilt) (found := found) (told := told)).2 k.toNat hne lsk
      generalize (wrP (fun z => gOf ks z w) line spoilt found told).2 = a2 at hw2
      have s2 := sub (show a2 ≤ k.toNat + 1 by omega)
      have ls2 : ((line.take a2).map fun z => (z, w)).length < 100000 := by rw [List.length_map, List.length_take]; omega
      generalize ((line.take a2).map fun z => (z, w)) = s' at s2 ls2
      walk_at "yo"
      refine xn_lcC rfl ?_
      walk_at "yo"
      refine ⟨p, s'.map eP, [RFn f _, dat K v (.dt ks), RTab c.tb_law nm_law], rfl, by walk_at "ent", fun _ => ?_⟩
      refine xlc (f := eP) (xs := s') (fun _ => false) eP ls2 (fun y m q2 hq2 => ?_) (fun y m h q2 hq2 => by cases h) ?_
      · refine xt_test (xe_op ?_)
        walk_at "yo"
        refine xn_lcL rfl ?_
        walk_at "yo"
        have ec2 : cut line none (some (k + 1)) = line.take (k.toNat + 1) := by rw [cutQ line (by omega), show (k + 1).toNat = k.toNat + 1 by omega]
        rw [ec2]
        refine xlcA (f := D.str) (xs := line.take (k.toNat + 1)) (fun y => eP (y, w)) (by rw [List.length_take]; omega) (fun y m2 q3 hq3 => ?_) ?_
        · walk_at "yo"
          exact hq3
        have em3 : (line.take (k.toNat + 1)).map (fun y => eP (y, w)) = ((line.take (k.toNat + 1)).map fun y => (y, w)).map eP := by rw [List.map_map]; rfl
        rw [em3]
        refine x2_of (a2_ninDL rfl (plns_eP _) (Nat.le_trans (dep_eP y) (by decide)) (dep_ePs _) ?_)
        rw [inD_eP (s2 y m)]
        exact ⟨_, rfl, hq2⟩
      rw [List.filter_eq_nil_iff.mpr (fun _ _ => Bool.false_ne_true)]
      walk_at "yo"
      refine ⟨3, _, rfl, ?_⟩
      walk_at "yo"
      refine xe_callSh (cds := [.op (.ref p), .op v]) rfl rfl ?_
      walk_at "yo"
      refine ⟨[c.clo f (TClo [.op (.ref p), .dt ks] (T_law_l_strength K c)), cel K p (ePs [])], [RFn f _, dat K v (.dt ks), RTab c.tb_law nm_law], (ents_cloC hcl (N_law_l_strength _ _ _) rfl 0 rfl (.same _ (.dat 1 rfl .nil))).trans (EntS.of (by walk_at "ent")), ?_⟩
      refine ⟨line, w, passed, f, p, _, gOf ks, _, rfl, l1000, by omega, rfl, hT, hdm, [RFn f _, cel K p (ePs []), dat K v (.dt ks), RTab c.tb_law nm_law], by walk_at "ent", .cons (fun cs => cut_fn) (.cons (fun cs => cut_cel) (.cons (fun cs => cut_dat) (.cons (fun cs => cut_tab) .nil))), ?_⟩
      walk_at "yo"
      exact ⟨_, _, by walk_at "wk", Ent.refl _, rfl, rfl⟩
    · rintro ρ' W' ⟨rfl, rfl⟩
      exact ⟨_, _, by walk_at "wk", Ent.refl _, rfl, rfl⟩
  · rintro ρ' W' ⟨rfl, rfl⟩
    walk_at "yo"
    exact ⟨_, Ent.refl _, hq _⟩
in #guard_msgs in open Nat
end
theorem lawX_T {K : PySem.W.Frag} {c : Cs} {ns : List Int} (hl : ns.length ≤ 63) (_hb : ∀ z ∈ ns, Builtin.Int.intBits z ≤ 1048576) : T_lawX K c [.fls (ns.map .int)] [RTab c.tb_law nm_law] (fun d _ => d = .bl true) xNo := ⟨ns, rfl, hl, rfl, fun _ => rfl⟩
in #guard_msgs in open Nat

end
end
theorem all_mk {l : PySem.W.OpenLaw} {w : World} {K : PySem.W.Frag} {h : Heap} {mg : Str → Option Value} {fa : Addr} (X : K.In h) (G : h.Ns mainGlobals mg) (hfa : mg "law" = some (.ref fa))
    {f_found_all : Addr} {od_found_all an_found_all : Option Addr} {sl_found_all : Array (Option Value)} {oc_found_all kV_found_all dc_found_all pm_found_all cd_found_all ct_found_all : Value}
    (a_found_all : PySem.W.nsIn K mainGlobals "found_all" = some (some (.ref f_found_all)))
    (l_found_all : K.lookup f_found_all = some ⟨oc_found_all, od_found_all, .func (PySem.W.fnOf "found_all" "found_all" (defArgs s_found_all) (defBody s_found_all) (defScope s_found_all) .none kV_found_all dc_found_all pm_found_all an_found_all cd_found_all ct_found_all), sl_found_all⟩) (c_found_all : PySem.W.codeIn K cd_found_all "found_all" = true) (k_found_all : PySem.W.keepIn K (.ref f_found_all) = true)
    {f_paper_of : Addr} {od_paper_of an_paper_of : Option Addr} {sl_paper_of : Array (Option Value)} {oc_paper_of kV_paper_of dc_paper_of pm_paper_of cd_paper_of ct_paper_of : Value}
    (a_paper_of : PySem.W.nsIn K mainGlobals "paper_of" = some (some (.ref f_paper_of)))
    (l_paper_of : K.lookup f_paper_of = some ⟨oc_paper_of, od_paper_of, .func (PySem.W.fnOf "paper_of" "paper_of" (defArgs s_paper_of) (defBody s_paper_of) (defScope s_paper_of) .none kV_paper_of dc_paper_of pm_paper_of an_paper_of cd_paper_of ct_paper_of), sl_paper_of⟩) (c_paper_of : PySem.W.codeIn K cd_paper_of "paper_of" = true) (k_paper_of : PySem.W.keepIn K (.ref f_paper_of) = true)
    {f_wrong_at : Addr} {od_wrong_at an_wrong_at : Option Addr} {sl_wrong_at : Array (Option Value)} {oc_wrong_at kV_wrong_at dc_wrong_at pm_wrong_at cd_wrong_at ct_wrong_at : Value}
    (a_wrong_at : PySem.W.nsIn K mainGlobals "wrong_at" = some (some (.ref f_wrong_at)))
    (l_wrong_at : K.lookup f_wrong_at = some ⟨oc_wrong_at, od_wrong_at, .func (PySem.W.fnOf "wrong_at" "wrong_at" (defArgs s_wrong_at) (defBody s_wrong_at) (defScope s_wrong_at) .none kV_wrong_at dc_wrong_at pm_wrong_at an_wrong_at cd_wrong_at ct_wrong_at), sl_wrong_at⟩) (c_wrong_at : PySem.W.codeIn K cd_wrong_at "wrong_at" = true) (k_wrong_at : PySem.W.keepIn K (.ref f_wrong_at) = true)
    {f_l_mix : Addr} {od_l_mix an_l_mix : Option Addr} {sl_l_mix : Array (Option Value)} {oc_l_mix kV_l_mix dc_l_mix pm_l_mix cd_l_mix ct_l_mix : Value}
    (a_l_mix : PySem.W.nsIn K mainGlobals "_law_mix" = some (some (.ref f_l_mix)))
    (l_l_mix : K.lookup f_l_mix = some ⟨oc_l_mix, od_l_mix, .func (PySem.W.fnOf "_law_mix" "_law_mix" (defArgs s_l_mix) (defBody s_l_mix) (defScope s_l_mix) .none kV_l_mix dc_l_mix pm_l_mix an_l_mix cd_l_mix ct_l_mix), sl_l_mix⟩) (c_l_mix : PySem.W.codeIn K cd_l_mix "_law_mix" = true) (k_l_mix : PySem.W.keepIn K (.ref f_l_mix) = true)
    {f_l_drawn : Addr} {od_l_drawn an_l_drawn : Option Addr} {sl_l_drawn : Array (Option Value)} {oc_l_drawn kV_l_drawn dc_l_drawn pm_l_drawn cd_l_drawn ct_l_drawn : Value}
    (a_l_drawn : PySem.W.nsIn K mainGlobals "_law_drawn" = some (some (.ref f_l_drawn)))
    (l_l_drawn : K.lookup f_l_drawn = some ⟨oc_l_drawn, od_l_drawn, .func (PySem.W.fnOf "_law_drawn" "_law_drawn" (defArgs s_l_drawn) (defBody s_l_drawn) (defScope s_l_drawn) .none kV_l_drawn dc_l_drawn pm_l_drawn an_l_drawn cd_l_drawn ct_l_drawn), sl_l_drawn⟩) (c_l_drawn : PySem.W.codeIn K cd_l_drawn "_law_drawn" = true) (k_l_drawn : PySem.W.keepIn K (.ref f_l_drawn) = true)
    {f_l_namesP : Addr} {od_l_namesP an_l_namesP : Option Addr} {sl_l_namesP : Array (Option Value)} {oc_l_namesP kV_l_namesP dc_l_namesP pm_l_namesP cd_l_namesP ct_l_namesP : Value}
    (a_l_namesP : PySem.W.nsIn K mainGlobals "_law_names" = some (some (.ref f_l_namesP)))
    (l_l_namesP : K.lookup f_l_namesP = some ⟨oc_l_namesP, od_l_namesP, .func (PySem.W.fnOf "_law_names" "_law_names" (defArgs s_l_namesP) (defBody s_l_namesP) (defScope s_l_namesP) .none kV_l_namesP dc_l_namesP pm_l_namesP an_l_namesP cd_l_namesP ct_l_namesP), sl_l_namesP⟩) (c_l_namesP : PySem.W.codeIn K cd_l_namesP "_law_names" = true) (k_l_namesP : PySem.W.keepIn K (.ref f_l_namesP) = true)
    {f_l_table : Addr} {od_l_table an_l_table : Option Addr} {sl_l_table : Array (Option Value)} {oc_l_table kV_l_table dc_l_table pm_l_table cd_l_table ct_l_table : Value}
    (a_l_table : PySem.W.nsIn K mainGlobals "_law_table" = some (some (.ref f_l_table)))
    (l_l_table : K.lookup f_l_table = some ⟨oc_l_table, od_l_table, .func (PySem.W.fnOf "_law_table" "_law_table" (defArgs s_l_table) (defBody s_l_table) (defScope s_l_table) .none kV_l_table dc_l_table pm_l_table an_l_table cd_l_table ct_l_table), sl_l_table⟩) (c_l_table : PySem.W.codeIn K cd_l_table "_law_table" = true) (k_l_table : PySem.W.keepIn K (.ref f_l_table) = true)
    {f_l_paper : Addr} {od_l_paper an_l_paper : Option Addr} {sl_l_paper : Array (Option Value)} {oc_l_paper kV_l_paper dc_l_paper pm_l_paper cd_l_paper ct_l_paper : Value}
    (a_l_paper : PySem.W.nsIn K mainGlobals "_law_paper" = some (some (.ref f_l_paper)))
    (l_l_paper : K.lookup f_l_paper = some ⟨oc_l_paper, od_l_paper, .func (PySem.W.fnOf "_law_paper" "_law_paper" (defArgs s_l_paper) (defBody s_l_paper) (defScope s_l_paper) .none kV_l_paper dc_l_paper pm_l_paper an_l_paper cd_l_paper ct_l_paper), sl_l_paper⟩) (c_l_paper : PySem.W.codeIn K cd_l_paper "_law_paper" = true) (k_l_paper : PySem.W.keepIn K (.ref f_l_paper) = true)
    {f_l_cut_short : Addr} {od_l_cut_short an_l_cut_short : Option Addr} {sl_l_cut_short : Array (Option Value)} {oc_l_cut_short kV_l_cut_short dc_l_cut_short pm_l_cut_short cd_l_cut_short ct_l_cut_short : Value}
    (a_l_cut_short : PySem.W.nsIn K mainGlobals "_law_cut_short" = some (some (.ref f_l_cut_short)))
    (l_l_cut_short : K.lookup f_l_cut_short = some ⟨oc_l_cut_short, od_l_cut_short, .func (PySem.W.fnOf "_law_cut_short" "_law_cut_short" (defArgs s_l_cut_short) (defBody s_l_cut_short) (defScope s_l_cut_short) .none kV_l_cut_short dc_l_cut_short pm_l_cut_short an_l_cut_short cd_l_cut_short ct_l_cut_short), sl_l_cut_short⟩) (c_l_cut_short : PySem.W.codeIn K cd_l_cut_short "_law_cut_short" = true) (k_l_cut_short : PySem.W.keepIn K (.ref f_l_cut_short) = true)
    {f_law : Addr} {od_law an_law : Option Addr} {sl_law : Array (Option Value)} {oc_law kV_law dc_law pm_law ct_law : Value}
    (a_law : PySem.W.nsIn K mainGlobals "law" = some (some (.ref f_law))) {co_law T_law : Addr} {od9_law : Option Addr} {vs9_law : Array Value} {sl9_law : Array (Option Value)}
    (l_law : K.lookup f_law = some ⟨oc_law, od_law, .func (PySem.W.fnOf "law" "law" (defArgs s_law) (defBody s_law) (defScope s_law) .none kV_law dc_law pm_law an_law (.ref co_law) ct_law), sl_law⟩) (c_law : PySem.W.codeIn K (.ref co_law) "law" = true) (k_law : PySem.W.keepIn K (.ref f_law) = true)
    (q_law : K.lookup co_law = some ⟨.type "code", od9_law, .fields vs9_law, sl9_law⟩) (v_law : (vs9_law[11]? : Option Value) = some (.ref T_law)) (h_law : PySem.W.codeHdIn K co_law T_law = true) (tn_law : K.lookup T_law = none) (ht_law : h.get? T_law = some (PySem.W.tabObj #[]))
    (z_tuple : PySem.W.nsIn K mainGlobals "tuple" = some none)
    (z_len : PySem.W.nsIn K mainGlobals "len" = some none)
    (z_range : PySem.W.nsIn K mainGlobals "range" = some none)
    (z_min : PySem.W.nsIn K mainGlobals "min" = some none) :
    LawAtS l w K CX0 15 63 "_law_script" mg fa h := by
  have e := hfa.symm.trans (PySem.W.mg_of X G a_law)
  cases e
  let c0 : Cs := ⟨fun _ _ => Tg.fact (fun _ => True) (fun z _ => z), T_law⟩
  refine ⟨PySem.W.fnOf "law" "law" (defArgs s_law) (defBody s_law) (defScope s_law) .none kV_law dc_law pm_law an_law (.ref co_law) ct_law, [(co_law, T_law)], sp_law K mg c0, (List.forall_mem_cons.mpr ⟨ht_law, (fun _ z => nomatch z)⟩), (List.forall_mem_cons.mpr ⟨tn_law, (fun _ z => nomatch z)⟩), (List.forall_mem_cons.mpr ⟨PySem.W.codeHd_of_K X h_law, (fun _ z => nomatch z)⟩), fun s v => .of_eq rfl, fun H a ns hl hb hH hS => lawX_enter (tabs := [(T_law, nm_law)]) (by simp) ((List.forall_mem_cons.mpr ⟨hH (co_law, T_law) (by simp), (fun _ z => nomatch z)⟩)) hS (lawX_T hl hb), fun base _ _ TBs => ?_⟩
  have TB_law : TabB base mg co_law T_law := TBs (co_law, T_law) (by simp)
  let c : Cs := ⟨RClo l.prog w K mg base 12, T_law⟩
  have T : Txt K mg c := ⟨PySem.W.mg_none_of X G z_tuple, PySem.W.mg_none_of X G z_len, PySem.W.mg_none_of X G z_range, PySem.W.mg_none_of X G z_min⟩
  have F_found_all := fun_mk (st := s_found_all) l_found_all c_found_all k_found_all
  have B_found_all := F_found_all.binds (ps := ["line", "word", "strength"]) fun _ _ _ _ _ _ us hl => match us, hl with | [_, _, _], _ => rfl
  have F_paper_of := fun_mk (st := s_paper_of) l_paper_of c_paper_of k_paper_of
  have B_paper_of := F_paper_of.binds (ps := ["line", "word", "strength"]) fun _ _ _ _ _ _ us hl => match us, hl with | [_, _, _], _ => rfl
  have F_wrong_at := fun_mk (st := s_wrong_at) l_wrong_at c_wrong_at k_wrong_at
  have B_wrong_at := F_wrong_at.binds (ps := ["line", "word", "strength", "paper"]) fun _ _ _ _ _ _ us hl => match us, hl with | [_, _, _, _], _ => rfl
  have F_l_mix := fun_mk (st := s_l_mix) l_l_mix c_l_mix k_l_mix
  have B_l_mix := F_l_mix.binds (ps := ["_law_cell", "_law_turn", "_law_many"]) fun _ _ _ _ _ _ us hl => match us, hl with | [_, _, _], _ => rfl
  have F_l_drawn := fun_mk (st := s_l_drawn) l_l_drawn c_l_drawn k_l_drawn
  have B_l_drawn := F_l_drawn.binds (ps := ["_law_script", "_law_k", "_law_many"]) fun _ _ _ _ _ _ us hl => match us, hl with | [_, _, _], _ => rfl
  have F_l_namesP := fun_mk (st := s_l_namesP) l_l_namesP c_l_namesP k_l_namesP
  have B_l_namesP := F_l_namesP.binds (ps := ["_law_script", "_law_at", "_law_many"]) fun _ _ _ _ _ _ us hl => match us, hl with | [_, _, _], _ => rfl
  have F_l_table := fun_mk (st := s_l_table) l_l_table c_l_table k_l_table
  have B_l_table := F_l_table.binds (ps := ["_law_script", "_law_at", "_law_kinds", "_law_words"]) fun _ _ _ _ _ _ us hl => match us, hl with | [_, _, _, _], _ => rfl
  have F_l_paper := fun_mk (st := s_l_paper) l_l_paper c_l_paper k_l_paper
  have B_l_paper := F_l_paper.binds (ps := ["_law_line", "_law_word", "_law_table_here"]) fun _ _ _ _ _ _ us hl => match us, hl with | [_, _, _], _ => rfl
  have F_l_cut_short := fun_mk (st := s_l_cut_short) l_l_cut_short c_l_cut_short k_l_cut_short
  have B_l_cut_short := F_l_cut_short.binds (ps := ["_law_line", "_law_word", "_law_passed", "_law_strength", "_law_asked"]) fun _ _ _ _ _ _ us hl => match us, hl with | [_, _, _, _, _], _ => rfl
  have F_law := fun_mk (st := s_law) l_law c_law k_law
  have D_l_mix : Dk l.prog w K mg base CX0 1 f_l_mix _ "_law_mix" ["_law_cell", "_law_turn", "_law_many"] [] (sp_l_mix K) := ⟨(ok_l_mix F_l_mix T ), PySem.W.mg_of X G a_l_mix, F_l_mix.kp, B_l_mix⟩
  have D_l_paper : Dk l.prog w K mg base CX0 1 f_l_paper _ "_law_paper" ["_law_line", "_law_word", "_law_table_here"] [] (sp_l_paper K mg c) := ⟨(ok_l_paper F_l_paper T ), PySem.W.mg_of X G a_l_paper, F_l_paper.kp, B_l_paper⟩
  have D_l_drawn : Dk l.prog w K mg base CX0 2 f_l_drawn _ "_law_drawn" ["_law_script", "_law_k", "_law_many"] [] (sp_l_drawn K) := ⟨(ok_l_drawn F_l_drawn T D_l_mix), PySem.W.mg_of X G a_l_drawn, F_l_drawn.kp, B_l_drawn⟩
  have D_l_namesP : Dk l.prog w K mg base CX0 3 f_l_namesP _ "_law_names" ["_law_script", "_law_at", "_law_many"] [] (sp_l_namesP K) := ⟨(ok_l_namesP F_l_namesP T D_l_drawn), PySem.W.mg_of X G a_l_namesP, F_l_namesP.kp, B_l_namesP⟩
  have D_l_table : Dk l.prog w K mg base CX0 3 f_l_table _ "_law_table" ["_law_script", "_law_at", "_law_kinds", "_law_words"] [] (sp_l_table K mg c) := ⟨(ok_l_table F_l_table T D_l_drawn), PySem.W.mg_of X G a_l_table, F_l_table.kp, B_l_table⟩
  have D_found_all : Dk l.prog w K mg base CX0 13 f_found_all _ "found_all" ["line", "word", "strength"] [] (sp_found_all K mg c) := ⟨(ok_found_all F_found_all T rfl), PySem.W.mg_of X G a_found_all, F_found_all.kp, B_found_all⟩
  have D_paper_of : Dk l.prog w K mg base CX0 13 f_paper_of _ "paper_of" ["line", "word", "strength"] [] (sp_paper_of K mg c) := ⟨(ok_paper_of F_paper_of T rfl), PySem.W.mg_of X G a_paper_of, F_paper_of.kp, B_paper_of⟩
  have D_wrong_at : Dk l.prog w K mg base CX0 13 f_wrong_at _ "wrong_at" ["line", "word", "strength", "paper"] [] (sp_wrong_at K mg c) := ⟨(ok_wrong_at F_wrong_at T rfl), PySem.W.mg_of X G a_wrong_at, F_wrong_at.kp, B_wrong_at⟩
  have D_l_cut_short : Dk l.prog w K mg base CX0 14 f_l_cut_short _ "_law_cut_short" ["_law_line", "_law_word", "_law_passed", "_law_strength", "_law_asked"] [] (sp_l_cut_short K mg c) := ⟨(ok_l_cut_short F_l_cut_short T D_wrong_at), PySem.W.mg_of X G a_l_cut_short, F_l_cut_short.kp, B_l_cut_short⟩
  have R_law := (ok_law F_law T D_l_drawn D_l_namesP D_l_table D_l_paper D_paper_of D_found_all D_wrong_at D_l_cut_short (fun _ _ _ => (nk_law_l_strength T ).mono (by decide)) (funC_mk l_law c_law) TB_law rfl)
  exact R_law
in #guard_msgs in open Nat
end Tg
open PySem PySem.W PyProof.Rows
set_option Elab.async false
set_option maxHeartbeats 0 in
theorem PySem.Challenge.cw_taglook_k32_asked_in_order_holds : PySem.Challenge.rw_taglook_k32_asked_in_order.Holds := by
  refine HdL.head ?_
  refine LamX.walk_ofTsE (l := PySem.Challenge.rw_taglook_k32_asked_in_order) (n := 63) (k := 15) (x := "_law_script") (CX := fun _ => L2.CX0) rfl (by decide) (by kernel_rfl) ⟨rfl, by decide, by decide⟩ ?F (fun _ _ _ _ _ h => h)
  case F =>
    intro w mg fa h Y G hmg0
    obtain ⟨K, KX, c, ht, tn⟩ := Y
    have hmg : mg ("law" : Str) = some (.ref fa) := by
      have e : (HandSHeadRun.topDef HdL.R.prog 11).name = ("law" : Str) := by kernel_rfl
      rw [← e]
      exact hmg0
    obtain ⟨cA, cB, cC⟩ : HdL.lsA K = HdL.rsA ∧ (HdL.lsB K).all id = true ∧ HdL.lsC K = HdL.rsC := by
      have c0 : (HdL.lsA K, (HdL.lsB K).all id, HdL.lsC K) = (HdL.rsA, true, HdL.rsC) := c
      obtain ⟨h1, h2⟩ := Prod.mk.inj c0
      obtain ⟨h3, h4⟩ := Prod.mk.inj h2
      exact ⟨h1, h3, h4⟩
    obtain ⟨_, _, _, _, _, _, _, _, _, l_found_all, c_found_all⟩ := HdX.fn_ok (HdX.eqAt cC 0 rfl rfl) (HdX.allAt cB 0 rfl)
    obtain ⟨_, _, _, _, _, _, _, _, _, l_paper_of, c_paper_of⟩ := HdX.fn_ok (HdX.eqAt cC 1 rfl rfl) (HdX.allAt cB 2 rfl)
    obtain ⟨_, _, _, _, _, _, _, _, _, l_wrong_at, c_wrong_at⟩ := HdX.fn_ok (HdX.eqAt cC 2 rfl rfl) (HdX.allAt cB 4 rfl)
    obtain ⟨_, _, _, _, _, _, _, _, _, l_l_mix, c_l_mix⟩ := HdX.fn_ok (HdX.eqAt cC 3 rfl rfl) (HdX.allAt cB 6 rfl)
    obtain ⟨_, _, _, _, _, _, _, _, _, l_l_drawn, c_l_drawn⟩ := HdX.fn_ok (HdX.eqAt cC 4 rfl rfl) (HdX.allAt cB 8 rfl)
    obtain ⟨_, _, _, _, _, _, _, _, _, l_l_namesP, c_l_namesP⟩ := HdX.fn_ok (HdX.eqAt cC 5 rfl rfl) (HdX.allAt cB 10 rfl)
    obtain ⟨_, _, _, _, _, _, _, _, _, l_l_table, c_l_table⟩ := HdX.fn_ok (HdX.eqAt cC 6 rfl rfl) (HdX.allAt cB 12 rfl)
    obtain ⟨_, _, _, _, _, _, _, _, _, l_l_paper, c_l_paper⟩ := HdX.fn_ok (HdX.eqAt cC 7 rfl rfl) (HdX.allAt cB 14 rfl)
    obtain ⟨_, _, _, _, _, _, _, _, _, l_l_cut_short, c_l_cut_short⟩ := HdX.fn_ok (HdX.eqAt cC 8 rfl rfl) (HdX.allAt cB 16 rfl)
    obtain ⟨_, _, _, _, _, _, _, _, l_law, c_law⟩ := HdX.fnR_ok (HdX.eqAt cC 9 rfl rfl) (HdX.allAt cB 18 rfl)
    obtain ⟨_, _, _, q_law, v_law⟩ := HdX.tab_ok (HdX.allAt cB 19 rfl)
    exact ⟨K, KX, Tg.all_mk KX G hmg (HdX.eqAt cA 0 rfl rfl) l_found_all c_found_all (HdX.allAt cB 1 rfl) (HdX.eqAt cA 1 rfl rfl) l_paper_of c_paper_of (HdX.allAt cB 3 rfl) (HdX.eqAt cA 2 rfl rfl) l_wrong_at c_wrong_at (HdX.allAt cB 5 rfl) (HdX.eqAt cA 3 rfl rfl) l_l_mix c_l_mix (HdX.allAt cB 7 rfl) (HdX.eqAt cA 4 rfl rfl) l_l_drawn c_l_drawn (HdX.allAt cB 9 rfl) (HdX.eqAt cA 5 rfl rfl) l_l_namesP c_l_namesP (HdX.allAt cB 11 rfl) (HdX.eqAt cA 6 rfl rfl) l_l_table c_l_table (HdX.allAt cB 13 rfl) (HdX.eqAt cA 7 rfl rfl) l_l_paper c_l_paper (HdX.allAt cB 15 rfl) (HdX.eqAt cA 8 rfl rfl) l_l_cut_short c_l_cut_short (HdX.allAt cB 17 rfl) (HdX.eqAt cA 9 rfl rfl) l_law c_law (HdX.allAt cB 20 rfl) q_law v_law (HdX.allAt cB 19 rfl) (tn 73 (by decide)) (ht 73 (by decide)) (HdX.eqAt cA 10 rfl rfl) (HdX.eqAt cA 11 rfl rfl) (HdX.eqAt cA 12 rfl rfl) (HdX.eqAt cA 13 rfl rfl)⟩
#print axioms PySem.Challenge.cw_taglook_k32_asked_in_order_holds
