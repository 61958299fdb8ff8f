import PyProof.Rows.All
import Wide.All
import OpenK.AllK
import Wide.FinOn
import PyProof.TupleOfStr
import Lean
import PySem.Challenge.RW_pf0230_01
set_option Elab.async false
set_option linter.all false
namespace Mine
open PySem PySem.W PyProof.Rows
def ofL : List Obj → Nat → BT → BT
  | [], _, t => t
  | o :: r, n, t => ofL r (n + 1) (t.ins n o)
noncomputable def bootT (P : Params) : BT := ofL (boot_heap P).objs.toList 0 .nil
theorem boot_abs (P : Params) : absHeap (bootT P) 11 (boot_heap P).life = boot_heap P := by kernel_rfl
theorem boot_size (P : Params) : ((boot_heap P).isNs mainGlobals, (boot_heap P).objs.size, (boot_heap P).nsMap mainGlobals "__annotations__") = (true, 11, some (.ref 6)) := by kernel_rfl
noncomputable def bootS (P : Params) (os : OsState) : SharedT := ⟨bootT P, 11, (boot_heap P).life, Array.mk [], boot_drawn, boot_toks, os⟩
theorem boot_is (P : Params) (os : OsState) : (bootS P os).abs = ⟨boot_heap P, Array.mk [], boot_drawn, boot_toks, os⟩ := by
  show (⟨absHeap (bootT P) 11 (boot_heap P).life, Array.mk [], boot_drawn, boot_toks, os⟩ : Shared) = _
  rw [boot_abs]
theorem through_end (t : Thread) : through t = (endAt 0 t).isSome := by
  obtain ⟨cur, code, pos, st⟩ := t
  unfold through endAt
  cases st with
  | nil =>
    cases cur with
    | pure f => cases f <;> rfl
    | _ => rfl
  | cons a l => rfl
theorem seg_to_top {tb : String → Option Builtin} {p : Program} {w : World} {n₀ : Nat} {ann : Option Value} : ∀ (n : Nat) (s : Shared) (t : Thread) (r : Flow × Shared × Code × Pos),
    segRun tb p w n₀ ann 0 n s t = some r → topRun tb p w n₀ ann n s t = some r.2.1
  | 0, _, _, _, h => by simp [segRun] at h
  | n + 1, s, t, r, h => by
    unfold segRun at h
    unfold topRun
    rw [through_end]
    cases he : endAt 0 t with
    | some f => rw [he] at h; cases h; rfl
    | none =>
      rw [he] at h
      cases hk : stepOk n₀ ann t with
      | false => rw [hk] at h; cases h
      | true =>
        rw [hk] at h
        cases hs : step (denote tb) p w s t with
        | halt o s₂ => rw [hs] at h; cases h
        | go s₂ t₂ => rw [hs] at h; exact seg_to_top n s₂ t₂ r h
noncomputable def lookF (p q : Program) (loose : List Str) (Xt : Shared → Bool) {α : Type} (Yf : Shared → α) (H₀ : Heap) (s : Shared) :=
  (staticsOk (importedModules p.main.body) H₀ s.heap && namesBound p s.heap && gensDone s && laidKept H₀ s.heap, PySem.W.Fast.tw4187177175401517315 q loose (importedModules p.main.body) Xt true s, Yf s)
theorem left_one {p q : Program} {loose : List Str} {Xt : Shared → Bool} {α : Type} {Yf : Shared → α} {Ya : World → α} {N : Nat} (e : opening p = plainProg p.main.scope.names) (hN : Nat.ble 600 N = true) (f : ∀ s, fenceModules? p s = some s) (w : World)
    (h : ∀ os, (PySem.W.Fast.tw10110043849684766642 PySem.W.Fast.tw14364793385576792824 p w 11 (some (.ref 6)) 0 N (bootS w.params os) (topStub p)).map (fun r => lookF p q loose Xt Yf (boot_heap w.params) r.2.1.abs) = some (true, openGood q loose, Ya w)) :
    (openEnds treeTable p w N).map (fun s => (openSeen q loose (importedModules p.main.body) Xt true s, Yf s)) = some (openGood q loose, Ya w) := by
  obtain ⟨⟨hh, gs, d, k, os⟩, ef, e'⟩ := Option.map_eq_some_iff.mp (boot_open e hN f w)
  obtain ⟨rfl, rfl, rfl, rfl⟩ : hh = boot_heap w.params ∧ gs = Array.mk [] ∧ d = boot_drawn ∧ k = boot_toks := by simpa using e'
  obtain ⟨z1, z2, z3⟩ : _ ∧ _ ∧ _ := by simpa only [Prod.mk.injEq] using boot_size w.params
  have h := h os
  unfold lookF at h
  rw [← PySem.W.Fast.te10110043849684766642, ← PySem.W.Fast.te14364793385576792824, ← PySem.W.Fast.te4187177175401517315] at h
  obtain ⟨⟨fl, sT, c, ps⟩, hr, hl⟩ := Option.map_eq_some_iff.mp h
  have r := seg_to_top _ _ _ _ (segRun_of hr)
  rw [boot_is] at r
  obtain ⟨l1, l2, l3⟩ : _ ∧ _ ∧ _ := by simpa only [Prod.mk.injEq] using hl
  have t : topFrom treeTable p w N ⟨boot_heap w.params, Array.mk [], boot_drawn, boot_toks, os⟩ = some sT.abs := by
    unfold topFrom
    dsimp only
    rw [z1, z2, z3, r]
    show (match staticsOk (importedModules p.main.body) (boot_heap w.params) sT.abs.heap && namesBound p sT.abs.heap && gensDone sT.abs && laidKept (boot_heap w.params) sT.abs.heap with | true => _ | false => _) = _
    rw [l1]
  unfold openEnds
  rw [ef]
  show (topFrom treeTable p w N _).map _ = _
  rw [t]
  exact congrArg some (Prod.ext l2 l3)
def Aux (p : Prop) : Prop := p
theorem aux_mk {p : Prop} (h : p) : Aux p := h
theorem left_two {p q : Program} {loose : List Str} {Xt : Shared → Bool} {α : Type} {Yf : Shared → α} {Ya : World → α} {N : Nat} (row : String) (e : opening p = plainProg p.main.scope.names) (hN : Nat.ble 600 N = true) (f : ∀ s, fenceModules? p s = some s)
    (hf : Aux (∀ (w : World) os, (PySem.W.Fast.tw10110043849684766642 PySem.W.Fast.tw14364793385576792824 p (w.withFollow row false) 11 (some (.ref 6)) 0 N (bootS (w.withFollow row false).params os) (topStub p)).map (fun r => lookF p q loose Xt Yf (boot_heap (w.withFollow row false).params) r.2.1.abs) = some (true, openGood q loose, Ya (w.withFollow row false))))
    (ht : Aux (∀ (w : World) os, (PySem.W.Fast.tw10110043849684766642 PySem.W.Fast.tw14364793385576792824 p (w.withFollow row true) 11 (some (.ref 6)) 0 N (bootS (w.withFollow row true).params os) (topStub p)).map (fun r => lookF p q loose Xt Yf (boot_heap (w.withFollow row true).params) r.2.1.abs) = some (true, openGood q loose, Ya (w.withFollow row true)))) :
    LeftO p q loose Xt Yf Ya N true :=
  byRow2 row (P := fun w => (openEnds treeTable p w N).map (fun s => (openSeen q loose (importedModules p.main.body) Xt true s, Yf s)) = some (openGood q loose, Ya w)) (fun w => left_one e hN f _ (hf w)) (fun w => left_one e hN f _ (ht w))
noncomputable def vw : Program := match Challenge.pw_pf0230_01.main.body with
  | [_, s1, s2, _, s4, s5, s6, s7, s8, s9, s10, s11, s12, s13, s14, s15, s16, s17, s18, _, s20, s21, s22, s23, s24, s25, s26, s27, s28, s29, s30, s31] => { Challenge.pw_pf0230_01 with main := { Challenge.pw_pf0230_01.main with body := [s1, s2, s4, s5, s6, s7, s8, s9, s10, s11, s12, s13, s14, s15, s16, s17, s18, s20, s21, s22, s23, s24, s25, s26, s27, s28, s29, s30, s31] } }
  | _ => Challenge.pw_pf0230_01
set_option maxRecDepth 100000 in
set_option maxHeartbeats 4000000 in
theorem said_law : Challenge.rw_pf0230_01.wellSaid = true := by
  unfold OpenLaw.wellSaid OpenRow.wellSaid OpenRow.partSaid looksOpen
  with_reducible repeat' (refine look_both ?_ ?_)
  all_goals decide +kernel
section
set_option hygiene false in
local macro_rules | `(tactic| o_head $H) => `(tactic| exact h)
set_option maxRecDepth 100000 in
theorem k0 : Challenge.rw_pf0230_01.row.Holds → Challenge.rw_pf0230_01.row.Holds := by
  intro h
  k_head
end
def asL : List Addr := [2, 3, 15, 22, 24, 25, 27, 28, 29, 30, 31, 32, 35, 42, 43, 44, 47, 55, 57, 58, 60, 61, 62, 63, 64, 65, 66, 69, 71, 72, 74, 75, 76, 78, 79, 81, 82, 83, 85, 86, 88, 89, 90, 92, 93, 95, 96, 97, 99, 100, 102, 103, 104, 106, 107, 109, 110, 111, 113, 114, 116, 117, 118, 120, 121, 123, 124, 125, 127, 128, 130, 131, 132, 134, 135, 137, 138, 139, 142, 143, 144, 147, 148, 149, 151, 152, 154, 155, 156, 158, 159, 161, 162, 163, 165, 166, 168, 169, 170, 173, 174, 175, 177, 178, 180, 181, 182, 184, 185, 187, 188, 189, 191, 192, 194, 195, 196, 198, 199, 201, 202]
theorem as_ok (P : Params) : asL = (k0.heap_1 P).map (·.1) := by kernel_rfl
theorem half_f : Aux (∀ (w : World) os, (PySem.W.Fast.tw10110043849684766642 PySem.W.Fast.tw14364793385576792824 Challenge.rw_pf0230_01.row.prog (w.withFollow "special-get-raises" false) 11 (some (.ref 6)) 0 2000 (bootS (w.withFollow "special-get-raises" false).params os) (topStub Challenge.rw_pf0230_01.row.prog)).map (fun r => lookF Challenge.rw_pf0230_01.row.prog vw ["CODES"] (fun s => xlAt vw [] s && recOk (RowW.records (OpenRow.toRowW Challenge.rw_pf0230_01.row)) s) (Hook.obs (kmHook k0.heap_1 asL as_ok [190, 183, 176])) (boot_heap (w.withFollow "special-get-raises" false).params) r.2.1.abs) = some (true, openGood vw ["CODES"], Hook.val (kmHook k0.heap_1 asL as_ok [190, 183, 176]) (w.withFollow "special-get-raises" false))) := aux_mk fun w os => by kernel_rfl
theorem half_t : Aux (∀ (w : World) os, (PySem.W.Fast.tw10110043849684766642 PySem.W.Fast.tw14364793385576792824 Challenge.rw_pf0230_01.row.prog (w.withFollow "special-get-raises" true) 11 (some (.ref 6)) 0 2000 (bootS (w.withFollow "special-get-raises" true).params os) (topStub Challenge.rw_pf0230_01.row.prog)).map (fun r => lookF Challenge.rw_pf0230_01.row.prog vw ["CODES"] (fun s => xlAt vw [] s && recOk (RowW.records (OpenRow.toRowW Challenge.rw_pf0230_01.row)) s) (Hook.obs (kmHook k0.heap_1 asL as_ok [190, 183, 176])) (boot_heap (w.withFollow "special-get-raises" true).params) r.2.1.abs) = some (true, openGood vw ["CODES"], Hook.val (kmHook k0.heap_1 asL as_ok [190, 183, 176]) (w.withFollow "special-get-raises" true))) := aux_mk fun w os => by kernel_rfl
theorem the_left : LeftO Challenge.rw_pf0230_01.row.prog vw ["CODES"] (fun s => xlAt vw [] s && recOk (RowW.records (OpenRow.toRowW Challenge.rw_pf0230_01.row)) s) (Hook.obs (kmHook k0.heap_1 asL as_ok [190, 183, 176])) (Hook.val (kmHook k0.heap_1 asL as_ok [190, 183, 176])) 2000 true :=
  left_two "special-get-raises" (by kernel_rfl) (by decide) (fun s => by kernel_rfl) half_f half_t
theorem chains_ok : (chainsOk vw && opensWell Challenge.rw_pf0230_01.row.prog && (frees (OpenRow.toRowW Challenge.rw_pf0230_01.row) && Challenge.rw_pf0230_01.row.within.isEmpty)) = true := by decide +kernel
theorem wit_ok : (OpenRow.toRowW Challenge.rw_pf0230_01.row).promised := by w_witness2
theorem hd_of {d : DefRec} {kwd : List (Str × Expr)} (hdef : defOf vw Challenge.rw_pf0230_01.row.name = some (d, kwd)) (hp : Challenge.rw_pf0230_01.row.prog.theDef Challenge.rw_pf0230_01.row.name = some (d.params, d.body, d.scope))
    (hk : kwWritten? d.params.kwonlyargs d.params.kw_defaults = some kwd) (walk : WalkO vw ["CODES"] (XL vw []) (Hook.says (kmHook k0.heap_1 asL as_ok [190, 183, 176])) (OpenRow.toRowW Challenge.rw_pf0230_01.row) d kwd fun f vs => PySem.call f vs) : Challenge.rw_pf0230_01.Holds :=
  holds_law said_law fun _ => holds_open (Xt := fun s => xlAt vw [] s && recOk (RowW.records (OpenRow.toRowW Challenge.rw_pf0230_01.row)) s) (N := 2000) the_left (Hook.of (kmHook k0.heap_1 asL as_ok [190, 183, 176])) (Hook.keeps (kmHook k0.heap_1 asL as_ok [190, 183, 176])) (fun s e => xl_of s (Bool.and_eq_true_iff.mp e).1) XL.keeps hdef hp hk (fun s e => recFacts_of (Bool.and_eq_true_iff.mp e).2) (by rfl) (row_said said_law) chains_ok ⟨rfl, rfl, rfl, rfl, rfl, by decide +kernel⟩ wit_ok walk
theorem top_off : True := by
  w_top off
  trivial
end Mine
namespace Mine
open PySem PySem.W PyProof.Rows PySem.Calls
set_option maxRecDepth 100000
set_option maxHeartbeats 8000000

abbrev sBm : List Value := [.ref 31, .type "Exception", .type "BaseException", .type "object"]
abbrev sNew : String := "Exception.__new__"

section
variable {M : Model} {A : Around} {E : Value → Shared → Prop} {h : Heap} {g : Array GenState} {d : Drawn} {t : Nat} {os : OsState}
variable {nm q : Str} {C N : Addr} {bs : List Value} {hdct : Bool} {sn : List Str} {sub : List Value} {ab : Bool} {col : Option Bool} {dd : Option Addr} {k0 k1 k2 k3 k5 : Option Value}

theorem seg_check_new {rest : List Value} {Q : Unit → Shared → Prop} (hC : h.get? C = some (excClassObj nm q C N bs sBm hdct sn sub ab col dd k0 k1 k2 k3 k5 sNew))
    (hq : Q () ⟨h, g, d, t, os⟩) : wpAny M A (checkBuiltinCall sNew ⟨.ref C :: rest, []⟩) Q E ⟨h, g, d, t, os⟩ := by
  have F := PySem.F.excBase_Exception
  have hcont : (Value.ref C :: sBm).contains (.type "Exception") = true := by simp [sBm]
  have hstar := F.noStar
  simp only [checkBuiltinCall, F.newKind, F.newSplit, F.newRow]
  repeat (first | refine wpAny_loadPart_at hC ?_ | (refine wpAny_isSubtype_exc hC ?_; rw [hcont]) | refine wpAny_staticBase_exc hC ?_ | refine wpAny_madeBy_exc hC ?_ | simp only [bne_self_eq_false, Bool.false_eq_true, if_false] | wp_step)
  exact hq
end

section
variable {prog : Program} {w : World} {A : Around} {R : Result → Shared → Prop} {h : Heap} {g : Array GenState} {d : Drawn} {t : Nat} {os : OsState}
variable {nm q : Str} {C N : Addr} {bs : List Value} {hdct : Bool} {sn : List Str} {sub : List Value} {ab : Bool} {col : Option Bool} {dd : Option Addr} {k0 k1 k2 k3 k5 : Option Value}
theorem seg_exc_new {rest : List Value} (hC : h.get? C = some (excClassObj nm q C N bs sBm hdct sn sub ab col dd k0 k1 k2 k3 k5 sNew))
    (hq : R (.ok (.ret (.ref (h.objs.size + 1)))) ⟨(h.push { cls := .type "tuple", data := .seq rest.toArray }).push
      { cls := .ref C, data := .fields #[.ref h.objs.size, .none, .none, .none, .bool false, .none] }, g, d, t, os⟩) (hrest : rest.length ≤ sizeLine := by size_fits) :
    codeAny (model prog w) A (.builtin sNew ⟨.ref C :: rest, []⟩) R ⟨h, g, d, t, os⟩ := by
  have F := PySem.F.excBase_Exception
  have hends := F.ends
  have hcB : (Value.ref C :: sBm).contains (.type "Exception") = true := by simp [sBm]
  have hcA : (Value.ref C :: sBm).contains (.type "AttributeError") = false := by simp [sBm]
  have hcN : (Value.ref C :: sBm).contains (.type "NameError") = false := by simp [sBm]
  refine codeAny_builtinAt F.entry ?_
  unfold Builtin.«BaseException.__new__»
  refine PySem.wpAt_bind ?_
  show PySem.wpAt _ _ _ (stack >>= _) _ _ _
  refine PySem.wpAt_bind (PySem.wpAt_stack fun p below => PySem.wpAt_of_wpAny ?_)
  wp_walk
  refine PySem.wpAt_of_wpAny ?_
  rw [F.owner]
  repeat (first | with_reducible refine wpAny_madeHere_exc F.canon hC ?_ | with_reducible refine wpAny_loadPart_at hC ?_ | (with_reducible refine wpAny_isSubtype_exc hC ?_; first | rw [hcB] | rw [hcA] | rw [hcN]) | wp_step)
  show R _ _
  rw [Heap.size_push]
  exact hq

theorem seg_core {rest : List Value} {fI : Addr} (hC : h.get? C = some (excClassObj nm q C N bs sBm hdct sn sub ab col dd k0 k1 k2 k3 k5 sNew))
    (hi : Looks (model prog w) h (typeLookup (.ref C) "__init__") (some (.ref fI))) (hb : ∀ self, Looks (model prog w) h (bindSpecial (.ref fI) self) (.ref fI, [self]))
    (hq : codeAny (model prog w) (A.under (.builtin "type.__call__" ⟨.ref C :: rest, []⟩)) (.call (.ref fI) ⟨.ref (h.objs.size + 1) :: rest, []⟩) (InitBack (h.objs.size + 1) R) ⟨(h.push { cls := .type "tuple", data := .seq rest.toArray }).push
      { cls := .ref C, data := .fields #[.ref h.objs.size, .none, .none, .none, .bool false, .none] }, g, d, t, os⟩)
    (hrest : rest.length ≤ sizeLine := by size_fits) :
    codeAny (model prog w) A (.call (.ref C) ⟨rest, []⟩) R ⟨h, g, d, t, os⟩ := by
  have F := PySem.F.excBase_Exception
  have f1 := tc_lookup
  have f2 := tc_bind (.ref C)
  have hT : (⟨h, g, d, t, os⟩ : Shared).TypeIs (.ref C) "type" := ⟨_, hC, rfl⟩
  refine codeAny_of_tree ?_
  show wpAny _ _ (callAny (.ref C) _) _ _ _
  repeat (any_goals (first | assumption | with_reducible refine wpAny_loadPart_at hC ?_ | wp_step))
  refine ⟨rfl, ?_⟩
  refine codeAny_call_builtin_at (Code.quiet_builtin _ (by decide +kernel)) entry_typeCall (wpAny_check_type_call_sub hC ?_)
  repeat (first | with_reducible refine wpAny_loadPart_at hC ?_ | with_reducible refine wpAny_madeBy_exc hC ?_ | wp_step)
  refine codeAny_call_builtin_code (Code.quiet_builtin _ F.quiet) (seg_check_new hC ?_)
  refine seg_exc_new hC ?_ hrest
  show wpAny _ _ _ _ _ _
  have k : ∀ b o, h.get? b = some o → ((h.push { cls := .type "tuple", data := .seq rest.toArray }).push { cls := .ref C, data := .fields #[.ref h.objs.size, .none, .none, .none, .bool false, .none] }).get? b = some o := fun b o e => Heap.get?_push_of_some _ (Heap.get?_push_of_some _ e)
  have hC₁ := k _ _ hC
  have hget : ((h.push { cls := .type "tuple", data := .seq rest.toArray }).push
      { cls := .ref C, data := .fields #[.ref h.objs.size, .none, .none, .none, .bool false, .none] }).get? (h.objs.size + 1) = some
      { cls := .ref C, data := .fields #[.ref h.objs.size, .none, .none, .none, .bool false, .none] } := by heap_get
  have hcC : (Value.ref C :: sBm).contains (.ref C) = true := by simp
  have i1 := hi.keeps k
  have b1 := (hb (.ref (h.objs.size + 1))).keeps k
  have t1 : Looks (model prog w) ((h.push { cls := .type "tuple", data := .seq rest.toArray }).push { cls := .ref C, data := .fields #[.ref h.objs.size, .none, .none, .none, .bool false, .none] }) (typeOf (.ref (h.objs.size + 1))) (.ref C) := (Looks.ld hget).andThen .now
  have s1 : Looks (model prog w) ((h.push { cls := .type "tuple", data := .seq rest.toArray }).push { cls := .ref C, data := .fields #[.ref h.objs.size, .none, .none, .none, .bool false, .none] }) (isSubtype (.ref C) (.ref C)) true := by
    intro A Q E s k q
    obtain ⟨hh, g, d, t, os⟩ := s
    refine wpAny_isSubtype_exc (k _ _ hC₁) ?_
    rw [hcC]; exact q
  unfold isInstance callSpecial? specialOf
  show wpAny _ _ _ _ _ (Shared.mk ((h.push { cls := .type "tuple", data := .seq rest.toArray }).push { cls := .ref C, data := .fields #[.ref h.objs.size, .none, .none, .none, .bool false, .none] }) _ _ _ _)
  repeat (first | with_reducible refine wpAny_call ?_ | lk)
  refine codeAny_mono hq fun r s' z => ?_
  rcases r with e | (v | _ | _ | _) <;> first | exact z | exact z.elim | skip
  obtain ⟨rfl, z⟩ := z
  exact wpAny_pure (wpAny_pure z)

theorem seg_check_init {M : Model} {E : Value → Shared → Prop} {e : Addr} {oe : Obj} {rest : List Value} {Q : Unit → Shared → Prop}
    (hC : h.get? C = some (excClassObj nm q C N bs sBm hdct sn sub ab col dd k0 k1 k2 k3 k5 sNew)) (he : h.get? e = some oe) (hcls : oe.cls = .ref C) (hq : Q () ⟨h, g, d, t, os⟩) :
    wpAny M A (checkBuiltinCall "Exception.__init__" ⟨.ref e :: rest, []⟩) Q E ⟨h, g, d, t, os⟩ := by
  have F := PySem.F.excBase_Exception
  have hcB : (Value.ref C :: sBm).contains (.type "Exception") = true := by simp [sBm]
  have hshort := F.noStar
  simp only [checkBuiltinCall, F.initKind, F.initSplit, F.initRow]
  repeat (first | (with_reducible refine wpAny_loadPart_at he ?_; rw [hcls]) | with_reducible refine wpAny_loadPart_at hC ?_ | (with_reducible refine wpAny_isSubtype_exc hC ?_; rw [hcB]) | wp_step)
  refine wpAny_onRaise ?_
  rw [show ∀ (a b : String) (n : Nat), Bind.check ⟨.positional, "*", "Exception", .self, [⟨"args", .varPos, false⟩]⟩ a b n (List.map (fun x => x.fst) ({ pos := Value.ref e :: rest } : Args).kw) = pure () from
    fun a b n => check_star_args _ _ _ _ _ _]
  exact wpAny_pure hq

theorem seg_init {E : Value → Shared → Prop} {e t0 : Addr} {rest : List Value} {Q : Value → Shared → Prop}
    (hC : h.get? C = some (excClassObj nm q C N bs sBm hdct sn sub ab col dd k0 k1 k2 k3 k5 sNew)) (he : h.get? e = some ({ cls := .ref C, data := .fields #[.ref t0, .none, .none, .none, .bool false, .none] } : Obj))
    (hq : Q .none ⟨(h.push { cls := .type "tuple", data := .seq rest.toArray }).update e (Obj.mapFields (·.setIfInBounds 0 (.ref h.objs.size))), g, d, t, os⟩) (hrest : rest.length ≤ sizeLine := by size_fits) :
    wpAny (model prog w) A (call (.builtin "Exception.__init__") (.ref e :: rest)) Q E ⟨h, g, d, t, os⟩ := by
  have F := PySem.F.excBase_Exception
  refine wpAny_call (codeAny_call_builtin F.init.plain F.initEntry (seg_check_init hC he rfl ?_))
  have hget := Heap.get?_push_of_some ({ cls := .type "tuple", data := .seq rest.toArray } : Obj) he
  unfold Builtin.«BaseException.__init__»
  wp_walk
  exact hq
end
end Mine
namespace Mine
open PySem PySem.W PyProof.Rows PySem.Calls PySem.Builtin PySem.Builtin.ObjectAttr
set_option maxRecDepth 100000
set_option maxHeartbeats 8000000
section
variable {prog : Program} {w : World} {A : Around} {E : Value → Shared → Prop} {h : Heap} {g : Array GenState} {d : Drawn} {t : Nat} {os : OsState} {K : Frag} {x C : Addr} {o : Obj} {vs : Array Value} {cd : ClassData} {name : Str} {v : Value} {Q : Unit → Shared → Prop}
theorem seg_pass (self : Value) : refuseLoop self "__setattr__" [.type "Exception", .type "BaseException", .type "object"] = pure () := PySem.F.store_Exception.passes self

theorem seg_set (X : K.In h) (hx : h.get? x = some o) (hc : o.cls = .ref C) (hdn : o.dict = none) (hdd : o.data = .fields vs)
    (hcd : clsIn K C = some cd) (hmro : cd.mro = [.ref C, .ref 31, .type "Exception", .type "BaseException", .type "object"]) (hhd : cd.hasDict = true)
    (hs : findIn K (.ref C) "__setattr__" = some (some (.builtin "object.__setattr__"))) (ha : findIn K (.ref C) name = some none)
    (hq : ∀ d' h' tk, (∀ b ob, b ≠ x → h.get? b = some ob → h'.get? b = some ob) → h'.get? x = some { o with dict := some d' } → Q () ⟨h', g, d, tk, os⟩) :
    wpAny (model prog w) A (setAttr (.ref x) name v) Q E ⟨h, g, d, t, os⟩ := by
  have SF := PySem.F.store_object
  have T1 : Looks (model prog w) h (typeOf (.ref x)) (.ref C) := hc ▸ (Looks.ld hx).andThen .now
  have hm : Looks (model prog w) h (mroOf (.ref C)) cd.mro := (looks_clsIn X hcd).andThen .now
  have sub : Looks (model prog w) h (isInstance (.ref x) (.type "object")) true := T1.andThen (looks_mroIn X (by unfold mroIn; rw [hcd, Option.bind_some, hmro]; rfl))
  refine wpAny_bind (wpAny_mkText (wpAny_bind (wpAny_bind (wpAny_bind (T1 _ _ _ _ (fun _ _ e => e) (looks_findIn X hs _ _ _ _ (fun _ _ e => e) (wpAny_holding ?_)))))))
  rw [SF.slot.bind]
  refine wpAny_bind (wpAny_pure (wpAny_bind (wpAny_call ?_)))
  refine codeAny_call_builtin SF.slot.plain SF.entry (@check_slot (model prog w) _ _ _ "object.__setattr__" "object" "__setattr__" (.ref x) [.str name _, v] [] _ SF.kind SF.split sub (SF.args (.ref x) (.str name _) v) ?_)
  show wpAny _ _ (Builtin.«object.__setattr__» ⟨[.ref x, .str name t, v], []⟩) _ _ _
  rw [osa_eq, refuse_eq]
  refine wpAny_bind (wpAny_bind (T1 _ _ _ _ (fun _ _ e => e) (wpAny_bind (hm _ _ _ _ (fun _ _ e => e) ?_))))
  rw [hmro, refuseLoop_ref, refuseLoop_ref, seg_pass]
  refine wpAny_pure (wpAny_bind (T1 _ _ _ _ (fun _ _ e => e) (wpAny_bind (looks_findIn X ha _ _ _ _ (fun _ _ e => e) (wpAny_bind (wpAny_pure ?_))))))
  -- storeInOwnDict
  refine wpAny_bind (wpAny_pure (wpAny_bind (wpAny_bind (wpAny_loadPart hx ?_))))
  obtain ⟨oc, od, odt, osl⟩ := o
  dsimp only at hc hdn hdd
  subst hc hdn hdd
  dsimp only
  refine wpAny_bind (looks_clsIn X hcd _ _ _ _ (fun _ _ e => e) ?_)
  rw [hhd]
  have hx₁ : (h.push { cls := .type "dict", data := .dict #[] }).get? x = some ⟨.ref C, none, .fields vs, osl⟩ := Heap.get?_push_of_some _ hx
  have hxs : x ≠ h.objs.size := Nat.ne_of_lt (Heap.lt_size hx)
  refine wpAny_bind (wpAny_alloc ?_)
  refine wpAny_bind (wpAny_update hx₁ ?_)
  refine wpAny_pure (a := some h.objs.size) ?_
  have hgd : ((h.push { cls := .type "dict", data := .dict #[] }).update x fun o => { cls := o.cls, dict := some h.objs.size, data := o.data, slots := o.slots }).get? h.objs.size
      = some { cls := .type "dict", data := .dict #[] } :=
    (Heap.get?_update_ne _ _ _ _ hxs.symm).trans (Heap.get?_push_at rfl rfl)
  have hnd : ((h.push { cls := .type "dict", data := .dict #[] }).update x fun o => { cls := o.cls, dict := some h.objs.size, data := o.data, slots := o.slots }).Ns h.objs.size (fun _ => none) :=
    ⟨_, #[], _, hgd, rfl, fun e he => absurd he (by simp), fun _ => rfl⟩
  show wpAny _ _ (storeInDict h.objs.size (.str name t) name v) _ _ _
  unfold storeInDict newKeyGuard
  refine wpAny_bind (wpAny_pure (wpAny_bind (wpAny_nsSet1 (Heap.Ns1.of_empty hnd) fun h' hn' hs => ?_)))
  obtain ⟨oD, esD, epD, hoD, hdD, hcD⟩ := hn'.count (Within.cons name v Within.nil)
  refine wpAny_bind (wpAny_lookBehind hoD (by rw [hdD]; exact pastItsLine_dict (Nat.le_trans hcD (by rw [List.length_cons, List.length_nil, sizeLine_eq]; omega))) ?_)
  refine wpAny_pure (wpAny_pure (wpAny_pure (hq h.objs.size h' _ (fun b ob hbx hb => ?_) ?_)))
  · exact (hs.2 b (Nat.ne_of_lt (Heap.lt_size hb))).trans ((Heap.get?_update_ne _ _ _ _ hbx).trans (Heap.get?_push_of_some _ hb))
  · refine (hs.2 x hxs).trans (Heap.get?_update_self _ hx₁ rfl)
end
theorem keepN {h₀ h h' : Heap} {L d : Addr} {m : Str → Option Value} {pre post : List (Addr × Obj)} {o o' : Obj} (F : Fr h₀ L h m) (N : News h₀ L h (pre ++ (d, o) :: post)) (a : ∀ p ∈ pre, p.1 ≠ d) (b : ∀ p ∈ post, p.1 ≠ d)
    (k : ∀ b ob, b ≠ d → h.get? b = some ob → h'.get? b = some ob) (hd : h'.get? d = some o') : Fr h₀ L h' m ∧ News h₀ L h' (pre ++ (d, o') :: post) := by
  have D := N (d, o) (by simp)
  obtain ⟨oL, es, ep, hL, r⟩ := F.ns
  refine ⟨⟨⟨oL, es, ep, k L oL (Ne.symm D.2.1) hL, r⟩, fun c x q => k c x (fun z => ?_) (F.keep c x q), F.above⟩, fun p hp => ?_⟩
  · have := D.2.2; rw [← z, q] at this; cases this
  · rcases List.mem_append.mp hp with q | q
    · have P := N p (List.mem_append_left _ q); exact ⟨k _ _ (a p q) P.1, P.2⟩
    · rcases List.mem_cons.mp q with rfl | q
      · exact ⟨hd, D.2⟩
      · have P := N p (List.mem_append_right _ (.tail _ q)); exact ⟨k _ _ (b p q) P.1, P.2⟩

abbrev excObj (C t : Addr) : Obj := { cls := .ref C, data := .fields #[.ref t, .none, .none, .none, .bool false, .none] }
abbrev excObjD (C t d : Addr) : Obj := { cls := .ref C, dict := some d, data := .fields #[.ref t, .none, .none, .none, .bool false, .none] }
abbrev tupObj (vs : List Value) : Obj := { cls := .type "tuple", data := .seq vs.toArray }

section
variable {prog : Program} {w : World} {A : Around} {K : Frag} {C fI Ns : Addr} {s : Shared} {h₀ : Heap} {L : Addr} {m : Str → Option Value} {news : List (Addr × Obj)} {rest : List Value} {E : Value → Shared → Prop}
   {nm q : Str} {bs : List Value} {hdct : Bool} {sn : List Str} {sub : List Value} {ab : Bool} {col : Option Bool} {dd : Option Addr} {k0 k1 k2 k3 k5 : Option Value}
theorem seg_make {Q : Value → Shared → Prop}
   (F : Fr h₀ L s.heap m) (N : News h₀ L s.heap news) (X₀ : K.In h₀) (hC : K.lookup C = some (excClassObj nm q C Ns bs sBm hdct sn sub ab col dd k0 k1 k2 k3 k5 sNew))
   (hi : findIn K (.ref C) "__init__" = some (some (.ref fI))) (hf : isFn K (.ref fI) = true)
   (hq : ∀ e t h', Fr h₀ L h' m → News h₀ L h' ((e, excObj C t) :: (t, tupObj rest) :: news) → (∀ p ∈ news, p.1 < t) → t < e → 
      codeAny (model prog w) (A.under (.builtin "type.__call__" ⟨.ref C :: rest, []⟩)) (.call (.ref fI) ⟨.ref e :: rest, []⟩) (InitBack e fun r s' => match r with | .ok (.ret v) => Q v s' | .ok _ => False | .error e => E e s') { s with heap := h' })
   (hrest : rest.length ≤ sizeLine := by size_fits) : 
   wpAny (model prog w) A (call (.ref C) rest) Q E s := by
  have X := X₀.keeps F.keep
  refine wpAny_call ?_
  obtain ⟨hh, g, d, t, os⟩ := s
  refine seg_core (X _ _ hC) (looks_findIn X hi) (fun self => bind_fn X self (beq_iff_eq.mp hf)) ?_ hrest
  have := (N.push F (tupObj rest)).push (F.push _) (excObj C hh.objs.size)
  rw [Heap.size_push] at this
  exact hq _ _ _ ((F.push _).push _) this (fun p hp => Heap.lt_size (N p hp).1) (Nat.lt_succ_self _)

theorem seg_initN {Q : Value → Shared → Prop} {e t0 : Addr} {G : Obj → List (Addr × Obj)}
   (F : Fr h₀ L s.heap m) (N : News h₀ L s.heap news) (X₀ : K.In h₀) (hC : K.lookup C = some (excClassObj nm q C Ns bs sBm hdct sn sub ab col dd k0 k1 k2 k3 k5 sNew))
   (U : UpdF e (excObj C t0) news G)
   (hq : ∀ t1 h', Fr h₀ L h' m → News h₀ L h' ((t1, tupObj rest) :: G (excObj C t1)) → (∀ p ∈ news, p.1 < t1) → Q .none { s with heap := h' })
   (hrest : rest.length ≤ sizeLine := by size_fits) : wpAny (model prog w) A (call (.builtin "Exception.__init__") (.ref e :: rest)) Q E s := by
  obtain ⟨pre, post, rfl, hG, a, b⟩ := U.split
  have X := X₀.keeps F.keep
  obtain ⟨hh, g, d, t, os⟩ := s
  dsimp only at N F
  have he := (N (e, excObj C t0) (by simp)).1
  refine seg_init (X _ _ hC) he ?_ hrest
  have hne : e ≠ hh.objs.size := Nat.ne_of_lt (Heap.lt_size he)
  obtain ⟨F', N'⟩ := keepN (o' := excObj C hh.objs.size) (h' := (hh.push (tupObj rest)).update e (Obj.mapFields (·.setIfInBounds 0 (.ref hh.objs.size)))) F N a b
    (fun c ob hc hb => (Heap.get?_update_ne _ _ _ _ hc).trans (Heap.get?_push_of_some _ hb))
    (Heap.get?_update_self _ (Heap.get?_push_of_some _ he) rfl)
  refine hq hh.objs.size _ F' (fun p hp => ?_) (fun p hp => Heap.lt_size (N p hp).1)
  rcases List.mem_cons.mp hp with rfl | hp
  · refine ⟨(Heap.get?_update_ne _ _ _ _ hne.symm).trans (Heap.get?_push_size _ rfl), Nat.ne_of_gt F.ns.lt, next_is_new F⟩
  · rw [hG] at hp; exact N' p hp

theorem seg_setN {Q : Unit → Shared → Prop} {e t0 : Addr} {G : Obj → List (Addr × Obj)} {cd : ClassData} {name : Str} {v : Value}
   (F : Fr h₀ L s.heap m) (N : News h₀ L s.heap news) (X₀ : K.In h₀) (U : UpdF e (excObj C t0) news G)
   (hcd : clsIn K C = some cd) (hmro : cd.mro = [.ref C, .ref 31, .type "Exception", .type "BaseException", .type "object"]) (hhd : cd.hasDict = true)
   (hs : findIn K (.ref C) "__setattr__" = some (some (.builtin "object.__setattr__"))) (ha : findIn K (.ref C) name = some none)
   (hq : ∀ d' h' tk, Fr h₀ L h' m → News h₀ L h' (G (excObjD C t0 d')) → Q () { s with heap := h', toks := tk }) : wpAny (model prog w) A (setAttr (.ref e) name v) Q E s := by
  obtain ⟨pre, post, rfl, hG, a, b⟩ := U.split
  have X := X₀.keeps F.keep
  obtain ⟨hh, g, d, t, os⟩ := s
  dsimp only at N F
  refine seg_set X (N (e, excObj C t0) (by simp)).1 rfl rfl rfl hcd hmro hhd hs ha fun d' h' tk k1 k2 => ?_
  obtain ⟨F', N'⟩ := keepN F N a b k1 k2
  exact hq d' h' tk F' (by rw [hG]; exact N')
end
end Mine
namespace Mine
open PySem PySem.W PyProof.Rows PySem.Calls
set_option maxRecDepth 100000
set_option maxHeartbeats 8000000
theorem ne_of_allLt {d : Addr} {l : List (Addr × Obj)} (h : ∀ p ∈ l, p.1 < d) : ∀ p ∈ l, p.1 ≠ d := fun p hp => Nat.ne_of_lt (h p hp)
theorem ne_of_allLt2 {d e : Addr} {l : List (Addr × Obj)} (h : ∀ p ∈ l, p.1 < d) (k : d < e) : ∀ p ∈ l, p.1 ≠ e := fun p hp => Nat.ne_of_lt (Nat.lt_trans (h p hp) k)
local macro_rules | `(tactic| walk_at $s:str) => `(tactic| k_extra $s)
local macro_rules | `(tactic| k_all) => `(tactic| k_extra "m_all")
theorem wordsA1 : True := by
  (k_with "m_all" => (first | (first | assumption | exact ne_of_allLt (by assumption) | exact ne_of_allLt2 (by assumption) (by assumption)) | fail "word"))
  trivial
theorem meta_exc : typeOf (.type "Exception") = pure (.type "type") := by first | rfl | kernel_rfl
theorem wordsA2 : True := by
  (k_with "getMethod type:Exception" => (first | ((k_here; refine' method_type (by k_asm) (by k_asm) (by exact meta_exc) (by decide +kernel) (by k_dflt k_is) (by k_handed) ?_)) | fail "word"))
  trivial
theorem wordsA3 : True := by
  (k_with "call ref" => (first | ((k_here; (with_reducible show wpAny _ _ (call (Value.ref 44) _) _ _ _); k_dflt (refine' seg_make (C := 44) (fI := 28) (by k_asm) (by k_asm) (by k_asm) (by k_is) (by k_is) (by k_is) ?_ (by size_fits); k_whole; intro zze' zzt' zzh' zzF' zzN' zzl1 zzl2; (try k_lt2 zzl2); cell_enter))) | fail "word"))
  trivial
theorem wordsA4 : True := by
  (k_with "call builtin:Exception.__init__" => (first | ((k_here; k_dflt (refine' seg_initN (C := 44) (by k_asm) (by k_asm) (by k_asm) (by k_is) (by k_updF) ?_ (by size_fits); k_whole; intro zzt' zzh' zzF' zzN' zzl1; (try k_lt zzl1); (try dsimp only at zzN')))) | fail "word"))
  trivial
theorem wordsA5 : True := by
  (k_with "setAttr ref" => (first | ((k_here; k_dflt (refine' seg_setN (C := 44) (by k_asm) (by k_asm) (by k_asm) (by k_updF) (by k_is) (by rfl) (by rfl) (by k_is) (by k_is) ?_; k_whole; intro zzd' zzh' zztk' zzF' zzN'; (try dsimp only at zzN')))) | fail "word"))
  trivial

theorem seg_fin {h₀ h : Heap} {L e t1 t0 d : Addr} {news : List (Addr × Obj)} {vs : List Value} (N : News h₀ L h ((t1, tupObj vs) :: (e, excObjD 44 t1 d) :: (t0, tupObj vs) :: news)) : News h₀ L h ((e, excObjD 44 t1 d) :: (t1, tupObj vs) :: news) := by
  intro p hp
  refine N p ?_
  rcases List.mem_cons.mp hp with rfl | hp
  · exact .tail _ (.head _)
  rcases List.mem_cons.mp hp with rfl | hp
  · exact .head _
  · exact .tail _ (.tail _ (.tail _ hp))
theorem seg_new {w : World} {p : Program} {loose : List Str} {mean : ExcName → Option Value} {mg mb : Str → Option Value} {dp un : Nat} {gd : Option (List Code)} {cn : Str} {cs : Scope} {a : Addr} {ccd : Value} {cl : List (Str × Addr)} {outer : List Env} {A₀ : Around} {base h₀ : Heap} {L : Addr} {m : Str → Option Value} {s : Shared} {Q E : Value → Shared → Prop}
    {news : List (Addr × Obj)} {msg : Str} {t : Tok}
    (B : Below A₀ base outer h₀) (F : Fr h₀ L s.heap m) (X : (k0.heap_1 w.params).In h₀) (N : News h₀ L s.heap news) (T : Top p loose mean mg mb h₀) (hk : cs.kind = .function) (hdp : dp + 3 < recursionLimit) (hu : un + 24 < cLine) 
    (ret : ∀ e t1 d h' tk', Fr h₀ L h' m → News h₀ L h' ((e, excObjD 44 t1 d) :: (t1, tupObj [.str msg t]) :: news) → (∀ p ∈ news, p.1 < e) → (∀ p ∈ news, p.1 < t1) → Q (.ref e) { s with heap := h', toks := tk' }) :
    wpAny (model Challenge.rw_pf0230_01.row.prog w) (ktrTop dp un gd cn cs L a ccd cl outer) (call (.ref 44) [.str msg t]) Q E s := by
  k_steps
  rename News _ _ _ _ => kN9
  rename (∀ p ∈ news, p.1 < _) => l9
  rename (_ ∧ _ ∧ AllLt _ _) => q9
  rename (@LT.lt Nat _ _ _) => l8
  refine ret _ _ _ _ _ (by k_asm) (seg_fin kN9) ?_ ?_
  · intro p hp; exact Nat.lt_trans (l9 p hp) l8
  · intro p hp; exact Nat.lt_trans (l9 p hp) (Nat.lt_trans l8 q9.1)
theorem words_none : True := by
  k_with_none
  trivial
end Mine
namespace Mine
open PySem PySem.W PyProof.Rows PySem.Calls PySem.Spec
set_option maxRecDepth 100000
set_option maxHeartbeats 8000000
local macro_rules | `(tactic| walk_at $s:str) => `(tactic| k_extra $s)
local macro_rules | `(tactic| k_all) => `(tactic| k_extra "m_all")
theorem room1 {n a c R : Nat} (h : n + c < R) (k : a ≤ c) : n + a < R := by omega
theorem room2 {n a b c R : Nat} (h : n + c < R) (k : a + b ≤ c) : n + a + b < R := by omega
theorem room3 {n a b d c R : Nat} (h : n + c < R) (k : a + b + d ≤ c) : n + a + b + d < R := by omega
theorem consLen {α : Type} {a : α} {l : List α} {n m : Nat} (h : l.length ≤ n) (e : n + 1 ≤ m) : (a :: l).length ≤ m := by simp only [List.length_cons]; omega
theorem words_small : True := by
  (k_with "m_room" => (first | (first | exact room2 (by assumption) (by decide) | exact room1 (by assumption) (by decide) | exact room3 (by assumption) (by decide) | assumption | ktr_room | ktr_units) | fail "word"))
  trivial
theorem hideAll_ne {h : Heap} {b : Addr} {o : Obj} {l : List Addr} (e : h.get? b = some o) (n : b ∉ l) : (hideAll h l).get? b = some o := hideAll_get _ e n

section
variable {M : Model} {A : Around} {E : Value → Shared → Prop} {s' : Shared} {base g g₂ h : Heap} {outer : List Env} {L a e t d C : Addr} {m : Str → Option Value} {name : Str} {scope : Scope} {cd : Value} {Q : Unit → Shared → Prop} {news : List (Addr × Obj)}
theorem leave_raiseX {vs : List Value} (K : Below A base outer g) (F : Fr g L s'.heap m) (N : News g L s'.heap ((e, excObjD C t d) :: (t, tupObj vs) :: news)) (n1 : ∀ p ∈ news, p.1 < e) (n2 : ∀ p ∈ news, p.1 < t)
    (hQ : ∀ h', RaisedS base g outer e (.ref C) t vs news h' → RaisedK base outer e (.ref C) t vs news h' → g.UpToSlots h' → Q () { s' with heap := h' }) (hk : scope.kind = .function := by rfl) :
    wpAny M (A.deeper (envOf name scope L a cd)) (leaving (envOf name scope L a cd) (.ref e)) Q E s' := by
  have K' := K.push (name := name) (a := a) (cd := cd) F hk
  have he := N (e, excObjD C t d) (.head _)
  have ht := N (t, tupObj vs) (.tail _ (.head _))
  have hbe : base.get? e = none := fresh_of_stays K.stays he.2.2
  have hbt : base.get? t = none := fresh_of_stays K.stays ht.2.2
  let fr := (envOf name scope L a cd :: outer).filterMap (·.frame) ++ [e, t]
  have hin : ∀ env ∈ (envOf name scope L a cd :: outer), ∀ b, env.frame = some b → b ∈ fr := fun env he b hb => List.mem_append_left _ (List.mem_filterMap.mpr ⟨env, he, hb⟩)
  have st : base.StaysIn (hideAll s'.heap fr) := fun b o q => hideAll_get _ (K'.stays b o q) fun hm => by
    rcases List.mem_append.mp hm with hm | hm
    · rw [(K'.frames.mem hm).1] at q; cases q
    · rcases List.mem_cons.mp hm with rfl | hm
      · rw [hbe] at q; cases q
      · rw [List.mem_singleton.mp hm, hbt] at q; cases q
  have sg : ∀ b o, g.get? b = some o → b ∉ outer.filterMap (·.frame) → (hideAll s'.heap fr).get? b = some o := fun b o q nm => hideAll_get _ (F.keep b o q) fun hm => by
    rcases List.mem_append.mp hm with hm | hm
    · rcases kts_mem hm with z | z
      · rw [z, kts_self F] at q
        cases q
      · exact nm z
    · rcases List.mem_cons.mp hm with rfl | hm
      · rw [he.2.2] at q; cases q
      · rw [List.mem_singleton.mp hm, ht.2.2] at q; cases q
  have hl : ∀ q ∈ news, (hideAll s'.heap fr).get? q.1 = some q.2 ∧ g.get? q.1 = none ∧ base.get? q.1 = none := fun q hq => by
    have hN := N q (.tail _ (.tail _ hq))
    refine ⟨hideAll_get _ hN.1 fun hm => ?_, hN.2.2, fresh_of_stays K.stays hN.2.2⟩
    rcases List.mem_append.mp hm with hm | hm
    · obtain ⟨env, he, hf⟩ := List.mem_filterMap.mp hm
      rcases List.mem_cons.mp he with rfl | he
      · exact hN.2.1 (Option.some.inj hf).symm
      · obtain ⟨o, ho, _⟩ := (K.frames.mem (List.mem_filterMap.mpr ⟨env, he, hf⟩)).2
        rw [hN.2.2] at ho; cases ho
    · rcases List.mem_cons.mp hm with z | hm
      · exact absurd z (Nat.ne_of_lt (n1 q hq))
      · exact absurd (List.mem_singleton.mp hm) (Nat.ne_of_lt (n2 q hq))
  have hBe : (hideAll s'.heap fr).get? e = none := hideAll_none _ (List.mem_append_right _ (.head _))
  have hBt : (hideAll s'.heap fr).get? t = none := hideAll_none _ (List.mem_append_right _ (.tail _ (.head _)))
  refine wpAny_leaving_firstW (a0 := .ref t) (base := hideAll s'.heap fr) (vs := #[.ref t, .none, .none, .none, .bool false, .none]) K'.stack ?_ rfl he.1 (fun b o q => of_hideAll _ q) hBe rfl rfl rfl fun h' hL => ?_
  · exact funFrames_hide K'.frames hin
  · obtain ⟨k1, ⟨_, _, k2⟩, k3, k4⟩ := hL
    have tup : h'.TupAt t vs := Heap.TupAt.of_slots ⟨_, _, ht.1, rfl, rfl⟩ k4
    have R : RaisedS base g outer e (.ref C) t vs news h' := ⟨⟨_, st, sg, hl, ⟨k1, hBe, k2, k3⟩, hBt⟩, tup⟩
    exact hQ h' R R.toK ((Heap.UpToSlots.of_keeps F.keep).trans k4)
end

section
variable {M : Model} {A : Around} {E : Value → Shared → Prop} {s' : Shared} {base g g₂ h : Heap} {outer : List Env} {L a e t : Addr} {m : Str → Option Value} {name : Str} {scope : Scope} {cd : Value} {cl : List (Str × Addr)} {Q : Unit → Shared → Prop} {news : List (Addr × Obj)}
theorem kts_memX {b : Addr} (hm : b ∈ (envX name scope L a cd cl :: outer).filterMap (·.frame)) : b = L ∨ b ∈ outer.filterMap (·.frame) := by
  obtain ⟨env, he, hf⟩ := List.mem_filterMap.mp hm
  rcases List.mem_cons.mp he with rfl | he
  · exact .inl (Option.some.inj hf).symm
  · exact .inr (List.mem_filterMap.mpr ⟨env, he, hf⟩)
theorem leave_onX {cls : Value} {vs : List Value} (K : Below A base outer g) (F : Fr g L g₂ m) (R : RaisedS base g₂ (envX name scope L a cd cl :: outer) e cls t vs news s'.heap) (hsm : g₂.UpToSlots s'.heap)
    (hQ : ∀ h', RaisedS base g outer e cls t vs news h' → RaisedK base outer e cls t vs news h' → g.UpToSlots h' → Q () { s' with heap := h' }) :
    wpAny M (A.deeper (envX name scope L a cd cl)) (leaving (envX name scope L a cd cl) (.ref e)) Q E s' := by
  obtain ⟨⟨B, hB, hBG, hl, hfl, hnew⟩, htup⟩ := R
  exact wpAny_leaves_onW (Around.frames_deeper K.stack) rfl hfl fun h' x1 x2 =>
    have R : RaisedS base g outer e cls t vs news h' := ⟨⟨B, hB, fun b o q nm => hBG b o (F.keep b o q) (fun hm => by
      rcases kts_memX hm with z | z
      · rw [z, kts_self F] at q
        cases q
      · exact nm z), fun q hq => ⟨(hl q hq).1, kts_none F.keep (hl q hq).2.1, (hl q hq).2.2⟩, x1, hnew⟩, htup.of_slots x2⟩
    hQ h' R R.toK ((Heap.UpToSlots.of_keeps F.keep).trans (hsm.trans x2))
end

section
variable {M : Model} {A : Around} {E : Value → Shared → Prop} {env : Env} {s : Shared} {K : Frag} {w : World} {prog : Program}
variable {nm q : Str} {C Ns : Addr} {bs : List Value} {hdct : Bool} {sn : List Str} {sub : List Value} {ab : Bool} {col : Option Bool} {dd : Option Addr} {k0 k1 k2 k3 k5 : Option Value} {newId : String}

def RaisableX (K : Frag) (E : Value → Shared → Prop) (v : Value) (s₁ : Shared) : Prop := ∃ e t d, v = .ref e ∧ K.In s₁.heap ∧ s₁.heap.get? e = some (excObjD 44 t d) ∧ E (.ref e) s₁
theorem RaisableX.intro {h₀ : Heap} {L : Addr} {m : Str → Option Value} {news : List (Addr × Obj)} {e t d : Addr} (F : Fr h₀ L s.heap m) (X : K.In h₀) (N : News h₀ L s.heap ((e, excObjD 44 t d) :: news)) (h : E (.ref e) s) : RaisableX K E (.ref e) s :=
  ⟨e, t, d, rfl, X.keeps F.keep, (N _ (.head _)).1, h⟩

theorem raise_madeX {x : Sem Value} {Q : Flow → Shared → Prop} (hC : K.lookup 44 = some (excClassObj nm q 44 Ns bs sBm hdct sn sub ab col dd k0 k1 k2 k3 k5 newId)) (hh : A.handled = none)
    (h : wpAny M A x (RaisableX K E) E s) : wpAny M A (raiseStmt env (some x) none) Q E s := by
  have hcB : (Value.ref 44 :: sBm).contains (.type "BaseException") = true := by simp [sBm]
  unfold raiseStmt
  refine wpAny_bind (wpAny_mono h (fun v s₁ h₁ => ?_) fun _ _ x => x)
  obtain ⟨e, t, d, rfl, X, he, hE⟩ := h₁
  have hC := X _ _ hC
  obtain ⟨hp, g, dr, tk, os⟩ := s₁
  repeat (first | with_reducible refine wpAny_loadPart_at he ?_ | with_reducible refine wpAny_loadPart_at hC ?_ | (with_reducible refine wpAny_isSubtype_exc hC ?_; rw [hcB]) | wp_step)
  exact wpAny_raiseNew_none hh hE

theorem Raise_X {ex : Expr} {pos : Pos} {Q : Flow → Shared → Prop} {h₀ : Heap} (_X : K.In h₀) (hC : K.lookup 44 = some (excClassObj nm q 44 Ns bs sBm hdct sn sub ab col dd k0 k1 k2 k3 k5 newId)) (hh : A.handled = none)
    (h : wpAny M A (eval ex env) (RaisableX K E) E s) : wpAny M A (exec (.Raise (some ex) none pos) env) Q E s := by
  show wpAny M A (do standAt pos; raiseStmt env (some (do let v ← eval ex env; standAt pos; pure v)) none) Q E s
  exact wpAny_bind (wpAny_standAt (raise_madeX hC hh (wpAny_bind (wpAny_mono h (fun v s₁ h₁ => wpAny_bind (wpAny_standAt (wpAny_pure h₁))) fun _ _ x => x))))
end
theorem clip_min (n : Nat) (k : Int) (h : 0 ≤ k) : clipAt n k = min k.toNat n := by
  have := clipAt_nat n k.toNat
  rwa [Int.toNat_of_nonneg h] at this
section
variable {prog : Program} {w : World} {A : Around} {E : Value → Shared → Prop} {s : Shared} {value slice : PySem.Expr} {x y : List UInt8} {t u : Tok} {h₀ : Heap} {L : Addr} {m : Str → Option Value} {news : List (Addr × Obj)} {Q : Value → Shared → Prop}
theorem b_len (hfit : x.length ≤ 1099511627776) (h : ∀ t' k, Q (.int x.length t') { s with toks := k }) : wpAny (model prog w) A (call (.builtin "len") [.bytes x.toArray t]) Q E s :=
  len_bytes (by rw [List.size_toArray]; exact hfit) (by rw [List.size_toArray]; exact h _ _)
theorem b_add (hsz : x.length + y.length ≤ 16777216) (h : ∀ t' k, Q (.bytes (x ++ y).toArray t') { s with toks := k }) : wpAny (model prog w) A (binaryOp .Add (.bytes x.toArray t) (.bytes y.toArray u)) Q E s :=
  bytes_add_K (by rw [List.size_toArray, List.size_toArray]; exact hsz) rfl h
theorem b_eq (h : Q (.bool (x == y)) s) : wpAny (model prog w) A (compareOp .Eq (.bytes x.toArray t) (.bytes y.toArray u)) Q E s := eq_bytes h
theorem b_ne (h : Q (.bool (x != y)) s) : wpAny (model prog w) A (compareOp .NotEq (.bytes x.toArray t) (.bytes y.toArray u)) Q E s := ne_bytes h
theorem b_item {i k : Int} {ui : Tok} (hfit : x.length ≤ 1099511627776) (h0 : 0 ≤ i) (h1 : i < (x.length : Int)) (h : ∀ t', Q (.int (x.getD i.toNat 0).toNat t') { s with toks := s.toks + 1 })
    (hs : subscripted slice false (.bytes x.toArray t) (.int i ui) = operate [.bytes x.toArray t, .int i ui] (getItem (.bytes x.toArray t) (.int i ui)) := by with_unfolding_all rfl)
    (ht : ∀ r, letTemporaryGo value (.bytes x.toArray t) r = pure () := by intro _; with_unfolding_all rfl) : wpAny (model prog w) A (subscriptTail value slice (.bytes x.toArray t) (.int i ui)) Q E s :=
  KBy.item_N hfit h0 h1 (h _) hs ht
variable {l₁ u₁ : Value} {lo hi : Option Int} {d : List UInt8}
theorem b_slice (hF : Fr h₀ L s.heap m) (hN : News h₀ L s.heap news) (hl : IsPart l₁ lo) (hu : IsPart u₁ hi) (hz : x.length ≤ 16777216)
    (e : (x.drop (lo.elim 0 (clipAt x.length))).take (hi.elim x.length (clipAt x.length) - lo.elim 0 (clipAt x.length)) = d)
    (h : ∀ h' t' k, Fr h₀ L h' m → News h₀ L h' news → Q (.bytes d.toArray t') { s with heap := h', toks := k })
    (hs : subscripted slice false (.bytes x.toArray t) (.ref s.heap.objs.size) = operate [.ref s.heap.objs.size, .bytes x.toArray t] (getItem (.bytes x.toArray t) (.ref s.heap.objs.size)) := by with_unfolding_all rfl)
    (ht : ∀ r, letTemporaryGo value (.bytes x.toArray t) r = pure () := by intro _; with_unfolding_all rfl) :
    wpAny (model prog w) A (subscriptTail value slice (.bytes x.toArray t) (.ref s.heap.objs.size)) Q E { s with heap := s.heap.push { cls := .type "slice", data := .fields #[l₁, u₁, .none] } } := by
  refine KBc.slice_K hF hN (ks := KBw.bInts x.toArray) rfl hl hu (by rw [KBw.ints_length, List.size_toArray]; exact hz) (fun h' t' k F' N' _ => ?_) hs ht
  have := KBc.picked_eq x.toArray lo hi
  rw [List.size_toArray] at this
  rw [this]
  rw [e]
  exact h h' t' k F' N'
theorem sl_to (n : Int) (h : 0 ≤ n) : (x.drop ((none : Option Int).elim 0 (clipAt x.length))).take ((some n).elim x.length (clipAt x.length) - (none : Option Int).elim 0 (clipAt x.length)) = x.take n.toNat := by
  simp only [Option.elim, clip_min _ _ h, List.drop_zero, Nat.sub_zero]
  rcases Nat.le_total n.toNat x.length with q | q
  · rw [Nat.min_eq_left q]
  · rw [Nat.min_eq_right q, List.take_of_length_le (Nat.le_refl _), List.take_of_length_le q]
theorem sl_from (n : Int) (h : 0 ≤ n) : (x.drop ((some n).elim 0 (clipAt x.length))).take ((none : Option Int).elim x.length (clipAt x.length) - (some n).elim 0 (clipAt x.length)) = x.drop n.toNat := by
  simp only [Option.elim, clip_min _ _ h]
  rw [List.take_of_length_le (by rw [List.length_drop]; omega)]
  rcases Nat.le_total n.toNat x.length with q | q
  · rw [Nat.min_eq_left q]
  · rw [Nat.min_eq_right q, List.drop_of_length_le (Nat.le_refl _), List.drop_of_length_le q]
theorem sl_mid (a b : Int) (h : 0 ≤ a) (k : 0 ≤ b) : (x.drop ((some a).elim 0 (clipAt x.length))).take ((some b).elim x.length (clipAt x.length) - (some a).elim 0 (clipAt x.length)) = (x.drop a.toNat).take (b.toNat - a.toNat) := by
  simp only [Option.elim, clip_min _ _ h, clip_min _ _ k]
  rcases Nat.le_total a.toNat x.length with q | q
  · rw [Nat.min_eq_left q]
    rcases Nat.le_total b.toNat x.length with r | r
    · rw [Nat.min_eq_left r]
    · rw [Nat.min_eq_right r, List.take_of_length_le (by rw [List.length_drop]; omega), List.take_of_length_le (by rw [List.length_drop]; omega)]
  · rw [Nat.min_eq_right q, List.drop_of_length_le (Nat.le_refl _), List.drop_of_length_le q, List.take_nil, List.take_nil]
end
theorem topNotIn {prog : Program} {w : World} {A : Around} {E : Value → Shared → Prop} {s : Shared} {h₀ : Heap} {L a : Addr} {m : Str → Option Value} {K : Frag} {es : Array DictEntry} {n : Nat} {x : Str} {t : Tok} {r : Option Value} {Q : Value → Shared → Prop} (F : Fr h₀ L s.heap m) (X₀ : K.In h₀) (hl : K.lookup a = some ⟨.type "dict", none, .dict es n, #[]⟩) (hk : KeysLit w.params es.toList) (e : nsIn K a x = some r) (lo : (a == sysModules) = false)
    (h : Q (.bool (!r.isSome)) { s with toks := s.toks + 1 }) : wpAny (model prog w) A (compareOp .NotIn (.str x t) (.ref a)) Q E s :=
  wpAny_notIn_of (strKind_is prog w x t) lo (mapOf_K (prog := prog) (X₀.keeps F.keep) hl hk) (by rw [find_K hl e]; exact h)
abbrev thD (P : Params) (k1 k2 k3 k4 k5 : Tok) (kind : Value) (wd ht pal oct : Value) : Obj := dictOf [⟨PyData.keyHash P "kind", .str "kind" k1, kind⟩, ⟨PyData.keyHash P "width", .str "width" k2, wd⟩, ⟨PyData.keyHash P "height", .str "height" k3, ht⟩, ⟨PyData.keyHash P "palette", .str "palette" k4, pal⟩, ⟨PyData.keyHash P "octets", .str "octets" k5, oct⟩] 5
theorem m_pos {c P R : Prop} [Decidable c] (h : c) (p : P) : if c then P else R := by rw [if_pos h]; exact p
theorem m_neg {c P R : Prop} [Decidable c] (h : ¬ c) (p : R) : if c then P else R := by rw [if_neg h]; exact p
theorem news_two {h₀ h : Heap} {L : Addr} {news : List (Addr × Obj)} {p q : Addr × Obj} (N : News h₀ L h news) (hp : p ∈ news) (hq : q ∈ news) : News h₀ L h (p :: q :: news) := fun r hr => by
  rcases List.mem_cons.mp hr with rfl | hr
  · exact N _ hp
  rcases List.mem_cons.mp hr with rfl | hr
  · exact N _ hq
  · exact N _ hr
theorem news_drop2 {h₀ h : Heap} {L : Addr} {news : List (Addr × Obj)} {p q : Addr × Obj} (N : News h₀ L h (p :: q :: news)) : News h₀ L h news := fun r hr => N r (.tail _ (.tail _ hr))
/-- a sound small picture -/
def Sound (kind : Str) (x y : Int) (pal oct : List UInt8) : Prop :=
  0 ≤ x ∧ x ≤ 255 ∧ 0 ≤ y ∧ y ≤ 255 ∧ oct.length ≤ 200000 ∧ ((kind = "jpeg" ∧ pal.length = 0) ∨ (kind = "palette" ∧ (oct.length : Int) = x * y ∧ pal.length = 768) ∨ (kind = "rgb" ∧ (oct.length : Int) = 3 * (x * y) ∧ pal.length = 0))
theorem wordsA6 : True := by
  (k_with "m_all" => (first | (first | assumption | exact ne_of_allLt (by assumption) | exact ne_of_allLt2 (by assumption) (by assumption)) | fail "word"))
  trivial
theorem words1 : True := by
  (k_with "callWith ref" => (first | ((k_here; (with_reducible show wpAny _ _ (callWith _ (Value.ref _) _ (backTo _ (starEach (_ :: _) _)) []) _ _ _); k_dflt (refine' callWith_K (by k_asm) (by k_is) ?_; k_whole))) | fail "word"))
  (k_with "compareOp NotIn str ref" => (first | ((k_here; k_dflt (refine' topNotIn (by k_asm) (by k_asm) (by k_is) (by k_keys) (by k_is) (by decide) ?_))) | fail "word"))
  (k_with "m_enter" => (first | ((refine' code_def (by k_asm) (by k_asm) (by k_asm) (by k_asm) (by k_asm) (by exact rfl) (by exact rfl) (by first | exact rfl | assumption) (by k_is) (by k_is) (by walk_at "m_room") (by exact BindsTo.of_eq rfl) (by exact locs rfl) ?_ (by exact rfl) (by exact rfl) (by exact rfl) (by decide); k_whole; intro zzg' zzL' zzh' zzFG' zzF' zzN' zzB' zzX' zzT'; (try dsimp only); (try k_lift zzB'); (try k_fold))) | fail "word"))
  (k_with "call ref" => (first | ((k_here; k_dflt (refine wpAny_call ?_; walk_at "m_enter"))) | fail "word"))
  (k_with "exec Raise some none" => (first | ((k_here; k_dflt (refine' Raise_X (by k_asm) (by k_is) (by exact rfl) ?_; k_whole))) | fail "word"))
  (k_with "call ref" => (first | ((k_here; (with_reducible show wpAny _ _ (call (Value.ref 44) _) _ _ _); k_dflt (refine' seg_new (by k_asm) (by k_asm) (by k_asm) (by k_asm) (by k_asm) (by first | exact rfl | assumption) (by walk_at "m_room") (by walk_at "m_room") ?_; k_whole; intro zze' zzt' zzd' zzh' zztk' zzF' zzN' zzl1 zzl2; refine' RaisableX.intro zzF' (by k_asm) zzN' ?_; k_whole))) | fail "word"))
  (k_with "leaving ref" => (first | ((k_here; (with_reducible rename News _ _ _ ((_, excObjD _ _ _) :: _) => zznX); (with_reducible rename Fr _ _ _ _ => zzfX); k_dflt (refine' leave_raiseX (by assumption) zzfX zznX (by assumption) (by assumption) ?_; k_whole); clear zznX; intro zzh' zzS' zzR' zzU'; (try dsimp only at zzS' zzR' zzU' ⊢))) | fail "word"))
  (k_with "m_size" => (first | (first | exact Nat.le_of_ble_eq_true rfl | ((repeat (with_reducible refine consLen (n := _) ?_ (Nat.le_refl _))); exact Nat.le_trans (by assumption) (by decide)) | ((try simp only [List.length_append, List.length_cons, List.length_nil, List.length_take, List.length_drop]); omega)) | fail "word"))
  (k_with "call builtin:len" => (first | ((k_here; (with_reducible show wpAny _ _ (call (Value.builtin "len") [Value.bytes (List.toArray _) _]) _ _ _); (refine b_len (by walk_at "m_size") ?_); intro _ _)) | fail "word"))
  (k_with "binaryOp Add bytes bytes" => (first | ((k_here; (with_reducible show wpAny _ _ (binaryOp Operator.Add (Value.bytes (List.toArray _) _) (Value.bytes (List.toArray _) _)) _ _ _); (refine b_add (by walk_at "m_size") ?_); intro _ _; (try simp only [List.cons_append, List.nil_append, List.append_assoc]))) | fail "word"))
  (k_with "compareOp Eq bytes bytes" => (first | ((k_here; (with_reducible show wpAny _ _ (compareOp CmpOp.Eq (Value.bytes (List.toArray _) _) (Value.bytes (List.toArray _) _)) _ _ _); refine b_eq ?_)) | fail "word"))
  (k_with "compareOp NotEq bytes bytes" => (first | ((k_here; (with_reducible show wpAny _ _ (compareOp CmpOp.NotEq (Value.bytes (List.toArray _) _) (Value.bytes (List.toArray _) _)) _ _ _); refine b_ne ?_)) | fail "word"))
  (k_with "subscriptTail" => (first | ((k_here; (with_reducible show wpAny _ _ (subscriptTail _ _ (Value.bytes (List.toArray _) _) (Value.int _ _)) _ _ _); (refine b_item (by walk_at "m_size") (by omega) (by walk_at "m_size") ?_); intro _; (try simp only [Int.toNat_ofNat, List.getD_cons_zero, List.getD_cons_succ]))) | fail "word"))
  (k_with "subscriptTail" => (first | ((k_here; (with_reducible show wpAny _ _ (subscriptTail _ (Expr.Slice _ _ none _) (Value.bytes (List.toArray _) _) (Value.ref _)) _ _ _); (with_reducible rename Fr _ _ _ _ => zzF'); (with_reducible rename News _ _ _ _ => zzN'); (first | refine b_slice (s := ⟨_, _, _, _, _⟩) zzF' zzN' (by constructor) (by constructor) (by walk_at "m_size") (sl_to _ (by decide)) ?_ | refine b_slice (s := ⟨_, _, _, _, _⟩) zzF' zzN' (by constructor) (by constructor) (by walk_at "m_size") (sl_from _ (by decide)) ?_ | refine b_slice (s := ⟨_, _, _, _, _⟩) zzF' zzN' (by constructor) (by constructor) (by walk_at "m_size") (sl_mid _ _ (by omega) (by omega)) ?_); intro _ _ _ zzF' zzN'; (try simp only [Int.toNat_ofNat, Int.reduceToNat, List.take_succ_cons, List.take_zero, List.drop_succ_cons, List.drop_zero]))) | fail "word"))
  (k_with "m_dec" => (first | (((try simp only [decide_eq_true_eq, decide_eq_false_iff_not, Bool.not_eq_true', ne_eq, Decidable.not_not, bne_iff_ne, beq_iff_eq]); omega)) | fail "word"))
  (k_with "ite" => (first | ((k_here; first | refine m_neg (by walk_at "m_dec") ?_ | refine m_pos (by walk_at "m_dec") ?_)) | fail "word"))
  trivial
theorem check_good {w : World} {p : Program} {loose : List Str} {mean : ExcName → Option Value} {mg mb : Str → Option Value} {dp un : Nat} {gd : Option (List Code)} {cn : Str} {cs : Scope} {a : Addr} {ccd : Value} {cl : List (Str × Addr)} {outer : List Env} {A₀ : Around} {base h₀ : Heap} {L : Addr} {m : Str → Option Value} {s : Shared} {Q E : Value → Shared → Prop}
    {l dx : Addr} {news : List (Addr × Obj)} {k1 k2 k3 k4 k5 t1 t2 t3 t4 t5 : Tok} {kind : Str} {x y : Int} {pal oct : List UInt8}
    (B : Below A₀ base outer h₀) (F : Fr h₀ L s.heap m) (X : (k0.heap_1 w.params).In h₀) (N : News h₀ L s.heap news) (T : Top p loose mean mg mb h₀) (hk : cs.kind = .function) (hdp : dp + 3 < recursionLimit) (hu : un + 24 < cLine)
    (mx : (l, instObj 64 dx) ∈ news) (md : (dx, thD w.params k1 k2 k3 k4 k5 (.str kind t1) (.int x t2) (.int y t3) (.bytes pal.toArray t4) (.bytes oct.toArray t5)) ∈ news) (hs : Sound kind x y pal oct)
    (ret : ∀ h' tk', Fr h₀ L h' m → News h₀ L h' news → Q .none { s with heap := h', toks := tk' }) :
    wpAny (model Challenge.rw_pf0230_01.row.prog w) (ktrTop dp un gd cn cs L a ccd cl outer) (call (.ref 82) [.ref l]) Q E s := by
  have N2 := news_two N mx md
  clear N
  obtain ⟨h1, h2, h3, h4, h0, ⟨rfl, h6⟩ | ⟨rfl, h5, h6⟩ | ⟨rfl, h5, h6⟩⟩ := hs
  all_goals
    refine wpAny_call ?_
    k_dflt (walk_at "m_enter")
    k_steps
  all_goals first | (exfalso; omega) | exact ret _ _ (by k_asm) (news_drop2 (by k_asm))
theorem raised_sub {base G : Heap} {l : List Env} {e t : Addr} {cls : Value} {vs : List Value} {news news' : List (Addr × Obj)} {h : Heap} (R : RaisedS base G l e cls t vs news h) (k : ∀ q ∈ news', q ∈ news) : RaisedS base G l e cls t vs news' h := by
  obtain ⟨⟨B, hB, hBG, hl, hfl, hnew⟩, htup⟩ := R
  exact ⟨⟨B, hB, hBG, fun q hq => hl q (k q hq), hfl, hnew⟩, htup⟩
theorem raised_drop2 {base G : Heap} {l : List Env} {e t : Addr} {cls : Value} {vs : List Value} {p q : Addr × Obj} {news : List (Addr × Obj)} {h : Heap} (R : RaisedS base G l e cls t vs (p :: q :: news) h) : RaisedS base G l e cls t vs news h := raised_sub R fun _ h => .tail _ (.tail _ h)
/-- a small picture that is refused -/
def Odd (kind : Str) (x y : Int) : Prop := ((kind = "jpeg" ∨ kind = "palette" ∨ kind = "rgb") ∧ (x < 0 ∨ 255 < x ∨ y < 0 ∨ 255 < y)) ∨ kind = "gif" ∨ kind = "" ∨ kind = "JPEG"
theorem check_bad {w : World} {p : Program} {loose : List Str} {mean : ExcName → Option Value} {mg mb : Str → Option Value} {dp un : Nat} {gd : Option (List Code)} {cn : Str} {cs : Scope} {a : Addr} {ccd : Value} {cl : List (Str × Addr)} {outer : List Env} {A₀ : Around} {base h₀ : Heap} {L : Addr} {m : Str → Option Value} {s : Shared} {Q E : Value → Shared → Prop}
    {l dx : Addr} {news : List (Addr × Obj)} {k1 k2 k3 k4 k5 t1 t2 t3 t4 t5 : Tok} {kind : Str} {x y : Int} {pal oct : List UInt8}
    (B : Below A₀ base outer h₀) (F : Fr h₀ L s.heap m) (X : (k0.heap_1 w.params).In h₀) (N : News h₀ L s.heap news) (T : Top p loose mean mg mb h₀) (hk : cs.kind = .function) (hdp : dp + 5 < recursionLimit) (hu : un + 40 < cLine)
    (mx : (l, instObj 64 dx) ∈ news) (md : (dx, thD w.params k1 k2 k3 k4 k5 (.str kind t1) (.int x t2) (.int y t3) (.bytes pal.toArray t4) (.bytes oct.toArray t5)) ∈ news) (hs : Odd kind x y)
    (raised : ∀ e t vs g h' tk', RaisedS base g (envX cn cs L a ccd cl :: outer) e (.ref 44) t vs news h' → Fr h₀ L g m → g.UpToSlots h' → E (.ref e) { s with heap := h', toks := tk' }) :
    wpAny (model Challenge.rw_pf0230_01.row.prog w) (ktrTop dp un gd cn cs L a ccd cl outer) (call (.ref 82) [.ref l]) Q E s := by
  have N2 := news_two N mx md
  clear N
  obtain ⟨rfl | rfl | rfl, hs⟩ | rfl | rfl | rfl := hs
  all_goals
    refine wpAny_call ?_
    k_dflt (walk_at "m_enter")
    k_steps
  all_goals first | (exfalso; omega) | exact raised _ _ _ _ _ _ (raised_drop2 (by assumption)) (by assumption) (by assumption)
theorem words2 : True := by
  (k_with "call ref" => (first | ((k_here; (with_reducible show wpAny _ _ (call (Value.ref 64) _) _ _ _); k_dflt (refine' call_cls (by k_asm) (by k_asm) (by k_asm) (by k_is) (by k_is) (by k_is) ?_; k_whole; intro zzx' zzd' zzh' zzF' zzN' zzl1 zzl2; (try k_lt2 zzl2); walk_at "m_enter"))) | fail "word"))
  trivial
theorem th_new {w : World} {p : Program} {loose : List Str} {mean : ExcName → Option Value} {mg mb : Str → Option Value} {dp un : Nat} {gd : Option (List Code)} {cn : Str} {cs : Scope} {a : Addr} {ccd : Value} {cl : List (Str × Addr)} {outer : List Env} {A₀ : Around} {base h₀ : Heap} {L : Addr} {m : Str → Option Value} {s : Shared} {Q E : Value → Shared → Prop}
    {v1 v2 v3 v4 v5 : Value} {news : List (Addr × Obj)}
    (B : Below A₀ base outer h₀) (F : Fr h₀ L s.heap m) (X : (k0.heap_1 w.params).In h₀) (N : News h₀ L s.heap news) (T : Top p loose mean mg mb h₀) (hk : cs.kind = .function) (hdp : dp + 3 < recursionLimit) (hu : un + 24 < cLine)
    (ret : ∀ x dx k1 k2 k3 k4 k5 h' tk', Fr h₀ L h' m → News h₀ L h' ((x, instObj 64 dx) :: (dx, thD w.params k1 k2 k3 k4 k5 v1 v2 v3 v4 v5) :: news) → (∀ p ∈ news, p.1 < dx) → dx < x → Q (.ref x) { s with heap := h', toks := tk' }) :
    wpAny (model Challenge.rw_pf0230_01.row.prog w) (ktrTop dp un gd cn cs L a ccd cl outer) (call (.ref 64) [v1, v2, v3, v4, v5]) Q E s := by
  k_steps
  exact ret _ _ _ _ _ _ _ _ _ (by k_asm) (by k_asm) (by assumption) (by assumption)
/-- what write_thumbnail writes -/
def wireOf (kind : Str) (x y : Int) (pal oct : List UInt8) : List UInt8 := 74 :: 70 :: 88 :: 88 :: 0 :: (if kind = "jpeg" then 16 :: (pal ++ oct) else if kind = "palette" then 17 :: x.toNat.toUInt8 :: y.toNat.toUInt8 :: (pal ++ oct) else 19 :: x.toNat.toUInt8 :: y.toNat.toUInt8 :: (pal ++ oct))
theorem words3 : True := by
  (k_with "call ref" => (first | ((k_here; (with_reducible show wpAny _ _ (call (Value.ref 64) _) _ _ _); k_dflt (refine' th_new (by k_asm) (by k_asm) (by k_asm) (by k_asm) (by k_asm) (by first | exact rfl | assumption) (by walk_at "m_room") (by walk_at "m_room") ?_; k_whole; intro zzx' zzd' zzq1 zzq2 zzq3 zzq4 zzq5 zzh' zztk' zzF' zzN' zzl1 zzl2; (try k_lt2 zzl2)))) | fail "word"))
  (k_with "m_sound" => (first | (first | assumption | (refine ⟨by omega, by omega, by omega, by omega, by walk_at "m_size", ?_⟩; first | exact Or.inl ⟨rfl, by walk_at "m_size"⟩ | exact Or.inr (Or.inl ⟨rfl, by walk_at "m_size", by walk_at "m_size"⟩) | exact Or.inr (Or.inr ⟨rfl, by walk_at "m_size", by walk_at "m_size"⟩))) | fail "word"))
  (k_with "call ref" => (first | ((k_here; (with_reducible show wpAny _ _ (call (Value.ref 82) _) _ _ _); k_dflt (refine' check_good (by k_asm) (by k_asm) (by k_asm) (by k_asm) (by k_asm) (by first | exact rfl | assumption) (by walk_at "m_room") (by walk_at "m_room") (by k_mem) (by k_mem) (by walk_at "m_sound") ?_; k_whole; intro zzh' zztk' zzF' zzN'))) | fail "word"))
  (k_with "m_news" => (first | ((intro zzrr zzhr; (with_reducible rename News _ _ _ _ => zznZ); exact zznZ zzrr (by repeat first | exact zzhr | apply List.Mem.tail))) | fail "word"))
  trivial
theorem write_good {w : World} {p : Program} {loose : List Str} {mean : ExcName → Option Value} {mg mb : Str → Option Value} {dp un : Nat} {gd : Option (List Code)} {cn : Str} {cs : Scope} {a : Addr} {ccd : Value} {cl : List (Str × Addr)} {outer : List Env} {A₀ : Around} {base h₀ : Heap} {L : Addr} {m : Str → Option Value} {s : Shared} {Q E : Value → Shared → Prop}
    {l dx : Addr} {news : List (Addr × Obj)} {k1 k2 k3 k4 k5 t1 t2 t3 t4 t5 : Tok} {kind : Str} {x y : Int} {pal oct : List UInt8}
    (B : Below A₀ base outer h₀) (F : Fr h₀ L s.heap m) (X : (k0.heap_1 w.params).In h₀) (N : News h₀ L s.heap news) (T : Top p loose mean mg mb h₀) (hk : cs.kind = .function) (hdp : dp + 4 < recursionLimit) (hu : un + 32 < cLine)
    (mx : (l, instObj 64 dx) ∈ news) (md : (dx, thD w.params k1 k2 k3 k4 k5 (.str kind t1) (.int x t2) (.int y t3) (.bytes pal.toArray t4) (.bytes oct.toArray t5)) ∈ news) (hs : Sound kind x y pal oct)
    (ret : ∀ bs t h' tk', bs = wireOf kind x y pal oct → Fr h₀ L h' m → News h₀ L h' news → Q (.bytes bs.toArray t) { s with heap := h', toks := tk' }) :
    wpAny (model Challenge.rw_pf0230_01.row.prog w) (ktrTop dp un gd cn cs L a ccd cl outer) (call (.ref 110) [.ref l]) Q E s := by
  have N2 := news_two N mx md
  clear N
  have hS := hs
  obtain ⟨h1, h2, h3, h4, h0, ⟨rfl, h6⟩ | ⟨rfl, h5, h6⟩ | ⟨rfl, h5, h6⟩⟩ := hs
  all_goals
    refine wpAny_call ?_
    k_dflt (walk_at "m_enter")
    k_steps
  all_goals exact ret _ _ _ _ (by rfl) (by k_asm) (by walk_at "m_news")
theorem news_in2 {h₀ h : Heap} {L : Addr} {big news : List (Addr × Obj)} {p q : Addr × Obj} (N : News h₀ L h big) (hp : p ∈ big) (hq : q ∈ big) (hs : ∀ r, r ∈ news → r ∈ big) : News h₀ L h (p :: q :: news) := fun r hr => by
  rcases List.mem_cons.mp hr with rfl | hr
  · exact N _ hp
  rcases List.mem_cons.mp hr with rfl | hr
  · exact N _ hq
  · exact N _ (hs _ hr)
theorem fresh_drop {x : Addr × Obj} {l : List (Addr × Obj)} {n : Addr} (h : ∀ p ∈ x :: l, p.1 < n) : ∀ p ∈ l, p.1 < n := fun p hp => h p (.tail _ hp)
theorem words4 : True := by
  (k_with "subscriptTail" => (first | ((k_here; (with_reducible show wpAny _ _ (subscriptTail _ _ (Value.bytes (List.toArray _) _) (Value.int _ _)) _ _ _); (refine b_item (k := 0) (by walk_at "m_size") (by omega) (by walk_at "m_size") ?_); intro _; (try simp only [Int.toNat_ofNat, List.getD_cons_zero, List.getD_cons_succ]))) | fail "word"))
  (k_with "m_dec" => (first | (((try simp only [decide_eq_true_eq, decide_eq_false_iff_not, Bool.not_eq_true', ne_eq, Decidable.not_not, bne_iff_ne, beq_iff_eq, List.length_cons, List.length_append, List.length_nil]); omega)) | fail "word"))
  (k_with "m_in2" => (first | (((with_reducible rename News _ _ _ _ => zznZ); refine news_in2 zznZ (by first | exact .head _ | exact .tail _ (.head _) | exact .tail _ (.tail _ (.head _)) | exact .tail _ (.tail _ (.tail _ (.head _)))) (by first | exact .head _ | exact .tail _ (.head _) | exact .tail _ (.tail _ (.head _)) | exact .tail _ (.tail _ (.tail _ (.head _)))) (by intro zzrr zzhr; repeat first | exact zzhr | apply List.Mem.tail))) | fail "word"))
  (k_with "m_fresh" => (first | (first | assumption | exact fresh_drop (by assumption) | exact fresh_drop (fresh_drop (by assumption)) | exact fresh_drop (fresh_drop (fresh_drop (by assumption))) | exact fresh_drop (fresh_drop (fresh_drop (fresh_drop (by assumption))))) | fail "word"))
  trivial
theorem checked_good {w : World} {p : Program} {loose : List Str} {mean : ExcName → Option Value} {mg mb : Str → Option Value} {dp un : Nat} {gd : Option (List Code)} {cn : Str} {cs : Scope} {a : Addr} {ccd : Value} {cl : List (Str × Addr)} {outer : List Env} {A₀ : Around} {base h₀ : Heap} {L : Addr} {m : Str → Option Value} {s : Shared} {Q E : Value → Shared → Prop}
    {l dx : Addr} {news : List (Addr × Obj)} {k1 k2 k3 k4 k5 t1 t2 t3 t4 t5 : Tok} {kind : Str} {x y : Int} {pal oct : List UInt8}
    (B : Below A₀ base outer h₀) (F : Fr h₀ L s.heap m) (X : (k0.heap_1 w.params).In h₀) (N : News h₀ L s.heap news) (T : Top p loose mean mg mb h₀) (hk : cs.kind = .function) (hdp : dp + 4 < recursionLimit) (hu : un + 32 < cLine)
    (mx : (l, instObj 64 dx) ∈ news) (md : (dx, thD w.params k1 k2 k3 k4 k5 (.str kind t1) (.int x t2) (.int y t3) (.bytes pal.toArray t4) (.bytes oct.toArray t5)) ∈ news) (hs : Sound kind x y pal oct)
    (ret : ∀ h' tk', Fr h₀ L h' m → News h₀ L h' news → Q (.ref l) { s with heap := h', toks := tk' }) :
    wpAny (model Challenge.rw_pf0230_01.row.prog w) (ktrTop dp un gd cn cs L a ccd cl outer) (call (.ref 89) [.ref l]) Q E s := by
  have N2 := news_two N mx md
  clear N
  refine wpAny_call ?_
  k_dflt (walk_at "m_enter")
  k_steps
  exact ret _ _ (by k_asm) (by walk_at "m_news")
theorem words5 : True := by
  (k_with "call ref" => (first | ((k_here; (with_reducible show wpAny _ _ (call (Value.ref 89) _) _ _ _); k_dflt (refine' checked_good (by k_asm) (by k_asm) (by k_asm) (by k_asm) (by k_asm) (by first | exact rfl | assumption) (by walk_at "m_room") (by walk_at "m_room") (by k_mem) (by k_mem) (by walk_at "m_sound") ?_; k_whole; intro zzh' zztk' zzF' zzN'))) | fail "word"))
  trivial
theorem sized_pal {w : World} {p : Program} {loose : List Str} {mean : ExcName → Option Value} {mg mb : Str → Option Value} {dp un : Nat} {gd : Option (List Code)} {cn : Str} {cs : Scope} {a : Addr} {ccd : Value} {cl : List (Str × Addr)} {outer : List Env} {A₀ : Around} {base h₀ : Heap} {L : Addr} {m : Str → Option Value} {s : Shared} {Q E : Value → Shared → Prop}
    {news : List (Addr × Obj)} {t t' : Tok} {u v : UInt8} {rest : List UInt8}
    (B : Below A₀ base outer h₀) (F : Fr h₀ L s.heap m) (X : (k0.heap_1 w.params).In h₀) (N : News h₀ L s.heap news) (T : Top p loose mean mg mb h₀) (hk : cs.kind = .function) (hdp : dp + 5 < recursionLimit) (hu : un + 40 < cLine)
    (hs : Sound "palette" u.toNat v.toNat (rest.take 768) (rest.drop 768)) (hr : rest.length ≤ 300000)
    (ret : ∀ l dx k1 k2 k3 k4 k5 t1 t2 t3 t4 t5 h' tk', Fr h₀ L h' m → News h₀ L h' ((l, instObj 64 dx) :: (dx, thD w.params k1 k2 k3 k4 k5 (.str "palette" t1) (.int u.toNat t2) (.int v.toNat t3) (.bytes (rest.take 768).toArray t4) (.bytes (rest.drop 768).toArray t5)) :: news) → (∀ p ∈ news, p.1 < dx) → dx < l → Q (.ref l) { s with heap := h', toks := tk' }) :
    wpAny (model Challenge.rw_pf0230_01.row.prog w) (ktrTop dp un gd cn cs L a ccd cl outer) (call (.ref 96) [.str "palette" t, .bytes (u :: v :: rest).toArray t']) Q E s := by
  refine wpAny_call ?_
  k_dflt (walk_at "m_enter")
  k_steps
  exact ret _ _ _ _ _ _ _ _ _ _ _ _ _ _ (by k_asm) (by walk_at "m_in2") (by walk_at "m_fresh") (by assumption)
theorem sized_rgb {w : World} {p : Program} {loose : List Str} {mean : ExcName → Option Value} {mg mb : Str → Option Value} {dp un : Nat} {gd : Option (List Code)} {cn : Str} {cs : Scope} {a : Addr} {ccd : Value} {cl : List (Str × Addr)} {outer : List Env} {A₀ : Around} {base h₀ : Heap} {L : Addr} {m : Str → Option Value} {s : Shared} {Q E : Value → Shared → Prop}
    {news : List (Addr × Obj)} {t t' : Tok} {u v : UInt8} {rest : List UInt8}
    (B : Below A₀ base outer h₀) (F : Fr h₀ L s.heap m) (X : (k0.heap_1 w.params).In h₀) (N : News h₀ L s.heap news) (T : Top p loose mean mg mb h₀) (hk : cs.kind = .function) (hdp : dp + 5 < recursionLimit) (hu : un + 40 < cLine)
    (hs : Sound "rgb" u.toNat v.toNat [] rest) (hr : rest.length ≤ 300000)
    (ret : ∀ l dx k1 k2 k3 k4 k5 t1 t2 t3 t4 t5 h' tk', Fr h₀ L h' m → News h₀ L h' ((l, instObj 64 dx) :: (dx, thD w.params k1 k2 k3 k4 k5 (.str "rgb" t1) (.int u.toNat t2) (.int v.toNat t3) (.bytes ([] : List UInt8).toArray t4) (.bytes rest.toArray t5)) :: news) → (∀ p ∈ news, p.1 < dx) → dx < l → Q (.ref l) { s with heap := h', toks := tk' }) :
    wpAny (model Challenge.rw_pf0230_01.row.prog w) (ktrTop dp un gd cn cs L a ccd cl outer) (call (.ref 96) [.str "rgb" t, .bytes (u :: v :: rest).toArray t']) Q E s := by
  refine wpAny_call ?_
  k_dflt (walk_at "m_enter")
  k_steps
  exact ret _ _ _ _ _ _ _ _ _ _ _ _ _ _ (by k_asm) (by walk_at "m_in2") (by walk_at "m_fresh") (by assumption)
theorem UnrEndW.own {h₀ h' : Heap} {L : Addr} {s₁ : Shared} {I : Addr} {o : Obj} {news' big : List (Addr × Obj)} {rest : (Str → Option Value) → List (Addr × Obj) → Prop} {tk : Nat} {m' : Str → Option Value} (F : Fr h₀ L h' m') (N : News h₀ L h' big) (hI : (I, o) ∈ big) (hs : ∀ r, r ∈ news' → r ∈ big) (fr : ∀ p ∈ news', p.1 < I) (r : rest m' news') : UnrEndW h₀ L s₁ [(I, o)] rest { s₁ with heap := h', toks := tk } :=
  ⟨h', tk, m', news', rfl, F, fun p hp => by
    rcases List.mem_append.mp hp with hp | hp
    · rw [List.mem_singleton.mp hp]; exact N _ hI
    · exact N _ (hs _ hp), fun p hp q hq e => by
    rw [List.mem_singleton.mp hq] at e
    exact absurd (fr p hp) (by rw [e]; exact Nat.lt_irrefl _), r⟩
theorem words6 : True := by
  (k_with "call ref" => (first | ((k_here; (with_reducible show wpAny _ _ (call (Value.ref 96) [Value.str (Str.ofString "palette") _, _]) _ _ _); k_dflt (refine' sized_pal (by k_asm) (by k_asm) (by k_asm) (by k_asm) (by k_asm) (by first | exact rfl | assumption) (by walk_at "m_room") (by walk_at "m_room") (by walk_at "m_sound") (by walk_at "m_size") ?_; k_whole; intro zzx' zzd' zzq1 zzq2 zzq3 zzq4 zzq5 zzq6 zzq7 zzq8 zzq9 zzq10 zzh' zztk' zzF' zzN' zzl1 zzl2; (try k_lt2 zzl2)))) | fail "word"))
  (k_with "call ref" => (first | ((k_here; (with_reducible show wpAny _ _ (call (Value.ref 96) [Value.str (Str.ofString "rgb") _, _]) _ _ _); k_dflt (refine' sized_rgb (by k_asm) (by k_asm) (by k_asm) (by k_asm) (by k_asm) (by first | exact rfl | assumption) (by walk_at "m_room") (by walk_at "m_room") (by walk_at "m_sound") (by walk_at "m_size") ?_; k_whole; intro zzx' zzd' zzq1 zzq2 zzq3 zzq4 zzq5 zzq6 zzq7 zzq8 zzq9 zzq10 zzh' zztk' zzF' zzN' zzl1 zzl2; (try k_lt2 zzl2)))) | fail "word"))
  (k_with "call ref" => (first | ((k_here; (with_reducible show wpAny _ _ (call (Value.ref 110) _) _ _ _); k_dflt (refine' write_good (by k_asm) (by k_asm) (by k_asm) (by k_asm) (by k_asm) (by first | exact rfl | assumption) (by walk_at "m_room") (by walk_at "m_room") (by k_mem) (by k_mem) (by walk_at "m_sound") ?_; intro zzbs' zzt' zzh' zztk' zze' zzF' zzN'))) | fail "word"))
  (k_with "ite" => (first | ((k_here; first | refine m_neg (by walk_at "m_dec") ?_ | refine m_pos (by walk_at "m_dec") ?_ | refine m_neg (of_decide_eq_false (by with_unfolding_all rfl)) ?_ | refine m_pos (of_decide_eq_true (by with_unfolding_all rfl)) ?_)) | fail "word"))
  (k_with "pyIter ref" => (first | ((k_here; (with_reducible show wpAny _ _ (pyIter (Value.ref _)) (fun it s₂ => TurnsAt _ _ _ _ _ _ _ _ _ it s₂) _ _); (rename Fr _ _ _ _ => zzlF'); (rename News _ _ _ _ => zzlN'); (with_unfolding_all refine iter_tupTurns (by rfl) zzlF' zzlN' (by first | exact .head _ | exact .tail _ (.head _) | exact .tail _ (.tail _ (.head _))) (by rfl) (by rfl) ?_); clear zzlF'; clear zzlN'; intro zzi' zzl1)) | fail "word"))
  (k_with "UnrEndW" => (first | (((rename News _ _ _ _ => zzlN'); refine' UnrEndW.own (by assumption) zzlN' (by first | exact .head _ | exact .tail _ (.head _) | exact .tail _ (.tail _ (.head _))) ?_ (by assumption) ?_; (focus (intro zzrr zzhr; repeat first | exact zzhr | apply List.Mem.tail)); refine ⟨And.intro (by first | exact .head _ | exact .tail _ (.head _) | exact .tail _ (.tail _ (.head _))) trivial, ?_⟩)) | fail "word"))
  trivial
theorem read_jpeg {w : World} {p : Program} {loose : List Str} {mean : ExcName → Option Value} {mg mb : Str → Option Value} {dp un : Nat} {gd : Option (List Code)} {cn : Str} {cs : Scope} {a : Addr} {ccd : Value} {cl : List (Str × Addr)} {outer : List Env} {A₀ : Around} {base h₀ : Heap} {L : Addr} {m : Str → Option Value} {s : Shared} {Q E : Value → Shared → Prop}
    {news : List (Addr × Obj)} {t : Tok} {oct : List UInt8}
    (B : Below A₀ base outer h₀) (F : Fr h₀ L s.heap m) (X : (k0.heap_1 w.params).In h₀) (N : News h₀ L s.heap news) (T : Top p loose mean mg mb h₀) (hk : cs.kind = .function) (hdp : dp + 6 < recursionLimit) (hu : un + 48 < cLine)
    (hs : Sound "jpeg" 0 0 [] oct) (hr : oct.length ≤ 300000)
    (ret : ∀ l dx k1 k2 k3 k4 k5 t1 t2 t3 t4 t5 h' tk', Fr h₀ L h' m → News h₀ L h' ((l, instObj 64 dx) :: (dx, thD w.params k1 k2 k3 k4 k5 (.str "jpeg" t1) (.int 0 t2) (.int 0 t3) (.bytes ([] : List UInt8).toArray t4) (.bytes oct.toArray t5)) :: news) → (∀ p ∈ news, p.1 < dx) → dx < l → Q (.ref l) { s with heap := h', toks := tk' }) :
    wpAny (model Challenge.rw_pf0230_01.row.prog w) (ktrTop dp un gd cn cs L a ccd cl outer) (call (.ref 103) [.bytes (74 :: 70 :: 88 :: 88 :: 0 :: 16 :: oct).toArray t]) Q E s := by
  refine wpAny_call ?_
  k_dflt (walk_at "m_enter")
  k_steps
  exact ret _ _ _ _ _ _ _ _ _ _ _ _ _ _ (by k_asm) (by walk_at "m_in2") (by walk_at "m_fresh") (by assumption)
theorem read_pal {w : World} {p : Program} {loose : List Str} {mean : ExcName → Option Value} {mg mb : Str → Option Value} {dp un : Nat} {gd : Option (List Code)} {cn : Str} {cs : Scope} {a : Addr} {ccd : Value} {cl : List (Str × Addr)} {outer : List Env} {A₀ : Around} {base h₀ : Heap} {L : Addr} {m : Str → Option Value} {s : Shared} {Q E : Value → Shared → Prop}
    {news : List (Addr × Obj)} {t : Tok} {u v : UInt8} {rest : List UInt8}
    (B : Below A₀ base outer h₀) (F : Fr h₀ L s.heap m) (X : (k0.heap_1 w.params).In h₀) (N : News h₀ L s.heap news) (T : Top p loose mean mg mb h₀) (hk : cs.kind = .function) (hdp : dp + 6 < recursionLimit) (hu : un + 48 < cLine)
    (hs : Sound "palette" u.toNat v.toNat (rest.take 768) (rest.drop 768)) (hr : rest.length ≤ 300000)
    (ret : ∀ l dx k1 k2 k3 k4 k5 t1 t2 t3 t4 t5 h' tk', Fr h₀ L h' m → News h₀ L h' ((l, instObj 64 dx) :: (dx, thD w.params k1 k2 k3 k4 k5 (.str "palette" t1) (.int u.toNat t2) (.int v.toNat t3) (.bytes (rest.take 768).toArray t4) (.bytes (rest.drop 768).toArray t5)) :: news) → (∀ p ∈ news, p.1 < dx) → dx < l → Q (.ref l) { s with heap := h', toks := tk' }) :
    wpAny (model Challenge.rw_pf0230_01.row.prog w) (ktrTop dp un gd cn cs L a ccd cl outer) (call (.ref 103) [.bytes (74 :: 70 :: 88 :: 88 :: 0 :: 17 :: u :: v :: rest).toArray t]) Q E s := by
  refine wpAny_call ?_
  k_dflt (walk_at "m_enter")
  k_steps
  exact ret _ _ _ _ _ _ _ _ _ _ _ _ _ _ (by k_asm) (by walk_at "m_in2") (by walk_at "m_fresh") (by assumption)
theorem read_rgb {w : World} {p : Program} {loose : List Str} {mean : ExcName → Option Value} {mg mb : Str → Option Value} {dp un : Nat} {gd : Option (List Code)} {cn : Str} {cs : Scope} {a : Addr} {ccd : Value} {cl : List (Str × Addr)} {outer : List Env} {A₀ : Around} {base h₀ : Heap} {L : Addr} {m : Str → Option Value} {s : Shared} {Q E : Value → Shared → Prop}
    {news : List (Addr × Obj)} {t : Tok} {u v : UInt8} {rest : List UInt8}
    (B : Below A₀ base outer h₀) (F : Fr h₀ L s.heap m) (X : (k0.heap_1 w.params).In h₀) (N : News h₀ L s.heap news) (T : Top p loose mean mg mb h₀) (hk : cs.kind = .function) (hdp : dp + 6 < recursionLimit) (hu : un + 48 < cLine)
    (hs : Sound "rgb" u.toNat v.toNat [] rest) (hr : rest.length ≤ 300000)
    (ret : ∀ l dx k1 k2 k3 k4 k5 t1 t2 t3 t4 t5 h' tk', Fr h₀ L h' m → News h₀ L h' ((l, instObj 64 dx) :: (dx, thD w.params k1 k2 k3 k4 k5 (.str "rgb" t1) (.int u.toNat t2) (.int v.toNat t3) (.bytes ([] : List UInt8).toArray t4) (.bytes rest.toArray t5)) :: news) → (∀ p ∈ news, p.1 < dx) → dx < l → Q (.ref l) { s with heap := h', toks := tk' }) :
    wpAny (model Challenge.rw_pf0230_01.row.prog w) (ktrTop dp un gd cn cs L a ccd cl outer) (call (.ref 103) [.bytes (74 :: 70 :: 88 :: 88 :: 0 :: 19 :: u :: v :: rest).toArray t]) Q E s := by
  refine wpAny_call ?_
  k_dflt (walk_at "m_enter")
  k_steps
  exact ret _ _ _ _ _ _ _ _ _ _ _ _ _ _ (by k_asm) (by walk_at "m_in2") (by walk_at "m_fresh") (by assumption)
theorem read_jfif {w : World} {p : Program} {loose : List Str} {mean : ExcName → Option Value} {mg mb : Str → Option Value} {dp un : Nat} {gd : Option (List Code)} {cn : Str} {cs : Scope} {a : Addr} {ccd : Value} {cl : List (Str × Addr)} {outer : List Env} {A₀ : Around} {base h₀ : Heap} {L : Addr} {m : Str → Option Value} {s : Shared} {Q E : Value → Shared → Prop}
    {news : List (Addr × Obj)} {t : Tok} {a5 a6 a7 a8 a9 a10 a11 u v c : UInt8} {rest : List UInt8}
    (B : Below A₀ base outer h₀) (F : Fr h₀ L s.heap m) (X : (k0.heap_1 w.params).In h₀) (N : News h₀ L s.heap news) (T : Top p loose mean mg mb h₀) (hk : cs.kind = .function) (hdp : dp + 6 < recursionLimit) (hu : un + 48 < cLine)
    (hs : Sound "rgb" u.toNat v.toNat [] (c :: rest)) (hr : rest.length ≤ 200000)
    (ret : ∀ l dx k1 k2 k3 k4 k5 t1 t2 t3 t4 t5 h' tk', Fr h₀ L h' m → News h₀ L h' ((l, instObj 64 dx) :: (dx, thD w.params k1 k2 k3 k4 k5 (.str "rgb" t1) (.int u.toNat t2) (.int v.toNat t3) (.bytes ([] : List UInt8).toArray t4) (.bytes (c :: rest).toArray t5)) :: news) → (∀ p ∈ news, p.1 < dx) → dx < l → Q (.ref l) { s with heap := h', toks := tk' }) :
    wpAny (model Challenge.rw_pf0230_01.row.prog w) (ktrTop dp un gd cn cs L a ccd cl outer) (call (.ref 103) [.bytes (74 :: 70 :: 73 :: 70 :: 0 :: a5 :: a6 :: a7 :: a8 :: a9 :: a10 :: a11 :: u :: v :: c :: rest).toArray t]) Q E s := by
  refine wpAny_call ?_
  k_dflt (walk_at "m_enter")
  k_steps
  exact ret _ _ _ _ _ _ _ _ _ _ _ _ _ _ (by k_asm) (by walk_at "m_in2") (by walk_at "m_fresh") (by assumption)
theorem read_jfif0 {w : World} {p : Program} {loose : List Str} {mean : ExcName → Option Value} {mg mb : Str → Option Value} {dp un : Nat} {gd : Option (List Code)} {cn : Str} {cs : Scope} {a : Addr} {ccd : Value} {cl : List (Str × Addr)} {outer : List Env} {A₀ : Around} {base h₀ : Heap} {L : Addr} {m : Str → Option Value} {s : Shared} {Q E : Value → Shared → Prop}
    {news : List (Addr × Obj)} {t : Tok} {a5 a6 a7 a8 a9 a10 a11 u v : UInt8}
    (B : Below A₀ base outer h₀) (F : Fr h₀ L s.heap m) (X : (k0.heap_1 w.params).In h₀) (N : News h₀ L s.heap news) (T : Top p loose mean mg mb h₀) (hk : cs.kind = .function) (hdp : dp + 6 < recursionLimit) (hu : un + 48 < cLine)
    (hs : Sound "rgb" u.toNat v.toNat [] [])
    (ret : ∀ h' tk', Fr h₀ L h' m → News h₀ L h' news → Q .none { s with heap := h', toks := tk' }) :
    wpAny (model Challenge.rw_pf0230_01.row.prog w) (ktrTop dp un gd cn cs L a ccd cl outer) (call (.ref 103) [.bytes (74 :: 70 :: 73 :: 70 :: 0 :: a5 :: a6 :: a7 :: a8 :: a9 :: a10 :: a11 :: u :: v :: []).toArray t]) Q E s := by
  refine wpAny_call ?_
  k_dflt (walk_at "m_enter")
  k_steps
  exact ret _ _ (by k_asm) (by walk_at "m_news")
theorem words7 : True := by
  (k_with "call ref" => (first | ((k_here; (with_reducible show wpAny _ _ (call (Value.ref 82) _) _ _ _); k_dflt (refine' check_bad (by k_asm) (by k_asm) (by k_asm) (by k_asm) (by k_asm) (by first | exact rfl | assumption) (by walk_at "m_room") (by walk_at "m_room") (by k_mem) (by k_mem) (by with_reducible assumption) ?_; intro zze' zzt' zzvs' zzg' zzh' zztk' zzR' zzF' zzU'))) | fail "word"))
  (k_with "leaving ref" => (first | ((k_here; (rename RaisedS _ _ _ _ _ _ _ _ _ => zzrX); (rename Heap.UpToSlots _ _ => zzuX); (rename Fr _ _ _ _ => zzfX); k_dflt (refine' leave_onX (by assumption) zzfX zzrX zzuX ?_); clear zzrX; intro zzh' zzS' zzR' zzU'; (try dsimp only at zzS' zzR' zzU' ⊢))) | fail "word"))
  trivial
theorem write_bad {w : World} {p : Program} {loose : List Str} {mean : ExcName → Option Value} {mg mb : Str → Option Value} {dp un : Nat} {gd : Option (List Code)} {cn : Str} {cs : Scope} {a : Addr} {ccd : Value} {cl : List (Str × Addr)} {outer : List Env} {A₀ : Around} {base h₀ : Heap} {L : Addr} {m : Str → Option Value} {s : Shared} {Q E : Value → Shared → Prop}
    {l dx : Addr} {news : List (Addr × Obj)} {k1 k2 k3 k4 k5 t1 t2 t3 t4 t5 : Tok} {kind : Str} {x y : Int} {pal oct : List UInt8}
    (B : Below A₀ base outer h₀) (F : Fr h₀ L s.heap m) (X : (k0.heap_1 w.params).In h₀) (N : News h₀ L s.heap news) (T : Top p loose mean mg mb h₀) (hk : cs.kind = .function) (hdp : dp + 6 < recursionLimit) (hu : un + 48 < cLine)
    (mx : (l, instObj 64 dx) ∈ news) (md : (dx, thD w.params k1 k2 k3 k4 k5 (.str kind t1) (.int x t2) (.int y t3) (.bytes pal.toArray t4) (.bytes oct.toArray t5)) ∈ news) (hs : Odd kind x y)
    (raised : ∀ e t vs g h' tk', RaisedS base g (envX cn cs L a ccd cl :: outer) e (.ref 44) t vs news h' → Fr h₀ L g m → g.UpToSlots h' → E (.ref e) { s with heap := h', toks := tk' }) :
    wpAny (model Challenge.rw_pf0230_01.row.prog w) (ktrTop dp un gd cn cs L a ccd cl outer) (call (.ref 110) [.ref l]) Q E s := by
  have N2 := news_two N mx md
  clear N
  refine wpAny_call ?_
  k_dflt (walk_at "m_enter")
  k_steps
  exact raised _ _ _ _ _ _ (raised_drop2 (by assumption)) (by assumption) (by assumption)
theorem rows_bad {w : World} {p : Program} {loose : List Str} {mean : ExcName → Option Value} {mg mb : Str → Option Value} {dp un : Nat} {gd : Option (List Code)} {cn : Str} {cs : Scope} {a : Addr} {ccd : Value} {cl : List (Str × Addr)} {outer : List Env} {A₀ : Around} {base h₀ : Heap} {L : Addr} {m : Str → Option Value} {s : Shared} {Q E : Value → Shared → Prop}
    {l dx : Addr} {news : List (Addr × Obj)} {k1 k2 k3 k4 k5 t1 t2 t3 t4 t5 : Tok} {kind : Str} {x y : Int} {pal oct : List UInt8}
    (B : Below A₀ base outer h₀) (F : Fr h₀ L s.heap m) (X : (k0.heap_1 w.params).In h₀) (N : News h₀ L s.heap news) (T : Top p loose mean mg mb h₀) (hk : cs.kind = .function) (hdp : dp + 6 < recursionLimit) (hu : un + 48 < cLine)
    (mx : (l, instObj 64 dx) ∈ news) (md : (dx, thD w.params k1 k2 k3 k4 k5 (.str kind t1) (.int x t2) (.int y t3) (.bytes pal.toArray t4) (.bytes oct.toArray t5)) ∈ news) (hs : Odd kind x y)
    (raised : ∀ e t vs g h' tk', RaisedS base g (envX cn cs L a ccd cl :: outer) e (.ref 44) t vs news h' → Fr h₀ L g m → g.UpToSlots h' → E (.ref e) { s with heap := h', toks := tk' }) :
    wpAny (model Challenge.rw_pf0230_01.row.prog w) (ktrTop dp un gd cn cs L a ccd cl outer) (call (.ref 124) [.ref l]) Q E s := by
  have N2 := news_two N mx md
  clear N
  refine wpAny_call ?_
  k_dflt (walk_at "m_enter")
  k_steps
  exact raised _ _ _ _ _ _ (raised_drop2 (by assumption)) (by assumption) (by assumption)
theorem with_bad {w : World} {p : Program} {loose : List Str} {mean : ExcName → Option Value} {mg mb : Str → Option Value} {dp un : Nat} {gd : Option (List Code)} {cn : Str} {cs : Scope} {a : Addr} {ccd : Value} {cl : List (Str × Addr)} {outer : List Env} {A₀ : Around} {base h₀ : Heap} {L : Addr} {m : Str → Option Value} {s : Shared} {Q E : Value → Shared → Prop}
    {l dx : Addr} {news : List (Addr × Obj)} {k1 k2 k3 k4 k5 t1 t2 t3 t4 t5 : Tok} {kind : Str} {x y : Int} {pal oct : List UInt8} {pl : List UInt8} {t : Tok}
    (B : Below A₀ base outer h₀) (F : Fr h₀ L s.heap m) (X : (k0.heap_1 w.params).In h₀) (N : News h₀ L s.heap news) (T : Top p loose mean mg mb h₀) (hk : cs.kind = .function) (hdp : dp + 6 < recursionLimit) (hu : un + 48 < cLine)
    (mx : (l, instObj 64 dx) ∈ news) (md : (dx, thD w.params k1 k2 k3 k4 k5 (.str kind t1) (.int x t2) (.int y t3) (.bytes pal.toArray t4) (.bytes oct.toArray t5)) ∈ news) (hs : Odd kind x y)
    (raised : ∀ e t vs g h' tk', RaisedS base g (envX cn cs L a ccd cl :: outer) e (.ref 44) t vs news h' → Fr h₀ L g m → g.UpToSlots h' → E (.ref e) { s with heap := h', toks := tk' }) :
    wpAny (model Challenge.rw_pf0230_01.row.prog w) (ktrTop dp un gd cn cs L a ccd cl outer) (call (.ref 117) [.bytes pl.toArray t, .ref l]) Q E s := by
  have N2 := news_two N mx md
  clear N
  refine wpAny_call ?_
  k_dflt (walk_at "m_enter")
  k_steps
  exact raised _ _ _ _ _ _ (raised_drop2 (by assumption)) (by assumption) (by assumption)
theorem place_absurd {pl : List UInt8} {kind : Str} (hp : pl.take 5 ≠ [74, 70, 73, 70, 0] ∨ pl.length < 14 ∨ kind ≠ kind) (ha : (pl.take 5 != [74, 70, 73, 70, 0]) = false) (hb : ¬ (pl.length : Int) < 14) : False := by
  rcases hp with q | q | q
  · exact q (bne_eq_false_iff_eq.mp ha)
  · omega
  · exact q rfl
theorem with_good {w : World} {p : Program} {loose : List Str} {mean : ExcName → Option Value} {mg mb : Str → Option Value} {dp un : Nat} {gd : Option (List Code)} {cn : Str} {cs : Scope} {a : Addr} {ccd : Value} {cl : List (Str × Addr)} {outer : List Env} {A₀ : Around} {base h₀ : Heap} {L : Addr} {m : Str → Option Value} {s : Shared} {Q E : Value → Shared → Prop}
    {l dx : Addr} {news : List (Addr × Obj)} {k1 k2 k3 k4 k5 t1 t2 t3 t4 t5 : Tok} {kind : Str} {x y : Int} {pal oct : List UInt8} {a5 a6 a7 a8 a9 a10 a11 : UInt8} {rest : List UInt8} {t : Tok}
    (B : Below A₀ base outer h₀) (F : Fr h₀ L s.heap m) (X : (k0.heap_1 w.params).In h₀) (N : News h₀ L s.heap news) (T : Top p loose mean mg mb h₀) (hk : cs.kind = .function) (hdp : dp + 4 < recursionLimit) (hu : un + 32 < cLine)
    (mx : (l, instObj 64 dx) ∈ news) (md : (dx, thD w.params k1 k2 k3 k4 k5 (.str kind t1) (.int x t2) (.int y t3) (.bytes pal.toArray t4) (.bytes oct.toArray t5)) ∈ news) (hs : Sound kind x y pal oct) (hkd : kind = "rgb") (h2 : 2 ≤ rest.length) (h3 : rest.length ≤ 100)
    (ret : ∀ bs t h' tk', bs = 74 :: 70 :: 73 :: 70 :: 0 :: a5 :: a6 :: a7 :: a8 :: a9 :: a10 :: a11 :: x.toNat.toUInt8 :: y.toNat.toUInt8 :: oct → Fr h₀ L h' m → News h₀ L h' news → Q (.bytes bs.toArray t) { s with heap := h', toks := tk' }) :
    wpAny (model Challenge.rw_pf0230_01.row.prog w) (ktrTop dp un gd cn cs L a ccd cl outer) (call (.ref 117) [.bytes (74 :: 70 :: 73 :: 70 :: 0 :: a5 :: a6 :: a7 :: a8 :: a9 :: a10 :: a11 :: rest).toArray t, .ref l]) Q E s := by
  have N2 := news_two N mx md
  clear N
  subst hkd
  have hS := hs
  obtain ⟨h1, h2, h3, h4, h0, ⟨hj, h6⟩ | ⟨hj, h5, h6⟩ | ⟨hj, h5, h6⟩⟩ := hs
  · exact absurd hj (by decide)
  · exact absurd hj (by decide)
  refine wpAny_call ?_
  k_dflt (walk_at "m_enter")
  k_steps
  exact ret _ _ _ _ (by rfl) (by k_asm) (by walk_at "m_news")
theorem rows_jpeg {w : World} {p : Program} {loose : List Str} {mean : ExcName → Option Value} {mg mb : Str → Option Value} {dp un : Nat} {gd : Option (List Code)} {cn : Str} {cs : Scope} {a : Addr} {ccd : Value} {cl : List (Str × Addr)} {outer : List Env} {A₀ : Around} {base h₀ : Heap} {L : Addr} {m : Str → Option Value} {s : Shared} {Q E : Value → Shared → Prop}
    {l dx : Addr} {news : List (Addr × Obj)} {k1 k2 k3 k4 k5 t1 t2 t3 t4 t5 : Tok} {kind : Str} {x y : Int} {pal oct : List UInt8}
    (B : Below A₀ base outer h₀) (F : Fr h₀ L s.heap m) (X : (k0.heap_1 w.params).In h₀) (N : News h₀ L s.heap news) (T : Top p loose mean mg mb h₀) (hk : cs.kind = .function) (hdp : dp + 5 < recursionLimit) (hu : un + 40 < cLine)
    (mx : (l, instObj 64 dx) ∈ news) (md : (dx, thD w.params k1 k2 k3 k4 k5 (.str kind t1) (.int x t2) (.int y t3) (.bytes pal.toArray t4) (.bytes oct.toArray t5)) ∈ news) (hs : Sound kind x y pal oct) (hkd : kind = "jpeg")
    (raised : ∀ e t vs g h' tk', RaisedS base g (envX cn cs L a ccd cl :: outer) e (.ref 44) t vs news h' → Fr h₀ L g m → g.UpToSlots h' → E (.ref e) { s with heap := h', toks := tk' }) :
    wpAny (model Challenge.rw_pf0230_01.row.prog w) (ktrTop dp un gd cn cs L a ccd cl outer) (call (.ref 124) [.ref l]) Q E s := by
  have N2 := news_two N mx md
  clear N
  subst hkd
  refine wpAny_call ?_
  k_dflt (walk_at "m_enter")
  k_steps
  exact raised _ _ _ _ _ _ (raised_drop2 (by assumption)) (by assumption) (by assumption)
theorem with_place {w : World} {p : Program} {loose : List Str} {mean : ExcName → Option Value} {mg mb : Str → Option Value} {dp un : Nat} {gd : Option (List Code)} {cn : Str} {cs : Scope} {a : Addr} {ccd : Value} {cl : List (Str × Addr)} {outer : List Env} {A₀ : Around} {base h₀ : Heap} {L : Addr} {m : Str → Option Value} {s : Shared} {Q E : Value → Shared → Prop}
    {l dx : Addr} {news : List (Addr × Obj)} {k1 k2 k3 k4 k5 t1 t2 t3 t4 t5 : Tok} {kind : Str} {x y : Int} {pal oct : List UInt8} {pl : List UInt8} {t : Tok}
    (B : Below A₀ base outer h₀) (F : Fr h₀ L s.heap m) (X : (k0.heap_1 w.params).In h₀) (N : News h₀ L s.heap news) (T : Top p loose mean mg mb h₀) (hk : cs.kind = .function) (hdp : dp + 5 < recursionLimit) (hu : un + 40 < cLine)
    (mx : (l, instObj 64 dx) ∈ news) (md : (dx, thD w.params k1 k2 k3 k4 k5 (.str kind t1) (.int x t2) (.int y t3) (.bytes pal.toArray t4) (.bytes oct.toArray t5)) ∈ news) (hs : Sound kind x y pal oct) (hp : pl.take 5 ≠ [74, 70, 73, 70, 0] ∨ pl.length < 14 ∨ kind ≠ "rgb") (hl : pl.length ≤ 1000)
    (raised : ∀ e t vs g h' tk', RaisedS base g (envX cn cs L a ccd cl :: outer) e (.ref 44) t vs news h' → Fr h₀ L g m → g.UpToSlots h' → E (.ref e) { s with heap := h', toks := tk' }) :
    wpAny (model Challenge.rw_pf0230_01.row.prog w) (ktrTop dp un gd cn cs L a ccd cl outer) (call (.ref 117) [.bytes pl.toArray t, .ref l]) Q E s := by
  have N2 := news_two N mx md
  clear N
  have hS := hs
  obtain ⟨h1, h2, h3, h4, h0, ⟨rfl, h6⟩ | ⟨rfl, h5, h6⟩ | ⟨rfl, h5, h6⟩⟩ := hs
  all_goals
    refine wpAny_call ?_
    k_dflt (walk_at "m_enter")
    k_steps
  all_goals first | exact raised _ _ _ _ _ _ (raised_drop2 (by assumption)) (by assumption) (by assumption) | exact (place_absurd hp (by assumption) (by assumption)).elim
theorem bytes_len_slot : typeLookup (.type "bytes") "__len__" = pure (some (.builtin "bytes.__len__")) := by rw [typeLookup_type, builtinLookup_eq_fast]; kernel_rfl
def ByteAt (b : Array UInt8) (i : Nat) (v : Value) : Prop := ∃ c u, b[i]? = some c ∧ v = .int (c.toNat : Int) u
section
variable {prog : Program} {w : World} {A : Around} {E : Value → Shared → Prop} {s : Shared}
theorem collect_bytes {Q : List Value → Shared → Prop} (hh : A.handled = none) (b : Array UInt8) (t : Tok)
    (hQ : ∀ s' acc, (∀ b o, s.heap.get? b = some o → s'.heap.get? b = some o) → s'.gens = s.gens → s'.drawn = s.drawn → s'.os = s.os → ItemsOf (ByteAt b) acc b.size → Q acc.toList s') (hn : b.size ≤ sizeLine) :
    wpAny (model prog w) A (collect (.bytes b t)) Q E s := by
  unfold collect
  refine wpAny_bind (wpAny_runValue (codeAny_builtin F.entry_proto_collect ?_))
  rw [Around.under_plainId F.plain_proto_collect _]
  show wpAny _ A.in1 (newList [] >>= fun l => again (.builtin "list.__iadd__" ⟨[l, .bytes b t], []⟩)) _ _ s
  refine wpAny_bind (wpAny_newObj_type ?_)
  refine wpAny_pure ⟨plainId_quiet F.plain_list_iadd _, codeAny_builtin F.entry_list_iadd ?_⟩
  rw [Around.under_plainId F.plain_list_iadd _]
  show wpAny _ A.in1 (Builtin.List.listExtendWith (.ref s.heap.objs.size) (.bytes b t) (.ref s.heap.objs.size)) _ _ _
  unfold Builtin.List.listExtendWith
  refine wpAny_bind (wpAny_typeOf (T := "bytes") (v := .bytes b t) rfl ?_)
  have h1 : Builtin.List.listSameRef (.ref s.heap.objs.size) (.bytes b t) = false := rfl
  have h2 : (Value.type "bytes" == Value.type "list") = false := by decide
  have h3 : (Value.type "bytes" == Value.type "tuple") = false := by decide
  simp only [h1, h2, h3, Bool.or_false, Bool.false_eq_true, if_false]
  refine wpAny_bind (KBw.pyIter_bytes ?_)
  refine wpAny_bind (wpAny_holding ?_)
  unfold Builtin.List.listLengthHint
  refine wpAny_bind (wpAny_specialOf (T := "bytes") (v := .bytes b t) rfl bytes_len_slot ?_)
  wp_delta
  refine wpAny_bind (wpAny_isInstance (T := "bytes") (v := .bytes b t) (b := true) rfl (by rw [isSubtype_type]; kernel_rfl) ?_)
  show wpAny _ A.in1 (typeOf (Value.bytes b t) >>= _) _ _ _
  refine wpAny_bind (wpAny_typeOf (T := "bytes") (v := .bytes b t) rfl ?_)
  refine wpAny_pure ?_
  rw [if_neg (by decide)]
  generalize hH : s.heap.push { cls := .type "list", data := .seq ([] : List Value).toArray } = H
  have hHs : H.objs.size = s.heap.objs.size + 1 := by rw [← hH, Heap.size_push]
  have hSf : s.heap.objs.size ∉ [H.objs.size] := fun hm => by rw [List.mem_singleton.mp hm] at hHs; exact absurd hHs (Nat.ne_of_lt (Nat.lt_succ_self _))
  have hS : (H.push { cls := .type "bytes_iterator", data := .fields #[.bytes b t, .int 0 0] }).get? s.heap.objs.size = some { cls := .type "list", data := .seq ([] : List Value).toArray } := Heap.get?_push_of_some _ (hH ▸ Heap.get?_push_size _ rfl)
  have hst : KBw.IsBytesIter (H.push { cls := .type "bytes_iterator", data := .fields #[.bytes b t, .int 0 0] }) H.objs.size b t 0 := ⟨_, Heap.get?_push_size _ rfl, rfl, rfl⟩
  refine wpAny_pure ⟨plainId_quiet F.plain_extend_loop _, codeAny_extend_loopS (KBw.walks (A := A.in1) hh H.objs.size b t).toS hn _ hSf _ b.size 0 _ _ _ rfl (Nat.zero_le _) hst hS (ItemsOf.nil _) fun s' acc' c' hm hS' hacc => ?_⟩
  show wpAny _ A (load s.heap.objs.size >>= _) _ _ s'
  refine wpAny_bind (wpAny_load hS' ?_)
  refine wpAny_pure (hQ s' acc' (fun b ob e => hm.heap b ob (fun hb => ?_) (Heap.get?_push_of_some _ (hH ▸ Heap.get?_push_of_some _ e))) hm.gens hm.drawn hm.os hacc)
  have hlt := Heap.lt_size e
  rcases List.mem_cons.mp hb with h | h
  · exact absurd hlt (h ▸ Nat.lt_irrefl _)
  · rw [List.mem_singleton.mp h, hHs] at hlt; exact absurd hlt (Nat.not_lt.mpr (Nat.le_succ _))

theorem meets_tuple_bytes (b : Array UInt8) (t : Tok) (hsz : b.size ≤ sizeLine) :
    Meets (Builtin.«tuple.__new__» ⟨[.type "tuple", .bytes b t], []⟩)
      (fun A R s => A.handled = none ∧ ∀ (s' : Shared) (acc : Array Value), (∀ b o, s.heap.get? b = some o → s'.heap.get? b = some o) → s'.gens = s.gens → s'.drawn = s.drawn → s'.os = s.os → ItemsOf (ByteAt b) acc b.size →
        R (.ok (.ret (.ref s'.heap.objs.size))) { s' with heap := s'.heap.push { cls := .type "tuple", data := .seq acc } }) :=
  .of_wp fun prog w A R s h => by
    obtain ⟨hh, h⟩ := h
    have hsub := sub_tuple_self
    have hinit := init_tuple_lookup
    have hmh := madeHere_tuple
    have hT : s.TypeIs (.bytes b t) "bytes" := rfl
    have hh1 : A.in1.handled = none := hh
    wp_walk using wpAny_typeOf hT, collect_bytes (hn := hsz) hh1 b t
    intro s' acc hk hg hd hos hacc
    show wpAny _ _ (Builtin.Tuple.tupleExact acc.toList.toArray >>= fun v => ret v) _ _ _
    unfold Builtin.Tuple.tupleExact
    refine wpAny_bind (wpAny_newObj_type ?_ (show acc.toList.toArray.size ≤ sizeLine by simp only [Array.toArray_toList]; rw [hacc.1]; exact hsz))
    refine wpAny_pure ⟨_, rfl, ?_⟩
    have e : acc.toList.toArray = acc := by simp
    rw [e]
    exact h s' acc hk hg hd hos hacc

theorem call_tuple_bytes {Q : Value → Shared → Prop} (hh : A.handled = none) (b : Array UInt8) (t : Tok)
    (h : ∀ (h' : Heap) (tk : Nat) (acc : Array Value), (∀ b o, s.heap.get? b = some o → h'.get? b = some o) → ItemsOf (ByteAt b) acc b.size → Q (.ref h'.objs.size) { s with heap := h'.push { cls := .type "tuple", data := .seq acc }, toks := tk })
    (hsz : b.size ≤ sizeLine) :
    wpAny (model prog w) A (call (.type "tuple") [.bytes b t]) Q E s := by
  refine callType_new F.called_tuple (by decide) (F.typeCall_tuple_1 _) (F.newCall_tuple_1 _) (fun obj => F.args_object_init_2 obj _) F.entry_tuple_new
    (meets_tuple_bytes b t hsz) ⟨hh, fun s' acc hk hg hd hos hacc => ⟨⟨_, Heap.get?_push_size _ rfl, rfl⟩, ?_⟩⟩
  obtain ⟨h', g', d', tk', os'⟩ := s'
  have e1 : g' = s.gens := hg
  have e2 : d' = s.drawn := hd
  have e3 : os' = s.os := hos
  subst e1 e2 e3
  exact h h' tk' acc hk hacc
end
/-- the ints of octets, as values -/
inductive IntVs : List Value → List UInt8 → Prop
  | nil : IntVs [] []
  | cons {c : UInt8} {t : Tok} {vs : List Value} {l : List UInt8} : IntVs vs l → IntVs (.int (c.toNat : Int) t :: vs) (c :: l)
theorem intVs_of : ∀ (l : List UInt8) (vs : List Value), vs.length = l.length → (∀ (j : Nat) v, vs[j]? = some v → ∃ c u, l[j]? = some c ∧ v = .int (c.toNat : Int) u) → IntVs vs l
  | [], [], _, _ => .nil
  | [], _ :: _, h, _ => by simp at h
  | _ :: _, [], h, _ => by simp at h
  | c :: l, v :: vs, h, k => by
    obtain ⟨c', u, e, rfl⟩ := k 0 v rfl
    have e' : c = c' := Option.some.inj e
    subst e'
    exact .cons (intVs_of l vs (by simpa using h) fun j v hv => k (j + 1) v hv)
theorem b_tuple {prog : Program} {w : World} {A : Around} {E Q : Value → Shared → Prop} {s : Shared} {h₀ : Heap} {L : Addr} {m : Str → Option Value} {news : List (Addr × Obj)} {l : List UInt8} {t : Tok} (hh : A.handled = none) (F : Fr h₀ L s.heap m) (N : News h₀ L s.heap news) (hsz : l.length ≤ 100000)
    (h : ∀ D vs h' tk, IntVs vs l → Fr h₀ L h' m → News h₀ L h' ((D, tupObj vs) :: news) → (∀ p ∈ news, p.1 < D) → Q (.ref D) { s with heap := h', toks := tk }) : wpAny (model prog w) A (call (.type "tuple") [.bytes l.toArray t]) Q E s := by
  refine call_tuple_bytes hh l.toArray t (fun h' tk acc hk hacc => ?_) (by rw [sizeLine_eq, List.size_toArray]; omega)
  have F' : Fr h₀ L h' m := F.keeps hk
  have N' : News h₀ L h' news := fun p hp => ⟨hk _ _ (N p hp).1, (N p hp).2⟩
  have e : acc = acc.toList.toArray := by simp
  rw [e]
  exact h _ _ _ _ (intVs_of l acc.toList (by simpa using hacc.1) fun j v hv => by
    obtain ⟨c, u, e1, e2⟩ := hacc.2 j v (by simpa using hv)
    exact ⟨c, u, by simpa using e1, e2⟩) (F'.push _) (N'.push F' _) fun p hp => Heap.lt_size (N' p hp).1
def Stop (p : Prop) : Prop := p
theorem stopIt {p : Prop} (h : Stop p) : p := h
theorem range_size (n : Nat) : Builtin.Range.rangeSize 0 (n : Int) 1 = (n : Int) := by
  rw [rangeSize_one]
  split <;> omega
theorem range_loop {prog : Program} {w : World} {A : Around} {E : Value → Shared → Prop} {s : Shared} {env : Env} {h₀ : Heap} {x : Str} {body : List Stmt} {Q : Flow → Shared → Prop} {r : Addr} {n : Nat} {t₀ u₀ v₀ : Tok} {m₀ : Str → Option Value} {nx₀ : List (Addr × Obj)}
    (stored : List Str) (J : Nat → List (Addr × Obj) → Prop) (hh : A.handled = none) (hr : IsRange s.heap r 0 (n : Int) 1 t₀ u₀ v₀) (hb : n ≤ 1000000) (F : Fr h₀ env.locals s.heap m₀) (N : News h₀ env.locals s.heap nx₀) (hj : J 0 nx₀)
    (turn : ∀ (i : Nat) (t : Tok) (u : Str → Option Value) nx h tk own, i < n → J i nx → OwnOff own (nx.map (·.1)) → Fr h₀ env.locals h (fun y => if y = x then some (.int (i : Int) t) else if stored.contains y then u y else m₀ y) → News h₀ env.locals h (nx ++ own) →
      wpAny (model prog w) A (execs body env) (InvPostG h₀ env.locals (fun m' nx' => (∀ z, z ≠ x → stored.contains z = false → m' z = m₀ z) ∧ J (i + 1) nx') own { s with heap := h, toks := tk } Q) E { s with heap := h, toks := tk })
    (done : ∀ (u : Str → Option Value) nx h tk, J n nx → Fr h₀ env.locals h (fun y => if y = x then u y else if stored.contains y then u y else m₀ y) → News h₀ env.locals h nx → Q .next { s with heap := h, toks := tk }) :
    wpAny (model prog w) A (pyIter (.ref r)) (fun it s₂ => LoopAtV prog w A h₀ env x body Q E it s₂) E s := by
  refine wpAny_pyIter_range hr (small_one (by decide) (by decide) (by omega) (by omega)) ?_
  have W : Walks prog w A s.heap.objs.size [s.heap.objs.size] [s.heap.objs.size] n (fun i v => i < n ∧ ∃ t, v = .int (0 + i * 1) t)
      (fun i h => IsRangeIter h s.heap.objs.size (0 + (i : Nat) * 1) ((n : Int) - (i : Nat)) 1) := (Walks.range hh _ 0 1 n).bound
  refine kdr_loop (fun i m nx => (∀ z, z ≠ x → stored.contains z = false → m z = m₀ z) ∧ J i nx) W (fun _ h => h) (fun _ h => h) ?_ ?_ ?_ ?_ (by show IsRangeIter _ _ _ _ _; rw [range_size]; simpa using Heap.get?_push_size _ rfl) (F.push _) (fun p hp => ⟨Heap.get?_push_of_some _ (N p hp).1, (N p hp).2⟩) ⟨fun _ _ _ => rfl, hj⟩ ?_ ?_
  · intro i h hi b hb
    rw [List.mem_singleton.mp hb]
    exact ⟨_, hi⟩
  · intro hm
    exact absurd F.ns.lt ((List.mem_singleton.mp hm) ▸ Nat.lt_irrefl _)
  · intro b hb
    rw [List.mem_singleton.mp hb]
    exact next_is_new F
  · intro p hp hI
    exact absurd (Heap.lt_size (N p hp).1) ((List.mem_singleton.mp hI) ▸ Nat.lt_irrefl _)
  · rintro i v m₁ nx h tk own hi ⟨_, t, rfl⟩ hoff ⟨hm, hJ⟩ F₁ N₁
    have e1 : (0 : Int) + (i : Int) * 1 = (i : Int) := by omega
    rw [e1] at F₁
    have e : (fun y => if y = x then some (Value.int (i : Int) t) else m₁ y) = (fun y => if y = x then some (Value.int (i : Int) t) else if stored.contains y then m₁ y else m₀ y) := by
      funext y
      by_cases h1 : y = x
      · simp [h1]
      · simp only [h1, if_false]
        cases h2 : stored.contains y
        · simp [hm y h1 h2]
        · simp
    rw [e] at F₁
    exact turn i t m₁ nx h tk own hi hJ hoff F₁ N₁
  · rintro m₁ nx h tk ⟨hm, hJ⟩ F₁ N₁
    have e : m₁ = (fun y => if y = x then m₁ y else if stored.contains y then m₁ y else m₀ y) := by
      funext y
      by_cases h1 : y = x
      · simp [h1]
      · simp only [h1, if_false]
        cases h2 : stored.contains y
        · simp [hm y h1 h2]
        · simp
    rw [e] at F₁
    exact done m₁ nx h tk hJ F₁ N₁
theorem datAll_snoc {news : List (Addr × Obj)} {v : Value} {d : W.Dat} : ∀ {vs : List Value} {ds : List W.Dat}, DatAll news vs ds → DatIn news v d → DatAll news (vs ++ [v]) (ds ++ [d])
  | _, _, .nil, h => .cons h .nil
  | _, _, .cons h' r, h => .cons h' (datAll_snoc r h)
def datT (l : List UInt8) : W.Dat := .tuple (l.map fun c => .int (c.toNat : Int))
theorem intVs_dat {news : List (Addr × Obj)} : ∀ {vs : List Value} {l : List UInt8}, IntVs vs l → DatAll news vs (l.map fun c => W.Dat.int (c.toNat : Int))
  | _, _, .nil => .nil
  | _, _, .cons r => .cons (.int _ _) (intVs_dat r)
def pix (kind : Str) (pal oct : List UInt8) (k : Nat) : List UInt8 := if kind = "palette" then (pal.drop (3 * (oct.getD k 0).toNat)).take 3 else (oct.drop (3 * k)).take 3
def rowD (kind : Str) (pal oct : List UInt8) (wd j : Nat) : List W.Dat := (List.range wd).map fun i => datT (pix kind pal oct (j * wd + i))
def rowsD (kind : Str) (pal oct : List UInt8) (wd ht : Nat) : List W.Dat := (List.range ht).map fun j => .list (rowD kind pal oct wd j)
theorem take_range_map {α : Type} (f : Nat → α) (n i : Nat) (h : i < n) : ((List.range n).map f).take (i + 1) = ((List.range n).map f).take i ++ [f i] := by
  have e : ((List.range n).map f)[i]? = some (f i) := by simp [h]
  simp [List.take_add_one, e]
theorem take_all_map {α : Type} (f : Nat → α) (n : Nat) : ((List.range n).map f).take n = (List.range n).map f := List.take_of_length_le (by simp)
def RowsJ (R : Addr) (bs : List (Addr × Obj)) (ds : List W.Dat) (i : Nat) (nx : List (Addr × Obj)) : Prop := ∃ vs n new, nx = (R, listOf vs.toArray n) :: (new ++ bs) ∧ (∀ p ∈ new, p.1 ≠ R ∧ ∀ q ∈ bs, p.1 ≠ q.1) ∧ DatAll new vs (ds.take i) ∧ vs.length = i
theorem RowsJ.zero {R : Addr} {bs : List (Addr × Obj)} {ds : List W.Dat} : RowsJ R bs ds 0 ((R, listOf #[] 0) :: bs) := by
  refine ⟨[], 0, [], rfl, fun p hp => ?_, ?_, rfl⟩
  · cases hp
  · rw [List.take_zero]; exact .nil
theorem rowsJ_end {h₀ h' : Heap} {L : Addr} {m' m₀ : Str → Option Value} {x : Str} {stored : List Str} {R : Addr} {bs new own big add : List (Addr × Obj)} {vs : List Value} {n i : Nat} {ds : List W.Dat} {d : W.Dat} {v : Value} {s₁ : Shared} {tk : Nat}
    (F : Fr h₀ L h' m') (N : News h₀ L h' big) (hm : ∀ z, z ≠ x → stored.contains z = false → m' z = m₀ z)
    (hoff : OwnOff own (((R, listOf vs.toArray n) :: (new ++ bs)).map (·.1)))
    (hnew : ∀ p ∈ new, p.1 ≠ R ∧ ∀ q ∈ bs, p.1 ≠ q.1) (hdat : DatAll new vs (ds.take i)) (hlen : vs.length = i)
    (hds : ds.take (i + 1) = ds.take i ++ [d]) (hd : DatIn (add ++ new) v d)
    (hR : (R, listOf (vs.toArray.push v) (n + 1)) ∈ big) (hadd : ∀ p ∈ add, p ∈ big) (hsub : ∀ p ∈ new ++ (bs ++ own), p ∈ big)
    (hfresh : ∀ p ∈ add, p.1 ≠ R ∧ (∀ q ∈ bs, p.1 ≠ q.1) ∧ ∀ q ∈ own, q.1 ≠ p.1) :
    InvEndG h₀ L (fun m' nx' => (∀ z, z ≠ x → stored.contains z = false → m' z = m₀ z) ∧ RowsJ R bs ds (i + 1) nx') own s₁ { s₁ with heap := h', toks := tk } := by
  have e : vs.toArray.push v = (vs ++ [v]).toArray := by simp
  rw [e] at hR
  refine InvEndG.intro F N (nx := (R, listOf (vs ++ [v]).toArray (n + 1)) :: ((add ++ new) ++ bs)) ⟨hm, vs ++ [v], n + 1, add ++ new, rfl, fun p hp => ?_, ?_, by simp [hlen]⟩ ?_ ?_ fun p hp => hsub p (List.mem_append.mpr (.inr (List.mem_append.mpr (.inr hp))))
  · rcases List.mem_append.mp hp with hp | hp
    · exact ⟨(hfresh p hp).1, (hfresh p hp).2.1⟩
    · exact hnew p hp
  · rw [hds]
    exact datAll_snoc (hdat.mono fun p hp => List.mem_append.mpr (.inr hp)) hd
  · intro p hp b hb
    obtain ⟨q, hq, rfl⟩ := List.mem_map.mp hb
    rcases List.mem_cons.mp hq with rfl | hq
    · exact hoff p hp _ (List.mem_map.mpr ⟨_, .head _, rfl⟩)
    · rcases List.mem_append.mp hq with hq | hq
      · rcases List.mem_append.mp hq with hq | hq
        · exact (hfresh q hq).2.2 p hp
        · exact hoff p hp _ (List.mem_map.mpr ⟨q, .tail _ (List.mem_append.mpr (.inl hq)), rfl⟩)
      · exact hoff p hp _ (List.mem_map.mpr ⟨q, .tail _ (List.mem_append.mpr (.inr hq)), rfl⟩)
  · intro p hp
    rcases List.mem_cons.mp hp with rfl | hp
    · exact hR
    · rcases List.mem_append.mp hp with hp | hp
      · rcases List.mem_append.mp hp with hp | hp
        · exact hadd p hp
        · exact hsub p (List.mem_append.mpr (.inl hp))
      · exact hsub p (List.mem_append.mpr (.inr (List.mem_append.mpr (.inl hp))))
/-- the ledger of a turn, the list first -/
theorem turn_news {h₀ h : Heap} {L R l dx : Addr} {new bs own : List (Addr × Obj)} {o i d : Obj} (N : News h₀ L h ((R, o) :: (new ++ bs) ++ own)) (hi : (l, i) ∈ bs) (hd : (dx, d) ∈ bs) : News h₀ L h ((R, o) :: (l, i) :: (dx, d) :: (new ++ (bs ++ own))) := fun p hp => by
  refine N p ?_
  rcases List.mem_cons.mp hp with rfl | hp
  · simp
  rcases List.mem_cons.mp hp with rfl | hp
  · simp [hi]
  rcases List.mem_cons.mp hp with rfl | hp
  · simp [hd]
  · rcases List.mem_append.mp hp with hp | hp
    · simp [hp]
    · rcases List.mem_append.mp hp with hp | hp
      · simp [hp]
      · simp [hp]
theorem turn_off {R l dx : Addr} {new bs own : List (Addr × Obj)} {o i d : Obj} (hoff : OwnOff own (((R, o) :: (new ++ bs)).map (·.1))) (hnew : ∀ p ∈ new, p.1 ≠ R ∧ ∀ q ∈ bs, p.1 ≠ q.1) (hb : ∀ p ∈ bs, p.1 ≠ R) (hi : (l, i) ∈ bs) (hd : (dx, d) ∈ bs) : ∀ p ∈ (l, i) :: (dx, d) :: (new ++ (bs ++ own)), p.1 ≠ R := fun p hp => by
  rcases List.mem_cons.mp hp with rfl | hp
  · exact hb _ hi
  rcases List.mem_cons.mp hp with rfl | hp
  · exact hb _ hd
  rcases List.mem_append.mp hp with hp | hp
  · exact (hnew p hp).1
  rcases List.mem_append.mp hp with hp | hp
  · exact hb p hp
  · exact hoff p hp _ (List.mem_map.mpr ⟨_, .head _, rfl⟩)
theorem allLt_to {d : Addr} : ∀ {l : List (Addr × Obj)}, AllLt d l → ∀ p ∈ l, p.1 < d
  | [], _, _, h => nomatch h
  | _ :: _, h, p, hp => by
    rcases List.mem_cons.mp hp with rfl | hp
    · exact h.1
    · exact allLt_to h.2 p hp
theorem turn_gen {h₀ h : Heap} {L R l dx : Addr} {tail : List (Addr × Obj)} {o i d : Obj} (N : News h₀ L h ((R, o) :: (l, i) :: (dx, d) :: tail)) (ho : ∀ p ∈ (l, i) :: (dx, d) :: tail, p.1 ≠ R) : ∃ rest, rest = tail ∧ News h₀ L h ((R, o) :: (l, i) :: (dx, d) :: rest) ∧ ∀ p ∈ (l, i) :: (dx, d) :: rest, p.1 ≠ R := ⟨tail, rfl, N, ho⟩
theorem at_lt {j i W H n : Nat} (hj : j < H) (hi : i < W) (h : (n : Int) = (W : Int) * (H : Int)) : (j : Int) * (W : Int) + (i : Int) < (n : Int) := by
  have h1 : (j + 1) * W ≤ H * W := Nat.mul_le_mul_right W hj
  have h2 : n = W * H := by exact_mod_cast h
  rw [Nat.mul_comm W H] at h2
  rw [Nat.succ_mul] at h1
  have h3 : (j : Int) * (W : Int) = ((j * W : Nat) : Int) := by simp
  rw [h3]
  omega
theorem outer_gen {h₀ h : Heap} {L R RW l dx : Addr} {rest new3 : List (Addr × Obj)} {o ow i d : Obj} (N : News h₀ L h ((RW, ow) :: (new3 ++ ((R, o) :: (l, i) :: (dx, d) :: rest)))) (hnew : ∀ p ∈ new3, p.1 ≠ RW ∧ ∀ q ∈ (R, o) :: (l, i) :: (dx, d) :: rest, p.1 ≠ q.1) (lt : R < RW ∧ l < RW ∧ dx < RW ∧ AllLt RW rest) (ho : ∀ p ∈ (l, i) :: (dx, d) :: rest, p.1 ≠ R) :
    ∃ rest3, rest3 = new3 ++ rest ∧ News h₀ L h ((R, o) :: (RW, ow) :: (l, i) :: (dx, d) :: rest3) ∧ ∀ p ∈ (RW, ow) :: (l, i) :: (dx, d) :: rest3, p.1 ≠ R := by
  refine ⟨_, rfl, fun p hp => N p ?_, fun p hp => ?_⟩
  · simp only [List.mem_cons, List.mem_append] at hp ⊢
    rcases hp with h | h | h | h | h | h <;> simp [h]
  · rcases List.mem_cons.mp hp with rfl | hp
    · exact (Nat.ne_of_lt lt.1).symm
    rcases List.mem_cons.mp hp with rfl | hp
    · exact ho _ (.head _)
    rcases List.mem_cons.mp hp with rfl | hp
    · exact ho _ (.tail _ (.head _))
    rcases List.mem_append.mp hp with hp | hp
    · exact (hnew p hp).2 _ (.head _)
    · exact ho p (.tail _ (.tail _ hp))
theorem iv_pal {vs : List Value} {pal oct : List UInt8} {j W i : Nat} (iv4 : IntVs vs (List.take ((3 * ((oct.getD ((j : Int) * (W : Int) + (i : Int)).toNat 0).toNat : Int) + 3).toNat - (3 * ((oct.getD ((j : Int) * (W : Int) + (i : Int)).toNat 0).toNat : Int)).toNat) (List.drop (3 * ((oct.getD ((j : Int) * (W : Int) + (i : Int)).toNat 0).toNat : Int)).toNat pal))) : IntVs vs (pix "palette" pal oct (j * W + i)) := by
  have e0 : ((j : Int) * (W : Int) + (i : Int)) = ((j * W + i : Nat) : Int) := by push_cast; rfl
  generalize hk : j * W + i = k at e0 ⊢
  rw [e0, Int.toNat_natCast] at iv4
  have e1 : (3 * ((oct.getD k 0).toNat : Int)).toNat = 3 * (oct.getD k 0).toNat := by omega
  have e2 : (3 * ((oct.getD k 0).toNat : Int) + 3).toNat - 3 * (oct.getD k 0).toNat = 3 := by omega
  rw [e1, e2] at iv4
  show IntVs _ (if _ then _ else _)
  rw [if_pos rfl]
  exact iv4
theorem iv_rgb {vs : List Value} {pal oct : List UInt8} {j W i : Nat} (iv4 : IntVs vs (List.take ((3 * ((j : Int) * (W : Int) + (i : Int)) + 3).toNat - (3 * ((j : Int) * (W : Int) + (i : Int))).toNat) (List.drop (3 * ((j : Int) * (W : Int) + (i : Int))).toNat oct))) : IntVs vs (pix "rgb" pal oct (j * W + i)) := by
  have e0 : ((j : Int) * (W : Int) + (i : Int)) = ((j * W + i : Nat) : Int) := by push_cast; rfl
  generalize hk : j * W + i = k at e0 ⊢
  rw [e0] at iv4
  have e1 : (3 * (k : Int)).toNat = 3 * k := by omega
  have e2 : (3 * (k : Int) + 3).toNat - 3 * k = 3 := by omega
  rw [e1, e2] at iv4
  show IntVs _ (if _ then _ else _)
  rw [if_neg (by decide)]
  exact iv4
theorem ne_of_allLt4 {a b c d : Addr} {i o q : Obj} {l : List (Addr × Obj)} (h : a < d ∧ b < d ∧ c < d ∧ AllLt d l) : ∀ p ∈ (a, i) :: (b, o) :: (c, q) :: l, p.1 ≠ d := fun p hp => Nat.ne_of_lt (allLt_to (l := (a, i) :: (b, o) :: (c, q) :: l) h p hp)
theorem ne_of_allLt3 {a b d : Addr} {i o : Obj} {l : List (Addr × Obj)} (h : a < d ∧ b < d ∧ AllLt d l) : ∀ p ∈ (a, i) :: (b, o) :: l, p.1 ≠ d := fun p hp => by
  rcases List.mem_cons.mp hp with rfl | hp
  · exact Nat.ne_of_lt h.1
  rcases List.mem_cons.mp hp with rfl | hp
  · exact Nat.ne_of_lt h.2.1
  · exact Nat.ne_of_lt (allLt_to h.2.2 p hp)
theorem words8 : True := by
  (k_with "exec For Name Call cons nil" => (first | ((k_here; (rename Fr _ _ _ _ => zzlF'); (with_unfolding_all refine' For_invVF zzlF' (by exact rfl) (by exact rfl) ?_; k_whole))) | fail "word"))
  (k_with "call type:range" => (first | ((k_here; (rename Fr _ _ _ _ => zzlF'); (rename News _ _ _ _ => zzlN'); (with_unfolding_all refine range1_rows zzlF' zzlN' ?_); clear zzlF' zzlN'; intro zzh' zztk' zzq1 zzq2 zzq3 zzR' zzF' zzN' zzK'; clear zzK')) | fail "word"))
  (k_with "call type:tuple" => (first | ((k_here; (with_reducible show wpAny _ _ (call (Value.type _) [Value.bytes (List.toArray _) _]) _ _ _); (rename Fr _ _ _ _ => zzlF'); (rename News _ _ _ _ => zzlN'); (with_unfolding_all refine b_tuple (by exact rfl) zzlF' zzlN' (by walk_at "m_size") ?_); clear zzlF' zzlN'; intro zzT' zzvs' zzh' zztk' zziv' zzF' zzN' zzl1; (try k_lt zzl1))) | fail "word"))
  (k_with "call builtin:list.append" => (first | ((k_here; (with_reducible show wpAny _ _ (call (Value.builtin _) [Value.ref _, _]) _ _ _); k_dflt (refine' append_K (by k_asm) (by k_asm) (by k_upd) ?_ (by (rw [List.size_toArray, sizeLine_eq]; omega)); k_whole); intro zzh' zzF' zzN'; (try k_sweep))) | fail "word"))
  (k_with "InvPostG" => (first | ((dsimp only [InvPostG]; refine stopIt ?_)) | fail "word"))
  (k_with "pyIter ref" => (first | ((k_here; (with_reducible show wpAny _ _ (pyIter (Value.ref _)) (fun it s₂ => LoopAtV _ _ _ _ _ _ _ _ _ it s₂) _ _); refine stopIt ?_)) | fail "word"))
  trivial
theorem rows_good {w : World} {p : Program} {loose : List Str} {mean : ExcName → Option Value} {mg mb : Str → Option Value} {dp un : Nat} {gd : Option (List Code)} {cn : Str} {cs : Scope} {a : Addr} {ccd : Value} {cl : List (Str × Addr)} {outer : List Env} {A₀ : Around} {base h₀ : Heap} {L : Addr} {m : Str → Option Value} {s : Shared} {Q E : Value → Shared → Prop}
    {l dx : Addr} {news : List (Addr × Obj)} {k1 k2 k3 k4 k5 t1 t2 t3 t4 t5 : Tok} {kind : Str} {x y : Int} {pal oct : List UInt8}
    (B : Below A₀ base outer h₀) (F : Fr h₀ L s.heap m) (X : (k0.heap_1 w.params).In h₀) (N : News h₀ L s.heap news) (T : Top p loose mean mg mb h₀) (hk : cs.kind = .function) (hdp : dp + 4 < recursionLimit) (hu : un + 32 < cLine)
    (mx : (l, instObj 64 dx) ∈ news) (md : (dx, thD w.params k1 k2 k3 k4 k5 (.str kind t1) (.int x t2) (.int y t3) (.bytes pal.toArray t4) (.bytes oct.toArray t5)) ∈ news) (hs : Sound kind x y pal oct) (hkd : kind ≠ "jpeg")
    (ret : ∀ R vs n new h' tk', Fr h₀ L h' m → News h₀ L h' ((R, listOf vs.toArray n) :: (new ++ news)) → DatAll new vs (rowsD kind pal oct x.toNat y.toNat) → Q (.ref R) { s with heap := h', toks := tk' }) :
    wpAny (model Challenge.rw_pf0230_01.row.prog w) (ktrTop dp un gd cn cs L a ccd cl outer) (call (.ref 124) [.ref l]) Q E s := by
  have N2 := news_two N mx md
  clear N
  have hS := hs
  obtain ⟨h1, h2, h3, h4, h0, ⟨rfl, h6⟩ | ⟨rfl, h5, h6⟩ | ⟨rfl, h5, h6⟩⟩ := hs
  · exact absurd rfl hkd
  · obtain ⟨W, rfl⟩ := Int.eq_ofNat_of_zero_le h1
    obtain ⟨H, rfl⟩ := Int.eq_ofNat_of_zero_le h3
    refine wpAny_call ?_
    k_dflt (walk_at "m_enter")
    k_steps
    unfold Stop
    rename Fr _ _ _ _ => F1
    rename News _ _ _ _ => N1
    rename IsRange _ _ _ _ _ _ _ _ => R1
    rename _ ∧ _ ∧ AllLt _ _ => lt1
    refine range_loop ["row", "x", "at", "first"] (RowsJ _ _ (rowsD "palette" pal oct W H)) rfl R1 (by omega) F1 N1 RowsJ.zero ?turn ?done
    case turn =>
      clear F1 N1 R1
      rintro j tj u nx hp1 tkp own hj ⟨vs, n, new, rfl, hnew, hdat, hlen⟩ hoff F1 N1
      have ho1 := turn_off hoff hnew (ne_of_allLt3 lt1) (.head _) (.tail _ (.head _))
      replace N1 := turn_news N1 (.head _) (.tail _ (.head _))
      obtain ⟨rest, hrest, N1, ho1⟩ := turn_gen N1 ho1
      k_steps
      unfold Stop
      rename Fr _ _ _ _ => F2
      rename News _ _ _ _ => N2'
      rename IsRange _ _ _ _ _ _ _ _ => R2
      rename _ ∧ _ ∧ _ ∧ AllLt _ _ => lt2
      refine range_loop ["at", "first"] (RowsJ _ _ (rowD "palette" pal oct W j)) rfl R2 (by omega) F2 N2' RowsJ.zero ?turn2 ?done2
      case turn2 =>
        clear F2 N2' R2
        rintro i ti u2 nx2 hp2 tkp2 own2 hi ⟨vs2, n2, new2, rfl, hnew2, hdat2, hlen2⟩ hoff2 F3 N3
        have ho2 := turn_off hoff2 hnew2 (ne_of_allLt4 lt2) (.tail _ (.head _)) (.tail _ (.tail _ (.head _)))
        replace N3 := turn_news N3 (.tail _ (.head _)) (.tail _ (.tail _ (.head _)))
        obtain ⟨rest2, hrest2, N3, ho2⟩ := turn_gen N3 ho2
        have hmul : (0 : Int) ≤ (j : Int) * (W : Int) := Int.mul_nonneg (by omega) (by omega)
        have hat := at_lt hj hi h5
        k_steps
        unfold Stop
        rename Fr _ _ _ _ => F4
        rename News _ _ _ _ => N4
        rename IntVs _ _ => iv4
        rename _ ∧ _ ∧ _ ∧ AllLt _ _ => lt4
        have iv5 := iv_pal (pal := pal) iv4
        have fr4 := allLt_to lt4.2.2.2
        refine rowsJ_end (add := [(_, tupObj _)]) F4 N4 ?hm hoff2 hnew2 hdat2 hlen2 (take_range_map _ W i hi) (DatIn.tuple (List.mem_append.mpr (.inl (.head _))) (intVs_dat iv5)) (.tail _ (.head _)) ?hadd ?hsub ?hfresh
        case hm =>
          intro z hz hc
          have a1 : z ≠ "at" := by rintro rfl; exact absurd hc (by decide)
          have a2 : z ≠ "first" := by rintro rfl; exact absurd hc (by decide)
          simp only [a1, a2, hz, hc, if_false, Bool.false_eq_true]
        case hadd =>
          intro p hp
          rw [List.mem_singleton.mp hp]
          exact .head _
        case hsub =>
          intro p hp
          rw [← hrest2] at hp
          exact .tail _ (.tail _ (.tail _ (.tail _ hp)))
        case hfresh =>
          intro p hp
          rw [List.mem_singleton.mp hp]
          refine ⟨(Nat.ne_of_lt lt4.1).symm, fun q hq => (Nat.ne_of_lt (fr4 q (by rw [hrest2]; exact List.mem_append.mpr (.inr (List.mem_append.mpr (.inl hq)))))).symm, fun q hq => Nat.ne_of_lt (fr4 q (by rw [hrest2]; exact List.mem_append.mpr (.inr (List.mem_append.mpr (.inr hq)))))⟩
      case done2 =>
        clear F2 N2' R2
        rintro u3 nx3 hp3 tkp3 ⟨vs3, n3, new3, rfl, hnew3, hdat3, hlen3⟩ F5 N5
        obtain ⟨rest3, hrest3, N6, ho6⟩ := outer_gen N5 hnew3 lt2 ho1
        clear N5
        k_steps
        unfold Stop
        rename Fr _ _ _ _ => F7
        rename News _ _ _ _ => N7
        rw [show (rowD "palette" pal oct W j).take W = rowD "palette" pal oct W j from take_all_map _ W] at hdat3
        have fr2 := allLt_to lt2.2.2.2
        refine rowsJ_end (add := (_, listOf vs3.toArray n3) :: new3) F7 N7 ?hm hoff hnew hdat hlen (take_range_map _ H j hj) (DatIn.list (List.mem_append.mpr (.inl (.head _))) (hdat3.mono fun p hp => List.mem_append.mpr (.inl (.tail _ hp)))) (.head _) ?hadd ?hsub ?hfresh
        case hm =>
          intro z hz hc
          have a1 : z ≠ "at" := by rintro rfl; exact absurd hc (by decide)
          have a2 : z ≠ "first" := by rintro rfl; exact absurd hc (by decide)
          have a3 : z ≠ "x" := by rintro rfl; exact absurd hc (by decide)
          have a4 : z ≠ "row" := by rintro rfl; exact absurd hc (by decide)
          have hc2 : (["at", "first"] : List Str).contains z = false := by simp [a1, a2]
          simp only [a1, a2, a3, a4, hz, hc, hc2, if_false, Bool.false_eq_true]
        case hadd =>
          intro p hp
          rcases List.mem_cons.mp hp with rfl | hp
          · exact .tail _ (.head _)
          · exact .tail _ (.tail _ (.tail _ (.tail _ (by rw [hrest3]; exact List.mem_append.mpr (.inl hp)))))
        case hsub =>
          intro p hp
          rw [← hrest] at hp
          exact .tail _ (.tail _ (.tail _ (.tail _ (by rw [hrest3]; exact List.mem_append.mpr (.inr hp)))))
        case hfresh =>
          intro p hp
          rcases List.mem_cons.mp hp with rfl | hp
          · exact ⟨(Nat.ne_of_lt lt2.1).symm, fun q hq => (Nat.ne_of_lt (fr2 q (by rw [hrest]; exact List.mem_append.mpr (.inr (List.mem_append.mpr (.inl hq)))))).symm, fun q hq => Nat.ne_of_lt (fr2 q (by rw [hrest]; exact List.mem_append.mpr (.inr (List.mem_append.mpr (.inr hq)))))⟩
          · have z := (hnew3 p hp).2
            exact ⟨z _ (.head _), fun q hq => z q (.tail _ (.tail _ (.tail _ (by rw [hrest]; exact List.mem_append.mpr (.inr (List.mem_append.mpr (.inl hq))))))), fun q hq => (z q (.tail _ (.tail _ (.tail _ (by rw [hrest]; exact List.mem_append.mpr (.inr (List.mem_append.mpr (.inr hq)))))))).symm⟩
    case done =>
      clear F1 N1 R1
      rintro u nx hp1 tkp ⟨vs, n, new, rfl, hnew, hdat, hlen⟩ F8 N8
      k_steps
      rw [show (rowsD "palette" pal oct W H).take H = rowsD "palette" pal oct W H from take_all_map _ H] at hdat
      rename News _ _ _ _ => N9
      exact ret _ vs n new _ _ (by k_asm) (fun p hp => N9 p (by
        rcases List.mem_cons.mp hp with rfl | hp
        · exact .head _
        · rcases List.mem_append.mp hp with hp | hp
          · exact .tail _ (List.mem_append.mpr (.inl hp))
          · exact .tail _ (List.mem_append.mpr (.inr (.tail _ (.tail _ hp)))))) hdat
  · obtain ⟨W, rfl⟩ := Int.eq_ofNat_of_zero_le h1
    obtain ⟨H, rfl⟩ := Int.eq_ofNat_of_zero_le h3
    refine wpAny_call ?_
    k_dflt (walk_at "m_enter")
    k_steps
    unfold Stop
    rename Fr _ _ _ _ => F1
    rename News _ _ _ _ => N1
    rename IsRange _ _ _ _ _ _ _ _ => R1
    rename _ ∧ _ ∧ AllLt _ _ => lt1
    refine range_loop ["row", "x", "at", "first"] (RowsJ _ _ (rowsD "rgb" pal oct W H)) rfl R1 (by omega) F1 N1 RowsJ.zero ?turn ?done
    case turn =>
      clear F1 N1 R1
      rintro j tj u nx hp1 tkp own hj ⟨vs, n, new, rfl, hnew, hdat, hlen⟩ hoff F1 N1
      have ho1 := turn_off hoff hnew (ne_of_allLt3 lt1) (.head _) (.tail _ (.head _))
      replace N1 := turn_news N1 (.head _) (.tail _ (.head _))
      obtain ⟨rest, hrest, N1, ho1⟩ := turn_gen N1 ho1
      k_steps
      unfold Stop
      rename Fr _ _ _ _ => F2
      rename News _ _ _ _ => N2'
      rename IsRange _ _ _ _ _ _ _ _ => R2
      rename _ ∧ _ ∧ _ ∧ AllLt _ _ => lt2
      refine range_loop ["at", "first"] (RowsJ _ _ (rowD "rgb" pal oct W j)) rfl R2 (by omega) F2 N2' RowsJ.zero ?turn2 ?done2
      case turn2 =>
        clear F2 N2' R2
        rintro i ti u2 nx2 hp2 tkp2 own2 hi ⟨vs2, n2, new2, rfl, hnew2, hdat2, hlen2⟩ hoff2 F3 N3
        have ho2 := turn_off hoff2 hnew2 (ne_of_allLt4 lt2) (.tail _ (.head _)) (.tail _ (.tail _ (.head _)))
        replace N3 := turn_news N3 (.tail _ (.head _)) (.tail _ (.tail _ (.head _)))
        obtain ⟨rest2, hrest2, N3, ho2⟩ := turn_gen N3 ho2
        have hmul : (0 : Int) ≤ (j : Int) * (W : Int) := Int.mul_nonneg (by omega) (by omega)
        k_steps
        unfold Stop
        rename Fr _ _ _ _ => F4
        rename News _ _ _ _ => N4
        rename IntVs _ _ => iv4
        rename _ ∧ _ ∧ _ ∧ AllLt _ _ => lt4
        have iv5 := iv_rgb (pal := pal) iv4
        have fr4 := allLt_to lt4.2.2.2
        refine rowsJ_end (add := [(_, tupObj _)]) F4 N4 ?hm hoff2 hnew2 hdat2 hlen2 (take_range_map _ W i hi) (DatIn.tuple (List.mem_append.mpr (.inl (.head _))) (intVs_dat iv5)) (.tail _ (.head _)) ?hadd ?hsub ?hfresh
        case hm =>
          intro z hz hc
          have a1 : z ≠ "at" := by rintro rfl; exact absurd hc (by decide)
          have a2 : z ≠ "first" := by rintro rfl; exact absurd hc (by decide)
          simp only [a1, a2, hz, hc, if_false, Bool.false_eq_true]
        case hadd =>
          intro p hp
          rw [List.mem_singleton.mp hp]
          exact .head _
        case hsub =>
          intro p hp
          rw [← hrest2] at hp
          exact .tail _ (.tail _ (.tail _ (.tail _ hp)))
        case hfresh =>
          intro p hp
          rw [List.mem_singleton.mp hp]
          refine ⟨(Nat.ne_of_lt lt4.1).symm, fun q hq => (Nat.ne_of_lt (fr4 q (by rw [hrest2]; exact List.mem_append.mpr (.inr (List.mem_append.mpr (.inl hq)))))).symm, fun q hq => Nat.ne_of_lt (fr4 q (by rw [hrest2]; exact List.mem_append.mpr (.inr (List.mem_append.mpr (.inr hq)))))⟩
      case done2 =>
        clear F2 N2' R2
        rintro u3 nx3 hp3 tkp3 ⟨vs3, n3, new3, rfl, hnew3, hdat3, hlen3⟩ F5 N5
        obtain ⟨rest3, hrest3, N6, ho6⟩ := outer_gen N5 hnew3 lt2 ho1
        clear N5
        k_steps
        unfold Stop
        rename Fr _ _ _ _ => F7
        rename News _ _ _ _ => N7
        rw [show (rowD "rgb" pal oct W j).take W = rowD "rgb" pal oct W j from take_all_map _ W] at hdat3
        have fr2 := allLt_to lt2.2.2.2
        refine rowsJ_end (add := (_, listOf vs3.toArray n3) :: new3) F7 N7 ?hm hoff hnew hdat hlen (take_range_map _ H j hj) (DatIn.list (List.mem_append.mpr (.inl (.head _))) (hdat3.mono fun p hp => List.mem_append.mpr (.inl (.tail _ hp)))) (.head _) ?hadd ?hsub ?hfresh
        case hm =>
          intro z hz hc
          have a1 : z ≠ "at" := by rintro rfl; exact absurd hc (by decide)
          have a2 : z ≠ "first" := by rintro rfl; exact absurd hc (by decide)
          have a3 : z ≠ "x" := by rintro rfl; exact absurd hc (by decide)
          have a4 : z ≠ "row" := by rintro rfl; exact absurd hc (by decide)
          have hc2 : (["at", "first"] : List Str).contains z = false := by simp [a1, a2]
          simp only [a1, a2, a3, a4, hz, hc, hc2, if_false, Bool.false_eq_true]
        case hadd =>
          intro p hp
          rcases List.mem_cons.mp hp with rfl | hp
          · exact .tail _ (.head _)
          · exact .tail _ (.tail _ (.tail _ (.tail _ (by rw [hrest3]; exact List.mem_append.mpr (.inl hp)))))
        case hsub =>
          intro p hp
          rw [← hrest] at hp
          exact .tail _ (.tail _ (.tail _ (.tail _ (by rw [hrest3]; exact List.mem_append.mpr (.inr hp)))))
        case hfresh =>
          intro p hp
          rcases List.mem_cons.mp hp with rfl | hp
          · exact ⟨(Nat.ne_of_lt lt2.1).symm, fun q hq => (Nat.ne_of_lt (fr2 q (by rw [hrest]; exact List.mem_append.mpr (.inr (List.mem_append.mpr (.inl hq)))))).symm, fun q hq => Nat.ne_of_lt (fr2 q (by rw [hrest]; exact List.mem_append.mpr (.inr (List.mem_append.mpr (.inr hq)))))⟩
          · have z := (hnew3 p hp).2
            exact ⟨z _ (.head _), fun q hq => z q (.tail _ (.tail _ (.tail _ (by rw [hrest]; exact List.mem_append.mpr (.inr (List.mem_append.mpr (.inl hq))))))), fun q hq => (z q (.tail _ (.tail _ (.tail _ (by rw [hrest]; exact List.mem_append.mpr (.inr (List.mem_append.mpr (.inr hq)))))))).symm⟩
    case done =>
      clear F1 N1 R1
      rintro u nx hp1 tkp ⟨vs, n, new, rfl, hnew, hdat, hlen⟩ F8 N8
      k_steps
      rw [show (rowsD "rgb" pal oct W H).take H = rowsD "rgb" pal oct W H from take_all_map _ H] at hdat
      rename News _ _ _ _ => N9
      exact ret _ vs n new _ _ (by k_asm) (fun p hp => N9 p (by
        rcases List.mem_cons.mp hp with rfl | hp
        · exact .head _
        · rcases List.mem_append.mp hp with hp | hp
          · exact .tail _ (List.mem_append.mpr (.inl hp))
          · exact .tail _ (List.mem_append.mpr (.inr (.tail _ (.tail _ hp)))))) hdat
theorem fetch_spec {w : World} {p : Program} {loose : List Str} {mean : ExcName → Option Value} {mg mb : Str → Option Value} {dp un : Nat} {gd : Option (List Code)} {cn : Str} {cs : Scope} {a : Addr} {ccd : Value} {cl : List (Str × Addr)} {outer : List Env} {A₀ : Around} {base h₀ : Heap} {L : Addr} {m : Str → Option Value} {s : Shared} {Q E : Value → Shared → Prop}
    {l : Addr} {rest : List (Addr × Obj)} {x y top : Int} {t1 t2 t3 : Tok} {c : Nat}
    (B : Below A₀ base outer h₀) (F : Fr h₀ L s.heap m) (X : (k0.heap_1 w.params).In h₀) (N : News h₀ L s.heap ((l, listOf #[.int x t1, .int y t2] c) :: rest)) (T : Top p loose mean mg mb h₀) (hk : cs.kind = .function) (hdp : dp + 1 < recursionLimit) (hu : un + 8 < cLine)
    (hl : ∀ p ∈ rest, p.1 ≠ l) (h4 : 0 < top) (h5 : top ≤ 256)
    (ret : ∀ v x' y' t t1' t2' h' tk', 0 ≤ v → v < top → Fr h₀ L h' m → News h₀ L h' ((l, listOf #[.int x' t1', .int y' t2'] c) :: rest) → Q (.int v t) { s with heap := h', toks := tk' }) :
    wpAny (model Challenge.rw_pf0230_01.row.prog w) (ktrTop dp un gd cn cs L a ccd cl outer) (call (.ref 138) [.ref l, .int top t3]) Q E s := by
  refine wpAny_call ?_
  k_dflt (walk_at "m_enter")
  k_steps
  all_goals trace_state
  all_goals exact ret _ _ _ _ _ _ _ _ (Int.fmod_nonneg_of_pos _ h4) (Int.fmod_lt_of_pos _ h4) (by k_asm) (by k_asm)
theorem fetch_K {w : World} {p : Program} {loose : List Str} {mean : ExcName → Option Value} {mg mb : Str → Option Value} {dp un : Nat} {gd : Option (List Code)} {cn : Str} {cs : Scope} {a : Addr} {ccd : Value} {cl : List (Str × Addr)} {outer : List Env} {A₀ : Around} {base h₀ : Heap} {L : Addr} {m : Str → Option Value} {s : Shared} {Q E : Value → Shared → Prop}
    {l : Addr} {news : List (Addr × Obj)} {g : Obj → List (Addr × Obj)} {x y top : Int} {t1 t2 t3 : Tok} {c : Nat}
    (B : Below A₀ base outer h₀) (F : Fr h₀ L s.heap m) (X : (k0.heap_1 w.params).In h₀) (N : News h₀ L s.heap news) (T : Top p loose mean mg mb h₀) (hk : cs.kind = .function) (hdp : dp + 1 < recursionLimit) (hu : un + 8 < cLine)
    (U : UpdF l (listOf #[.int x t1, .int y t2] c) news g) (h4 : 0 < top) (h5 : top ≤ 256)
    (ret : ∀ v x' y' t t1' t2' h' tk', 0 ≤ v → v < top → Fr h₀ L h' m → News h₀ L h' (g (listOf #[.int x' t1', .int y' t2'] c)) → Q (.int v t) { s with heap := h', toks := tk' }) :
    wpAny (model Challenge.rw_pf0230_01.row.prog w) (ktrTop dp un gd cn cs L a ccd cl outer) (call (.ref 138) [.ref l, .int top t3]) Q E s := by
  obtain ⟨pre, post, rfl, hg, a1, a2⟩ := U.split
  refine fetch_spec (rest := pre ++ post) (x := x) (y := y) (t1 := t1) (t2 := t2) (c := c) B F X (fun p hp => N p ?_) T hk hdp hu (fun p hp => ?_) h4 h5 fun v x' y' t t1' t2' h' tk' v0 v1 F' N' => ret v x' y' t t1' t2' h' tk' v0 v1 F' ?_
  · rcases List.mem_cons.mp hp with rfl | hp
    · exact List.mem_append.mpr (.inr (.head _))
    · rcases List.mem_append.mp hp with hp | hp
      · exact List.mem_append.mpr (.inl hp)
      · exact List.mem_append.mpr (.inr (.tail _ hp))
  · rcases List.mem_append.mp hp with hp | hp
    · exact a1 p hp
    · exact a2 p hp
  · rw [hg]
    intro p hp
    refine N' p ?_
    rcases List.mem_append.mp hp with hp | hp
    · exact .tail _ (List.mem_append.mpr (.inl hp))
    · rcases List.mem_cons.mp hp with rfl | hp
      · exact .head _
      · exact .tail _ (List.mem_append.mpr (.inr hp))
theorem shelf_spec {w : World} {p : Program} {loose : List Str} {mean : ExcName → Option Value} {mg mb : Str → Option Value} {dp un : Nat} {gd : Option (List Code)} {cn : Str} {cs : Scope} {a : Addr} {ccd : Value} {cl : List (Str × Addr)} {outer : List Env} {A₀ : Around} {base h₀ : Heap} {L : Addr} {m : Str → Option Value} {s : Shared} {Q E : Value → Shared → Prop}
    {news : List (Addr × Obj)} {sl : Addr} {vs : List Value} {ns : List Int} {turn : Int} {t : Tok}
    (B : Below A₀ base outer h₀) (F : Fr h₀ L s.heap m) (X : (k0.heap_1 w.params).In h₀) (N : News h₀ L s.heap news) (T : Top p loose mean mg mb h₀) (hk : cs.kind = .function) (hdp : dp + 1 < recursionLimit) (hu : un + 8 < cLine)
    (hl : base.IsList sl vs.toArray) (hi : IntsAre vs ns) (hn : ns.length ≤ 63) (ht0 : 0 ≤ turn) (ht : turn ≤ 1)
    (ret : ∀ l x y t1 t2 h' tk', Fr h₀ L h' m → News h₀ L h' ((l, listOf #[.int x t1, .int y t2] 0) :: news) → (∀ p ∈ news, p.1 < l) → Q (.ref l) { s with heap := h', toks := tk' }) :
    wpAny (model Challenge.rw_pf0230_01.row.prog w) (ktrTop dp un gd cn cs L a ccd cl outer) (call (.ref 131) [.ref sl, .int turn t]) Q E s := by
  refine wpAny_call ?_
  k_dflt (walk_at "m_enter")
  k_steps
  all_goals trace_state
  all_goals exact ret _ _ _ _ _ _ _ (by k_asm) (by k_asm) (by assumption)
theorem words9 : True := by
  (k_with "call ref" => (first | ((k_here; (with_reducible show wpAny _ _ (call (Value.ref 138) _) _ _ _); k_dflt (refine' fetch_K (by k_asm) (by k_asm) (by k_asm) (by k_asm) (by k_asm) (by first | exact rfl | assumption) (by walk_at "m_room") (by walk_at "m_room") (by k_updF) (by omega) (by omega) ?_; k_whole; intro zzv' zzx' zzy' zzt' zzt1' zzt2' zzh' zztk' zzv0 zzv1 zzF' zzN'; (try dsimp only at zzN')))) | fail "word"))
  (k_with "m_fresh" => (first | (first | assumption | exact fresh_drop (by assumption) | exact fresh_drop (fresh_drop (by assumption)) | exact fresh_drop (fresh_drop (fresh_drop (by assumption))) | exact fresh_drop (fresh_drop (fresh_drop (fresh_drop (by assumption)))) | exact allLt_to (by assumption) | (rename (_ ∧ AllLt _ _) => zzq; exact allLt_to zzq.2) | (rename (_ ∧ _ ∧ AllLt _ _) => zzq; exact allLt_to zzq.2.2) | (rename (_ ∧ _ ∧ _ ∧ AllLt _ _) => zzq; exact allLt_to zzq.2.2.2) | (rename (_ ∧ _ ∧ _ ∧ _ ∧ AllLt _ _) => zzq; exact allLt_to zzq.2.2.2.2)) | fail "word"))
  trivial
theorem thing_spec {w : World} {p : Program} {loose : List Str} {mean : ExcName → Option Value} {mg mb : Str → Option Value} {dp un : Nat} {gd : Option (List Code)} {cn : Str} {cs : Scope} {a : Addr} {ccd : Value} {cl : List (Str × Addr)} {outer : List Env} {A₀ : Around} {base h₀ : Heap} {L : Addr} {m : Str → Option Value} {s : Shared} {Q E : Value → Shared → Prop}
    {news : List (Addr × Obj)} {r : Addr} {v1 v2 v3 v4 v5 : Value}
    (B : Below A₀ base outer h₀) (F : Fr h₀ L s.heap m) (X : (k0.heap_1 w.params).In h₀) (N : News h₀ L s.heap news) (T : Top p loose mean mg mb h₀) (hk : cs.kind = .function) (hdp : dp + 4 < recursionLimit) (hu : un + 32 < cLine)
    (mr : (r, tupObj [v1, v2, v3, v4, v5]) ∈ news)
    (ret : ∀ x dx k1 k2 k3 k4 k5 h' tk', Fr h₀ L h' m → News h₀ L h' ((x, instObj 64 dx) :: (dx, thD w.params k1 k2 k3 k4 k5 v1 v2 v3 v4 v5) :: news) → (∀ p ∈ news, p.1 < dx) → dx < x → Q (.ref x) { s with heap := h', toks := tk' }) :
    wpAny (model Challenge.rw_pf0230_01.row.prog w) (ktrTop dp un gd cn cs L a ccd cl outer) (call (.ref 155) [.ref r]) Q E s := by
  have N2 : News h₀ L s.heap ((r, tupObj [v1, v2, v3, v4, v5]) :: news) := fun p hp => by
    rcases List.mem_cons.mp hp with rfl | hp
    · exact N _ mr
    · exact N _ hp
  clear N
  refine wpAny_call ?_
  k_dflt (walk_at "m_enter")
  k_steps
  all_goals trace_state
  all_goals exact ret _ _ _ _ _ _ _ _ _ (by k_asm) (by walk_at "m_in2") (by walk_at "m_fresh") (by assumption)
theorem row_none {w : World} {p : Program} {loose : List Str} {mean : ExcName → Option Value} {mg mb : Str → Option Value} {dp un : Nat} {gd : Option (List Code)} {cn : Str} {cs : Scope} {a : Addr} {ccd : Value} {cl : List (Str × Addr)} {outer : List Env} {A₀ : Around} {base h₀ : Heap} {L : Addr} {m : Str → Option Value} {s : Shared} {Q E : Value → Shared → Prop}
    {news : List (Addr × Obj)}
    (B : Below A₀ base outer h₀) (F : Fr h₀ L s.heap m) (X : (k0.heap_1 w.params).In h₀) (N : News h₀ L s.heap news) (T : Top p loose mean mg mb h₀) (hk : cs.kind = .function) (hdp : dp + 1 < recursionLimit) (hu : un + 8 < cLine)
    (ret : ∀ h' tk', Fr h₀ L h' m → News h₀ L h' news → Q .none { s with heap := h', toks := tk' }) :
    wpAny (model Challenge.rw_pf0230_01.row.prog w) (ktrTop dp un gd cn cs L a ccd cl outer) (call (.ref 162) [.none]) Q E s := by
  refine wpAny_call ?_
  k_dflt (walk_at "m_enter")
  k_steps
  all_goals trace_state
  all_goals exact ret _ _ (by k_asm) (by k_asm)
theorem row_spec {w : World} {p : Program} {loose : List Str} {mean : ExcName → Option Value} {mg mb : Str → Option Value} {dp un : Nat} {gd : Option (List Code)} {cn : Str} {cs : Scope} {a : Addr} {ccd : Value} {cl : List (Str × Addr)} {outer : List Env} {A₀ : Around} {base h₀ : Heap} {L : Addr} {m : Str → Option Value} {s : Shared} {Q E : Value → Shared → Prop}
    {news : List (Addr × Obj)} {l dx : Addr} {k1 k2 k3 k4 k5 t1 t2 t3 t4 t5 : Tok} {kind : Str} {x y : Int} {pal oct : List UInt8}
    (B : Below A₀ base outer h₀) (F : Fr h₀ L s.heap m) (X : (k0.heap_1 w.params).In h₀) (N : News h₀ L s.heap news) (T : Top p loose mean mg mb h₀) (hk : cs.kind = .function) (hdp : dp + 1 < recursionLimit) (hu : un + 8 < cLine)
    (mx : (l, instObj 64 dx) ∈ news) (md : (dx, thD w.params k1 k2 k3 k4 k5 (.str kind t1) (.int x t2) (.int y t3) (.bytes pal.toArray t4) (.bytes oct.toArray t5)) ∈ news)
    (ret : ∀ r h' tk', Fr h₀ L h' m → News h₀ L h' ((r, tupObj [.str kind t1, .int x t2, .int y t3, .bytes pal.toArray t4, .bytes oct.toArray t5]) :: news) → (∀ p ∈ news, p.1 < r) → Q (.ref r) { s with heap := h', toks := tk' }) :
    wpAny (model Challenge.rw_pf0230_01.row.prog w) (ktrTop dp un gd cn cs L a ccd cl outer) (call (.ref 162) [.ref l]) Q E s := by
  have N2 := news_two N mx md
  clear N
  refine wpAny_call ?_
  k_dflt (walk_at "m_enter")
  k_steps
  all_goals trace_state
  all_goals exact ret _ _ _ (by k_asm) (fun p hp => by
    rename News _ _ _ _ => nZ
    exact nZ p (by rcases List.mem_cons.mp hp with rfl | hp
                   · exact .head _
                   · exact .tail _ (.tail _ (.tail _ hp)))) (by walk_at "m_fresh")
section
open PySem PySem.W PyProof.Rows PySem.Calls PySem.Spec PySem.Builtin
theorem slot_bytes_join : Slot "bytes" "join" "bytes.join" :=
  .of (owner := "bytes") (n := "join") (by rw [typeLookup_type, builtinLookup_eq_fast]; kernel_rfl) (by decide +kernel) (by decide +kernel) (by decide +kernel)
    (by first | exact .inl (by decide +kernel) | exact .inr (by decide +kernel)) (by rw [isSubtype_type]; kernel_rfl)
theorem type_bytes_join : typeOf (.builtin "bytes.join") = pure (.type "method_descriptor") := by show builtinType _ = _; rw [builtinType_eq_fast]; kernel_rfl
theorem entry_bytes_join : entryFor table "bytes.join" = some Builtin.«bytes.join» := entryFor_of_tree (by kernel_rfl)
theorem args_bytes_join_2 (a b : Value) : argsOk "bytes.join" ⟨[a, b], []⟩ := by
  unfold argsOk; rw [signature?_of (id := "bytes.join") (n := ['n', 'i', 'o', 'j']) (o := ['s', 'e', 't', 'y', 'b']) (by kernel_rfl) FB.owner_bytes]; kernel_rfl
theorem method_join {M : Model} {A : Around} {E : Value → Shared → Prop} {s : Shared} {b : Array UInt8} {t : Tok} {pl : Sem Bool} {Q : Value × List Value → Shared → Prop} (h : Q (.builtin "bytes.join", [.bytes b t]) s) : wpAny M A (getMethod (.bytes b t) "join" pl) Q E s := by
  with_reducible exact KBd.method_of (.bytes b t) (typeIs_bytes _ _ _) slot_bytes_join type_bytes_join KBd.noRef h
inductive BytesVs : List Value → List (List UInt8) → Prop
  | nil : BytesVs [] []
  | cons {l : List UInt8} {t : Tok} {vs : List Value} {ls : List (List UInt8)} : BytesVs vs ls → BytesVs (.bytes l.toArray t :: vs) (l :: ls)
theorem BytesVs.length : ∀ {vs : List Value} {ls : List (List UInt8)}, BytesVs vs ls → vs.length = ls.length
  | _, _, .nil => rfl
  | _, _, .cons h => by simp [h.length]
theorem BytesVs.at : ∀ {vs : List Value} {ls : List (List UInt8)}, BytesVs vs ls → ∀ (i : Nat) (l : List UInt8), ls[i]? = some l → ∃ t, vs[i]? = some (Value.bytes l.toArray t)
  | _, _, .nil, i, l, h => by simp at h
  | _, _, .cons (t := t) h, 0, l, e => by
    have e' := Option.some.inj e
    exact ⟨t, by rw [← e']; rfl⟩
  | _, _, .cons h, i + 1, l, e => h.at i l e
theorem BytesVs.snoc {l : List UInt8} {t : Tok} : ∀ {vs : List Value} {ls : List (List UInt8)}, BytesVs vs ls → BytesVs (vs ++ [Value.bytes l.toArray t]) (ls ++ [l])
  | _, _, .nil => .cons .nil
  | _, _, .cons h => .cons h.snoc
theorem take_eq {id : String} {b : Array UInt8} {t : Tok} : Bytes.takeBufferQuiet? id (.bytes b t) 0 = pure (some (b, none)) := by
  unfold Bytes.takeBufferQuiet? Bytes.takeBuffer?
  rw [KBy.special_eq KBy.look_buffer, KBy.own_buffer]
  have e : ∀ f, Bytes.buffer? id (.bytes b t) f = Bytes.buffer? id (.bytes b t) f := fun _ => rfl
  simp only [pure_bind]
  rw [show ((0 : Int) == Bytes.fullReadOnly) = false from by decide +kernel]
  rw [KBy.buffer_eq]
  kernel_rfl

theorem joined_flat : ∀ (ls : List (List UInt8)), Bytes.joined #[] (ls.map List.toArray) = ls.flatten.toArray := by
  have key : ∀ (ls : List (List UInt8)) (k : Nat) (acc : Array UInt8), ((ls.map List.toArray).zipIdx k).foldl (fun out (p : Array UInt8 × Nat) => (if p.2 > 0 then out ++ #[] else out) ++ p.1) acc = acc ++ ls.flatten.toArray := by
    intro ls
    induction ls with
    | nil => intro k acc; simp
    | cons l ls ih =>
      intro k acc
      simp only [List.map_cons, List.zipIdx_cons, List.foldl_cons]
      rw [ih]
      split <;> simp [Array.append_assoc]
  intro ls
  unfold Bytes.joined
  have := key ls 0 #[]
  simpa using this
section
variable {prog : Program} {w : World} {A : Around} {E : Value → Shared → Prop} {s : Shared} {l : Addr} {o : Obj} {vs : List Value} {ls : List (List UInt8)} {n : Nat} {t : Tok}
theorem joinLetGo_any {M : Model} {A : Around} {keep : List Value} {Q : Unit → Shared → Prop} : ∀ (taken : List (Value × Option Value)) (_ : ∀ p ∈ taken, p.2 = none) (_ : Q () s), wpAny M A (Bytes.joinLetGo taken keep) Q E s
  | [], _, h => wpAny_pure h
  | (x, w) :: rest, hw, h => by
    have e : w = none := hw (x, w) (.head _)
    subst e
    unfold Bytes.joinLetGo
    refine wpAny_bind (wpAny_letGo ?_)
    exact joinLetGo_any rest (fun p hp => hw p (.tail _ hp)) h
theorem meets_join (hv : BytesVs vs ls) (h2 : 2 ≤ ls.length) (hsz : ls.flatten.length ≤ 16777216) : Meets (Builtin.«bytes.join» ⟨[.bytes #[] t, .ref l], []⟩) (fun _ R s => s.heap.get? l = some o ∧ o.cls = .type "list" ∧ o.data = .seq vs.toArray n ∧
    ∀ t' k, R (.ok (.ret (.bytes ls.flatten.toArray t'))) { s with toks := k }) := .of_wp fun prog w A R s hS => by
  obtain ⟨ho, hc, hd, h⟩ := hS
  have hlen : vs.toArray.size = ls.length := by rw [List.size_toArray, hv.length]
  show wpAny _ _ (Bytes.joinM .bytes ⟨[.bytes #[] t, .ref l], []⟩) _ _ s
  unfold Bytes.joinM
  refine wpAny_bind (wpAny_of_eq (a := (Value.bytes #[] t, Value.ref l)) rfl ?_)
  dsimp only
  rw [if_pos (show (Bytes.Kind.bytes == Bytes.Kind.bytes) = true from rfl)]
  unfold Bytes.joinItems
  refine wpAny_bind (wpAny_bind (wpAny_typeOf (T := "list") (v := .ref l) ⟨o, ho, hc⟩ ?_))
  rw [if_pos (show (Value.type "list" == Value.type "list" || Value.type "list" == Value.type "tuple") = true from by decide)]
  refine wpAny_pure ?_
  refine wpAny_bind (wpAny_seqItems ho hd ?_)
  dsimp only
  rw [if_pos (show (Bytes.Kind.bytes == Bytes.Kind.bytes) = true from rfl)]
  delta PySem.Builtin.Bytes.joinM.match_1
  dsimp only
  rw [dif_neg (show ¬ vs.toArray.size = 1 by rw [hlen]; omega)]
  refine wpAny_bind ?_
  rw [Std.Legacy.Range.forIn_eq_forIn_range']
  refine wpAny_forIn_list _ (fun (rest : List Nat) (b : Array (Array UInt8) × List (Value × Option Value)) s' => s' = s ∧ ∃ i, rest = List.range' i (ls.length - i) ∧ i ≤ ls.length ∧ b.1 = ((ls.take i).map List.toArray).toArray ∧ ∀ p ∈ b.2, p.2 = none ∧ p.1.onHeap = false) _ ?turn ?fin _ _ ⟨rfl, 0, ?_, Nat.zero_le _, rfl, fun _ h => nomatch h⟩
  case turn =>
    rintro x rest ⟨parts, taken⟩ s' ⟨rfl, i, hr, hi, hp, ht⟩
    dsimp only at hp ht ⊢
    have hlt : i < ls.length := by
      rcases Nat.lt_or_ge i ls.length with q | q
      · exact q
      · rw [show ls.length - i = 0 by omega] at hr; simp at hr
    obtain ⟨k, hk⟩ : ∃ k, ls.length - i = k + 1 := ⟨ls.length - i - 1, by omega⟩
    rw [hk, List.range'_succ] at hr
    obtain ⟨rfl, rfl⟩ := List.cons.inj hr
    refine wpAny_bind (wpAny_seqItems ho hd ?_)
    dsimp only
    have htb : (Bytes.Kind.bytes == Bytes.Kind.bytearray || taken.any fun x => x.fst.onHeap) = false := by
      rw [Bool.or_eq_false_iff]
      exact ⟨rfl, List.any_eq_false.mpr fun p hp => by rw [(ht p hp).2]; decide⟩
    rw [if_neg (by rw [htb]; decide)]
    obtain ⟨t', ht'⟩ := hv.at x _ (List.getElem?_eq_getElem hlt)
    have hx : vs.toArray.getD x Value.none = Value.bytes (ls[x].toArray) t' := by
      rw [Array.getD_eq_getD_getElem?, List.getElem?_toArray, ht']; rfl
    rw [hx]
    refine wpAny_bind (wpAny_holding ?_)
    refine wpAny_of_eq take_eq ?_
    dsimp only
    refine wpAny_bind (wpAny_seqItems ho hd ?_)
    dsimp only
    rw [if_neg (by simp)]
    refine wpAny_pure ⟨rfl, x + 1, ?_, hlt, ?_, ?_⟩
    · rw [show ls.length - (x + 1) = k by omega]
    · dsimp only
      rw [hp, List.take_add_one, List.getElem?_eq_getElem hlt, List.map_append]
      simp only [List.push_toArray, Option.toList_some, List.map_cons, List.map_nil]
    · intro p hp'
      rcases List.mem_append.mp hp' with q | q
      · exact ht p q
      · rw [List.mem_singleton.mp q]; exact ⟨rfl, rfl⟩
  case fin =>
    rintro ⟨parts, taken⟩ s' ⟨rfl, i, hr, hi, hp, ht⟩
    dsimp only at hp ht ⊢
    have hi' : i = ls.length := by
      rcases Nat.lt_or_ge i ls.length with q | q
      · obtain ⟨k, hk⟩ : ∃ k, ls.length - i = k + 1 := ⟨ls.length - i - 1, by omega⟩
        rw [hk, List.range'_succ] at hr
        cases hr
      · omega
    rw [hi', List.take_length] at hp
    subst hp
    refine wpAny_bind (wpAny_of_eq (a := (#[] : Array UInt8)) rfl ?_)
    have hsum : ∀ (l : List (List UInt8)) (a : Nat), (l.map List.toArray).foldl (fun (x1 : Nat) (x2 : Array UInt8) => x1 + x2.size) a = a + l.flatten.length := by
      intro l
      induction l with
      | nil => intro a; simp
      | cons x l ih => intro a; simp only [List.map_cons, List.foldl_cons]; rw [ih]; simp; omega
    rw [if_neg (by
      rw [show Array.foldl (fun (x1 : Nat) (x2 : Array UInt8) => x1 + x2.size) ((#[] : Array UInt8).size * ((List.map List.toArray ls).toArray.size - 1)) (List.map List.toArray ls).toArray = ls.flatten.length from by
        rw [List.foldl_toArray']
        · rw [hsum]; simp
        · rfl]
      rw [KBy.tooLong_not hsz]; decide)]
    show wpAny _ _ (mkBytes (Bytes.joined #[] (List.map List.toArray ls).toArray.toList) >>= _) _ _ _
    rw [show (List.map List.toArray ls).toArray.toList = List.map List.toArray ls from rfl, joined_flat]
    refine wpAny_bind (wpAny_mkBytes ?_ ?_)
    · refine wpAny_bind (wpAny_holding (wpAny_point ?_))
      refine wpAny_bind (joinLetGo_any _ (fun p hp => (ht p hp).1) ?_)
      exact wpAny_pure ⟨_, rfl, h _ _⟩
    · rw [List.size_toArray, sizeLine_eq]; exact hsz
  · rw [hlen]; simp [Std.Legacy.Range.size]
theorem b_join {Q E : Value → Shared → Prop} {h₀ : Heap} {L : Addr} {m : Str → Option Value} {news : List (Addr × Obj)} {A : Around} (N : News h₀ L s.heap news) (hl : (l, listOf vs.toArray n) ∈ news) (hv : BytesVs vs ls) (h2 : 2 ≤ ls.length) (hsz : ls.flatten.length ≤ 16777216)
    (h : ∀ t' k, Q (.bytes ls.flatten.toArray t') { s with toks := k }) : wpAny (model prog w) A (call (.builtin "bytes.join") [.bytes #[] t, .ref l]) Q E s :=
  call_meets slot_bytes_join (typeIs_bytes _ _ _) entry_bytes_join (args_bytes_join_2 _ _) (meets_join hv h2 hsz) ⟨N.get hl, rfl, rfl, h⟩
end
end
section
variable {prog : Program} {w : World} {A : Around} {E : Value → Shared → Prop} {s : Shared} {h₀ : Heap} {L : Addr} {m : Str → Option Value} {env : Env} {elt : Expr} {x : Str} {scope : Scope} {cl : List (Str × Addr)} {news : List (Addr × Obj)}
theorem comp_rest {S : List (Addr × Obj) → Prop} {P : Nat → Value → Prop} {Fin : List Value → List (Addr × Obj) → Prop} {n : Nat} (J : Nat → List Value → List (Addr × Obj) → Prop) (hj : J 0 [] news)
    (turn : ∀ i v I oI C oC D m₂ ys nx h tk (E' : Value → Shared → Prop), i < n → P i v → J i ys nx → LCg.NsObj oC m₂ → m₂ x = some v → Fr h₀ L h m → News h₀ L h ((I, oI) :: (C, oC) :: (D, LCg.lst ys) :: nx) → LCg.Off3 I C D nx → ((@Ne Nat I C) ∧ (@Ne Nat I D) ∧ (@Ne Nat C D)) →
      wpAny (model prog w) A (eval elt (compEnvC scope cl C env)) (LCg.CompEnd h₀ L m { s with heap := h, toks := tk } I oI C oC D (LCg.lst ys) S (fun y nx' => J (i + 1) (ys ++ [y]) nx')) E' { s with heap := h, toks := tk })
    (fin : ∀ ys nx, J n ys nx → Fin ys nx) : LCg.CompRest prog w A h₀ L m env elt x scope cl s S P Fin n 0 [] news := by
  have key : ∀ (j i : Nat) (ys : List Value) (nx : List (Addr × Obj)), i + j = n → J i ys nx → LCg.CompRest prog w A h₀ L m env elt x scope cl s S P Fin j i ys nx := by
    intro j
    induction j with
    | zero =>
      intro i ys nx hi hy
      have e : i = n := by omega
      subst e
      exact LCg.CompRest.zero (fin ys nx hy)
    | succ j ih =>
      intro i ys nx hi hy
      refine LCg.CompRest.succ ?_
      intro v I oI C oC D m₂ h tk E' hv hC hx F N off ne
      refine wpAny_mono (turn i v I oI C oC D m₂ ys nx h tk E' (by omega) hv hy hC hx F N off ne) (fun y s₂ hq => ?_) fun _ _ e => e
      obtain ⟨h', tk', nw, e, F', N', off', hS, hJ⟩ := hq
      exact ⟨h', tk', nw, e, F', N', off', hS, ih (i + 1) _ _ (by omega) hJ⟩
  exact key n 0 [] news (by omega) hj
theorem comp_range {Fin : Shared → List Value → List (Addr × Obj) → Prop} {r : Addr} {t u v : Tok} {n : Nat} (J : Nat → List Value → List (Addr × Obj) → Prop)
    (hh : A.handled = none) (hr : IsRange s.heap r 0 (n : Int) 1 t u v) (hb : n ≤ 1000000) (F : Fr h₀ L s.heap m) (N : News h₀ L s.heap news) (hj : J 0 [] news)
    (turn : ∀ (i : Nat) (t : Tok) I oI C oC D m₂ ys nx h tk (E' : Value → Shared → Prop), i < n → J i ys nx → LCg.NsObj oC m₂ → m₂ x = some (.int (i : Int) t) → Fr h₀ L h m → News h₀ L h ((I, oI) :: (C, oC) :: (D, LCg.lst ys) :: nx) → LCg.Off3 I C D nx → ((@Ne Nat I C) ∧ (@Ne Nat I D) ∧ (@Ne Nat C D)) →
      wpAny (model prog w) A (eval elt (compEnvC scope cl C env)) (LCg.CompEnd h₀ L m { s with heap := h, toks := tk } I oI C oC D (LCg.lst ys) (fun _ => True) (fun y nx' => J (i + 1) (ys ++ [y]) nx')) E' { s with heap := h, toks := tk })
    (fin : ∀ ys nx g, J n ys nx → Fin { s with heap := g } ys nx) : LCg.CompSrc prog w A h₀ L m env elt x scope cl Fin (.ref r) s := by
  refine LCg.CompSrc.range hh F N hr (small_one (by decide) (by decide) (by omega) (by omega)) (range_size n) (by rw [sizeLine_eq]; omega) ?_
  intro g
  refine comp_rest (s := { s with heap := g }) J hj ?_ fun ys nx => fin ys nx g
  rintro i v I oI C oC D m₂ ys nx h tk E' hi ⟨t, rfl⟩ hJ hC hx F' N' off ne
  rw [Int.zero_add] at hx
  exact turn i t I oI C oC D m₂ ys nx h tk E' hi hJ hC hx F' N' off ne
theorem compEnd_of {I C D : Addr} {oI oC : Obj} {ys : List Value} {s₁ : Shared} {J : Value → List (Addr × Obj) → Prop} {nx big : List (Addr × Obj)} {y : Value} {h' : Heap} {tk : Nat} (F : Fr h₀ L h' m) (N : News h₀ L h' big) (hs : ∀ p, p ∈ (I, oI) :: (C, oC) :: (D, LCg.lst ys) :: nx → p ∈ big) (off : LCg.Off3 I C D nx) (hJ : J y nx) :
    LCg.CompEnd h₀ L m s₁ I oI C oC D (LCg.lst ys) (fun _ => True) J y { s₁ with heap := h', toks := tk } := LCg.CompEnd.intro F N nx hs off trivial hJ
end
/-- one colour of the law's -/
def col (k : Nat) : List UInt8 := [k.toUInt8, (255 - k).toUInt8, (k * 7 % 256).toUInt8]
def COL : List UInt8 := ((List.range 256).map col).flatten
theorem words10 : True := by
  (k_with "eval ListComp" => (first | ((k_here; k_dflt (refine LCg.ListComp_U (F₀ := by k_asm) (by with_unfolding_all rfl) (by decide) (by rfl) (by decide) (by rfl) ?_))) | fail "word"))
  (k_with "CompSrc" => (first | ((k_here; refine stopIt ?_)) | fail "word"))
  (k_with "CompEnd" => (first | ((refine stopIt ?_)) | fail "word"))
  (k_with "getMethod bytes" => (first | ((k_here; (with_reducible refine method_join ?_))) | fail "word"))
  trivial
theorem colours_spec {w : World} {p : Program} {loose : List Str} {mean : ExcName → Option Value} {mg mb : Str → Option Value} {dp un : Nat} {gd : Option (List Code)} {cn : Str} {cs : Scope} {a : Addr} {ccd : Value} {cl : List (Str × Addr)} {outer : List Env} {A₀ : Around} {base h₀ : Heap} {L : Addr} {m : Str → Option Value} {s : Shared} {Q E : Value → Shared → Prop}
    {news : List (Addr × Obj)}
    (B : Below A₀ base outer h₀) (F : Fr h₀ L s.heap m) (X : (k0.heap_1 w.params).In h₀) (N : News h₀ L s.heap news) (T : Top p loose mean mg mb h₀) (hk : cs.kind = .function) (hdp : dp + 1 < recursionLimit) (hu : un + 8 < cLine)
    (ret : ∀ t h' tk', Fr h₀ L h' m → News h₀ L h' news → Q (.bytes COL.toArray t) { s with heap := h', toks := tk' }) :
    wpAny (model Challenge.rw_pf0230_01.row.prog w) (ktrTop dp un gd cn cs L a ccd cl outer) (call (.ref 143) []) Q E s := by
  refine wpAny_call ?_
  k_dflt (walk_at "m_enter")
  k_steps
  unfold Stop
  rename Fr _ _ _ _ => F1
  rename News _ _ _ _ => N1
  rename IsRange _ _ _ _ _ _ _ _ => R1
  refine comp_range (n := 256) (fun i ys nx => nx = news ∧ BytesVs ys ((List.range i).map col)) rfl R1 (by decide) F1 N1 ⟨rfl, .nil⟩ ?turn ?fin
  case turn =>
    clear F1 N1 R1
    rintro i t I oI C oC D m₂ ys nx h tk E' hi ⟨rfl, hv⟩ hC hx F1 N1 off ne
    k_steps
    unfold Stop
    rename Fr _ _ _ _ => F2
    rename News _ _ _ _ => N2
    refine compEnd_of F2 N2 (fun p hp => .tail _ hp) off ⟨rfl, ?_⟩
    rw [List.range_succ, List.map_append]
    have e1 : (255 - (i : Int)).toNat = 255 - i := by omega
    have e2 : (((i : Int) * 7).fmod 256).toNat = i * 7 % 256 := by
      rw [Int.fmod_eq_emod_of_nonneg _ (by decide)]
      omega
    rw [e1, e2]
    exact hv.snoc
  case fin =>
    clear F1 N1 R1
    rintro ys nx g ⟨rfl, hv⟩
    unfold LCg.FinE
    intro D h tk F1 N1 o1
    dsimp only
    k_steps
    refine b_join (m := fun _ => none) N1 (.head _) hv (by decide) (by decide +kernel) ?_
    intro t' k'
    k_steps
    exact ret _ _ _ (by k_asm) (by walk_at "m_news")
theorem intVs_ints : ∀ {vs : List Value} {l : List UInt8}, IntVs vs l → IntsAre vs (l.map fun c => (c.toNat : Int))
  | _, _, .nil => .nil
  | _, _, .cons h => .cons _ _ (intVs_ints h)
theorem intVs_length : ∀ {vs : List Value} {l : List UInt8}, IntVs vs l → vs.length = l.length
  | _, _, .nil => rfl
  | _, _, .cons h => by simp [intVs_length h]
theorem intVs_snoc {c : UInt8} {t : Tok} : ∀ {vs : List Value} {l : List UInt8}, IntVs vs l → IntVs (vs ++ [.int (c.toNat : Int) t]) (l ++ [c])
  | _, _, .nil => .cons .nil
  | _, _, .cons h => .cons (intVs_snoc h)
theorem intVs_snocI {v : Int} {t : Tok} {vs : List Value} {l : List UInt8} (h : IntVs vs l) (h0 : 0 ≤ v) (h1 : v < 256) : ∃ c : UInt8, IntVs (vs ++ [.int v t]) (l ++ [c]) := by
  refine ⟨v.toNat.toUInt8, ?_⟩
  have e : ((v.toNat.toUInt8).toNat : Int) = v := by
    rw [show (v.toNat.toUInt8).toNat = v.toNat % 256 from by simp]
    omega
  have := intVs_snoc (c := v.toNat.toUInt8) (t := t) h
  rwa [e] at this
theorem back_u8 (l : List UInt8) : (l.map fun c => (c.toNat : Int)).map (fun n => n.toNat.toUInt8) = l := by
  rw [List.map_map]
  conv => rhs; rw [← List.map_id l]
  refine List.map_congr_left fun c _ => ?_
  show ((c.toNat : Int).toNat).toUInt8 = c
  rw [Int.toNat_natCast]
  simp
theorem b_bytes {prog : Program} {w : World} {A : Around} {E Q : Value → Shared → Prop} {s : Shared} {h₀ : Heap} {L D : Addr} {m : Str → Option Value} {news : List (Addr × Obj)} {vs : List Value} {l : List UInt8} {k : Nat} (hh : A.handled = none) (F : Fr h₀ L s.heap m) (N : News h₀ L s.heap news) (hl : (D, listOf vs.toArray k) ∈ news) (iv : IntVs vs l) (hsz : l.length ≤ 100000)
    (h : ∀ h' t k, Fr h₀ L h' m → News h₀ L h' news → Q (.bytes l.toArray t) { s with heap := h', toks := k }) : wpAny (model prog w) A (call (.type "bytes") [.ref D]) Q E s := by
  refine bytes_K F N ⟨_, N.get hl, rfl, k, rfl⟩ (intVs_ints iv) (fun n hn => ?_) (by rw [intVs_length iv, sizeLine_eq]; omega) hh fun h' t k F' N' _ => ?_
  · obtain ⟨c, _, rfl⟩ := List.mem_map.mp hn
    have := c.toNat_lt
    omega
  · rw [back_u8]
    exact h h' t k F' N'
theorem is_listN {h₀ h : Heap} {L l : Addr} {news : List (Addr × Obj)} {vs : List Value} {n : Nat} (N : News h₀ L h news) (hm : (l, listOf vs.toArray n) ∈ news) : h.IsList l vs.toArray := ⟨_, N.get hm, rfl, n, rfl⟩
theorem three_cases {v : Int} (h0 : 0 ≤ v) (h1 : v < 3) : v = 0 ∨ v = 1 ∨ v = 2 := by omega
theorem four_cases {v : Int} (h0 : 0 ≤ v) (h1 : v < 4) : v = 0 ∨ v = 1 ∨ v = 2 ∨ v = 3 := by omega
theorem five_cases {v : Int} (h0 : 0 ≤ v) (h1 : v < 5) : v = 0 ∨ v = 1 ∨ v = 2 ∨ v = 3 ∨ v = 4 := by omega
theorem eight_cases {v : Int} (h0 : 0 ≤ v) (h1 : v < 8) : v = 0 ∨ v = 1 ∨ v = 2 ∨ v = 3 ∨ v = 4 ∨ v = 5 ∨ v = 6 ∨ v = 7 := by omega
theorem mul_small {W H : Int} (a : 0 ≤ W) (b : W < 5) (c : 0 ≤ H) (d : H < 5) : W * H ≤ 255 := by
  rcases five_cases a b with e | e | e | e | e <;> subst e <;> omega
theorem sub_pair {prog : Program} {w : World} {A : Around} {E Q : Value → Shared → Prop} {s : Shared} {h₀ : Heap} {L l T0 T1 T2 T3 : Addr} {news : List (Addr × Obj)} {value slice : PySem.Expr} {v W H : Int} {t a0 b0 a1 b1 a2 b2 a3 b3 : Tok} {k : Nat}
    (N : News h₀ L s.heap news) (hl : (l, listOf #[Value.ref T0, Value.ref T1, Value.ref T2, Value.ref T3] k) ∈ news) (m0 : (T0, tupObj [Value.int W a0, Value.int H b0]) ∈ news) (m1 : (T1, tupObj [Value.int 255 a1, Value.int 1 b1]) ∈ news) (m2 : (T2, tupObj [Value.int 1 a2, Value.int 255 b2]) ∈ news) (m3 : (T3, tupObj [Value.int 0 a3, Value.int 255 b3]) ∈ news)
    {lq : Addr} {xq yq : Int} {tq uq : Tok} {cq : Nat} (mq : (lq, listOf #[Value.int xq tq, Value.int yq uq] cq) ∈ news) (hw0 : 0 ≤ W) (hw1 : W < 5) (hh0 : 0 ≤ H) (hh1 : H < 5) (h0 : 0 ≤ v) (h1 : v < 8)
    (h : ∀ T W H a b, @Ne Nat T lq → 0 ≤ W → W ≤ 255 → 0 ≤ H → H ≤ 255 → 0 ≤ W * H → W * H ≤ 255 → IsTup s.heap T #[Value.int W a, Value.int H b] → Q (.ref T) s)
    (hs : ∀ k u, subscripted slice false (.ref l) (.int k u) = operate [.ref l, .int k u] (getItem (.ref l) (.int k u)) := by intro _ _; with_unfolding_all rfl) :
    wpAny (model prog w) A (subscriptTail value slice (.ref l) (.int (if v - 4 > 0 then v - 4 else 0) t)) Q E s := by
  have up : ∀ {T : Addr} {x y : Value}, (T, tupObj [x, y]) ∈ news → IsTup s.heap T #[x, y] := fun {T x y} hp => ⟨_, (N _ hp).1, rfl, 0, rfl⟩
  have ne : ∀ {T : Addr} {vs : List Value}, (T, tupObj vs) ∈ news → T ≠ lq := fun {T vs} hT e => by
    have z1 := (N _ hT).1
    have z2 := (N _ mq).1
    dsimp only at z1 z2
    rw [e, z2] at z1
    have z3 := congrArg Obj.cls (Option.some.inj z1)
    exact absurd (show Value.type "list" = Value.type "tuple" from z3) (by decide)
  have L4 : s.heap.IsList l [Value.ref T0, Value.ref T1, Value.ref T2, Value.ref T3].toArray := is_listN N hl
  by_cases c : v - 4 > 0
  · rw [if_pos c]
    have : v - 4 = 1 ∨ v - 4 = 2 ∨ v - 4 = 3 := by omega
    rcases this with e | e | e <;> rw [e]
    · exact item_litK L4 (by decide) (by decide) rfl (h T1 255 1 a1 b1 (ne m1) (by decide) (by decide) (by decide) (by decide) (by decide) (by decide) (up m1)) (hs _ _)
    · exact item_litK L4 (by decide) (by decide) rfl (h T2 1 255 a2 b2 (ne m2) (by decide) (by decide) (by decide) (by decide) (by decide) (by decide) (up m2)) (hs _ _)
    · exact item_litK L4 (by decide) (by decide) rfl (h T3 0 255 a3 b3 (ne m3) (by decide) (by decide) (by decide) (by decide) (by decide) (by decide) (up m3)) (hs _ _)
  · rw [if_neg c]
    exact item_litK L4 (by decide) (by decide) rfl (h T0 W H a0 b0 (ne m0) hw0 (by omega) hh0 (by omega) (Int.mul_nonneg hw0 hh0) (mul_small hw0 hw1 hh0 hh1) (up m0)) (hs _ _)
def KindK (k : Str) : Prop := k = "palette" ∨ k = "rgb" ∨ k = "jpeg"
theorem sub_kind4 {prog : Program} {w : World} {A : Around} {E Q : Value → Shared → Prop} {s : Shared} {h₀ : Heap} {L l : Addr} {news : List (Addr × Obj)} {value slice : PySem.Expr} {v : Int} {z0 z1 z2 z3 : Str} {t a0 a1 a2 a3 : Tok} {k : Nat}
    (N : News h₀ L s.heap news) (hl : (l, listOf #[Value.str z0 a0, Value.str z1 a1, Value.str z2 a2, Value.str z3 a3] k) ∈ news)
    (h0 : 0 ≤ v) (h1 : v < 4) (p0 : KindK z0) (p1 : KindK z1) (p2 : KindK z2) (p3 : KindK z3)
    (h : ∀ (z : Str) (a : Tok), KindK z → Q (.str z a) s)
    (hs : ∀ k u, subscripted slice false (.ref l) (.int k u) = operate [.ref l, .int k u] (getItem (.ref l) (.int k u)) := by intro _ _; with_unfolding_all rfl) :
    wpAny (model prog w) A (subscriptTail value slice (.ref l) (.int v t)) Q E s := by
  have L5 : s.heap.IsList l [Value.str z0 a0, Value.str z1 a1, Value.str z2 a2, Value.str z3 a3].toArray := is_listN N hl
  rcases four_cases h0 h1 with rfl | rfl | rfl | rfl
  · exact item_litK L5 (by decide) (by decide) rfl (h _ _ p0) (hs _ _)
  · exact item_litK L5 (by decide) (by decide) rfl (h _ _ p1) (hs _ _)
  · exact item_litK L5 (by decide) (by decide) rfl (h _ _ p2) (hs _ _)
  · exact item_litK L5 (by decide) (by decide) rfl (h _ _ p3) (hs _ _)
theorem ne_of_allLtN {d e : Addr} {l : List (Addr × Obj)} (h : ∀ p ∈ l, p.1 < d) (k : @LT.lt Nat _ d e) : ∀ p ∈ l, p.1 ≠ e := fun p hp => Nat.ne_of_lt (Nat.lt_trans (h p hp) k)
theorem range_nat {h : Heap} {r : Addr} {b : Int} {t u v : Tok} (R : IsRange h r 0 b 1 t u v) (hb : 0 ≤ b) : ∃ n : Nat, (n : Int) = b ∧ IsRange h r 0 (n : Int) 1 t u v := by
  obtain ⟨n, rfl⟩ := Int.eq_ofNat_of_zero_le hb
  exact ⟨n, rfl, R⟩
theorem news_shelf {h₀ h : Heap} {L : Addr} {big rest : List (Addr × Obj)} {p q : Addr × Obj} (N : News h₀ L h big) (hp : p ∈ big) (hq : q ∈ big) (hs : ∀ r, r ∈ rest → r ∈ big) : News h₀ L h (p :: q :: rest) := fun r hr => by
  rcases List.mem_cons.mp hr with rfl | hr
  · exact N _ hp
  rcases List.mem_cons.mp hr with rfl | hr
  · exact N _ hq
  · exact N _ (hs _ hr)
def ShelfJ (pre rest : List (Addr × Obj)) (l : Addr) (c : Nat) (i : Nat) (ys : List Value) (nx : List (Addr × Obj)) : Prop := ∃ x y s1 s2 ks, nx = pre ++ (l, listOf #[Value.int x s1, Value.int y s2] c) :: rest ∧ IntVs ys ks ∧ ks.length = i
theorem wordsA7 : True := by
  (k_with "m_all" => (first | (first | assumption | exact ne_of_allLt (by assumption) | exact ne_of_allLt2 (by assumption) (by assumption) | exact ne_of_allLtN (by assumption) (by omega)) | fail "word"))
  trivial
theorem words11 : True := by
  (k_with "m_enterC" => (first | ((refine' code_defC (by k_asm) (by k_asm) (by k_asm) (by k_asm) (by k_asm) (by exact rfl) (by exact rfl) (by first | exact rfl | assumption) (by k_is) (by k_is) (by walk_at "m_room") (by exact BindsTo.of_eq rfl) (by exact rfl) (by decide +kernel) ?_ (by exact rfl) (by exact rfl) (by exact rfl); k_whole; intro zzg' zzL' zzh' zztk' zzcells' zzFG' zzF' zzN' zzY' zzB' zzX' zzT' zzl1; (try k_lt zzl1); k_cells zzY'; (try simp only [List.cons_append, List.nil_append] at zzN'); (try dsimp only); (try k_lift zzB'); (try k_fold))) | fail "word"))
  (k_with "subscriptTail" => (first | ((k_here; (with_reducible show wpAny _ _ (subscriptTail _ _ (Value.ref _) (Value.int _ _)) _ _ _); (rename News _ _ _ _ => zzlN'); (with_unfolding_all refine sub_kind4 zzlN' (by k_mem) (by assumption) (by assumption) (by exact Or.inl rfl) (by exact Or.inr (Or.inl rfl)) (by exact Or.inr (Or.inl rfl)) (by exact Or.inr (Or.inr rfl)) ?_ (by (intro _ _; with_unfolding_all rfl))); intro zzz' zza' zzhz'; (rcases zzhz' with zzhz' | zzhz' | zzhz') <;> subst zzhz')) | fail "word"))
  (k_with "subscriptTail" => (first | ((k_here; (with_reducible show wpAny _ _ (subscriptTail _ _ (Value.ref _) (Value.int _ _)) _ _ _); rename ((0 : Int) ≤ _) => zzq0; rename ((_ : Int) < 3) => zzq1; (rcases three_cases zzq0 zzq1 with zzqq | zzqq | zzqq) <;> subst zzqq <;> clear zzq0 zzq1)) | fail "word"))
  (k_with "subscriptTail" => (first | ((k_here; (with_reducible show wpAny _ _ (subscriptTail _ _ (Value.ref _) (Value.int _ _)) _ _ _); (rename News _ _ _ _ => zzlN'); (with_unfolding_all refine' item_litK (by exact is_listN zzlN' (by k_mem)) (by decide) (by decide) (by rfl) ?_ (by with_unfolding_all rfl)))) | fail "word"))
  (k_with "subscriptTail" => (first | ((k_here; (with_reducible show wpAny _ _ (subscriptTail _ _ (Value.ref _) (Value.int (if _ then _ else _) _)) _ _ _); (rename News _ _ _ _ => zzlN'); (with_unfolding_all refine' sub_pair zzlN' (by k_mem) (by k_mem) (by k_mem) (by k_mem) (by k_mem) (by k_mem) (by assumption) (by assumption) (by assumption) (by assumption) (by assumption) (by assumption) ?_ (by (intro _ _; with_unfolding_all rfl))); intro zzT' zzW' zzH' zza' zzb' zzne' zzw0' zzw1' zzh0' zzh1' zzp0' zzp1' zztT')) | fail "word"))
  (k_with "call ref" => (first | ((k_here; (with_reducible show wpAny _ _ (call (Value.ref 143) _) _ _ _); k_dflt (refine' colours_spec (by k_asm) (by k_asm) (by k_asm) (by k_asm) (by k_asm) (by first | exact rfl | assumption) (by walk_at "m_room") (by walk_at "m_room") ?_; intro zzt' zzh' zztk' zzF' zzN'))) | fail "word"))
  (k_with "call type:bytes" => (first | ((k_here; (with_reducible show wpAny _ _ (call (Value.type _) [Value.ref _]) _ _ _); (rename IntVs _ _ => zziv'); (rename Fr _ _ _ _ => zzlF'); (rename News _ _ _ _ => zzlN'); (with_unfolding_all refine b_bytes (by exact rfl) zzlF' zzlN' (by exact .head _) zziv' (by omega) ?_); clear zzlF' zzlN'; intro zzh' zzt' zztk' zzF' zzN')) | fail "word"))
  trivial
def Small (kind : Str) (x y : Int) (pal oct : List UInt8) : Prop := Sound kind x y pal oct ∧ ((kind = "jpeg" ∧ x = 0 ∧ y = 0 ∧ pal = [] ∧ oct.length ≤ 9) ∨ (kind = "palette" ∧ pal = COL ∧ oct.length ≤ 1000) ∨ (kind = "rgb" ∧ pal = [] ∧ oct.length ≤ 1000))
theorem small_spec {w : World} {p : Program} {loose : List Str} {mean : ExcName → Option Value} {mg mb : Str → Option Value} {dp un : Nat} {gd : Option (List Code)} {cn : Str} {cs : Scope} {a : Addr} {ccd : Value} {cl : List (Str × Addr)} {outer : List Env} {A₀ : Around} {base h₀ : Heap} {L : Addr} {m : Str → Option Value} {s : Shared} {Q E : Value → Shared → Prop}
    {rest : List (Addr × Obj)} {l : Addr} {x y : Int} {t1 t2 : Tok} {c : Nat}
    (B : Below A₀ base outer h₀) (F : Fr h₀ L s.heap m) (X : (k0.heap_1 w.params).In h₀) (N : News h₀ L s.heap ((l, listOf #[.int x t1, .int y t2] c) :: rest)) (T : Top p loose mean mg mb h₀) (hk : cs.kind = .function) (hdp : dp + 2 < recursionLimit) (hu : un + 16 < cLine)
    (hl : ∀ p ∈ rest, p.1 ≠ l)
    (ret : ∀ R kind wd ht pal oct t1 t2 t3 t4 t5 x' y' s1 s2 h' tk', Small kind wd ht pal oct → Fr h₀ L h' m → News h₀ L h' ((R, tupObj [.str kind t1, .int wd t2, .int ht t3, .bytes pal.toArray t4, .bytes oct.toArray t5]) :: (l, listOf #[.int x' s1, .int y' s2] c) :: rest) → (∀ p ∈ rest, p.1 < R) → l < R → Q (.ref R) { s with heap := h', toks := tk' }) :
    wpAny (model Challenge.rw_pf0230_01.row.prog w) (ktrTop dp un gd cn cs L a ccd cl outer) (call (.ref 148) [.ref l]) Q E s := by
  refine wpAny_call ?_
  k_dflt (walk_at "m_enterC")
  rename (_ ∧ AllLt _ _) => lt0
  have ltR := allLt_to lt0.2
  k_steps
  all_goals unfold Stop
  all_goals rename Fr _ _ _ _ => F1
  all_goals rename News _ _ _ _ => N1
  all_goals rename IsRange _ _ _ _ _ _ _ _ => R1
  · rename (0 ≤ _ * _) => p0
    rename (_ * _ ≤ 255) => p1
    obtain ⟨n, hn, R2⟩ := range_nat R1 (by omega)
    refine comp_range (n := n) (fun i ys nx => nx = _ ∧ ∃ ks, IntVs ys ks ∧ ks.length = i) rfl R2 (by omega) F1 N1 ⟨rfl, [], .nil, rfl⟩ ?turn ?fin
    case turn =>
      clear F1 N1 R1 R2
      rintro i t I oI C oC D m₂ ys nx h tk E' hi ⟨rfl, ks, hv, hlen⟩ hC hx F1 N1 off ne
      k_steps
      unfold Stop
      rename Fr _ _ _ _ => F2
      rename News _ _ _ _ => N2
      refine compEnd_of F2 N2 (fun p hp => hp) off ⟨rfl, ?_⟩
      exact (intVs_snocI hv (Int.fmod_nonneg_of_pos _ (by decide)) (Int.fmod_lt_of_pos _ (by decide))).elim fun c hc => ⟨ks ++ [c], hc, by simp [hlen]⟩
    case fin =>
      clear F1 N1 R1 R2
      rintro ys nx g ⟨rfl, ks, hv, hlen⟩
      unfold LCg.FinE
      intro D h tk F1 N1 o1
      dsimp only
      k_steps
      rename News _ _ _ _ => N3
      refine' ret _ "palette" _ _ COL ks _ _ _ _ _ _ _ _ _ _ _ ?small0 ?fr0 (news_shelf N3 (.head _) ?q0 ?r0) (fun p hp => Nat.lt_trans (ltR p hp) ?lt0) ?ltb0
      case fr0 => k_asm
      case q0 => repeat (first | exact .head _ | apply List.Mem.tail)
      case r0 => intro rr hr; repeat (first | exact hr | apply List.Mem.tail)
      case lt0 => show @LT.lt Nat _ _ _; omega
      case ltb0 => show @LT.lt Nat _ _ _; omega
      case small0 => exact ⟨⟨by omega, by omega, by omega, by omega, by omega, Or.inr (Or.inl ⟨rfl, by omega, by decide +kernel⟩)⟩, Or.inr (Or.inl ⟨rfl, rfl, by omega⟩)⟩
  · rename (0 ≤ _ * _) => p0
    rename (_ * _ ≤ 255) => p1
    obtain ⟨n, hn, R2⟩ := range_nat R1 (by omega)
    refine comp_range (n := n) (fun i ys nx => nx = _ ∧ ∃ ks, IntVs ys ks ∧ ks.length = i) rfl R2 (by omega) F1 N1 ⟨rfl, [], .nil, rfl⟩ ?turn ?fin
    case turn =>
      clear F1 N1 R1 R2
      rintro i t I oI C oC D m₂ ys nx h tk E' hi ⟨rfl, ks, hv, hlen⟩ hC hx F1 N1 off ne
      k_steps
      unfold Stop
      rename Fr _ _ _ _ => F2
      rename News _ _ _ _ => N2
      refine compEnd_of F2 N2 (fun p hp => hp) off ⟨rfl, ?_⟩
      exact (intVs_snocI hv (Int.fmod_nonneg_of_pos _ (by decide)) (Int.fmod_lt_of_pos _ (by decide))).elim fun c hc => ⟨ks ++ [c], hc, by simp [hlen]⟩
    case fin =>
      clear F1 N1 R1 R2
      rintro ys nx g ⟨rfl, ks, hv, hlen⟩
      unfold LCg.FinE
      intro D h tk F1 N1 o1
      dsimp only
      k_steps
      rename News _ _ _ _ => N3
      refine' ret _ "rgb" _ _ [] ks _ _ _ _ _ _ _ _ _ _ _ ?small1 ?fr1 (news_shelf N3 (.head _) ?q1 ?r1) (fun p hp => Nat.lt_trans (ltR p hp) ?lt1) ?ltb1
      case fr1 => k_asm
      case q1 => repeat (first | exact .head _ | apply List.Mem.tail)
      case r1 => intro rr hr; repeat (first | exact hr | apply List.Mem.tail)
      case lt1 => show @LT.lt Nat _ _ _; omega
      case ltb1 => show @LT.lt Nat _ _ _; omega
      case small1 => exact ⟨⟨by omega, by omega, by omega, by omega, by omega, Or.inr (Or.inr ⟨rfl, by omega, rfl⟩)⟩, Or.inr (Or.inr ⟨rfl, rfl, by omega⟩)⟩
  · rename ((0 : Int) ≤ _) => p0
    rename ((_ : Int) < 10) => p1
    obtain ⟨n, hn, R2⟩ := range_nat R1 (by omega)
    refine comp_range (n := n) (ShelfJ [_, _, _, _] rest l c) rfl R2 (by omega) F1 N1 ⟨_, _, _, _, [], rfl, .nil, rfl⟩ ?turn ?fin
    case turn =>
      clear F1 N1 R1 R2
      rintro i t I oI C oC D m₂ ys nx h tk E' hi ⟨x0, y0, s10, s20, ks, rfl, hv, hlen⟩ hC hx F1 N1 off ne
      simp only [List.cons_append, List.nil_append] at N1 off
      have off9 := off
      simp only [LCg.Off3, and_true] at off
      k_steps
      unfold Stop
      rename Fr _ _ _ _ => F2
      rename News _ _ _ _ => N2
      rename ((0 : Int) ≤ _) => w0
      rename ((_ : Int) < 256) => w1
      refine compEnd_of F2 N2 (fun p hp => hp) off9 ?_
      exact (intVs_snocI hv w0 w1).elim fun c hc => ⟨_, _, _, _, ks ++ [c], rfl, hc, by simp [hlen]⟩
    case fin =>
      clear F1 N1 R1 R2
      rintro ys nx g ⟨x0, y0, s10, s20, ks, rfl, hv, hlen⟩
      unfold LCg.FinE
      intro D h tk F1 N1 o1
      simp only [List.cons_append, List.nil_append] at N1
      dsimp only
      k_steps
      rename News _ _ _ _ => N3
      refine' ret _ "jpeg" _ _ [] ks _ _ _ _ _ _ _ _ _ _ _ ?small3 ?fr3 (news_shelf N3 (.head _) ?q3 ?r3) (fun p hp => Nat.lt_trans (ltR p hp) ?lt3) ?ltb3
      case fr3 => k_asm
      case q3 => repeat (first | exact .head _ | apply List.Mem.tail)
      case r3 => intro rr hr; repeat (first | exact hr | apply List.Mem.tail)
      case lt3 => show @LT.lt Nat _ _ _; omega
      case ltb3 => show @LT.lt Nat _ _ _; omega
      case small3 => exact ⟨⟨by omega, by omega, by omega, by omega, by omega, Or.inl ⟨rfl, rfl⟩⟩, Or.inl ⟨rfl, rfl, rfl, rfl, by omega⟩⟩
theorem kts_memE {env : Env} {outer : List Env} {L b : Addr} (hf : env.frame = some L) (hm : b ∈ (env :: outer).filterMap (·.frame)) : b = L ∨ b ∈ outer.filterMap (·.frame) := by
  obtain ⟨env', he, hfb⟩ := List.mem_filterMap.mp hm
  rcases List.mem_cons.mp he with rfl | he
  · exact .inl (Option.some.inj (hfb.symm.trans hf))
  · exact .inr (List.mem_filterMap.mpr ⟨env', he, hfb⟩)
def LeaveT (fs : List Addr) (A₀ : Around) (base : Heap) (outer : List Env) (K : Frag) (p : Program) (loose : List Str) (mean : ExcName → Option Value) (mg mb : Str → Option Value) (g₀ : Heap) (L : Addr) (m : Str → Option Value) (g : Heap) (R : Result → Shared → Prop) (v : Value) (s' : Shared) : Prop :=
  ∃ g' L' m' news', KtsTurn fs g g' ∧ Fr g' L' s'.heap m' ∧ News g' L' s'.heap news' ∧ ∀ h₀', KtsTurn (outer.filterMap (·.frame)) g₀ h₀' → Fr h₀' L s'.heap m → News h₀' L s'.heap news' → Below A₀ base outer h₀' → K.In h₀' → Top p loose mean mg mb h₀' →
    KtsDicts (outer.filterMap (·.frame)) h₀' → R (.ok (.ret v)) s'
theorem leaveT {fs : List Addr} {A₀ : Around} {base : Heap} {outer : List Env} {K : Frag} {p : Program} {loose : List Str} {mean : ExcName → Option Value} {mg mb : Str → Option Value} {g₀ g g' : Heap} {L L' : Addr} {m m' : Str → Option Value} {news' : List (Addr × Obj)} {R : Result → Shared → Prop} {v : Value} {s' : Shared}
    (F' : Fr g' L' s'.heap m') (N' : News g' L' s'.heap news') (T : KtsTurn fs g g')
    (k : ∀ h₀', KtsTurn (outer.filterMap (·.frame)) g₀ h₀' → Fr h₀' L s'.heap m → News h₀' L s'.heap news' → Below A₀ base outer h₀' → K.In h₀' → Top p loose mean mg mb h₀' → KtsDicts (outer.filterMap (·.frame)) h₀' → R (.ok (.ret v)) s') :
    LeaveT fs A₀ base outer K p loose mean mg mb g₀ L m g R v s' := ⟨g', L', m', news', T, F', N', k⟩
section
variable {prog : Program} {w : World} {A₀ A : Around} {s : Shared} {base h₀ g₀ : Heap} {outer : List Env} {L : Addr} {m : Str → Option Value} {env : Env} {news : List (Addr × Obj)} {K : Frag} {p : Program} {loose : List Str} {mean : ExcName → Option Value} {mg mb : Str → Option Value}
  {R : Result → Shared → Prop} {name qual : Str} {params : Arguments} {body : List Stmt} {scope : Scope} {dV kV doc pm cdv ct oc : Value} {an od : Option Addr} {osl : Array (Option Value)} {f : Addr} {args : Args} {binds : List (Str × Value)}
theorem groundT (B : Below A₀ base outer h₀) (F : Fr h₀ L s.heap m) (N : News h₀ L s.heap news) (hA : A.frames = some (env :: outer)) (hf : env.frame = some L) (hke : env.scope.kind = .function)
    (XB : K.In base) (TB : Top p loose mean mg mb base) (D : KtsDicts (outer.filterMap (·.frame)) h₀) (T0 : KtsTurn (outer.filterMap (·.frame)) g₀ h₀) :
    Fr h₀ L (hideAll s.heap (news.map (·.1))) m ∧ Below A base (env :: outer) (hideAll s.heap (news.map (·.1))) ∧ h₀.StaysIn (hideAll s.heap (news.map (·.1))) ∧ KtsDicts ((env :: outer).filterMap (·.frame)) (hideAll s.heap (news.map (·.1))) ∧
      ∀ v s', LeaveT ((env :: outer).filterMap (·.frame)) A₀ base outer K p loose mean mg mb g₀ L m (hideAll s.heap (news.map (·.1))) R v s' → R (.ok (.ret v)) s' := by
  obtain ⟨FG, BG, st, _⟩ := groundX (R := R) B F N hA hf hke
  obtain ⟨oL, es, ep, hL, hLd, hLk, hLf⟩ := FG.ns
  refine ⟨FG, BG, st, fun b hb => ?_, fun v s' hl => ?_⟩
  · rcases kts_memE hf hb with rfl | hb
    · exact ⟨oL, es, ep, hL, hLd⟩
    · obtain ⟨o, es', n', ho', hd'⟩ := D b hb
      exact ⟨o, es', n', st b o ho', hd'⟩
  have nL₀ : h₀.get? L = none := kts_self F
  obtain ⟨g', L', m', news', T', F', N', k⟩ := hl
  obtain ⟨sl, hs⟩ := T'.up hL
  obtain ⟨T₁, S₁⟩ := kts_turn_at (h := s'.heap) (fs := outer.filterMap (·.frame)) (g := h₀)
    (fun b hb => by
      obtain ⟨_, o, ho', _⟩ := B.frames.mem hb
      exact ⟨o, ho'⟩)
    (fun b o e nmem => F'.keep b o (T'.other b o (st b o e) (fun q => by
      rcases kts_memE hf q with z | z
      · rw [z, nL₀] at e
        cases e
      · exact nmem z)))
    (fun b o e hm => by
      obtain ⟨sl', hs'⟩ := T'.up (st b o e)
      exact ⟨sl', F'.keep _ _ hs'⟩)
  have B₃ : Below A₀ base outer (ktsHeap s'.heap (outer.filterMap (·.frame)) h₀) := ⟨B.stack, fun b o e => T₁.other b o (B.stays b o e) (fun hm => by
    rw [(B.frames.mem hm).1] at e
    cases e), B.frames.of_keeps fun b o e _ => by
    obtain ⟨sl', hs'⟩ := T₁.up e
    exact ⟨_, hs', rfl⟩⟩
  refine k _ (T0.trans T₁) ⟨⟨_, es, ep, F'.keep _ _ hs, hLd, hLk, hLf⟩, S₁, by rw [T₁.size]; exact F.above⟩ (fun p hp => ⟨(N' p hp).1, fun q => ?_, ?_⟩) B₃ (XB.keeps B₃.stays) (TB.keeps B₃.stays) (D.turn T₁)
  · have := (N' p hp).2.2; rw [q, hs] at this; cases this
  · refine T₁.none_ _ ?_
    cases q : h₀.get? p.1 with
    | none => rfl
    | some o =>
      obtain ⟨sl', hs'⟩ := T'.up (st _ _ q)
      have := (N' p hp).2.2
      rw [hs'] at this
      cases this
theorem code_defT (B : Below A₀ base outer h₀) (F : Fr h₀ L s.heap m) (X₀ : K.In h₀) (N : News h₀ L s.heap news) (T : Top p loose mean mg mb h₀) (XB : K.In base) (TB : Top p loose mean mg mb base) (D : KtsDicts (outer.filterMap (·.frame)) h₀)
    (T0 : KtsTurn (outer.filterMap (·.frame)) g₀ h₀) (hA : A.frames = some (env :: outer)) (hf : env.frame = some L) (hke : env.scope.kind = .function)
    (ho : K.lookup f = some ⟨oc, od, .func (fnOf name qual params body scope dV kV doc pm an cdv ct), osl⟩) (hcd : codeIn K cdv qual = true) (hroom : A.depth < recursionLimit)
    (hbind : BindsTo s (fnOf name qual params body scope dV kV doc pm an cdv ct) args binds) (hloc : ∀ y ∈ binds, scope.names.lookup y.1 = some .local)
    (h : ∀ g L' h₁, Fr h₀ L g m → Fr g L' h₁ (fun y => binds.reverse.lookup y) → News g L' h₁ news → Below A base (env :: outer) g → K.In g → Top p loose mean mg mb g → KtsDicts ((env :: outer).filterMap (·.frame)) g →
      wpAny (model prog w) (A.deeper (envOf qual scope L' f cdv)) (execs body (envOf qual scope L' f cdv))
        (fun fl s' => LeaveT ((env :: outer).filterMap (·.frame)) A₀ base outer K p loose mean mg mb g₀ L m g R (match fl with | .ret v => v | _ => .none) s')
        (fun e s' => wpAny (model prog w) (A.deeper (envOf qual scope L' f cdv)) (leaving (envOf qual scope L' f cdv) e) (fun _ s'' => R (.error e) s'') (fun e' s'' => R (.error e') s'') s')
        { s with heap := h₁, toks := s.toks + binds.length })
    (hco : scope.isCoroutine = false) (hgen : scope.isGenerator = false) (hk : scope.kind = .function)
    (hcell : ∀ x ∈ scope.names, x.2 ≠ .cell) : codeAny (model prog w) A (.call (.ref f) args) R s := by
  have X := X₀.keeps F.keep
  obtain ⟨FG, BG, st, DG, lv⟩ := groundT (R := R) B F N hA hf hke XB TB D T0
  refine codeAny_call_def (fd := fnOf name qual params body scope dV kV doc pm an cdv ct) (body := body) (binds := binds) hroom (X _ _ ho) rfl (T.nolimit.keeps F.keep) (codeRec_of X hcd) rfl hbind hcell hloc (fun h₁ hns hk₁ => ?_) hco hgen hk
  exact wpAny_mono (h _ s.heap.objs.size h₁ FG ⟨hns, fun b o e => hk₁ b o (of_hideAll _ e), Nat.le_of_eq (hideAll_size _ _)⟩
    (fun p hp => ⟨hk₁ _ _ (N p hp).1, Nat.ne_of_lt (Heap.lt_size (N p hp).1), hideAll_none _ (List.mem_map_of_mem hp)⟩) BG (X₀.keeps st) (T.keeps st) DG) (fun fl s' hl => lv _ _ hl) fun _ _ y => y
theorem code_defTC (B : Below A₀ base outer h₀) (F : Fr h₀ L s.heap m) (X₀ : K.In h₀) (N : News h₀ L s.heap news) (T : Top p loose mean mg mb h₀) (XB : K.In base) (TB : Top p loose mean mg mb base) (D : KtsDicts (outer.filterMap (·.frame)) h₀)
    (T0 : KtsTurn (outer.filterMap (·.frame)) g₀ h₀) (hA : A.frames = some (env :: outer)) (hf : env.frame = some L) (hke : env.scope.kind = .function)
    (ho : K.lookup f = some ⟨oc, od, .func (fnOf name qual params body scope dV kV doc pm an cdv ct), osl⟩) (hcd : codeIn K cdv qual = true) (hroom : A.depth < recursionLimit)
    (hbind : BindsTo s (fnOf name qual params body scope dV kV doc pm an cdv ct) args binds) (hkind : (binds.all fun y => scope.names.lookup y.1 == some .local || scope.names.lookup y.1 == some .cell) = true)
    (hnd : ((cellsFrom 0 scope.names []).map (·.1)).Nodup)
    (h : ∀ g L' h₁ tk cells, Fr h₀ L g m → Fr g L' h₁ (bindL (envOfC qual scope L' f cdv).kindOf binds fun _ => none) → News g L' h₁ (cells ++ news) →
      CellsAre (bindC (envOfC qual scope L' f cdv).kindOf binds fun _ => none) (cellsFrom (L' + 1) scope.names []) cells → Below A base (env :: outer) g → K.In g → Top p loose mean mg mb g → KtsDicts ((env :: outer).filterMap (·.frame)) g → (∀ p ∈ news, p.1 < L') →
      wpAny (model prog w) (A.deeper (envOfC qual scope L' f cdv)) (execs body (envOfC qual scope L' f cdv))
        (fun fl s' => LeaveT ((env :: outer).filterMap (·.frame)) A₀ base outer K p loose mean mg mb g₀ L m g R (match fl with | .ret v => v | _ => .none) s')
        (fun e s' => wpAny (model prog w) (A.deeper (envOfC qual scope L' f cdv)) (leaving (envOfC qual scope L' f cdv) e) (fun _ s'' => R (.error e) s'') (fun e' s'' => R (.error e') s'') s')
        { s with heap := h₁, toks := tk })
    (hco : scope.isCoroutine = false) (hgen : scope.isGenerator = false) (hk : scope.kind = .function) : codeAny (model prog w) A (.call (.ref f) args) R s := by
  have X := X₀.keeps F.keep
  obtain ⟨FG, BG, st, DG, lv⟩ := groundT (R := R) B F N hA hf hke XB TB D T0
  refine codeAny_call_function hroom (X _ _ ho) rfl hco hgen rfl (codeRec_of X hcd) (hbind _ _ _ _ ?_)
  refine wpAny_newFunctionEnv_cells hk (kindsX hkind _) fun env' he s' x => ?_
  subst he
  refine ⟨(T.nolimit.keeps F.keep).keeps x.toInCall.keep, codeAny_func ?_⟩
  obtain ⟨h₁, tk, rfl, _⟩ := x.done
  have hk₁ := x.toInCall.keep
  obtain ⟨cells, NC, Y⟩ := Cl.news (h₀ := s.heap) (Nat.le_refl _) fun n c hm => ⟨x.cell n c (lookup_of_mem_nodup (cellsFrom_names scope.names 0 (s.heap.objs.size + 1) [] [] rfl ▸ hnd) hm), x.above n c hm⟩
  refine wpAny_mono (h _ s.heap.objs.size h₁ tk cells FG ⟨x.toInCall.ns, fun b o e => hk₁ b o (of_hideAll _ e), Nat.le_of_eq (hideAll_size _ _)⟩ (fun p hp => ?_) Y BG (X₀.keeps st) (T.keeps st) DG (fun p hp => Heap.lt_size (N p hp).1)) (fun fl s' hl => lv _ _ hl) fun _ _ y => y
  rcases List.mem_append.mp hp with hp | hp
  · refine ⟨(NC p hp).1, (NC p hp).2.1, ?_⟩
    cases q : (hideAll s.heap (news.map (·.1))).get? p.1 with
    | none => rfl
    | some o => have := of_hideAll _ q; rw [(NC p hp).2.2] at this; cases this
  · exact ⟨hk₁ _ _ (N p hp).1, Nat.ne_of_lt (Heap.lt_size (N p hp).1), hideAll_none _ (List.mem_map_of_mem hp)⟩
end
/-- a call of `lam` raises SegmentError, in whatever frame -/
def Deed (w : World) (lam : Addr) (news : List (Addr × Obj)) : Prop := ∀ {p : Program} {loose : List Str} {mean : ExcName → Option Value} {mg mb : Str → Option Value} {dp un : Nat} {gd : Option (List Code)} {cn : Str} {cs : Scope} {a : Addr} {ccd : Value} {cl : List (Str × Addr)} {outer : List Env} {A₀ : Around} {base h₀ : Heap} {L : Addr} {m : Str → Option Value} {s : Shared} {Q E : Value → Shared → Prop}
    (_B : Below A₀ base outer h₀) (_F : Fr h₀ L s.heap m) (_X : (k0.heap_1 w.params).In h₀) (_N : News h₀ L s.heap news) (_T : Top p loose mean mg mb h₀) (_hk : cs.kind = .function) (_hdp : dp + 8 < recursionLimit) (_hu : un + 64 < cLine)
    (_raised : ∀ e t vs g h' tk', RaisedS base g (envX cn cs L a ccd cl :: outer) e (.ref 44) t vs news h' → Fr h₀ L g m → g.UpToSlots h' → E (.ref e) { s with heap := h', toks := tk' }),
    wpAny (model Challenge.rw_pf0230_01.row.prog w) (ktrTop dp un gd cn cs L a ccd cl outer) (call (.ref lam) []) Q E s
theorem words12 : True := by
  (k_with "m_enterT" => (first | ((refine' code_defT (by k_asm) (by k_asm) (by k_asm) (by k_asm) (by k_asm) (by assumption) (by assumption) (by assumption) (by first | assumption | exact KtsTurn.refl) (by exact rfl) (by exact rfl) (by first | exact rfl | assumption) (by k_is) (by k_is) (by walk_at "m_room") (by exact BindsTo.of_eq rfl) (by exact locs rfl) ?_ (by exact rfl) (by exact rfl) (by exact rfl) (by decide); k_whole; intro zzg' zzL' zzh' zzFG' zzF' zzN' zzB' zzX' zzT' zzD'; (try dsimp only); (try k_lift zzB'); (try k_fold))) | fail "word"))
  (k_with "m_enterTC" => (first | ((refine' code_defTC (by k_asm) (by k_asm) (by k_asm) (by k_asm) (by k_asm) (by assumption) (by assumption) (by assumption) (by first | assumption | exact KtsTurn.refl) (by exact rfl) (by exact rfl) (by first | exact rfl | assumption) (by k_is) (by k_is) (by walk_at "m_room") (by exact BindsTo.of_eq rfl) (by exact rfl) (by decide +kernel) ?_ (by exact rfl) (by exact rfl) (by exact rfl); k_whole; intro zzg' zzL' zzh' zztk' zzcells' zzFG' zzF' zzN' zzY' zzB' zzX' zzT' zzD' zzl1; (try k_lt zzl1); k_cells zzY'; (try simp only [List.cons_append, List.nil_append] at zzN'); (try dsimp only); (try k_lift zzB'); (try k_fold))) | fail "word"))
  (k_with "LeaveT" => (first | ((k_dflt (refine' leaveT (by k_asm) (by k_asm) (by first | assumption | exact KtsTurn.refl) ?_; k_whole); intro zzkg zzkT zzkF zzkN zzkB zzkX₀ zzkP zzkD; (try k_lift zzkB); (try dsimp only))) | fail "word"))
  (k_with "call ref" => (first | ((k_here; (rename Deed _ _ _ => zzdX); k_dflt (refine' zzdX (by k_asm) (by k_asm) (by k_asm) (by k_asm) (by k_asm) (by first | exact rfl | assumption) (by walk_at "m_room") (by walk_at "m_room") ?_); intro zze' zzt' zzvs' zzg' zzh' zztk' zzR' zzF' zzU')) | fail "word"))
  (k_with "callWith ref" => (first | ((k_here; (with_reducible show wpAny _ _ (callWith _ (Value.ref _) _ (backTo _ (starEach [] _)) []) _ _ _); k_dflt (refine' callWith_F0 (by exact FnAt.of (by k_asm) (by first | assumption | k_mem)) ?_); (try dsimp only [List.nil_append, List.cons_append]))) | fail "word"))
  trivial
theorem refused_spec {w : World} {p : Program} {loose : List Str} {mean : ExcName → Option Value} {mg mb : Str → Option Value} {dp un : Nat} {gd : Option (List Code)} {cn : Str} {cs : Scope} {a : Addr} {ccd : Value} {cl : List (Str × Addr)} {outer : List Env} {A₀ : Around} {base h₀ : Heap} {L : Addr} {m : Str → Option Value} {s : Shared} {Q E : Value → Shared → Prop}
    {news : List (Addr × Obj)} {lam : Addr} {g₀ : Heap}
    (B : Below A₀ base outer h₀) (F : Fr h₀ L s.heap m) (X : (k0.heap_1 w.params).In h₀) (N : News h₀ L s.heap news) (T : Top p loose mean mg mb h₀) (hk : cs.kind = .function) (hdp : dp + 9 < recursionLimit) (hu : un + 72 < cLine)
    (XB : (k0.heap_1 w.params).In base) (TB : Top p loose mean mg mb base) (D : KtsDicts (outer.filterMap (·.frame)) h₀) (T0 : KtsTurn (outer.filterMap (·.frame)) g₀ h₀) (hdeed : Deed w lam news) {fd : FuncData} (lo : (lam, ({ cls := .type "function", data := .func fd } : Obj)) ∈ news)
    (ret : ∀  h₀' h' tk', KtsTurn (outer.filterMap (·.frame)) g₀ h₀' → Fr h₀' L h' m → News h₀' L h' news → Below A₀ base outer h₀' → (k0.heap_1 w.params).In h₀' → Top p loose mean mg mb h₀' → KtsDicts (outer.filterMap (·.frame)) h₀' → Q (.bool true) { s with heap := h', toks := tk' }) :
    wpAny (model Challenge.rw_pf0230_01.row.prog w) (ktrTop dp un gd cn cs L a ccd cl outer) (call (.ref 169) [.ref lam]) Q E s := by
  refine wpAny_call ?_
  k_dflt (walk_at "m_enterT")
  k_steps
  exact ret _ _ _ (by assumption) (by k_asm) (by k_asm) (by assumption) (by assumption) (by assumption) (by assumption)
section
open PySem PySem.W PyProof.Rows PySem.Calls PySem.Spec PySem.SeqAt
theorem eqAt_bytes {A : Around} {s : Shared} (b : Array UInt8) (t : Tok) (c : Array UInt8) (u : Tok) (h : b = c) : EqAt A s (.bytes b t) (.bytes c u) true := fun prog w E Q hq => by
  subst h
  unfold eqBool
  refine wpAny_holding ?_
  refine wpAny_ite_split (fun _ => wpAny_bind (wpAny_rule (wpAny_pure hq))) (fun _ => ?_)
  refine wpAny_bind (eq_bytes (Q := fun v s' => wpAny (model prog w) A (truthOfDropped v) Q E s') ?_)
  rw [beq_self_eq_true]
  exact wpAny_truthy_bool hq
theorem wire_jpeg {x y : Int} {pal oct : List UInt8} : wireOf "jpeg" x y pal oct = 74 :: 70 :: 88 :: 88 :: 0 :: 16 :: (pal ++ oct) := rfl
theorem wire_pal {x y : Int} {pal oct : List UInt8} : wireOf "palette" x y pal oct = 74 :: 70 :: 88 :: 88 :: 0 :: 17 :: x.toNat.toUInt8 :: y.toNat.toUInt8 :: (pal ++ oct) := rfl
theorem wire_rgb {x y : Int} {pal oct : List UInt8} : wireOf "rgb" x y pal oct = 74 :: 70 :: 88 :: 88 :: 0 :: 19 :: x.toNat.toUInt8 :: y.toNat.toUInt8 :: (pal ++ oct) := rfl
theorem bne_self_list {l : List UInt8} : (l != l) = false := by simp
theorem u8_back (u : UInt8) : ((u.toNat : Int).toNat).toUInt8 = u := by rw [Int.toNat_natCast]; simp
theorem u8_of {x : Int} (h0 : 0 ≤ x) (h1 : x ≤ 255) : ∃ u : UInt8, x = (u.toNat : Int) := ⟨x.toNat.toUInt8, by
  rw [show (x.toNat.toUInt8).toNat = x.toNat % 256 from by simp]
  omega⟩
theorem is_tupN {h₀ h : Heap} {L l : Addr} {news : List (Addr × Obj)} {vs : List Value} (N : News h₀ L h news) (hm : (l, tupObj vs) ∈ news) : IsTup h l vs.toArray := ⟨_, N.get hm, rfl, 0, rfl⟩
abbrev rowVs (kind : Str) (x y : Int) (pal oct : List UInt8) (t1 t2 t3 t4 t5 : Tok) : List Value := [.str kind t1, .int x t2, .int y t3, .bytes pal.toArray t4, .bytes oct.toArray t5]
section
variable {prog : Program} {w : World} {A : Around} {E : Value → Shared → Prop} {s : Shared} {h₀ : Heap} {L r1 r2 : Addr} {news : List (Addr × Obj)} {kind : Str} {x y : Int} {pal oct : List UInt8} {t1 t2 t3 t4 t5 u1 u2 u3 u4 u5 : Tok} {Q : Value → Shared → Prop}
theorem row_items (j : Nat) (h1 : j < (rowVs kind x y pal oct t1 t2 t3 t4 t5).toArray.size) (h2 : j < (rowVs kind x y pal oct u1 u2 u3 u4 u5).toArray.size) : EqAt A s (rowVs kind x y pal oct t1 t2 t3 t4 t5).toArray[j] (rowVs kind x y pal oct u1 u2 u3 u4 u5).toArray[j] true := by
  have hj : j < 5 := h1
  have e : j = 0 ∨ j = 1 ∨ j = 2 ∨ j = 3 ∨ j = 4 := by omega
  rcases e with rfl | rfl | rfl | rfl | rfl
  · show EqAt A s (.str kind t1) (.str kind u1) true
    have := EqAt.str_str (A := A) (s := s) kind t1 kind u1
    rwa [beq_self_eq_true] at this
  · show EqAt A s (.int x t2) (.int x u2) true
    have := EqAt.int_int (A := A) (s := s) x t2 x u2
    rwa [beq_self_eq_true] at this
  · show EqAt A s (.int y t3) (.int y u3) true
    have := EqAt.int_int (A := A) (s := s) y t3 y u3
    rwa [beq_self_eq_true] at this
  · exact eqAt_bytes _ _ _ _ rfl
  · exact eqAt_bytes _ _ _ _ rfl
theorem row_eq (N : News h₀ L s.heap news) (m1 : (r1, tupObj (rowVs kind x y pal oct t1 t2 t3 t4 t5)) ∈ news) (m2 : (r2, tupObj (rowVs kind x y pal oct u1 u2 u3 u4 u5)) ∈ news) (hu : A.units < cLine) (h : Q (.bool true) s) : wpAny (model prog w) A (compareOp .Eq (.ref r1) (.ref r2)) Q E s :=
  eq_tupleAt (e := fun _ => true) (items := (rowVs kind x y pal oct t1 t2 t3 t4 t5).toArray) (items2 := (rowVs kind x y pal oct u1 u2 u3 u4 u5).toArray) ⟨_, N.get m1, rfl, 0, rfl⟩ ⟨_, N.get m2, rfl, 0, rfl⟩ hu (fun j h1 h2 => row_items j h1 h2) h
theorem row_ne (N : News h₀ L s.heap news) (m1 : (r1, tupObj (rowVs kind x y pal oct t1 t2 t3 t4 t5)) ∈ news) (m2 : (r2, tupObj (rowVs kind x y pal oct u1 u2 u3 u4 u5)) ∈ news) (hu : A.units < cLine) (h : Q (.bool false) s) : wpAny (model prog w) A (compareOp .NotEq (.ref r1) (.ref r2)) Q E s :=
  RcNeAt.tuples (e := fun _ => true) (items := (rowVs kind x y pal oct t1 t2 t3 t4 t5).toArray) (items2 := (rowVs kind x y pal oct u1 u2 u3 u4 u5).toArray) ⟨_, N.get m1, rfl, 0, rfl⟩ ⟨_, N.get m2, rfl, 0, rfl⟩ hu (fun j h1 h2 => row_items j h1 h2) prog w E Q h
end
end
abbrev cellO : Obj := { cls := .type "cell", data := .cell none }
def Off4 (I C Y D : Addr) (l : List (Addr × Obj)) : Prop := ∀ p ∈ l, p.1 ≠ I ∧ p.1 ≠ C ∧ p.1 ≠ Y ∧ p.1 ≠ D
def CellEnd (h₀ : Heap) (L : Addr) (m : Str → Option Value) (s₁ : Shared) (I : Addr) (oI : Obj) (C : Addr) (oC : Obj) (Y : Addr) (oY : Obj) (D : Addr) (oD : Obj) (rest : Value → List (Addr × Obj) → Prop) (y : Value) (s₂ : Shared) : Prop :=
  ∃ h' tk nx', s₂ = { s₁ with heap := h', toks := tk } ∧ Fr h₀ L h' m ∧ News h₀ L h' ((I, oI) :: (C, oC) :: (Y, oY) :: (D, oD) :: nx') ∧ Off4 I C Y D nx' ∧ rest y nx'
theorem comp_cell {prog : Program} {w : World} {A : Around} {E : Value → Shared → Prop} {s₁ : Shared} {h₀ : Heap} {L r : Addr} {m : Str → Option Value} {env : Env} {elt iter : Expr} {x : Str} {px pos : Pos} {scope : Scope} {cl : List (Str × Addr)} {news : List (Addr × Obj)} {Q : Value → Shared → Prop} {t u v : Tok} {n : Nat}
    (J : Nat → List Value → List (Addr × Obj) → Prop) (hcells : ∀ k, cellsFrom k scope.names cl = (x, k) :: cl) (hpush : ∀ h, pushCells h scope.names = h.push cellO) (hkind : scope.kind = .function)
    (hxk : ∀ C Y, (compEnvC scope ((x, Y) :: cl) C env).kindOf x = some .cell)
    (hh : A.handled = none) (F : Fr h₀ L s₁.heap m) (N : News h₀ L s₁.heap news) (hr : IsRange s₁.heap r 0 (n : Int) 1 t u v) (hb : n ≤ 1000000) (hj : J 0 [] news)
    (turn : ∀ (i : Nat) (t : Tok) I oI C oC Y oY D ys nx h tk (E' : Value → Shared → Prop), i < n → J i ys nx → oY.data = .cell (some (.int (i : Int) t)) → Fr h₀ L h m → News h₀ L h ((I, oI) :: (C, oC) :: (Y, oY) :: (D, LCg.lst ys) :: nx) → Off4 I C Y D nx → ((@Ne Nat I C) ∧ (@Ne Nat I Y) ∧ (@Ne Nat I D) ∧ (@Ne Nat C Y) ∧ (@Ne Nat C D) ∧ (@Ne Nat Y D)) →
      wpAny (model prog w) A (eval elt (compEnvC scope ((x, Y) :: cl) C env)) (CellEnd h₀ L m { s₁ with heap := h, toks := tk } I oI C oC Y oY D (LCg.lst ys) (fun y nx' => J (i + 1) (ys ++ [y]) nx')) E' { s₁ with heap := h, toks := tk })
    (fin : ∀ ys nx D h tk, J n ys nx → Fr h₀ L h m → News h₀ L h ((D, LCg.lst ys) :: nx) → Q (.ref D) { s₁ with heap := h, toks := tk }) :
    wpAny (model prog w) A (pyIter (.ref r)) (fun it s₂ => wpAny (model prog w) A (newList []) (fun acc s₃ => wpAny (model prog w) A (newFunctionEnv scope env.globals cl [] env.qual none .none (some env)) (fun cenv s₄ =>
      codeAny (model prog w) A (.compStart (.ListComp elt [⟨.Name x px, iter, [], 0⟩] scope pos) 0 it acc { cenv with scope := relabel scope env }) (compPost (model prog w) A E none Q acc cenv.locals) s₄) E s₃) E s₂) E s₁ := by
  refine wpAny_pyIter_range hr (small_one (by decide) (by decide) (by omega) (by omega)) ?_
  have W := LCg.range_walks (prog := prog) (w := w) (A := A) (I := s₁.heap.objs.size) hh 0 n
  generalize hH1 : s₁.heap.push { cls := .type "range_iterator", data := .fields #[rawInt 0, rawInt (Builtin.Range.rangeSize 0 (n : Int) 1), rawInt 1] } = H1
  have hst0 : IsRangeIter H1 s₁.heap.objs.size (0 + ((0 : Nat) : Int) * 1) ((n : Int) - ((0 : Nat) : Int)) 1 := by
    rw [← hH1]
    show Heap.get? _ _ = some _
    rw [range_size]
    simpa using Heap.get?_push_size _ rfl
  refine wpAny_newObj_type ?_
  simp only [newFunctionEnv, Option.isSome_some, if_true]
  refine wpAny_bind (wpAny_alloc ?_)
  refine wpAny_bind (wpAny_layCells _ (fun name kind cells => by cases hkc : kind == NameKind.cell <;> simp [hkc]) _ _ _ _ ?_)
  rw [hcells, hpush]
  rw [List.forIn_nil]
  refine wpAny_bind (wpAny_pure (wpAny_pure ?_))
  dsimp only
  generalize hI : s₁.heap.objs.size = I at *
  have hH1s : H1.objs.size = I + 1 := by rw [← hH1, Heap.size_push, hI]
  generalize hD : H1.objs.size = D at *
  generalize hH2 : H1.push { cls := .type "list", data := .seq ([] : List Value).toArray } = H2 at *
  have hH2s : H2.objs.size = D + 1 := by rw [← hH2, Heap.size_push, hD]
  generalize hC : H2.objs.size = C at *
  generalize hH3 : H2.push { cls := .type "dict", data := .dict #[] } = H3 at *
  have hH3s : H3.objs.size = C + 1 := by rw [← hH3, Heap.size_push, hC]
  generalize hY : H3.objs.size = Y at *
  have hID : @Ne Nat I D := by omega
  have hIC : @Ne Nat I C := by omega
  have hIY : @Ne Nat I Y := by omega
  have hDC : @Ne Nat D C := by omega
  have hDY : @Ne Nat D Y := by omega
  have hCY : @Ne Nat C Y := by omega
  have up1 : ∀ b o, s₁.heap.get? b = some o → H1.get? b = some o := fun b o e => by rw [← hH1]; exact Heap.get?_push_of_some _ e
  have up2 : ∀ b o, H1.get? b = some o → H2.get? b = some o := fun b o e => by rw [← hH2]; exact Heap.get?_push_of_some _ e
  have up3 : ∀ b o, H2.get? b = some o → H3.get? b = some o := fun b o e => by rw [← hH3]; exact Heap.get?_push_of_some _ e
  have up4 : ∀ b o, H3.get? b = some o → (H3.push cellO).get? b = some o := fun b o e => Heap.get?_push_of_some _ e
  have old : ∀ b o, s₁.heap.get? b = some o → (H3.push cellO).get? b = some o := fun b o e => up4 b o (up3 b o (up2 b o (up1 b o e)))
  have fresh₀ : ∀ a, @LE.le Nat _ I a → h₀.get? a = none := fun a ha => by
    cases e : h₀.get? a with
    | none => rfl
    | some o' =>
      have := Heap.lt_size (F.keep a o' e)
      rw [hI] at this
      exact absurd ha (Nat.not_le.mpr this)
  have hI₀ := fresh₀ I (Nat.le_refl _)
  have hD₀ := fresh₀ D (by omega)
  have hC₀ := fresh₀ C (by omega)
  have hY₀ := fresh₀ Y (by omega)
  have hLlt : @LT.lt Nat _ L I := by have := F.ns.lt; rw [hI] at this; exact this
  have hLI : @Ne Nat L I := by omega
  have hDL : @Ne Nat D L := by omega
  have hCL : @Ne Nat C L := by omega
  have hYL : @Ne Nat Y L := by omega
  have st0 : IsRangeIter (H3.push cellO) I (0 + ((0 : Nat) : Int) * 1) ((n : Int) - ((0 : Nat) : Int)) 1 := up4 _ _ (up3 _ _ (up2 _ _ hst0))
  have ns0 : (H3.push cellO).Ns C (fun _ => none) := by
    have := (Heap.Ns.new H2 (.type "dict"))
    rw [hC, hH3] at this
    exact this.keeps up4
  have cell0 : (H3.push cellO).IsCell Y none := ⟨cellO, by rw [← hY]; exact Heap.get?_push_size _ rfl, rfl⟩
  have acc0 : (H3.push cellO).get? D = some (LCg.lst []) := up4 _ _ (up3 _ _ (by rw [← hH2, ← hD]; exact Heap.get?_push_size _ rfl))
  have loop : ∀ s₃ : Shared, s₃ = { s₁ with heap := H3.push cellO } →
      codeAny (model prog w) A (.compLoop (.ListComp elt [⟨.Name x px, iter, [], 0⟩] scope pos) 0 (.ref I) (.ref D) (compEnvC scope ((x, Y) :: cl) C env)) (compPost (model prog w) A E none Q (.ref D) C) s₃ := by
    rintro s₃ rfl
    refine codeAny_compLoop_tests
      (fun k s' => ∃ h' tk i ys m' v' nx, s' = { s₁ with heap := h', toks := tk } ∧ i ≤ n ∧ k = n + 1 - i ∧ ys.length = i ∧ IsRangeIter h' I (0 + (i : Int) * 1) ((n : Int) - (i : Int)) 1 ∧ Fr h₀ L h' m ∧ h'.Ns C m' ∧ h'.IsCell Y v' ∧ News h₀ L h' ((D, LCg.lst ys) :: nx) ∧
        Off4 I C Y D nx ∧ J i ys nx) ?_ (n + 1)
      ⟨H3.push cellO, _, 0, [], _, _, news, rfl, Nat.zero_le _, rfl, rfl, st0, F.keeps old, ns0, cell0, fun p hp => ?_, fun p hp => ?_, hj⟩
    · rintro k s' ⟨h', tk, i, ys, m', v', nx, rfl, hi, rfl, hyl, hst', F', hn', hc', N', off', hJ'⟩
      by_cases hlt : i < n
      · refine W.item i _ _ _ hlt hst' fun v h₂ tk₂ hPv hst₂ hk₂ => ?_
        obtain ⟨tv, rfl⟩ := hPv
        rw [Int.zero_add]
        have keep2 : ∀ b o, b ≠ I → h'.get? b = some o → h₂.get? b = some o := fun b o hb e => hk₂ b o (by simpa using hb) e
        obtain ⟨oc, hoc, hdc⟩ := id hc'
        refine wpAny_assign_Name (wpAny_storeName_cell (c := Y) (v₀ := v') (by simp [compEnvC, relabel, hkind]) (hxk C Y) (by simp [compEnvC]) ⟨oc, keep2 _ _ (Ne.symm hIY) hoc, hdc⟩ (fun h₃ hc₃ hs₃ => ?_))
        refine wpAny_tests_nil ?_
        simp only [if_true]
        have hst₃ : IsRangeIter h₃ I (0 + ((i + 1 : Nat) : Int) * 1) ((n : Int) - ((i + 1 : Nat) : Int)) 1 := hs₃.extBut _ _ hIY hst₂
        obtain ⟨oY, heY, hoY⟩ := id hc₃
        have hn₃ : h₃.Ns C m' := hn'.at' fun o e => hs₃.extBut _ _ hCY (keep2 _ _ (Ne.symm hIC) e)
        obtain ⟨oC, heC, hoC⟩ := LCg.ns_obj hn₃
        have F₃ : Fr h₀ L h₃ m := (LCg.fr_but F' hk₂ hLI hI₀).change hs₃ hYL hY₀
        have N₃ : News h₀ L h₃ ((I, _) :: (C, oC) :: (Y, oY) :: (D, LCg.lst ys) :: nx) := fun p hp => by
          rcases List.mem_cons.mp hp with rfl | hp
          · exact ⟨hst₃, Ne.symm hLI, hI₀⟩
          rcases List.mem_cons.mp hp with rfl | hp
          · exact ⟨heC, hCL, hC₀⟩
          rcases List.mem_cons.mp hp with rfl | hp
          · exact ⟨heY, hYL, hY₀⟩
          have z := N' p hp
          rcases List.mem_cons.mp hp with rfl | hp
          · exact ⟨hs₃.extBut _ _ hDY (keep2 _ _ (Ne.symm hID) z.1), z.2⟩
          · exact ⟨hs₃.extBut _ _ (off' p hp).2.2.1 (keep2 _ _ (off' p hp).1 z.1), z.2⟩
        refine wpAny_mono (turn i tv I _ C oC Y oY D ys nx h₃ tk₂ _ hlt hJ' hoY F₃ N₃ off' ⟨hIC, hIY, hID, hCY, Ne.symm hDC, Ne.symm hDY⟩) (fun y s₄ h₄ => ?_) fun _ _ e => e
        obtain ⟨h₄, tk₄, nx₄, rfl, F₄, N₄, off₄, hJ₄⟩ := h₄
        have zI := (N₄ _ (.head _)).1
        have zC := (N₄ (C, oC) (.tail _ (.head _))).1
        have zY := (N₄ (Y, oY) (.tail _ (.tail _ (.head _)))).1
        have zD := (N₄ (D, LCg.lst ys) (.tail _ (.tail _ (.tail _ (.head _))))).1
        refine append_at (hsz := by show ys.toArray.size ≤ sizeLine; rw [List.size_toArray, hyl, sizeLine_eq]; omega) zD fun h₅ hs₅ hD₅ => ?_
        refine ⟨n + 1 - (i + 1), by omega, h₅, tk₄, i + 1, ys ++ [y], m', some (.int (i : Int) tv), nx₄, rfl, hlt, rfl, by rw [List.length_append, List.length_singleton, hyl], hs₅.extBut _ _ hID zI, F₄.change hs₅ hDL hD₀,
          (hoC.ns zC).sameBut hs₅ (Ne.symm hDC), ⟨oY, hs₅.extBut _ _ (Ne.symm hDY) zY, hoY⟩, fun p hp => ?_, off₄, hJ₄⟩
        rcases List.mem_cons.mp hp with rfl | hp
        · exact ⟨hD₅.trans (congrArg some (LCg.lst_snoc ys y)), hDL, hD₀⟩
        · have z := N₄ p (.tail _ (.tail _ (.tail _ (.tail _ hp))))
          exact ⟨hs₅.extBut _ _ (off₄ p hp).2.2.2 z.1, z.2⟩
      · obtain rfl : i = n := Nat.le_antisymm hi (Nat.not_lt.mp hlt)
        refine W.done _ _ _ hst' fun h₂ tk₂ hk₂ => ?_
        have keep2 : ∀ b o, b ≠ I → h'.get? b = some o → h₂.get? b = some o := fun b o hb e => hk₂ b o (by simpa using hb) e
        refine ⟨m', hn'.at' fun o e => keep2 _ _ (Ne.symm hIC) e, fun h'' hs'' => fin ys nx D h'' tk₂ hJ' ((LCg.fr_but F' hk₂ hLI hI₀).change hs'' hCL hC₀) fun p hp => ?_⟩
        have z := N' p hp
        rcases List.mem_cons.mp hp with rfl | hp
        · exact ⟨hs''.extBut _ _ hDC (keep2 _ _ (Ne.symm hID) z.1), z.2⟩
        · exact ⟨hs''.extBut _ _ (off' p hp).2.1 (keep2 _ _ (off' p hp).1 z.1), z.2⟩
    · rcases List.mem_cons.mp hp with rfl | hp
      · exact ⟨acc0, hDL, hD₀⟩
      · exact ⟨old _ _ (N p hp).1, (N p hp).2⟩
    · have := Heap.lt_size (N p hp).1
      rw [hI] at this
      have z : @LT.lt Nat _ p.1 I := this
      refine ⟨?_, ?_, ?_, ?_⟩
      · exact Nat.ne_of_lt z
      · show @Ne Nat _ _; omega
      · show @Ne Nat _ _; omega
      · show @Ne Nat _ _; omega
  exact codeAny_compStart_list (loop _ rfl) (W.self 0 _ _ _ st0 (loop _ rfl))
def CompGen (prog : Program) (w : World) (A : Around) (E : Value → Shared → Prop) (env : Env) (elt iter : Expr) (x : Str) (px : Pos) (scope : Scope) (pos : Pos) (cl : List (Str × Addr)) (Q : Value → Shared → Prop) (xv : Value) (s₁ : Shared) : Prop :=
  wpAny (model prog w) A (pyIter xv) (fun it s₂ => wpAny (model prog w) A (newList []) (fun acc s₃ => wpAny (model prog w) A (newFunctionEnv scope env.globals cl [] env.qual none .none (some env)) (fun cenv s₄ =>
      codeAny (model prog w) A (.compStart (.ListComp elt [⟨.Name x px, iter, [], 0⟩] scope pos) 0 it acc { cenv with scope := relabel scope env }) (compPost (model prog w) A E none Q acc cenv.locals) s₄) E s₃) E s₂) E s₁
theorem ListComp_gen {prog : Program} {w : World} {A : Around} {E : Value → Shared → Prop} {s : Shared} {env : Env} {elt iter : Expr} {x : Str} {px : Pos} {scope : Scope} {cl : List (Str × Addr)} {pos : Pos} {Q : Value → Shared → Prop}
    (hclos : closureFor scope env = pure cl) (hkind : scope.kind = .function) (hnames : ∀ y ∈ scope.names, y.2 = .local → scope.names.lookup y.1 = some .local)
    (h : wpAny (model prog w) A (eval iter env) (CompGen prog w A E env elt iter x px scope pos cl Q) E s)
    (hs : ∀ x, foldedSetIterable iter env x = pure x := by intro _; rfl) :
    wpAny (model prog w) A (eval (.ListComp elt [⟨.Name x px, iter, [], 0⟩] scope pos) env) Q E s := by
  rw [eval_ListComp]
  exact wpAny_comprehension_free (use := none) rfl hs hclos hkind hnames h
theorem comp_bytes {prog : Program} {w : World} {A : Around} {E : Value → Shared → Prop} {s₁ : Shared} {h₀ : Heap} {L : Addr} {m : Str → Option Value} {env : Env} {elt iter : Expr} {x : Str} {px pos : Pos} {scope : Scope} {cl : List (Str × Addr)} {news : List (Addr × Obj)} {Q : Value → Shared → Prop} {l : List UInt8} {t : Tok}
    (J : Nat → List Value → List (Addr × Obj) → Prop) (hcell : ∀ y ∈ scope.names, y.2 ≠ .cell) (hkind : scope.kind = .function) (hx : scope.names.lookup x = some .local)
    (hh : A.handled = none) (F : Fr h₀ L s₁.heap m) (N : News h₀ L s₁.heap news) (hb : l.length ≤ 1000000) (hj : J 0 [] news)
    (turn : ∀ (i : Nat) (c : UInt8) (t : Tok) I oI C oC D m₂ ys nx h tk (E' : Value → Shared → Prop), i < l.length → l[i]? = some c → J i ys nx → LCg.NsObj oC m₂ → m₂ x = some (.int (c.toNat : Int) t) → Fr h₀ L h m → News h₀ L h ((I, oI) :: (C, oC) :: (D, LCg.lst ys) :: nx) → LCg.Off3 I C D nx → ((@Ne Nat I C) ∧ (@Ne Nat I D) ∧ (@Ne Nat C D)) →
      wpAny (model prog w) A (eval elt (compEnvC scope cl C env)) (LCg.CompEnd h₀ L m { s₁ with heap := h, toks := tk } I oI C oC D (LCg.lst ys) (fun _ => True) (fun y nx' => J (i + 1) (ys ++ [y]) nx')) E' { s₁ with heap := h, toks := tk })
    (fin : ∀ ys nx D h tk, J l.length ys nx → Fr h₀ L h m → News h₀ L h ((D, LCg.lst ys) :: nx) → LCg.Off1 D nx → Q (.ref D) { s₁ with heap := h, toks := tk }) :
    CompGen prog w A E env elt iter x px scope pos cl Q (.bytes l.toArray t) s₁ := by
  unfold CompGen
  refine KBw.pyIter_bytes ?_
  refine LCg.block_U (h₀ := h₀) (L := L) (m := m) (news := news) (S := fun _ => True) (Fin := fun ys nx => J l.toArray.size ys nx) (KBw.walks hh s₁.heap.objs.size l.toArray t) (by rw [List.size_toArray, sizeLine_eq]; omega) (fun i h st => by obtain ⟨o, e, _⟩ := st; exact ⟨o, e⟩)
    (fun i h h' o nw st e e' _ _ _ => by
      obtain ⟨o', q, r⟩ := st
      rw [e] at q
      cases q
      exact ⟨o, e', r⟩) hcell hkind hx ⟨_, Heap.get?_push_size _ rfl, rfl, rfl⟩ (fun b hb => ?_)
    (F.keeps fun _ _ e => Heap.get?_push_of_some _ e) (N.grown fun _ _ e => Heap.get?_push_of_some _ e) (Nat.ne_of_lt F.ns.lt) (next_is_new F) (fun p hp => Nat.ne_of_lt (Heap.lt_size (N p hp).1)) trivial ?_ ?_
  · rw [List.mem_singleton.mp hb]
    show s₁.heap.objs.size < (s₁.heap.push _).objs.size
    rw [Heap.size_push]; exact Nat.lt_succ_self _
  · refine comp_rest (s := { s₁ with heap := _ }) J hj ?_ fun ys nx h => h
    rintro i v I oI C oC D m₂ ys nx h tk E' hi ⟨c, tu, hc, rfl⟩ hJ hC hx' F' N' off ne
    have hi' : i < l.length := by simpa using hi
    exact turn i c tu I oI C oC D m₂ ys nx h tk E' hi' (by simpa using hc) hJ hC hx' F' N' off ne
  · intro D C h tk m' ys news' F' N' o1 hn hC₀ hD₀ hCL hDL hCD offC hfin
    refine ⟨m', hn, fun h'' hs'' => fin ys news' D h'' tk (by simpa using hfin) (F'.change hs'' hCL hC₀) (fun p hp => ?_) o1⟩
    refine ⟨hs''.extBut _ _ ?_ (N' p hp).1, (N' p hp).2⟩
    rcases List.mem_cons.mp hp with rfl | hp
    · exact Ne.symm hCD
    · exact offC p hp
theorem col_at : ∀ k : Nat, k < 256 → (COL.drop (3 * k)).take 3 = col k := by decide +kernel
theorem comp_rangeG {prog : Program} {w : World} {A : Around} {E : Value → Shared → Prop} {s₁ : Shared} {h₀ : Heap} {L r : Addr} {m : Str → Option Value} {env : Env} {elt iter : Expr} {x : Str} {px pos : Pos} {scope : Scope} {cl : List (Str × Addr)} {news : List (Addr × Obj)} {Q : Value → Shared → Prop} {n : Nat} {t u v : Tok}
    (J : Nat → List Value → List (Addr × Obj) → Prop) (hcell : ∀ y ∈ scope.names, y.2 ≠ .cell) (hkind : scope.kind = .function) (hx : scope.names.lookup x = some .local)
    (hh : A.handled = none) (F : Fr h₀ L s₁.heap m) (N : News h₀ L s₁.heap news) (hr : IsRange s₁.heap r 0 (n : Int) 1 t u v) (hb : n ≤ 1000000) (hj : J 0 [] news)
    (turn : ∀ (i : Nat) (t : Tok) I oI C oC D m₂ ys nx h tk (E' : Value → Shared → Prop), i < n → J i ys nx → LCg.NsObj oC m₂ → m₂ x = some (.int (i : Int) t) → Fr h₀ L h m → News h₀ L h ((I, oI) :: (C, oC) :: (D, LCg.lst ys) :: nx) → LCg.Off3 I C D nx → ((@Ne Nat I C) ∧ (@Ne Nat I D) ∧ (@Ne Nat C D)) →
      wpAny (model prog w) A (eval elt (compEnvC scope cl C env)) (LCg.CompEnd h₀ L m { s₁ with heap := h, toks := tk } I oI C oC D (LCg.lst ys) (fun _ => True) (fun y nx' => J (i + 1) (ys ++ [y]) nx')) E' { s₁ with heap := h, toks := tk })
    (fin : ∀ ys nx D h tk, J n ys nx → Fr h₀ L h m → News h₀ L h ((D, LCg.lst ys) :: nx) → LCg.Off1 D nx → Q (.ref D) { s₁ with heap := h, toks := tk }) :
    CompGen prog w A E env elt iter x px scope pos cl Q (.ref r) s₁ := by
  unfold CompGen
  refine wpAny_pyIter_range hr (small_one (by decide) (by decide) (by omega) (by omega)) ?_
  refine LCg.block_U (h₀ := h₀) (L := L) (m := m) (news := news) (S := fun _ => True) (Fin := fun ys nx => J n ys nx) (LCg.range_walks hh 0 n) (by rw [sizeLine_eq]; omega) (fun i h st => ⟨_, st⟩) LCg.range_st hcell hkind hx (by show IsRangeIter _ _ _ _ _; rw [range_size]; simpa using Heap.get?_push_size _ rfl) (fun b hb => ?_)
    (F.keeps fun _ _ e => Heap.get?_push_of_some _ e) (N.grown fun _ _ e => Heap.get?_push_of_some _ e) (Nat.ne_of_lt F.ns.lt) (next_is_new F) (fun p hp => Nat.ne_of_lt (Heap.lt_size (N p hp).1)) trivial ?_ ?_
  · rw [List.mem_singleton.mp hb]
    show s₁.heap.objs.size < (s₁.heap.push _).objs.size
    rw [Heap.size_push]; exact Nat.lt_succ_self _
  · refine comp_rest (s := { s₁ with heap := _ }) J hj ?_ fun ys nx h => h
    rintro i v I oI C oC D m₂ ys nx h tk E' hi ⟨tu, rfl⟩ hJ hC hx' F' N' off ne
    rw [Int.zero_add] at hx'
    exact turn i tu I oI C oC D m₂ ys nx h tk E' hi hJ hC hx' F' N' off ne
  · intro D C h tk m' ys news' F' N' o1 hn hC₀ hD₀ hCL hDL hCD offC hfin
    refine ⟨m', hn, fun h'' hs'' => fin ys news' D h'' tk hfin (F'.change hs'' hCL hC₀) (fun p hp => ?_) o1⟩
    refine ⟨hs''.extBut _ _ ?_ (N' p hp).1, (N' p hp).2⟩
    rcases List.mem_cons.mp hp with rfl | hp
    · exact Ne.symm hCD
    · exact offC p hp
theorem news_pre {h₀ h : Heap} {L : Addr} {X N0 nx : List (Addr × Obj)} (N : News h₀ L h (X ++ nx)) (hs : ∀ p ∈ N0, p ∈ nx) : News h₀ L h (X ++ (N0 ++ nx)) := fun p hp => N p (by
  rcases List.mem_append.mp hp with hp | hp
  · exact List.mem_append.mpr (.inl hp)
  · rcases List.mem_append.mp hp with hp | hp
    · exact List.mem_append.mpr (.inr (hs p hp))
    · exact List.mem_append.mpr (.inr hp))
theorem off1_mem {D : Addr} : ∀ {l : List (Addr × Obj)}, LCg.Off1 D l → ∀ p ∈ l, p.1 ≠ D
  | [], _, _, h => nomatch h
  | _ :: _, x, p, h => by
    rcases List.mem_cons.mp h with rfl | h
    · exact x.1
    · exact off1_mem x.2 p h
theorem news_turn {h₀ h : Heap} {L : Addr} {X N0 new : List (Addr × Obj)} (N : News h₀ L h (X ++ (new ++ N0))) : News h₀ L h (X ++ (N0 ++ new)) := fun p hp => N p (by
  rcases List.mem_append.mp hp with hp | hp
  · exact List.mem_append.mpr (.inl hp)
  · rcases List.mem_append.mp hp with hp | hp
    · exact List.mem_append.mpr (.inr (List.mem_append.mpr (.inr hp)))
    · exact List.mem_append.mpr (.inr (List.mem_append.mpr (.inl hp))))
/-- what a comprehension has made so far, over the ledger that it began with -/
def MadeJ (N0 Nd : List (Addr × Obj)) (f : Nat → W.Dat) (i : Nat) (ys : List Value) (nx : List (Addr × Obj)) : Prop := ∃ new, nx = new ++ N0 ∧ (∀ p ∈ new, ∀ q ∈ N0, p.1 ≠ q.1) ∧ DatAll (new ++ Nd) ys ((List.range i).map f)
theorem MadeJ.zero {N0 Nd : List (Addr × Obj)} {f : Nat → W.Dat} : MadeJ N0 Nd f 0 [] N0 := by
  refine ⟨[], rfl, fun p hp => ?_, ?_⟩
  · cases hp
  · exact DatAll.nil
theorem MadeJ.more {N0 Nd new add : List (Addr × Obj)} {f : Nat → W.Dat} {i : Nat} {ys : List Value} {y : Value} (ho : ∀ p ∈ new, ∀ q ∈ N0, p.1 ≠ q.1) (hd : DatAll (new ++ Nd) ys ((List.range i).map f)) (ha : ∀ p ∈ add, ∀ q ∈ N0, p.1 ≠ q.1) (hy : DatIn ((add ++ new) ++ Nd) y (f i)) : MadeJ N0 Nd f (i + 1) (ys ++ [y]) ((add ++ new) ++ N0) := by
  refine ⟨add ++ new, rfl, fun p hp => ?_, ?_⟩
  · rcases List.mem_append.mp hp with hp | hp
    · exact ha p hp
    · exact ho p hp
  · rw [List.range_succ, List.map_append]
    refine datAll_snoc (hd.mono fun p hp => ?_) hy
    rcases List.mem_append.mp hp with hp | hp
    · exact List.mem_append.mpr (.inl (List.mem_append.mpr (.inr hp)))
    · exact List.mem_append.mpr (.inr hp)
abbrev MadeB (N0 : List (Addr × Obj)) (f : Nat → W.Dat) (i : Nat) (ys : List Value) (nx : List (Addr × Obj)) : Prop := MadeJ N0 N0 f i ys nx
theorem off3_cons {I C D : Addr} {p : Addr × Obj} {l : List (Addr × Obj)} (a : p.1 ≠ I) (b : p.1 ≠ C) (c : p.1 ≠ D) (h : LCg.Off3 I C D l) : LCg.Off3 I C D (p :: l) := ⟨⟨a, b, c⟩, h⟩
theorem sub_turn {X N0 new : List (Addr × Obj)} {t : Addr × Obj} : ∀ p, p ∈ X ++ (([t] ++ new) ++ N0) → p ∈ t :: (X ++ (N0 ++ new)) := fun p hp => by
  simp only [List.mem_append, List.mem_cons, List.not_mem_nil, or_false] at hp ⊢
  rcases hp with h | (h | h) | h
  · exact .inr (.inl h)
  · exact .inl h
  · exact .inr (.inr (.inr h))
  · exact .inr (.inr (.inl h))
theorem level_at {f : Nat → W.Dat} {n k : Nat} (h : k < n) : ((List.range n).map f)[k]? = some (f k) := by simp [h]
theorem iv_rgb1 {vs : List Value} {oct pal : List UInt8} {i : Nat} (iv : IntVs vs (List.take ((3 * (i : Int) + 3).toNat - (3 * (i : Int)).toNat) (List.drop (3 * (i : Int)).toNat oct))) : IntVs vs (pix "rgb" pal oct i) := by
  have e1 : (3 * (i : Int)).toNat = 3 * i := by omega
  have e2 : (3 * (i : Int) + 3).toNat - 3 * i = 3 := by omega
  rw [e1, e2] at iv
  show IntVs _ (if _ then _ else _)
  rw [if_neg (by decide)]
  exact iv
theorem pal_dat {news : List (Addr × Obj)} {c : UInt8} {a b d : Tok} {oct : List UInt8} {i : Nat} (h : oct[i]? = some c) : DatAll news [Value.int (c.toNat : Int) a, Value.int (255 - (c.toNat : Int)) b, Value.int (((c.toNat : Int) * 7).fmod 256) d] ((pix "palette" COL oct i).map fun c => W.Dat.int (c.toNat : Int)) := by
  have hc := c.toNat_lt
  have e1 : oct.getD i 0 = c := by simp [List.getD, h]
  have e2 : pix "palette" COL oct i = col c.toNat := by
    show (if _ then _ else _) = _
    rw [if_pos rfl, e1, col_at _ hc]
  rw [e2]
  have d1 : (255 - (c.toNat : Int)) = (((255 - c.toNat).toUInt8).toNat : Int) := by
    rw [show ((255 - c.toNat).toUInt8).toNat = (255 - c.toNat) % 256 from by simp]
    omega
  have d2 : (((c.toNat : Int) * 7).fmod 256) = (((c.toNat * 7 % 256).toUInt8).toNat : Int) := by
    rw [show ((c.toNat * 7 % 256).toUInt8).toNat = (c.toNat * 7 % 256) % 256 from by simp, Int.fmod_eq_emod_of_nonneg _ (by decide)]
    omega
  have d0 : (c.toNat : Int) = (((c.toNat).toUInt8).toNat : Int) := by
    rw [show ((c.toNat).toUInt8).toNat = c.toNat % 256 from by simp]
    omega
  rw [d1, d2]
  refine .cons ?_ (.cons (.int _ _) (.cons (.int _ _) .nil))
  have := DatIn.int (news := news) (c.toNat : Int) a
  show DatIn news _ (W.Dat.int (((c.toNat).toUInt8).toNat : Int))
  rw [show W.Dat.int (((c.toNat).toUInt8).toNat : Int) = W.Dat.int (c.toNat : Int) from by rw [← d0]]
  exact this
theorem wy_lt {j i W H : Nat} (hj : j < H) (hi : i < W) : (W : Int) * (j : Int) + (i : Int) < ((W * H : Nat) : Int) ∧ (0 : Int) ≤ (W : Int) * (j : Int) + (i : Int) ∧ ((W : Int) * (j : Int) + (i : Int)).toNat = j * W + i := by
  have h1 : (j + 1) * W ≤ H * W := Nat.mul_le_mul_right W hj
  rw [Nat.succ_mul, Nat.mul_comm H W] at h1
  have h3 : (W : Int) * (j : Int) = ((j * W : Nat) : Int) := by push_cast; rw [Int.mul_comm]
  rw [h3]
  refine ⟨by omega, by omega, by omega⟩
theorem datAll_at {news : List (Addr × Obj)} : ∀ {vs : List Value} {ds : List W.Dat}, DatAll news vs ds → ∀ (k : Nat) (d : W.Dat), ds[k]? = some d → ∃ v, vs[k]? = some v ∧ DatIn news v d
  | _, _, .nil, k, d, h => by simp at h
  | _, _, .cons h r, 0, d, e => ⟨_, rfl, by have := Option.some.inj e; rw [← this]; exact h⟩
  | _, _, .cons h r, k + 1, d, e => datAll_at r k d e
theorem sub_level {prog : Program} {w : World} {A : Around} {E Q : Value → Shared → Prop} {s : Shared} {h₀ : Heap} {L l : Addr} {news n1 : List (Addr × Obj)} {value slice : PySem.Expr} {lv : List Value} {ds : List W.Dat} {k : Int} {u : Tok}
    (N : News h₀ L s.heap news) (hl : (l, LCg.lst lv) ∈ news) (hd : DatAll n1 lv ds) (h0 : 0 ≤ k) (h1 : k < (ds.length : Int)) (hf : k < 2 ^ 63)
    (h : ∀ v d, ds[k.toNat]? = some d → DatIn n1 v d → Q v s)
    (hs : subscripted slice false (.ref l) (.int k u) = operate [.ref l, .int k u] (getItem (.ref l) (.int k u)) := by with_unfolding_all rfl) :
    wpAny (model prog w) A (subscriptTail value slice (.ref l) (.int k u)) Q E s := by
  have hk : k.toNat < ds.length := by omega
  obtain ⟨v, hv, hdv⟩ := datAll_at hd k.toNat _ (List.getElem?_eq_getElem hk)
  exact item_litK (vs := lv) (is_listN N hl) h0 hf hv (h v _ (List.getElem?_eq_getElem hk) hdv) hs
theorem words13 : True := by
  (k_with "m_enter" => (first | ((refine' code_def (by k_asm) (by k_asm) (by k_asm) (by k_asm) (by k_asm) (by exact rfl) (by exact rfl) (by first | exact rfl | assumption) (by k_is) (by k_is) (by walk_at "m_room") (by exact BindsTo.of_eq rfl) (by exact locs rfl) ?_ (by exact rfl) (by exact rfl) (by exact rfl) (by decide); k_whole; intro zzg' zzL' zzh' zzFG' zzF' zzN' zzB' zzX' zzT'; (try dsimp at zzF'); (try dsimp only); (try k_lift zzB'); (try k_fold))) | fail "word"))
  (k_with "m_enterT" => (first | ((refine' code_defT (by k_asm) (by k_asm) (by k_asm) (by k_asm) (by k_asm) (by assumption) (by assumption) (by assumption) (by first | assumption | exact KtsTurn.refl) (by exact rfl) (by exact rfl) (by first | exact rfl | assumption) (by k_is) (by k_is) (by walk_at "m_room") (by exact BindsTo.of_eq rfl) (by exact locs rfl) ?_ (by exact rfl) (by exact rfl) (by exact rfl) (by decide); k_whole; intro zzg' zzL' zzh' zzFG' zzF' zzN' zzB' zzX' zzT' zzD'; (try dsimp at zzF'); (try dsimp only); (try k_lift zzB'); (try k_fold))) | fail "word"))
  (k_with "m_enterTC" => (first | ((refine' code_defTC (by k_asm) (by k_asm) (by k_asm) (by k_asm) (by k_asm) (by assumption) (by assumption) (by assumption) (by first | assumption | exact KtsTurn.refl) (by exact rfl) (by exact rfl) (by first | exact rfl | assumption) (by k_is) (by k_is) (by walk_at "m_room") (by exact BindsTo.of_eq rfl) (by exact rfl) (by decide +kernel) ?_ (by exact rfl) (by exact rfl) (by exact rfl); k_whole; intro zzg' zzL' zzh' zztk' zzcells' zzFG' zzF' zzN' zzY' zzB' zzX' zzT' zzD' zzl1; (try k_lt zzl1); k_cells zzY'; (try simp only [List.cons_append, List.nil_append] at zzN'); (try dsimp at zzF'); (try (rename (_ = Data.cell _) => zzdC; dsimp at zzdC)); (try dsimp only); (try k_lift zzB'); (try k_fold))) | fail "word"))
  (k_with "call ref" => (first | ((k_here; (with_reducible show wpAny _ _ (call (Value.ref 155) _) _ _ _); k_dflt (refine' thing_spec (by k_asm) (by k_asm) (by k_asm) (by k_asm) (by k_asm) (by first | exact rfl | assumption) (by walk_at "m_room") (by walk_at "m_room") (by k_mem) ?_; k_whole; intro zzx' zzd' zzq1 zzq2 zzq3 zzq4 zzq5 zzh' zztk' zzF' zzN' zzl1 zzl2; (try k_lt zzl1); (try k_lt2 zzl2)))) | fail "word"))
  (k_with "call ref" => (first | ((k_here; (with_reducible show wpAny _ _ (call (Value.ref 162) _) _ _ _); k_dflt (refine' row_spec (by k_asm) (by k_asm) (by k_asm) (by k_asm) (by k_asm) (by first | exact rfl | assumption) (by walk_at "m_room") (by walk_at "m_room") (by k_mem) (by k_mem) ?_; k_whole; intro zzr' zzh' zztk' zzF' zzN' zzl1; (try k_lt zzl1)))) | fail "word"))
  (k_with "call ref" => (first | ((k_here; (with_reducible show wpAny _ _ (call (Value.ref 162) [Value.none]) _ _ _); k_dflt (refine' row_none (by k_asm) (by k_asm) (by k_asm) (by k_asm) (by k_asm) (by first | exact rfl | assumption) (by walk_at "m_room") (by walk_at "m_room") ?_; k_whole; intro zzh' zztk' zzF' zzN'))) | fail "word"))
  (k_with "call ref" => (first | ((k_here; (with_reducible show wpAny _ _ (call (Value.ref 103) [Value.bytes (List.toArray (74 :: 70 :: 88 :: 88 :: 0 :: 16 :: _)) _]) _ _ _); k_dflt (refine' read_jpeg (by k_asm) (by k_asm) (by k_asm) (by k_asm) (by k_asm) (by first | exact rfl | assumption) (by walk_at "m_room") (by walk_at "m_room") (by walk_at "m_sound") (by walk_at "m_size") ?_; k_whole; intro zzx' zzd' zzq1 zzq2 zzq3 zzq4 zzq5 zzq6 zzq7 zzq8 zzq9 zzq10 zzh' zztk' zzF' zzN' zzl1 zzl2; (try k_lt zzl1); (try k_lt2 zzl2)))) | fail "word"))
  (k_with "call ref" => (first | ((k_here; (with_reducible show wpAny _ _ (call (Value.ref 103) [Value.bytes (List.toArray (74 :: 70 :: 88 :: 88 :: 0 :: 17 :: _)) _]) _ _ _); k_dflt (refine' read_pal (by k_asm) (by k_asm) (by k_asm) (by k_asm) (by k_asm) (by first | exact rfl | assumption) (by walk_at "m_room") (by walk_at "m_room") (by walk_at "m_sound") (by walk_at "m_size") ?_; k_whole; intro zzx' zzd' zzq1 zzq2 zzq3 zzq4 zzq5 zzq6 zzq7 zzq8 zzq9 zzq10 zzh' zztk' zzF' zzN' zzl1 zzl2; (try k_lt zzl1); (try k_lt2 zzl2)))) | fail "word"))
  (k_with "call ref" => (first | ((k_here; (with_reducible show wpAny _ _ (call (Value.ref 103) [Value.bytes (List.toArray (74 :: 70 :: 88 :: 88 :: 0 :: 19 :: _)) _]) _ _ _); k_dflt (refine' read_rgb (by k_asm) (by k_asm) (by k_asm) (by k_asm) (by k_asm) (by first | exact rfl | assumption) (by walk_at "m_room") (by walk_at "m_room") (by walk_at "m_sound") (by walk_at "m_size") ?_; k_whole; intro zzx' zzd' zzq1 zzq2 zzq3 zzq4 zzq5 zzq6 zzq7 zzq8 zzq9 zzq10 zzh' zztk' zzF' zzN' zzl1 zzl2; (try k_lt zzl1); (try k_lt2 zzl2)))) | fail "word"))
  (k_with "call ref" => (first | ((k_here; (with_reducible show wpAny _ _ (call (Value.ref 103) [Value.bytes (List.toArray (74 :: 70 :: 73 :: 70 :: 0 :: _)) _]) _ _ _); k_dflt (refine' read_jfif (by k_asm) (by k_asm) (by k_asm) (by k_asm) (by k_asm) (by first | exact rfl | assumption) (by walk_at "m_room") (by walk_at "m_room") (by walk_at "m_sound") (by walk_at "m_size") ?_; k_whole; intro zzx' zzd' zzq1 zzq2 zzq3 zzq4 zzq5 zzq6 zzq7 zzq8 zzq9 zzq10 zzh' zztk' zzF' zzN' zzl1 zzl2; (try k_lt zzl1); (try k_lt2 zzl2)))) | fail "word"))
  (k_with "call ref" => (first | ((k_here; (with_reducible show wpAny _ _ (call (Value.ref 103) [Value.bytes (List.toArray (74 :: 70 :: 73 :: 70 :: 0 :: _)) _]) _ _ _); k_dflt (refine' read_jfif0 (by k_asm) (by k_asm) (by k_asm) (by k_asm) (by k_asm) (by first | exact rfl | assumption) (by walk_at "m_room") (by walk_at "m_room") (by walk_at "m_sound") ?_; k_whole; intro zzh' zztk' zzF' zzN'))) | fail "word"))
  (k_with "call ref" => (first | ((k_here; (with_reducible show wpAny _ _ (call (Value.ref 169) _) _ _ _); k_dflt (refine' refused_spec (by k_asm) (by k_asm) (by k_asm) (by k_asm) (by k_asm) (by first | exact rfl | assumption) (by walk_at "m_room") (by walk_at "m_room") (by assumption) (by assumption) (by assumption) (by first | assumption | exact KtsTurn.refl) ?_ (by k_mem) ?_); rotate_left; (intro zzkg zzh' zztk' zzkT zzkF zzkN zzkB zzkX₀ zzkP zzkD; (try k_lift zzkB)))) | fail "word"))
  (k_with "m_lam" => (first | ((refine' kla_code (by k_asm) (by k_asm) (by k_asm) (by k_asm) (by k_asm) (by exact rfl) (by exact rfl) (by first | exact rfl | assumption) (by k_mem) (by exact codeRec_news (by k_asm) (by k_mem) (by assumption) (by assumption)) (by walk_at "m_room") (by exact rfl) (by exact locs rfl) ?_ (by exact rfl) (by exact rfl) (by exact rfl) (by decide); k_whole; intro zzg' zzL' zzh' zzFG' zzF' zzN' zzB' zzX' zzT'; (try dsimp at zzF'); (try dsimp only); (try k_lift zzB'); (try k_fold))) | fail "word"))
  (k_with "compareOp NotEq ref ref" => (first | ((k_here; k_dflt (refine' row_ne (by k_asm) (by k_mem) (by k_mem) (by ktr_units) ?_))) | fail "word"))
  (k_with "compareOp Eq ref ref" => (first | ((k_here; k_dflt (refine' row_eq (by k_asm) (by k_mem) (by k_mem) (by ktr_units) ?_))) | fail "word"))
  (k_with "call ref" => (first | ((k_here; (with_reducible show wpAny _ _ (call (Value.ref 110) _) _ _ _); k_dflt (refine' write_good (by k_asm) (by k_asm) (by k_asm) (by k_asm) (by k_asm) (by first | exact rfl | assumption) (by walk_at "m_room") (by walk_at "m_room") (by k_mem) (by k_mem) (by walk_at "m_sound") ?_; intro zzbs' zzt' zzh' zztk' zze' zzF' zzN'); simp only [wire_jpeg, wire_pal, wire_rgb, List.nil_append, u8_back] at zze'; subst zze')) | fail "word"))
  (k_with "ite" => (first | ((k_here; first | refine m_neg (by walk_at "m_dec") ?_ | refine m_pos (by walk_at "m_dec") ?_ | refine m_neg (of_decide_eq_false (by with_unfolding_all rfl)) ?_ | refine m_pos (of_decide_eq_true (by with_unfolding_all rfl)) ?_ | refine m_neg (by rw [bne_self_list]; decide) ?_)) | fail "word"))
  (k_with "call ref" => (first | ((k_here; (with_reducible show wpAny _ _ (call (Value.ref 124) _) _ _ _); k_dflt (refine' rows_jpeg (by k_asm) (by k_asm) (by k_asm) (by k_asm) (by k_asm) (by first | exact rfl | assumption) (by walk_at "m_room") (by walk_at "m_room") (by k_mem) (by k_mem) (by walk_at "m_sound") (by exact rfl) ?_; intro zze' zzt' zzvs' zzg' zzh' zztk' zzR' zzF' zzU'))) | fail "word"))
  (k_with "call ref" => (first | ((k_here; (with_reducible show wpAny _ _ (call (Value.ref 124) _) _ _ _); k_dflt (refine' rows_bad (by k_asm) (by k_asm) (by k_asm) (by k_asm) (by k_asm) (by first | exact rfl | assumption) (by walk_at "m_room") (by walk_at "m_room") (by k_mem) (by k_mem) (by with_reducible assumption) ?_; intro zze' zzt' zzvs' zzg' zzh' zztk' zzR' zzF' zzU'))) | fail "word"))
  (k_with "call ref" => (first | ((k_here; (with_reducible show wpAny _ _ (call (Value.ref 110) _) _ _ _); k_dflt (refine' write_bad (by k_asm) (by k_asm) (by k_asm) (by k_asm) (by k_asm) (by first | exact rfl | assumption) (by walk_at "m_room") (by walk_at "m_room") (by k_mem) (by k_mem) (by with_reducible assumption) ?_; intro zze' zzt' zzvs' zzg' zzh' zztk' zzR' zzF' zzU'))) | fail "word"))
  (k_with "m_deed" => (first | ((intro zzp' zzloose' zzmean' zzmg' zzmb' zzdp' zzun' zzgd' zzcn' zzcs' zza' zzccd' zzcl' zzouter' A₀' zzbase' h₀' zzL' zzm' zzs' zzQ' zzE' zzB' zzF' zzX' zzN' zzT' zzhk' zzhdp' zzhu' zzraised'; refine wpAny_call ?_; k_dflt (walk_at "m_lam"); k_steps; exact zzraised' _ _ _ _ _ _ (by assumption) (by assumption) (by assumption))) | fail "word"))
  (k_with "subscriptTail" => (first | ((k_here; (with_reducible show wpAny _ _ (subscriptTail _ _ (Value.ref _) (Value.int _ _)) _ _ _); (rename News _ _ _ _ => zzlN'); k_dflt (refine' item_tupleT (by exact is_tupN zzlN' (by k_mem)) (by decide) (by decide) (by rfl) (by rfl) ?_))) | fail "word"))
  (k_with "eval ListComp" => (first | ((k_here; k_dflt (refine ListComp_gen (by with_unfolding_all rfl) (by rfl) (by decide) ?_))) | fail "word"))
  (k_with "CompGen" => (first | ((refine stopIt ?_)) | fail "word"))
  (k_with "call type:tuple" => (first | ((k_here; (with_reducible show wpAny _ _ (call (Value.type _) [Value.bytes (List.toArray _) _]) _ _ _); (rename Fr _ _ _ _ => zzlF'); (rename News _ _ _ _ => zzlN'); (with_unfolding_all refine b_tuple (by exact rfl) zzlF' zzlN' (by walk_at "m_size") ?_); clear zzlF' zzlN'; intro zzT' zzvs' zzh' zztk' zziv' zzF' zzN' zzl1; (have zzl0 := zzl1); (try k_lt zzl1))) | fail "word"))
  (k_with "m_in" => (first | (first | assumption | (simp only [List.mem_cons, List.mem_append] at *; simp_all; done)) | fail "word"))
  (k_with "m_subs" => (first | ((intro zzpp zzhpp; simp only [List.mem_cons, List.mem_append, List.cons_append, List.nil_append, List.not_mem_nil, or_false, false_or] at zzhpp ⊢; rcases zzhpp with h | h | h | h | h | h | h | h | h | h | h <;> simp [h])) | fail "word"))
  (k_with "subscriptTail" => (first | ((k_here; (with_reducible show wpAny _ _ (subscriptTail _ _ (Value.ref _) (Value.int _ _)) _ _ _); (rename News _ _ _ _ => zzlN'); k_dflt (refine' sub_level zzlN' (by k_mem) (by assumption) (by omega) (by simp only [List.length_map, List.length_range]; omega) (by omega) ?_); intro zzv' zzd' zzhd' zzhv')) | fail "word"))
  (k_with "newTuple" => (first | ((k_here; k_dflt (refine' kup_newTuple (by k_asm) (by k_asm) ?_ (by kmk_size)); intro zzD' zzh' zzF' zzN' zzl1; (have zzl0 := zzl1); (try k_lt zzl1); (try k_sweep))) | fail "word"))
  trivial
theorem samples_rgb {w : World} {p : Program} {loose : List Str} {mean : ExcName → Option Value} {mg mb : Str → Option Value} {dp un : Nat} {gd : Option (List Code)} {cn : Str} {cs : Scope} {a : Addr} {ccd : Value} {cl : List (Str × Addr)} {outer : List Env} {A₀ : Around} {base h₀ : Heap} {L : Addr} {m : Str → Option Value} {s : Shared} {Q E : Value → Shared → Prop}
    {rest : List (Addr × Obj)} {r : Addr} {W H : Nat} {oct pal : List UInt8} {t1 t2 t3 t4 t5 : Tok}
    (B : Below A₀ base outer h₀) (F : Fr h₀ L s.heap m) (X : (k0.heap_1 w.params).In h₀) (N : News h₀ L s.heap ((r, tupObj (rowVs "rgb" W H [] oct t1 t2 t3 t4 t5)) :: rest)) (T : Top p loose mean mg mb h₀) (hk : cs.kind = .function) (hdp : dp + 1 < recursionLimit) (hu : un + 8 < cLine)
    (hW : W ≤ 255) (hH : H ≤ 255) (ho : oct.length = 3 * (W * H)) (hb : W * H ≤ 1000)
    (ret : ∀ S vs big h' tk', Fr h₀ L h' m → News h₀ L h' ((S, LCg.lst vs) :: big) → DatAll big vs (rowsD "rgb" pal oct W H) → (∀ p ∈ (r, tupObj (rowVs "rgb" W H [] oct t1 t2 t3 t4 t5)) :: rest, p ∈ big) → Q (.ref S) { s with heap := h', toks := tk' }) :
    wpAny (model Challenge.rw_pf0230_01.row.prog w) (ktrTop dp un gd cn cs L a ccd cl outer) (call (.ref 174) [.ref r]) Q E s := by
  refine wpAny_call ?_
  k_dflt (walk_at "m_enterC")
  rename (_ ∧ AllLt _ _) => lt0
  have ltR := allLt_to lt0.2
  k_steps
  unfold Stop
  rename Fr _ _ _ _ => F1
  rename News _ _ _ _ => N1
  rename IsRange _ _ _ _ _ _ _ _ => R1
  rw [show ((W : Int) * (H : Int)) = ((W * H : Nat) : Int) from by push_cast; rfl] at R1
  refine comp_rangeG (n := W * H) (MadeJ _ [] fun k => datT (pix "rgb" pal oct k)) (by decide) (by rfl) (by rfl) rfl F1 N1 R1 (by omega) MadeJ.zero ?turn1 ?fin1
  case turn1 =>
    clear F1 N1 R1
    rintro i t I oI C oC D m₂ ys nx h tk E' hi ⟨new, rfl, hno, hd⟩ hC hx F1 N1 off ne
    have N2 := news_turn (X := [(I, oI), (C, oC), (D, LCg.lst ys)]) N1
    clear N1
    simp only [List.cons_append, List.nil_append] at N2
    k_steps
    unfold Stop
    rename Fr _ _ _ _ => F2
    rename News _ _ _ _ => N3
    rename IntVs _ _ => iv
    rename (∀ p : Addr × Obj, p ∈ _ → p.1 < _) => fr
    have iv2 := iv_rgb1 (pal := pal) iv
    refine compEnd_of (nx := ([(_, tupObj _)] ++ new) ++ _) F2 N3 (sub_turn (X := [_, _, _])) (off3_cons (Nat.ne_of_lt (fr _ (.head _))).symm (Nat.ne_of_lt (fr _ (.tail _ (.head _)))).symm (Nat.ne_of_lt (fr _ (.tail _ (.tail _ (.head _))))).symm off) (MadeJ.more hno hd ?ha (DatIn.tuple (List.mem_append.mpr (.inl (List.mem_append.mpr (.inl (.head _))))) (intVs_dat iv2)))
    case ha =>
      intro p hp q hq
      rw [List.mem_singleton.mp hp]
      exact (Nat.ne_of_lt (fr q (.tail _ (.tail _ (.tail _ (List.mem_append.mpr (.inl hq))))))).symm
  case fin1 =>
    clear F1 N1 R1
    rintro ys1 nx1 D1 hp1 tkp1 ⟨new1, rfl, hno1, hd1⟩ F1 N1 of1
    have oD1 := off1_mem of1
    have N2 := news_turn (X := [(D1, LCg.lst ys1)]) N1
    clear N1
    simp only [List.cons_append, List.nil_append] at N2
    dsimp only
    have d1 : @Ne Nat _ _ := oD1 _ (List.mem_append.mpr (.inr (.head _)))
    have hr1 : ∀ p ∈ rest ++ new1, p.1 ≠ _ := (fun p hp => (List.mem_append.mp hp).elim (fun h => ne_of_allLtN ltR (by omega) p h) (fun h => hno1 p h _ (.head _)))
    dsimp only at d1
    k_steps
    unfold Stop
    rename Fr _ _ _ _ => F3
    rename News _ _ _ _ => N3
    rename IsRange _ _ _ _ _ _ _ _ => R3
    unfold CompGen
    refine comp_cell (n := H) (MadeB _ fun j => .list (rowD "rgb" pal oct W j)) (fun _ => by rfl) (fun _ => by rfl) (by rfl) (fun _ _ => by rfl) rfl F3 N3 R3 (by omega) MadeJ.zero ?turn2 ?fin2
    case turn2 =>
      clear F3 N3 R3
      rintro j tj I2 oI2 C2 oC2 Y oY D2 ys2 nx2 h2 tk2 E2 hj ⟨new2, rfl, hno2, hd2⟩ hY F4 N4 off4 ne4
      have N5 := news_turn (X := [(I2, oI2), (C2, oC2), (Y, oY), (D2, LCg.lst ys2)]) N4
      clear N4
      simp only [List.cons_append, List.nil_append] at N5
      k_steps
      unfold Stop
      rename Fr _ _ _ _ => F5
      rename News _ _ _ _ => N6
      rename IsRange _ _ _ _ _ _ _ _ => R5
      refine comp_rangeG (n := W) (fun i ys nx => nx = _ ∧ DatAll (new1 ++ []) ys ((List.range i).map fun i => datT (pix "rgb" pal oct (j * W + i)))) (by decide) (by rfl) (by rfl) rfl F5 N6 R5 (by omega) ⟨rfl, DatAll.nil⟩ ?turn3 ?fin3
      case turn3 =>
        clear F5 N6 R5
        rintro i ti I3 oI3 C3 oC3 D3 m3 ys3 nx3 h3 tk3 E3 hi ⟨rfl, hd3⟩ hC3 hx3 F6 N7 off6 ne6
        obtain ⟨w1, w2, w3⟩ := wy_lt hj hi
        k_steps
        unfold Stop
        rename Fr _ _ _ _ => F7
        rename News _ _ _ _ => N8
        rename DatIn _ _ _ => dv
        rename _ = some _ => de
        rw [w3, level_at (by omega)] at de
        have de2 := Option.some.inj de
        subst de2
        refine compEnd_of F7 N8 (fun p hp => hp) off6 ⟨rfl, ?_⟩
        rw [List.range_succ, List.map_append]
        exact datAll_snoc hd3 dv
      case fin3 =>
        clear F5 N6 R5
        rintro ys3 nx3 D3 h3 tk3 ⟨rfl, hd3⟩ F6 N7 o6
        have oD3 := off1_mem o6
        refine ⟨_, _, (([(D3, LCg.lst ys3)] ++ new2) ++ _), rfl, F6, fun p hp => N7 p (sub_turn (X := [_, _, _, _]) p hp), ?_, MadeJ.more hno2 hd2 ?_ (DatIn.list (List.mem_append.mpr (.inl (List.mem_append.mpr (.inl (.head _))))) (hd3.mono fun p hp => List.mem_append.mpr (.inr (.tail _ (.tail _ (.tail _ (.tail _ (.tail _ (List.mem_append.mpr (.inr (by rwa [List.append_nil] at hp)))))))))))⟩
        · intro p hp
          rcases List.mem_cons.mp hp with rfl | hp
          · exact ⟨(oD3 _ (.head _)).symm, (oD3 _ (.tail _ (.head _))).symm, (oD3 _ (.tail _ (.tail _ (.head _)))).symm, (oD3 _ (.tail _ (.tail _ (.tail _ (.head _))))).symm⟩
          · exact off4 p hp
        · intro p hp q hq
          rw [List.mem_singleton.mp hp]
          exact (oD3 q (.tail _ (.tail _ (.tail _ (.tail _ (List.mem_append.mpr (.inl hq))))))).symm
    case fin2 =>
      clear F3 N3 R3
      rintro ys2 nx2 D2 h2 tk2 ⟨new2, rfl, hno2, hd2⟩ F4 N4
      k_steps
      exact ret _ ys2 _ _ _ (by k_asm) (by k_asm) hd2 (fun p hp => List.mem_append.mpr (.inr (.tail _ (.tail _ (.tail _ (.tail _ (by
        rcases List.mem_cons.mp hp with rfl | hp
        · exact .head _
        · exact .tail _ (List.mem_append.mpr (.inl hp)))))))))
theorem samples_pal {w : World} {p : Program} {loose : List Str} {mean : ExcName → Option Value} {mg mb : Str → Option Value} {dp un : Nat} {gd : Option (List Code)} {cn : Str} {cs : Scope} {a : Addr} {ccd : Value} {cl : List (Str × Addr)} {outer : List Env} {A₀ : Around} {base h₀ : Heap} {L : Addr} {m : Str → Option Value} {s : Shared} {Q E : Value → Shared → Prop}
    {rest : List (Addr × Obj)} {r : Addr} {W H : Nat} {oct : List UInt8} {t1 t2 t3 t4 t5 : Tok}
    (B : Below A₀ base outer h₀) (F : Fr h₀ L s.heap m) (X : (k0.heap_1 w.params).In h₀) (N : News h₀ L s.heap ((r, tupObj (rowVs "palette" W H COL oct t1 t2 t3 t4 t5)) :: rest)) (T : Top p loose mean mg mb h₀) (hk : cs.kind = .function) (hdp : dp + 1 < recursionLimit) (hu : un + 8 < cLine)
    (hW : W ≤ 255) (hH : H ≤ 255) (ho : oct.length = W * H) (hb : W * H ≤ 1000)
    (ret : ∀ S vs big h' tk', Fr h₀ L h' m → News h₀ L h' ((S, LCg.lst vs) :: big) → DatAll big vs (rowsD "palette" COL oct W H) → (∀ p ∈ (r, tupObj (rowVs "palette" W H COL oct t1 t2 t3 t4 t5)) :: rest, p ∈ big) → Q (.ref S) { s with heap := h', toks := tk' }) :
    wpAny (model Challenge.rw_pf0230_01.row.prog w) (ktrTop dp un gd cn cs L a ccd cl outer) (call (.ref 174) [.ref r]) Q E s := by
  refine wpAny_call ?_
  k_dflt (walk_at "m_enterC")
  rename (_ ∧ AllLt _ _) => lt0
  have ltR := allLt_to lt0.2
  k_steps
  unfold Stop
  rename Fr _ _ _ _ => F1
  rename News _ _ _ _ => N1
  refine comp_bytes (MadeJ _ [] fun k => datT (pix "palette" COL oct k)) (by decide) (by rfl) (by rfl) rfl F1 N1 (by omega) MadeJ.zero ?turn1 ?fin1
  case turn1 =>
    clear F1 N1
    rintro i c t I oI C oC D m₂ ys nx h tk E' hi hc ⟨new, rfl, hno, hd⟩ hC hx F1 N1 off ne
    have N2 := news_turn (X := [(I, oI), (C, oC), (D, LCg.lst ys)]) N1
    clear N1
    simp only [List.cons_append, List.nil_append] at N2
    k_steps
    unfold Stop
    rename Fr _ _ _ _ => F2
    rename News _ _ _ _ => N3
    rename (∀ p : Addr × Obj, p ∈ _ → p.1 < _) => fr
    refine compEnd_of (nx := ([(_, _)] ++ new) ++ _) F2 N3 (sub_turn (X := [_, _, _])) (off3_cons (Nat.ne_of_lt (fr _ (.head _))).symm (Nat.ne_of_lt (fr _ (.tail _ (.head _)))).symm (Nat.ne_of_lt (fr _ (.tail _ (.tail _ (.head _))))).symm off) (MadeJ.more hno hd ?ha (DatIn.tuple (vs := [_, _, _]) (List.mem_append.mpr (.inl (List.mem_append.mpr (.inl (.head _))))) (pal_dat hc)))
    case ha =>
      intro p hp q hq
      rw [List.mem_singleton.mp hp]
      exact (Nat.ne_of_lt (fr q (.tail _ (.tail _ (.tail _ (List.mem_append.mpr (.inl hq))))))).symm
  case fin1 =>
    clear F1 N1
    rintro ys1 nx1 D1 hp1 tkp1 ⟨new1, rfl, hno1, hd1⟩ F1 N1 of1
    have oD1 := off1_mem of1
    rw [ho] at hd1
    have N2 := news_turn (X := [(D1, LCg.lst ys1)]) N1
    clear N1
    simp only [List.cons_append, List.nil_append] at N2
    dsimp only
    have d1 : @Ne Nat _ _ := oD1 _ (List.mem_append.mpr (.inr (.head _)))
    have hr1 : ∀ p ∈ rest ++ new1, p.1 ≠ _ := (fun p hp => (List.mem_append.mp hp).elim (fun h => ne_of_allLtN ltR (by omega) p h) (fun h => hno1 p h _ (.head _)))
    dsimp only at d1
    k_steps
    unfold Stop
    rename Fr _ _ _ _ => F3
    rename News _ _ _ _ => N3
    rename IsRange _ _ _ _ _ _ _ _ => R3
    unfold CompGen
    refine comp_cell (n := H) (MadeB _ fun j => .list (rowD "palette" COL oct W j)) (fun _ => by rfl) (fun _ => by rfl) (by rfl) (fun _ _ => by rfl) rfl F3 N3 R3 (by omega) MadeJ.zero ?turn2 ?fin2
    case turn2 =>
      clear F3 N3 R3
      rintro j tj I2 oI2 C2 oC2 Y oY D2 ys2 nx2 h2 tk2 E2 hj ⟨new2, rfl, hno2, hd2⟩ hY F4 N4 off4 ne4
      have N5 := news_turn (X := [(I2, oI2), (C2, oC2), (Y, oY), (D2, LCg.lst ys2)]) N4
      clear N4
      simp only [List.cons_append, List.nil_append] at N5
      k_steps
      unfold Stop
      rename Fr _ _ _ _ => F5
      rename News _ _ _ _ => N6
      rename IsRange _ _ _ _ _ _ _ _ => R5
      refine comp_rangeG (n := W) (fun i ys nx => nx = _ ∧ DatAll (new1 ++ []) ys ((List.range i).map fun i => datT (pix "palette" COL oct (j * W + i)))) (by decide) (by rfl) (by rfl) rfl F5 N6 R5 (by omega) ⟨rfl, DatAll.nil⟩ ?turn3 ?fin3
      case turn3 =>
        clear F5 N6 R5
        rintro i ti I3 oI3 C3 oC3 D3 m3 ys3 nx3 h3 tk3 E3 hi ⟨rfl, hd3⟩ hC3 hx3 F6 N7 off6 ne6
        obtain ⟨w1, w2, w3⟩ := wy_lt hj hi
        k_steps
        unfold Stop
        rename Fr _ _ _ _ => F7
        rename News _ _ _ _ => N8
        rename DatIn _ _ _ => dv
        rename _ = some _ => de
        rw [w3, level_at (by omega)] at de
        have de2 := Option.some.inj de
        subst de2
        refine compEnd_of F7 N8 (fun p hp => hp) off6 ⟨rfl, ?_⟩
        rw [List.range_succ, List.map_append]
        exact datAll_snoc hd3 dv
      case fin3 =>
        clear F5 N6 R5
        rintro ys3 nx3 D3 h3 tk3 ⟨rfl, hd3⟩ F6 N7 o6
        have oD3 := off1_mem o6
        refine ⟨_, _, (([(D3, LCg.lst ys3)] ++ new2) ++ _), rfl, F6, fun p hp => N7 p (sub_turn (X := [_, _, _, _]) p hp), ?_, MadeJ.more hno2 hd2 ?_ (DatIn.list (List.mem_append.mpr (.inl (List.mem_append.mpr (.inl (.head _))))) (hd3.mono fun p hp => List.mem_append.mpr (.inr (.tail _ (.tail _ (.tail _ (.tail _ (.tail _ (List.mem_append.mpr (.inr (by rwa [List.append_nil] at hp)))))))))))⟩
        · intro p hp
          rcases List.mem_cons.mp hp with rfl | hp
          · exact ⟨(oD3 _ (.head _)).symm, (oD3 _ (.tail _ (.head _))).symm, (oD3 _ (.tail _ (.tail _ (.head _)))).symm, (oD3 _ (.tail _ (.tail _ (.tail _ (.head _))))).symm⟩
          · exact off4 p hp
        · intro p hp q hq
          rw [List.mem_singleton.mp hp]
          exact (oD3 q (.tail _ (.tail _ (.tail _ (.tail _ (List.mem_append.mpr (.inl hq))))))).symm
    case fin2 =>
      clear F3 N3 R3
      rintro ys2 nx2 D2 h2 tk2 ⟨new2, rfl, hno2, hd2⟩ F4 N4
      k_steps
      exact ret _ ys2 _ _ _ (by k_asm) (by k_asm) hd2 (fun p hp => List.mem_append.mpr (.inr (.tail _ (.tail _ (.tail _ (.tail _ (by
        rcases List.mem_cons.mp hp with rfl | hp
        · exact .head _
        · exact .tail _ (List.mem_append.mpr (.inl hp)))))))))
def CodeOk (qual : Str) (c : Addr) (news : List (Addr × Obj)) : Prop := ∃ oc vs t, (c, oc) ∈ news ∧ oc.data = Data.fields vs ∧ vs[1]? = some (Value.str qual t)
def Tab1 (qual : Str) (a b : Nat) (ps : Array Value) (news : List (Addr × Obj)) : Prop := ps = #[] ∨ ∃ c, ps = #[rawInt a, rawInt b, Value.ref c] ∧ CodeOk qual c news
section
variable {M : Model} {A : Around} {E : Value → Shared → Prop} {s : Shared} {h₀ : Heap} {L a c P : Addr} {m mg mb : Str → Option Value} {cn : Str} {cs : Scope} {ccd : Value} {cl : List (Str × Addr)} {news rest : List (Addr × Obj)} {g : Obj → List (Addr × Obj)}
  {p : Program} {loose : List Str} {mean : ExcName → Option Value} {name qual : Str} {params : Arguments} {body : Expr} {scope : Scope} {ps : Array Value} {pos : Pos} {firstLine : Nat} {clos : List (Str × Addr)}
theorem lam1 {Q : Value → Shared → Prop} (F : Fr h₀ L s.heap m) (N : News h₀ L s.heap news) (T : Top p loose mean mg mb h₀) (C : CodeHd h₀ c P) (hcd : ccd = .ref c) (U : UpdF P (tabObj ps) news g) (tb : Tab1 qual pos.line pos.col ps rest) (sub : ∀ q ∈ rest, q ∈ news) (off : ∀ q ∈ rest, q.1 ≠ P)
    (hcl : closureFor scope (envX cn cs L a ccd cl) = pure clos)
    (h : ∀ f c' oc vs t ctv h' tk, Fr h₀ L h' m →
      News h₀ L h' ((f, kla_obj name qual params body scope clos ((mg "__name__").getD .none) c' ctv) :: (c', oc) :: g (tabObj #[rawInt pos.line, rawInt pos.col, .ref c'])) →
      oc.data = .fields vs → vs[1]? = some (.str qual t) → (∀ q ∈ news, q.1 < f) → c' < f → @Ne Nat c' P → ((c', oc) ∈ rest ∨ ∀ q ∈ news, q.1 < c') → Q (.ref f) { s with heap := h', toks := tk }) :
    wpAny M A (makeFunction name qual params (.expr body) scope (envX cn cs L a ccd cl) [] [] [] pos firstLine) Q E s := by
  obtain ⟨own, post, hn, hg, _, _⟩ := id U.split
  have hP : (P, tabObj ps) ∈ news := by rw [hn]; exact List.mem_append.mpr (.inr (.head _))
  rcases tb with rfl | ⟨c', rfl, oc, vs, t, hm, hd, hv⟩
  · refine kla_nest F N T C hcd U trivial rfl hcl fun f c' oc vs t ctv h' tk F' N' hd hv l1 l2 => ?_
    exact h f c' oc vs t ctv h' tk F' N' hd hv (fun q hq => Nat.lt_trans (l1 q hq) l2) l2 (Nat.ne_of_lt (l1 _ hP)).symm (.inr l1)
  · refine kla_hit (c' := c') F N T C hcd hP (by simp [TriplesOk, rawInt]) (by simp [codeAmong, rawInt]) hcl fun f ctv h' tk F' N' l1 => ?_
    refine h f c' oc vs t ctv h' tk F' (fun q hq => N' q ?_) hd hv l1 (l1 _ (sub _ hm)) (off _ hm) (.inl hm)
    rcases List.mem_cons.mp hq with rfl | hq
    · exact .head _
    rcases List.mem_cons.mp hq with rfl | hq
    · exact .tail _ (sub _ hm)
    · refine .tail _ ?_
      rw [hg] at hq
      rw [hn]
      exact hq
end
theorem news_dup {h₀ h : Heap} {L : Addr} {news : List (Addr × Obj)} {p : Addr × Obj} (N : News h₀ L h news) (hp : p ∈ news) : News h₀ L h (p :: news) := fun q hq => by
  rcases List.mem_cons.mp hq with rfl | hq
  · exact N _ hp
  · exact N _ hq
theorem rows_ok {kind : Str} {pal oct : List UInt8} {wd ht : Nat} : ∀ d ∈ rowsD kind pal oct wd ht, kqdOk 8 d = true := by
  intro d hd
  obtain ⟨j, _, rfl⟩ := List.mem_map.mp hd
  simp only [kqdOk, List.all_eq_true]
  intro d hd
  obtain ⟨i, _, rfl⟩ := List.mem_map.mp hd
  simp only [datT, kqdOk, List.all_eq_true]
  intro d hd
  obtain ⟨c, _, rfl⟩ := List.mem_map.mp hd
  rfl
theorem col_len : COL.length = 768 := by decide +kernel
theorem pal_take {oct : List UInt8} : List.take 768 (COL ++ oct) = COL := List.take_left' col_len
theorem pal_drop {oct : List UInt8} : List.drop 768 (COL ++ oct) = oct := List.drop_left' col_len
theorem lam_done {h₀ hh : Heap} {L c' P : Addr} {x : Addr × Obj} {oc : Obj} {big rest news : List (Addr × Obj)} {qual : Str} {a b : Nat} {vs ps : Array Value} {t : Tok} (N : News h₀ L hh (x :: (c', oc) :: big)) (d1 : oc.data = .fields vs) (d2 : vs[1]? = some (.str qual t)) (ob : (c', oc) ∈ rest ∨ ∀ q ∈ news, q.1 < c') (hs : ∀ q ∈ (P, tabObj ps) :: rest, q ∈ news) (hb : ∀ q ∈ (P, tabObj #[rawInt a, rawInt b, Value.ref c']) :: rest, q ∈ big) :
    ∃ ps' add, Tab1 qual a b ps' (add ++ rest) ∧ (∀ p ∈ add, p ∈ rest ∨ ∀ q ∈ (P, tabObj ps) :: rest, q.1 < p.1) ∧ News h₀ L hh ((P, tabObj ps') :: (add ++ rest)) := by
  refine ⟨#[rawInt a, rawInt b, Value.ref c'], [(c', oc)], Or.inr ⟨c', rfl, oc, vs, t, .head _, d1, d2⟩, fun p hp => ?_, fun p hp => ?_⟩
  · rw [List.mem_singleton.mp hp]
    exact ob.imp id fun h q hq => h q (hs q hq)
  · rcases List.mem_cons.mp hp with rfl | hp
    · exact N _ (.tail _ (.tail _ (hb _ (.head _))))
    rcases List.mem_cons.mp hp with rfl | hp
    · exact N _ (.tail _ (.head _))
    · exact N _ (.tail _ (.tail _ (hb _ (.tail _ hp))))
theorem words14 : True := by
  (k_with "eval Lambda" => (first | ((k_here; k_dflt (refine' kla_eval (by exact rfl) ?_); k_dflt (refine' lam1 (by k_asm) (by k_asm) (by k_asm) (by kn_code) (by exact rfl) (by k_updF) (by assumption) (by (intro zzqq zzhqq; repeat (first | exact zzhqq | apply List.Mem.tail))) (by assumption) (by exact rfl) ?_); intro zzf' zzc' zzoc' zzvs' zzt' zzct' zzh' zztk' zzF' zzN' zzd1' zzd2' zzl1 zzl2 zzne' zzob'; (try dsimp only at zzN'); (try k_lt zzl1); (try k_lt2 zzl2))) | fail "word"))
  (k_with "call ref" => (first | ((k_here; (with_reducible show wpAny _ _ (call (Value.ref 174) _) _ _ _); refine stopIt ?_)) | fail "word"))
  trivial
abbrev qualE : Str := (Str.ofString "_law_extension_right" ++ (Str.ofString ".<locals>.")) ++ Str.ofString "<lambda>"
theorem ext_jpeg {w : World} {p : Program} {loose : List Str} {mean : ExcName → Option Value} {mg mb : Str → Option Value} {dp un : Nat} {gd : Option (List Code)} {cn : Str} {cs : Scope} {a : Addr} {ccd : Value} {cl : List (Str × Addr)} {outer : List Env} {A₀ : Around} {base h₀ : Heap} {L : Addr} {m : Str → Option Value} {s : Shared} {Q E : Value → Shared → Prop}
    {rest : List (Addr × Obj)} {r : Addr} {oct : List UInt8} {t1 t2 t3 t4 t5 : Tok} {g₀ : Heap} {ps : Array Value}
    (B : Below A₀ base outer h₀) (F : Fr h₀ L s.heap m) (X : (k0.heap_1 w.params).In h₀) (N : News h₀ L s.heap ((r, tupObj (rowVs "jpeg" 0 0 [] oct t1 t2 t3 t4 t5)) :: (176, tabObj ps) :: rest)) (T : Top p loose mean mg mb h₀) (hk : cs.kind = .function) (hdp : dp + 10 < recursionLimit) (hu : un + 80 < cLine)
    (XB : (k0.heap_1 w.params).In base) (TB : Top p loose mean mg mb base) (D : KtsDicts (outer.filterMap (·.frame)) h₀) (T0 : KtsTurn (outer.filterMap (·.frame)) g₀ h₀) (CH : CodeHd base 180 176) (hs : Sound "jpeg" 0 0 [] oct) (ho : ∀ p ∈ rest, p.1 ≠ 176) (hr : @Ne Nat r 176) (htb : Tab1 qualE 137 28 ps rest)
    (ret : ∀ ps' add h₀' h' tk', Tab1 qualE 137 28 ps' (add ++ rest) → (∀ p ∈ add, p ∈ rest ∨ ∀ q ∈ (176, tabObj ps) :: rest, q.1 < p.1) → KtsTurn (outer.filterMap (·.frame)) g₀ h₀' → Fr h₀' L h' m → News h₀' L h' ((176, tabObj ps') :: (add ++ rest)) → Below A₀ base outer h₀' → (k0.heap_1 w.params).In h₀' → Top p loose mean mg mb h₀' → KtsDicts (outer.filterMap (·.frame)) h₀' → Q (.bool true) { s with heap := h', toks := tk' }) :
    wpAny (model Challenge.rw_pf0230_01.row.prog w) (ktrTop dp un gd cn cs L a ccd cl outer) (call (.ref 181) [.ref r]) Q E s := by
  refine wpAny_call ?_
  k_dflt (walk_at "m_enterTC")
  rename (_ ∧ _ ∧ AllLt _ _) => lt0
  have ltR := allLt_to lt0.2.2
  have hS := hs
  obtain ⟨h1, h2, h3, h4, h0, hx⟩ := hs
  k_steps
  all_goals try (show Deed _ _ _; walk_at "m_deed")
  rename News _ _ _ _ => kN
  rename (_ ∨ ∀ q : Addr × Obj, _ → _ < _) => ob
  rename _ = Data.fields _ => d1
  rename _ = some (Value.str _ _) => d2
  obtain ⟨ps', add, x1, x2, x3⟩ := lam_done (rest := rest) (P := 176) (ps := ps) (a := 137) (b := 28) (qual := qualE) kN d1 d2 ob (by
    intro q hq
    rcases List.mem_cons.mp hq with rfl | hq
    · repeat (first | exact .head _ | apply List.Mem.tail)
    · repeat (first | exact hq | apply List.Mem.tail)) (by
    intro q hq
    rcases List.mem_cons.mp hq with rfl | hq
    · repeat (first | exact .head _ | apply List.Mem.tail)
    · repeat (first | exact hq | apply List.Mem.tail))
  exact ret ps' add _ _ _ x1 x2 (by assumption) (by k_asm) x3 (by assumption) (by assumption) (by assumption) (by assumption)
theorem words15 : True := by
  (k_with "call ref" => (first | ((k_here; (with_reducible show wpAny _ _ (call (Value.ref 124) _) _ _ _); k_dflt (refine' rows_good (by k_asm) (by k_asm) (by k_asm) (by k_asm) (by k_asm) (by first | exact rfl | assumption) (by walk_at "m_room") (by walk_at "m_room") (by k_mem) (by k_mem) (by walk_at "m_sound") (by decide) ?_; intro zzR' zzvs' zzn' zznew' zzh' zztk' zzF' zzN' zzdA'))) | fail "word"))
  (k_with "call ref" => (first | ((k_here; (with_reducible show wpAny _ _ (call (Value.ref 174) _) _ _ _); (rename News _ _ _ _ => zzlN'); k_dflt (first | (refine' samples_rgb (pal := []) (by k_asm) (by k_asm) (by k_asm) (by exact news_dup zzlN' (by walk_at "m_deep")) (by k_asm) (by first | exact rfl | assumption) (by walk_at "m_room") (by walk_at "m_room") (by omega) (by omega) (by assumption) (by assumption) ?_) | (refine' samples_pal (by k_asm) (by k_asm) (by k_asm) (by exact news_dup zzlN' (by walk_at "m_deep")) (by k_asm) (by first | exact rfl | assumption) (by walk_at "m_room") (by walk_at "m_room") (by omega) (by omega) (by assumption) (by assumption) ?_)); intro zzS' zzvs' zzbig' zzh' zztk' zzF' zzN' zzdB' zzsub')) | fail "word"))
  (k_with "m_deep" => (first | (repeat (first | assumption | exact .head _ | apply List.Mem.tail | (refine List.mem_append.mpr (Or.inr ?_)))) | fail "word"))
  (k_with "ite" => (first | ((k_here; refine m_neg (by (try simp only [u8_back]); rw [bne_self_list]; decide) ?_)) | fail "word"))
  (k_with "compareOp Eq ref ref" => (first | ((k_here; refine stopIt ?_)) | fail "word"))
  (k_with "m_deepr" => (first | (repeat (first | assumption | apply List.Mem.tail | (refine List.mem_append.mpr (Or.inr ?_)))) | fail "word"))
  trivial
theorem ext_rgb {w : World} {p : Program} {loose : List Str} {mean : ExcName → Option Value} {mg mb : Str → Option Value} {dp un : Nat} {gd : Option (List Code)} {cn : Str} {cs : Scope} {a : Addr} {ccd : Value} {cl : List (Str × Addr)} {outer : List Env} {A₀ : Around} {base h₀ : Heap} {L : Addr} {m : Str → Option Value} {s : Shared} {Q E : Value → Shared → Prop}
    {rest : List (Addr × Obj)} {r : Addr} {u v : UInt8} {oct : List UInt8} {t1 t2 t3 t4 t5 : Tok} {g₀ : Heap}
    (B : Below A₀ base outer h₀) (F : Fr h₀ L s.heap m) (X : (k0.heap_1 w.params).In h₀) (N : News h₀ L s.heap ((r, tupObj (rowVs "rgb" u.toNat v.toNat [] oct t1 t2 t3 t4 t5)) :: rest)) (T : Top p loose mean mg mb h₀) (hk : cs.kind = .function) (hdp : dp + 10 < recursionLimit) (hu : un + 80 < cLine)
    (XB : (k0.heap_1 w.params).In base) (TB : Top p loose mean mg mb base) (D : KtsDicts (outer.filterMap (·.frame)) h₀) (T0 : KtsTurn (outer.filterMap (·.frame)) g₀ h₀) (hs : Sound "rgb" u.toNat v.toNat [] oct) (ho : oct.length = 3 * (u.toNat * v.toNat)) (hb : u.toNat * v.toNat ≤ 1000)
    (ret : ∀  h₀' h' tk',  KtsTurn (outer.filterMap (·.frame)) g₀ h₀' → Fr h₀' L h' m → News h₀' L h' ((r, tupObj (rowVs "rgb" u.toNat v.toNat [] oct t1 t2 t3 t4 t5)) :: rest) → Below A₀ base outer h₀' → (k0.heap_1 w.params).In h₀' → Top p loose mean mg mb h₀' → KtsDicts (outer.filterMap (·.frame)) h₀' → Q (.bool true) { s with heap := h', toks := tk' }) :
    wpAny (model Challenge.rw_pf0230_01.row.prog w) (ktrTop dp un gd cn cs L a ccd cl outer) (call (.ref 181) [.ref r]) Q E s := by
  refine wpAny_call ?_
  k_dflt (walk_at "m_enterTC")
  rename (_ ∧ AllLt _ _) => lt0
  have ltR := allLt_to lt0.2
  have hS := hs
  obtain ⟨h1, h2, h3, h4, h0, hx⟩ := hs
  k_steps
  unfold Stop
  rename News _ _ _ _ => N8
  rename DatAll _ _ _ => dB
  revert dB
  rename DatAll _ _ _ => dA
  intro dB
  rename (∀ p : Addr × Obj, p ∈ _ → p ∈ _) => sub
  refine kqd_eq N8 (.tail _ (sub _ (.tail _ (.head _)))) rfl rfl dA (fun p hp => .tail _ (sub _ (.tail _ (.tail _ (List.mem_append.mpr (.inl hp)))))) (.head _) rfl rfl dB (fun p hp => .tail _ hp) rows_ok rows_ok (by ktr_units) ?_
  simp only [Int.toNat_natCast, decide_true]
  k_steps
  rename News _ _ _ _ => kN
  exact ret _ _ _ (by assumption) (by k_asm) (fun p hp => kN p (.tail _ (sub _ (by
    rcases List.mem_cons.mp hp with rfl | hp
    · exact .head _
    · walk_at "m_deepr")))) (by assumption) (by assumption) (by assumption) (by assumption)
theorem words16 : True := by
  (k_with "call ref" => (first | ((k_here; (with_reducible show wpAny _ _ (call (Value.ref 103) [Value.bytes (List.toArray (74 :: 70 :: 88 :: 88 :: 0 :: 17 :: _)) _]) _ _ _); k_dflt (refine' read_pal (by k_asm) (by k_asm) (by k_asm) (by k_asm) (by k_asm) (by first | exact rfl | assumption) (by walk_at "m_room") (by walk_at "m_room") (by (rw [pal_take, pal_drop]; assumption)) (by walk_at "m_size") ?_); intro zzx' zzd' zzq1 zzq2 zzq3 zzq4 zzq5 zzq6 zzq7 zzq8 zzq9 zzq10 zzh' zztk' zzF' zzN' zzl1 zzl2; simp only [pal_take, pal_drop] at zzN'; (try k_lt zzl1); (try k_lt2 zzl2))) | fail "word"))
  trivial
theorem ext_palette {w : World} {p : Program} {loose : List Str} {mean : ExcName → Option Value} {mg mb : Str → Option Value} {dp un : Nat} {gd : Option (List Code)} {cn : Str} {cs : Scope} {a : Addr} {ccd : Value} {cl : List (Str × Addr)} {outer : List Env} {A₀ : Around} {base h₀ : Heap} {L : Addr} {m : Str → Option Value} {s : Shared} {Q E : Value → Shared → Prop}
    {rest : List (Addr × Obj)} {r : Addr} {u v : UInt8} {oct : List UInt8} {t1 t2 t3 t4 t5 : Tok} {g₀ : Heap}
    (B : Below A₀ base outer h₀) (F : Fr h₀ L s.heap m) (X : (k0.heap_1 w.params).In h₀) (N : News h₀ L s.heap ((r, tupObj (rowVs "palette" u.toNat v.toNat COL oct t1 t2 t3 t4 t5)) :: rest)) (T : Top p loose mean mg mb h₀) (hk : cs.kind = .function) (hdp : dp + 10 < recursionLimit) (hu : un + 80 < cLine)
    (XB : (k0.heap_1 w.params).In base) (TB : Top p loose mean mg mb base) (D : KtsDicts (outer.filterMap (·.frame)) h₀) (T0 : KtsTurn (outer.filterMap (·.frame)) g₀ h₀) (hs : Sound "palette" u.toNat v.toNat COL oct) (ho : oct.length = u.toNat * v.toNat) (hb : u.toNat * v.toNat ≤ 1000)
    (ret : ∀  h₀' h' tk',  KtsTurn (outer.filterMap (·.frame)) g₀ h₀' → Fr h₀' L h' m → News h₀' L h' ((r, tupObj (rowVs "palette" u.toNat v.toNat COL oct t1 t2 t3 t4 t5)) :: rest) → Below A₀ base outer h₀' → (k0.heap_1 w.params).In h₀' → Top p loose mean mg mb h₀' → KtsDicts (outer.filterMap (·.frame)) h₀' → Q (.bool true) { s with heap := h', toks := tk' }) :
    wpAny (model Challenge.rw_pf0230_01.row.prog w) (ktrTop dp un gd cn cs L a ccd cl outer) (call (.ref 181) [.ref r]) Q E s := by
  refine wpAny_call ?_
  k_dflt (walk_at "m_enterTC")
  rename (_ ∧ AllLt _ _) => lt0
  have ltR := allLt_to lt0.2
  have hS := hs
  have hcol := col_len
  obtain ⟨h1, h2, h3, h4, h0, hx⟩ := hs
  k_steps
  unfold Stop
  rename News _ _ _ _ => N8
  rename DatAll _ _ _ => dB
  revert dB
  rename DatAll _ _ _ => dA
  intro dB
  rename (∀ p : Addr × Obj, p ∈ _ → p ∈ _) => sub
  refine kqd_eq N8 (.tail _ (sub _ (.tail _ (.head _)))) rfl rfl dA (fun p hp => .tail _ (sub _ (.tail _ (.tail _ (List.mem_append.mpr (.inl hp)))))) (.head _) rfl rfl dB (fun p hp => .tail _ hp) rows_ok rows_ok (by ktr_units) ?_
  simp only [Int.toNat_natCast, decide_true]
  k_steps
  rename News _ _ _ _ => kN
  exact ret _ _ _ (by assumption) (by k_asm) (fun p hp => kN p (.tail _ (sub _ (by
    rcases List.mem_cons.mp hp with rfl | hp
    · exact .head _
    · walk_at "m_deepr")))) (by assumption) (by assumption) (by assumption) (by assumption)
theorem news_at {h₀ h : Heap} {L : Addr} {big news : List (Addr × Obj)} {p : Addr × Obj} (N : News h₀ L h big) (hp : p ∈ big) (x : News h₀ L h news) : News h₀ L h (p :: news) := fun q hq => by
  rcases List.mem_cons.mp hq with rfl | hq
  · exact N _ hp
  · exact x _ hq
theorem sub_heads {prog : Program} {w : World} {A : Around} {E Q : Value → Shared → Prop} {s : Shared} {h₀ : Heap} {L l : Addr} {news : List (Addr × Obj)} {value slice : PySem.Expr} {v : Int} {t a0 a1 a2 a3 a4 : Tok} {k : Nat} {b0 b1 b2 b3 b4 : List UInt8}
    (N : News h₀ L s.heap news) (hl : (l, listOf #[Value.bytes b0.toArray a0, Value.bytes b1.toArray a1, Value.bytes b2.toArray a2, Value.bytes b3.toArray a3, Value.bytes b4.toArray a4] k) ∈ news)
    (h0 : 0 ≤ v) (h1 : v < 5) (l0 : b0.length ≤ 100) (l1 : b1.length ≤ 100) (l2 : b2.length ≤ 100) (l3 : b3.length ≤ 100) (l4 : b4.length ≤ 100)
    (h : ∀ (b : List UInt8) (a : Tok), b.length ≤ 100 → Q (.bytes b.toArray a) s)
    (hs : ∀ k u, subscripted slice false (.ref l) (.int k u) = operate [.ref l, .int k u] (getItem (.ref l) (.int k u)) := by intro _ _; with_unfolding_all rfl) :
    wpAny (model prog w) A (subscriptTail value slice (.ref l) (.int v t)) Q E s := by
  have L5 : s.heap.IsList l [Value.bytes b0.toArray a0, Value.bytes b1.toArray a1, Value.bytes b2.toArray a2, Value.bytes b3.toArray a3, Value.bytes b4.toArray a4].toArray := is_listN N hl
  rcases five_cases h0 h1 with rfl | rfl | rfl | rfl | rfl
  · exact item_litK L5 (by decide) (by decide) rfl (h _ _ l0) (hs _ _)
  · exact item_litK L5 (by decide) (by decide) rfl (h _ _ l1) (hs _ _)
  · exact item_litK L5 (by decide) (by decide) rfl (h _ _ l2) (hs _ _)
  · exact item_litK L5 (by decide) (by decide) rfl (h _ _ l3) (hs _ _)
  · exact item_litK L5 (by decide) (by decide) rfl (h _ _ l4) (hs _ _)
theorem words17 : True := by
  (k_with "call ref" => (first | ((k_here; (with_reducible show wpAny _ _ (call (Value.ref 117) _) _ _ _); k_dflt (refine' with_place (by k_asm) (by k_asm) (by k_asm) (by k_asm) (by k_asm) (by first | exact rfl | assumption) (by walk_at "m_room") (by walk_at "m_room") (by k_mem) (by k_mem) (by walk_at "m_sound") (by first | assumption | exact Or.inr (Or.inr (by assumption))) (by omega) ?_; intro zze' zzt' zzvs' zzg' zzh' zztk' zzR' zzF' zzU'))) | fail "word"))
  (k_with "call ref" => (first | ((k_here; (with_reducible show wpAny _ _ (call (Value.ref 117) _) _ _ _); k_dflt (refine' with_bad (by k_asm) (by k_asm) (by k_asm) (by k_asm) (by k_asm) (by first | exact rfl | assumption) (by walk_at "m_room") (by walk_at "m_room") (by k_mem) (by k_mem) (by with_reducible assumption) ?_; intro zze' zzt' zzvs' zzg' zzh' zztk' zzR' zzF' zzU'))) | fail "word"))
  (k_with "subscriptTail" => (first | ((k_here; (with_reducible show wpAny _ _ (subscriptTail _ _ (Value.ref _) (Value.int _ _)) _ _ _); (rename News _ _ _ _ => zzlN'); (with_unfolding_all refine' sub_heads zzlN' (by k_mem) (by assumption) (by assumption) (by walk_at "m_size") (by walk_at "m_size") (by walk_at "m_size") (by walk_at "m_size") (by walk_at "m_size") ?_ (by (intro _ _; with_unfolding_all rfl))); intro zzb' zza' zzbl')) | fail "word"))
  (k_with "ite" => (first | ((k_here; k_dflt (refine m_pos (by assumption) ?_))) | fail "word"))
  trivial
abbrev qualB : Str := (Str.ofString "_law_borne_right" ++ (Str.ofString ".<locals>.")) ++ Str.ofString "<lambda>"
theorem borne_other {w : World} {p : Program} {loose : List Str} {mean : ExcName → Option Value} {mg mb : Str → Option Value} {dp un : Nat} {gd : Option (List Code)} {cn : Str} {cs : Scope} {a : Addr} {ccd : Value} {cl : List (Str × Addr)} {outer : List Env} {A₀ : Around} {base h₀ : Heap} {L : Addr} {m : Str → Option Value} {s : Shared} {Q E : Value → Shared → Prop}
    {rest : List (Addr × Obj)} {l r : Addr} {c : Nat} {sx sy : Int} {s1 s2 : Tok} {kind : Str} {x y : Int} {pal oct : List UInt8} {t1 t2 t3 t4 t5 : Tok} {g₀ : Heap} {ps : Array Value}
    (B : Below A₀ base outer h₀) (F : Fr h₀ L s.heap m) (X : (k0.heap_1 w.params).In h₀) (N : News h₀ L s.heap ((l, listOf #[.int sx s1, .int sy s2] c) :: (r, tupObj (rowVs kind x y pal oct t1 t2 t3 t4 t5)) :: (183, tabObj ps) :: rest)) (T : Top p loose mean mg mb h₀) (hk : cs.kind = .function) (hdp : dp + 10 < recursionLimit) (hu : un + 80 < cLine)
    (XB : (k0.heap_1 w.params).In base) (TB : Top p loose mean mg mb base) (D : KtsDicts (outer.filterMap (·.frame)) h₀) (T0 : KtsTurn (outer.filterMap (·.frame)) g₀ h₀) (CH : CodeHd base 187 183) (hs : Sound kind x y pal oct) (hne : kind ≠ "rgb") (ho : ∀ p ∈ rest, p.1 ≠ 183) (hol : ∀ p ∈ rest, p.1 ≠ l) (hr : @Ne Nat r 183) (hl : @Ne Nat l 183) (hlr : @Ne Nat l r) (htb : Tab1 qualB 144 28 ps rest)
    (ret : ∀ ps' add sx' sy' s1' s2' h₀' h' tk', Tab1 qualB 144 28 ps' (add ++ rest) → (∀ p ∈ add, p ∈ rest ∨ ∀ q ∈ (183, tabObj ps) :: rest, q.1 < p.1) → KtsTurn (outer.filterMap (·.frame)) g₀ h₀' → Fr h₀' L h' m → News h₀' L h' ((l, listOf #[.int sx' s1', .int sy' s2'] c) :: (183, tabObj ps') :: (add ++ rest)) → Below A₀ base outer h₀' → (k0.heap_1 w.params).In h₀' → Top p loose mean mg mb h₀' → KtsDicts (outer.filterMap (·.frame)) h₀' → Q (.bool true) { s with heap := h', toks := tk' }) :
    wpAny (model Challenge.rw_pf0230_01.row.prog w) (ktrTop dp un gd cn cs L a ccd cl outer) (call (.ref 188) [.ref l, .ref r]) Q E s := by
  refine wpAny_call ?_
  k_dflt (walk_at "m_enterTC")
  rename (_ ∧ _ ∧ _ ∧ AllLt _ _) => lt0
  have ltR := allLt_to lt0.2.2.2
  have hS := hs
  obtain ⟨h1, h2, h3, h4, h0, hx⟩ := hs
  have hq : (kind != Str.ofString "rgb") = true := by simpa using hne
  k_steps
  all_goals try (show Deed _ _ _; walk_at "m_deed")
  rename News _ _ _ _ => kN
  rename (_ ∨ ∀ q : Addr × Obj, _ → _ < _) => ob
  rename _ = Data.fields _ => d1
  rename _ = some (Value.str _ _) => d2
  obtain ⟨ps', add, x1, x2, x3⟩ := lam_done (rest := rest) (P := 183) (ps := ps) (a := 144) (b := 28) (qual := qualB) kN d1 d2 ob (by
    intro q hq
    rcases List.mem_cons.mp hq with rfl | hq
    · repeat (first | exact .head _ | apply List.Mem.tail)
    · repeat (first | exact hq | apply List.Mem.tail)) (by
    intro q hq
    rcases List.mem_cons.mp hq with rfl | hq
    · repeat (first | exact .head _ | apply List.Mem.tail)
    · repeat (first | exact hq | apply List.Mem.tail))
  refine' ret ps' add _ _ _ _ _ _ _ x1 x2 ?zt ?zf (news_at (p := (l, listOf #[.int _ _, .int _ _] c)) kN ?zml x3) ?zb ?zx ?ztt ?zdd
  case zml => repeat (first | exact .head _ | apply List.Mem.tail)
  case zt => assumption
  case zf => k_asm
  case zb => assumption
  case zx => assumption
  case ztt => assumption
  case zdd => assumption
/-- a head that with_thumbnail takes: twelve octets of a JFIF and at least two more -/
def HeadGood (fixed b : List UInt8) : Prop := ∃ rest, b = fixed ++ rest ∧ 2 ≤ rest.length ∧ rest.length ≤ 100
def HeadBad (b : List UInt8) : Prop := b.length ≤ 100 ∧ (b.take 4 ≠ [74, 70, 73, 70] ∨ b.length < 14)
theorem headBad_place {b : List UInt8} (h : HeadBad b) : b.take 5 ≠ [74, 70, 73, 70, 0] ∨ b.length < 14 := by
  rcases h.2 with h | h
  · refine .inl fun e => h ?_
    have : (b.take 5).take 4 = b.take 4 := by rw [List.take_take]; rfl
    rw [← this, e]
    rfl
  · exact .inr h
theorem sub_heads2 {prog : Program} {w : World} {A : Around} {E Q : Value → Shared → Prop} {s : Shared} {h₀ : Heap} {L l : Addr} {news : List (Addr × Obj)} {value slice : PySem.Expr} {v : Int} {t a0 a1 a2 a3 a4 : Tok} {k : Nat} {b0 b1 b2 b3 b4 : List UInt8}
    (N : News h₀ L s.heap news) (hl : (l, listOf #[Value.bytes b0.toArray a0, Value.bytes b1.toArray a1, Value.bytes b2.toArray a2, Value.bytes b3.toArray a3, Value.bytes b4.toArray a4] k) ∈ news)
    (h0 : 0 ≤ v) (h1 : v < 5) (l0 : HeadGood b2 b0) (l1 : HeadGood b2 b1) (l2 : HeadBad b2) (l3 : HeadBad b3) (l4 : HeadBad b4)
    (hg : ∀ (rest : List UInt8) (a : Tok), 2 ≤ rest.length → rest.length ≤ 100 → Q (.bytes (b2 ++ rest).toArray a) s) (hb : ∀ (b : List UInt8) (a : Tok), HeadBad b → Q (.bytes b.toArray a) s)
    (hs : ∀ k u, subscripted slice false (.ref l) (.int k u) = operate [.ref l, .int k u] (getItem (.ref l) (.int k u)) := by intro _ _; with_unfolding_all rfl) :
    wpAny (model prog w) A (subscriptTail value slice (.ref l) (.int v t)) Q E s := by
  have L5 : s.heap.IsList l [Value.bytes b0.toArray a0, Value.bytes b1.toArray a1, Value.bytes b2.toArray a2, Value.bytes b3.toArray a3, Value.bytes b4.toArray a4].toArray := is_listN N hl
  obtain ⟨r0, rfl, p0, q0⟩ := l0
  obtain ⟨r1, rfl, p1, q1⟩ := l1
  rcases five_cases h0 h1 with rfl | rfl | rfl | rfl | rfl
  · exact item_litK L5 (by decide) (by decide) rfl (hg _ _ p0 q0) (hs _ _)
  · exact item_litK L5 (by decide) (by decide) rfl (hg _ _ p1 q1) (hs _ _)
  · exact item_litK L5 (by decide) (by decide) rfl (hb _ _ l2) (hs _ _)
  · exact item_litK L5 (by decide) (by decide) rfl (hb _ _ l3) (hs _ _)
  · exact item_litK L5 (by decide) (by decide) rfl (hb _ _ l4) (hs _ _)
theorem bi_no_bytes : typeLookup (.type "int") "__bytes__" = pure none := by rw [typeLookup_type, builtinLookup_eq_fast]; kernel_rfl
theorem bi_index : typeLookup (.type "int") "__index__" = pure (some (.builtin "int.__index__")) := by rw [typeLookup_type, builtinLookup_eq_fast]; kernel_rfl
section
variable {prog : Program} {w : World} {A : Around} {E : Value → Shared → Prop} {s : Shared}
theorem bi_neg {α : Type} {M : Model} {c : Prop} [Decidable c] {a b : Sem α} {Q : α → Shared → Prop} (hc : ¬ c) (h : wpAny M A b Q E s) : wpAny M A (if c then a else b) Q E s := by
  rw [if_neg hc]
  exact h
theorem bi_new {x : Value} {n : Nat} {Q : Value → Shared → Prop} (hz : n ≤ 1000) (hT : s.TypeIs x "int") (hs : asStr? x = pure none) (hi : asIndex x = pure (n : Int))
    (hQ : ∀ t k, Q (.bytes (Array.replicate n 0) t) { s with toks := k }) :
    codeAny (model prog w) A (.call (.builtin "bytes.__new__") ⟨[.type "bytes", x], []⟩) (wants Q E) s := by
  refine codeAny_of_tree ?_
  show wpAny _ A.in1 (do checkBuiltinCall "bytes.__new__" ⟨[.type "bytes", x], []⟩; again (.builtin "bytes.__new__" ⟨[.type "bytes", x], []⟩)) _ _ s
  refine wpAny_bind (wpAny_of_eq (F.bm_newCall _) (wpAny_pure ⟨plainId_quiet F.bm_plain _, codeAny_builtin F.bm_entry ?_⟩))
  rw [Around.under_plainId F.bm_plain _]
  unfold Builtin.«bytes.__new__»
  refine wpAny_bind (wpAny_of_eq (a := true) rfl ?_)
  refine bm_if_false rfl ?_
  refine wpAny_bind (wpAny_of_eq F.bm_sub ?_)
  refine bm_if_false rfl ?_
  refine wpAny_bind (wpAny_of_eq (F.bm_bind _) ?_)
  refine wpAny_bind (wpAny_of_eq (a := ()) rfl ?_)
  refine wpAny_bind (wpAny_of_eq (a := ()) rfl ?_)
  refine bm_if_false rfl ?_
  refine wpAny_bind (wpAny_specialOf hT bi_no_bytes ?_)
  refine wpAny_bind (wpAny_bind ?_)
  refine wpAny_of_eq hs ?_
  refine wpAny_pure ?_
  refine bm_if_false rfl ?_
  refine wpAny_bind (wpAny_specialOf hT bi_index ?_)
  refine bm_if_false rfl ?_
  refine wpAny_bind (wpAny_attempt (wpAny_of_eq hi ?_))
  dsimp only
  have f1 : Builtin.Bytes.fitsIndex (n : Int) = true := by simp [Builtin.Bytes.fitsIndex]; omega
  rw [f1]
  refine bm_if_false rfl ?_
  refine bi_neg (by omega) ?_
  refine bi_neg (by omega) ?_
  have f2 : Builtin.Bytes.tooLong ((n : Int).toNat) = false := by simp only [Builtin.Bytes.tooLong, sizeLine_eq, Int.toNat_natCast]; exact decide_eq_false (by omega)
  refine bm_if_false f2 ?_
  refine wpAny_bind (wpAny_rule ?_)
  refine wpAny_bind (wpAny_mkBytes ?_ (by rw [Array.size_replicate, sizeLine_eq]; omega))
  show wpAny _ _ (if (Value.type "bytes" == Value.type "bytes") = true then _ else _) _ _ _
  refine bm_if_true (by decide) ?_
  exact wpAny_pure (hQ _ _)
theorem bytes_int {n : Nat} {t : Tok} {Q : Value → Shared → Prop} (hz : n ≤ 1000)
    (hQ : ∀ t k, Q (.bytes (Array.replicate n 0) t) { s with toks := k }) : wpAny (model prog w) A (call (.type "bytes") [.int (n : Int) t]) Q E s := by
  refine callType_codes (Q₁ := fun obj s₁ => s₁.TypeIs obj "bytes" ∧ Q obj s₁) F.bm_called (F.bm_typeCall _) F.entry_object_init
    (bi_new hz rfl rfl rfl fun t k => ⟨PySem.W.typeIs_bytes _ _ _, hQ t k⟩) fun obj s₁ h₁ => ?_
  exact ⟨h₁.1, F.args_object_init_2 obj _, object_init_meets F.bm_called.init.lookup F.bm_called.made (by decide) prog w A.in1 _ s₁ ⟨h₁.1, rfl, h₁.2⟩⟩
end
def flat3 (es : List (Nat × Nat × Addr)) : List Value := es.flatMap fun e => [rawInt e.1, rawInt e.2.1, Value.ref e.2.2]
def TabN (qual : Str) (ps : Array Value) (news : List (Addr × Obj)) : Prop := ∃ es, ps = (flat3 es).toArray ∧ ∀ e ∈ es, CodeOk qual e.2.2 news
theorem tabN_nil {qual : Str} {news : List (Addr × Obj)} : TabN qual #[] news := ⟨[], rfl, fun _ he => nomatch he⟩
theorem TabN.mono {qual : Str} {ps : Array Value} {news news' : List (Addr × Obj)} (x : TabN qual ps news) (h : ∀ p ∈ news, p ∈ news') : TabN qual ps news' := by
  obtain ⟨es, e, hc⟩ := x
  refine ⟨es, e, fun q hq => ?_⟩
  obtain ⟨oc, vs, t, hm, r⟩ := hc q hq
  exact ⟨oc, vs, t, h _ hm, r⟩
theorem flat3_ok : ∀ es, TriplesOk (flat3 es)
  | [] => trivial
  | _ :: es => flat3_ok es
theorem flat3_among {pos : Pos} : ∀ es, codeAmong pos (flat3 es) = none ∨ ∃ e ∈ es, codeAmong pos (flat3 es) = some (.ref e.2.2)
  | [] => .inl rfl
  | e :: es => by
    have q : flat3 (e :: es) = rawInt e.1 :: rawInt e.2.1 :: Value.ref e.2.2 :: flat3 es := rfl
    rw [q]
    simp only [rawInt, codeAmong]
    split
    · exact .inr ⟨e, .head _, rfl⟩
    · rcases flat3_among (pos := pos) es with h | ⟨e', he, h⟩
      · exact .inl h
      · exact .inr ⟨e', .tail _ he, h⟩
section
variable {M : Model} {A : Around} {E : Value → Shared → Prop} {s : Shared} {h₀ : Heap} {L a c P : Addr} {m mg mb : Str → Option Value} {cn : Str} {cs : Scope} {ccd : Value} {cl : List (Str × Addr)} {news rest : List (Addr × Obj)} {g : Obj → List (Addr × Obj)}
  {p : Program} {loose : List Str} {mean : ExcName → Option Value} {name qual : Str} {params : Arguments} {body : Expr} {scope : Scope} {ps : Array Value} {pos : Pos} {firstLine : Nat} {clos : List (Str × Addr)}
theorem lamN {Q : Value → Shared → Prop} (F : Fr h₀ L s.heap m) (N : News h₀ L s.heap news) (T : Top p loose mean mg mb h₀) (C : CodeHd h₀ c P) (hcd : ccd = .ref c) (U : UpdF P (tabObj ps) news g) (tb : TabN qual ps rest) (sub : ∀ q ∈ rest, q ∈ news) (off : ∀ q ∈ rest, q.1 ≠ P)
    (hcl : closureFor scope (envX cn cs L a ccd cl) = pure clos)
    (h : ∀ f c' oc vs t ctv ps' h' tk, Fr h₀ L h' m →
      News h₀ L h' ((f, kla_obj name qual params body scope clos ((mg "__name__").getD .none) c' ctv) :: (c', oc) :: g (tabObj ps')) → TabN qual ps' ((c', oc) :: rest) →
      oc.data = .fields vs → vs[1]? = some (.str qual t) → (∀ q ∈ news, q.1 < f) → c' < f → @Ne Nat c' P → ((c', oc) ∈ rest ∨ ∀ q ∈ news, q.1 < c') → Q (.ref f) { s with heap := h', toks := tk }) :
    wpAny M A (makeFunction name qual params (.expr body) scope (envX cn cs L a ccd cl) [] [] [] pos firstLine) Q E s := by
  obtain ⟨own, post, hn, hg, _, _⟩ := id U.split
  have hP : (P, tabObj ps) ∈ news := by rw [hn]; exact List.mem_append.mpr (.inr (.head _))
  obtain ⟨es, rfl, hes⟩ := tb
  rcases flat3_among (pos := pos) es with hno | ⟨⟨el, ec, c'⟩, he, hf⟩
  · refine kla_nest F N T C hcd U (flat3_ok es) hno hcl fun f c' oc vs t ctv h' tk F' N' hd hv l1 l2 => ?_
    refine h f c' oc vs t ctv _ h' tk F' N' ⟨es ++ [(pos.line, pos.col, c')], by simp [flat3], fun e he => ?_⟩ hd hv (fun q hq => Nat.lt_trans (l1 q hq) l2) l2 (Nat.ne_of_lt (l1 _ hP)).symm (.inr l1)
    rcases List.mem_append.mp he with he | he
    · obtain ⟨oc', vs', t', hm, r⟩ := hes e he
      exact ⟨oc', vs', t', .tail _ hm, r⟩
    · rw [List.mem_singleton.mp he]
      exact ⟨oc, vs, t, .head _, hd, hv⟩
  · obtain ⟨oc, vs, t, hm, hd, hv⟩ := id (hes _ he)
    refine kla_hit (c' := c') F N T C hcd hP (flat3_ok es) hf hcl fun f ctv h' tk F' N' l1 => ?_
    refine h f c' oc vs t ctv _ h' tk F' (fun q hq => N' q ?_) ⟨es, rfl, fun e he => ?_⟩ hd hv l1 (l1 _ (sub _ hm)) (off _ hm) (.inl hm)
    · rcases List.mem_cons.mp hq with rfl | hq
      · exact .head _
      rcases List.mem_cons.mp hq with rfl | hq
      · exact .tail _ (sub _ hm)
      · refine .tail _ ?_
        rw [hg] at hq
        rw [hn]
        exact hq
    · obtain ⟨oc', vs', t', hm, r⟩ := hes e he
      exact ⟨oc', vs', t', .tail _ hm, r⟩
end
/-- one turn's end of a loop over a tuple: the base may have turned -/
def TurnEnd (G : Heap → Prop) (L : Addr) (stored : List Str) (m₀ : Str → Option Value) (J : Nat → List (Addr × Obj) → Prop) (i : Nat) (I : Addr) (oI : Obj) (s : Shared) (Q : Flow → Shared → Prop) (f : Flow) (s₂ : Shared) : Prop :=
  match f with
  | .ret v => Q (.ret v) s₂
  | .brk => Q .next s₂
  | _ => ∃ h₁ h' tk m' nx, s₂ = { s with heap := h', toks := tk } ∧ G h₁ ∧ Fr h₁ L h' m' ∧ News h₁ L h' ((I, oI) :: nx) ∧ (∀ p ∈ nx, p.1 ≠ I) ∧ (∀ z, stored.contains z = false → m' z = m₀ z) ∧ J i nx
theorem tup_loop {prog : Program} {w : World} {A : Around} {E : Value → Shared → Prop} {s : Shared} {env : Env} {target : Expr} {body : List Stmt} {Q : Flow → Shared → Prop} {h₀ : Heap} {ax : Addr} {lo : Obj} {vs : List Value} {n : Nat} {m₀ : Str → Option Value} {nx₀ : List (Addr × Obj)}
    (stored : List Str) (G : Heap → Prop) (J : Nat → List (Addr × Obj) → Prop) (hh : A.handled = none) (F : Fr h₀ env.locals s.heap m₀) (N : News h₀ env.locals s.heap nx₀) (hc : lo.cls = .type "tuple") (hd : lo.data = .seq vs.toArray n)
    (g0 : G h₀) (j0 : J 0 nx₀) (hJ : ∀ i nx, J i nx → (ax, lo) ∈ nx)
    (step : ∀ i v h₁ (u : Str → Option Value) nx h tk I oI, vs[i]? = some v → G h₁ → J i nx → (∀ p ∈ nx, p.1 ≠ I) → (∀ p ∈ nx₀, p.1 < I) → Fr h₁ env.locals h (fun y => if stored.contains y then u y else m₀ y) → News h₁ env.locals h ((I, oI) :: nx) →
      wpAny (model prog w) A (assign target env v) (fun _ s₂ => wpAny (model prog w) A (execs body env) (TurnEnd G env.locals stored m₀ J (i + 1) I oI s Q) E s₂) E { s with heap := h, toks := tk })
    (done : ∀ h₁ (u : Str → Option Value) nx h tk, G h₁ → J vs.length nx → Fr h₁ env.locals h (fun y => if stored.contains y then u y else m₀ y) → News h₁ env.locals h nx → Q .next { s with heap := h, toks := tk })
    (hE : PassesOwn (model prog w) A env E := by passes_own) :
    wpAny (model prog w) A (pyIter (.ref ax)) (fun it s₂ => codeAny (model prog w) A (.forLoop target it body [] env) (fun r s' => match r with | .ok f => Q f s' | .error e => cameBackBy (model prog w) A env E e s') s₂) E s := by
  have hax := N _ (hJ _ _ j0)
  have hl : s.heap.IsTuple ax vs.toArray := ⟨lo, hax.1, hc, n, hd⟩
  have hlt : ax < s.heap.objs.size := Heap.lt_size hax.1
  have hne : ax ≠ s.heap.objs.size := Nat.ne_of_lt hlt
  refine wpAny_pyIter_tuple hl ?_
  generalize hI : s.heap.objs.size = I at *
  have W := Walks.tuple (prog := prog) (w := w) (A := A) hh I ax hne vs.toArray
  have hfr : ∀ p ∈ nx₀, p.1 < I := fun p hp => hI ▸ Heap.lt_size (N p hp).1
  have hshape : ∀ (u : Str → Option Value), (∀ z, stored.contains z = false → u z = m₀ z) → u = (fun y => if stored.contains y then u y else m₀ y) := fun u hu => by
    funext y
    cases h2 : stored.contains y
    · simp [hu y h2]
    · simp
  have hLI : env.locals ≠ I := by have := F.ns.lt; rw [hI] at this; exact Nat.ne_of_lt this
  refine codeAny_forLoop_any
    (fun k s' => ∃ i h₁ u nx h tk oI, s' = { s with heap := h, toks := tk } ∧ i ≤ vs.length ∧ k = vs.length + 1 - i ∧ G h₁ ∧ Fr h₁ env.locals h u ∧ (∀ z, stored.contains z = false → u z = m₀ z) ∧ News h₁ env.locals h ((I, oI) :: nx) ∧ (∀ p ∈ nx, p.1 ≠ I) ∧ J i nx ∧ h.IsTupleIter I ax i) ?_ (vs.length + 1)
    ⟨0, h₀, m₀, nx₀, _, s.toks, { cls := .type "tuple_iterator", data := .fields #[.ref ax, .int 0 0] }, rfl, Nat.zero_le _, rfl, g0, F.push _, fun _ _ => rfl, fun p hp => ?_, fun p hp => Nat.ne_of_lt (hfr p hp), j0, ⟨_, by rw [← hI]; exact Heap.get?_push_size _ rfl, rfl, rfl⟩⟩
  · rintro k s' ⟨i, h₁, u, nx, h, tk, oI, rfl, hi, rfl, hG, F', hu, N', off', hj, hit⟩
    have hax' := (N' _ (.tail _ (hJ _ _ hj))).1
    have hl' : h.IsTuple ax vs.toArray := ⟨lo, hax', hc, n, hd⟩
    have hI₁ := (N' _ (.head _)).2.2
    have next : ∀ h₂ : Heap, (∀ b o, b ∉ [I] → h.get? b = some o → h₂.get? b = some o) → Fr h₁ env.locals h₂ u ∧ News h₁ env.locals h₂ nx := fun h₂ hk₂ =>
      ⟨⟨F'.ns.at' fun o e => hk₂ _ o (by simpa using hLI) e, fun b o e => hk₂ b o (by
        intro hb
        rw [List.mem_singleton.mp hb, hI₁] at e
        cases e) (F'.keep b o e), F'.above⟩, fun p hp => ⟨hk₂ _ _ (by simpa using off' p hp) (N' p (.tail _ hp)).1, (N' p (.tail _ hp)).2⟩⟩
    by_cases hlt' : i < vs.length
    · refine W.item i _ _ _ (by simpa using hlt') ⟨hit, hl'⟩ fun v h₂ tk₂ hP st₂ hk₂ => ?_
      obtain ⟨F₂, N₂⟩ := next h₂ hk₂
      refine letGo_tupleiter st₂.1 ?_
      obtain ⟨oI', heI, hcI, hdI⟩ := id st₂.1
      rw [hshape u hu] at F₂
      refine wpAny_mono (step i v h₁ u nx h₂ tk₂ I oI' (by simpa using hP) hG hj off' hfr F₂ (fun p hp => ?_)) (fun _ s₂ h₂' => wpAny_mono h₂' (fun f s₃ h₃ => ?_) hE) hE
      · rcases List.mem_cons.mp hp with rfl | hp
        · exact ⟨heI, hLI.symm, hI₁⟩
        · exact N₂ p hp
      · have fin : (∃ h₁ h' tk m' nx, s₃ = { s with heap := h', toks := tk } ∧ G h₁ ∧ Fr h₁ env.locals h' m' ∧ News h₁ env.locals h' ((I, oI') :: nx) ∧ (∀ p ∈ nx, p.1 ≠ I) ∧ (∀ z, stored.contains z = false → m' z = m₀ z) ∧ J (i + 1) nx) →
            ∃ m, m < vs.length + 1 - i ∧ ∃ i h₁ u nx h tk oI, s₃ = { s with heap := h, toks := tk } ∧ i ≤ vs.length ∧ m = vs.length + 1 - i ∧ G h₁ ∧ Fr h₁ env.locals h u ∧ (∀ z, stored.contains z = false → u z = m₀ z) ∧ News h₁ env.locals h ((I, oI) :: nx) ∧ (∀ p ∈ nx, p.1 ≠ I) ∧ J i nx ∧ h.IsTupleIter I ax i := by
          rintro ⟨hb₃, h', tk', m', nx', rfl, hG', F₃, N₃, off₃, hm', hj'⟩
          exact ⟨vs.length + 1 - (i + 1), by omega, i + 1, hb₃, m', nx', h', tk', oI', rfl, hlt', rfl, hG', F₃, hm', N₃, off₃, hj', ⟨oI', (N₃ _ (.head _)).1, hcI, hdI⟩⟩
        cases f with
        | ret v => exact h₃
        | brk => exact h₃
        | next => exact fin h₃
        | cont => exact fin h₃
    · obtain rfl : i = vs.length := Nat.le_antisymm hi (Nat.not_lt.mp hlt')
      refine W.done _ _ _ (by simpa using And.intro hit hl') fun h₂ tk₂ hk₂ => ?_
      obtain ⟨F₂, N₂⟩ := next h₂ hk₂
      rw [hshape u hu] at F₂
      exact wpAny_execs_nil (done h₁ u nx h₂ tk₂ hG hj F₂ N₂)
  · rcases List.mem_cons.mp hp with rfl | hp
    · exact ⟨by rw [← hI]; exact Heap.get?_push_size _ rfl, hLI.symm, by rw [← hI]; exact next_is_new F⟩
    · exact ⟨Heap.get?_push_of_some _ (N p hp).1, (N p hp).2⟩

theorem bytes_nine {prog : Program} {w : World} {A : Around} {E : Value → Shared → Prop} {s : Shared} {t : Tok} {Q : Value → Shared → Prop}
    (hQ : ∀ t k, Q (.bytes ([0, 0, 0, 0, 0, 0, 0, 0, 0] : List UInt8).toArray t) { s with toks := k }) : wpAny (model prog w) A (call (.type "bytes") [.int 9 t]) Q E s :=
  bytes_int (n := 9) (by decide) hQ
theorem sub_side {prog : Program} {w : World} {A : Around} {E Q : Value → Shared → Prop} {s : Shared} {h₀ : Heap} {L l : Addr} {news : List (Addr × Obj)} {value slice : PySem.Expr} {v z0 z1 z2 : Int} {t a0 a1 a2 : Tok} {k : Nat}
    (N : News h₀ L s.heap news) (hl : (l, listOf #[Value.int z0 a0, Value.int z1 a1, Value.int z2 a2] k) ∈ news)
    (h0 : 0 ≤ v) (h1 : v < 3) (p0 : z0 < 0 ∨ 255 < z0) (p1 : z1 < 0 ∨ 255 < z1) (p2 : z2 < 0 ∨ 255 < z2)
    (h : ∀ (z : Int) (a : Tok), (z < 0 ∨ 255 < z) → Q (.int z a) s)
    (hs : ∀ k u, subscripted slice false (.ref l) (.int k u) = operate [.ref l, .int k u] (getItem (.ref l) (.int k u)) := by intro _ _; with_unfolding_all rfl) :
    wpAny (model prog w) A (subscriptTail value slice (.ref l) (.int v t)) Q E s := by
  have L5 : s.heap.IsList l [Value.int z0 a0, Value.int z1 a1, Value.int z2 a2].toArray := is_listN N hl
  rcases three_cases h0 h1 with rfl | rfl | rfl
  · exact item_litK L5 (by decide) (by decide) rfl (h _ _ p0) (hs _ _)
  · exact item_litK L5 (by decide) (by decide) rfl (h _ _ p1) (hs _ _)
  · exact item_litK L5 (by decide) (by decide) rfl (h _ _ p2) (hs _ _)
def OddK (k : Str) : Prop := k = "gif" ∨ k = "" ∨ k = "JPEG"
theorem sub_oddk {prog : Program} {w : World} {A : Around} {E Q : Value → Shared → Prop} {s : Shared} {h₀ : Heap} {L l : Addr} {news : List (Addr × Obj)} {value slice : PySem.Expr} {v : Int} {z0 z1 z2 : Str} {t a0 a1 a2 : Tok} {k : Nat}
    (N : News h₀ L s.heap news) (hl : (l, listOf #[Value.str z0 a0, Value.str z1 a1, Value.str z2 a2] k) ∈ news)
    (h0 : 0 ≤ v) (h1 : v < 3) (p0 : OddK z0) (p1 : OddK z1) (p2 : OddK z2)
    (h : ∀ (z : Str) (a : Tok), OddK z → Q (.str z a) s)
    (hs : ∀ k u, subscripted slice false (.ref l) (.int k u) = operate [.ref l, .int k u] (getItem (.ref l) (.int k u)) := by intro _ _; with_unfolding_all rfl) :
    wpAny (model prog w) A (subscriptTail value slice (.ref l) (.int v t)) Q E s := by
  have L5 : s.heap.IsList l [Value.str z0 a0, Value.str z1 a1, Value.str z2 a2].toArray := is_listN N hl
  rcases three_cases h0 h1 with rfl | rfl | rfl
  · exact item_litK L5 (by decide) (by decide) rfl (h _ _ p0) (hs _ _)
  · exact item_litK L5 (by decide) (by decide) rfl (h _ _ p1) (hs _ _)
  · exact item_litK L5 (by decide) (by decide) rfl (h _ _ p2) (hs _ _)
def IfEnd (s : Shared) (v : Value) (s₁ : Shared) : Prop := ∃ (o : List UInt8) (t : Tok) (k : Nat), v = .bytes o.toArray t ∧ s₁ = { s with toks := k }
theorem if_bytes {M : Model} {A : Around} {E Q : Value → Shared → Prop} {s : Shared} {e : PySem.Expr} {env : Env} (h : wpAny M A (eval e env) (IfEnd s) E s) (hQ : ∀ (o : List UInt8) (t : Tok) (k : Nat), Q (.bytes o.toArray t) { s with toks := k }) : wpAny M A (eval e env) Q E s :=
  wpAny_mono h (fun v s₁ h₁ => by
    obtain ⟨o, t, k, rfl, rfl⟩ := h₁
    exact hQ o t k) fun _ _ e => e
theorem words18 : True := by
  (k_with "call ref" => (first | ((k_here; (with_reducible show wpAny _ _ (call (Value.ref 117) _) _ _ _); k_dflt (refine' with_good (by k_asm) (by k_asm) (by k_asm) (by k_asm) (by k_asm) (by first | exact rfl | assumption) (by walk_at "m_room") (by walk_at "m_room") (by k_mem) (by k_mem) (by walk_at "m_sound") (by exact rfl) (by walk_at "m_size") (by walk_at "m_size") ?_; intro zzbs' zzt' zzh' zztk' zze' zzF' zzN'; simp only [u8_back] at zze'; subst zze'))) | fail "word"))
  (k_with "subscriptTail" => (k_here; (with_reducible show wpAny _ _ (subscriptTail _ _ (Value.ref _) (Value.int _ _)) _ _ _); (rename News _ _ _ _ => lN'); (with_unfolding_all refine' sub_heads2 lN' ?hl ?h0 ?h1 ?l0 ?l1 ?l2 ?l3 ?l4 ?hg ?hb ?hs; (case hl => k_mem); (case h0 => assumption); (case h1 => assumption); (case l0 => exact ⟨[0, 0], rfl, by decide, by decide⟩); (case l1 => exact ⟨[1, 1, 97, 98, 99], rfl, by decide, by decide⟩); (case l2 => exact ⟨by walk_at "m_size", Or.inr (by walk_at "m_size")⟩); (case l3 => exact ⟨by walk_at "m_size", Or.inl (by simp)⟩); (case l4 => exact ⟨by walk_at "m_size", Or.inl (by simp)⟩); (case hs => (intro _ _; with_unfolding_all rfl)); (case hg => (intro rest' a' p' q'; (try simp only [List.cons_append, List.nil_append]); refine stopIt ?_)); intro b' a' hB')))
  trivial
def StopMark : Prop := True
def OrEnd (h₀ : Heap) (L : Addr) (m : Str → Option Value) (news : List (Addr × Obj)) (s : Shared) (b : Bool) (s₁ : Shared) : Prop := b = true ∧ ∃ h' tk, s₁ = { s with heap := h', toks := tk } ∧ Fr h₀ L h' m ∧ News h₀ L h' news
theorem or_true {M : Model} {A : Around} {E : Value → Shared → Prop} {s : Shared} {e : Sem Bool} {Q : Bool → Shared → Prop} {h₀ : Heap} {L : Addr} {m : Str → Option Value} {news : List (Addr × Obj)} (_F : Fr h₀ L s.heap m) (_N : News h₀ L s.heap news)
    (h : wpAny M A e (OrEnd h₀ L m news s) E s) (hQ : ∀ h' tk, Fr h₀ L h' m → News h₀ L h' news → Q true { s with heap := h', toks := tk }) : wpAny M A e Q E s :=
  wpAny_mono h (fun v s₁ h₁ => by
    obtain ⟨rfl, h', tk, rfl, F', N'⟩ := h₁
    exact hQ h' tk F' N') fun _ _ e => e
theorem words19 : True := by
  (k_with "subscriptTail" => (first | ((k_here; (with_reducible show wpAny _ _ (subscriptTail _ _ (Value.ref _) (Value.int _ _)) _ _ _); (rename ((_ : Int) < 5) => zzqz); refine stopIt ?_)) | fail "word"))
  (k_with "compareOp Eq ref ref" => (first | ((k_here; k_dflt (refine' row_eq (by k_asm) (by k_mem) (by k_mem) (by ktr_units) ?_))) | fail "word"))
  (k_with "call ref" => (first | ((k_here; (with_reducible show wpAny _ _ (call (Value.ref 103) _) _ _ _); (rename StopMark => zzsm'); clear zzsm'; refine stopIt ?_)) | fail "word"))
  (k_with "isTrue BoolOp" => (first | ((k_here; (rename HeadBad _ => zzhB'); (rename StopMark => zzsm'); clear zzsm'; refine stopIt ?_)) | fail "word"))
  (k_with "ite" => (first | ((k_here; k_dflt (refine m_neg (by assumption) ?_))) | fail "word"))
  (k_with "OrEnd" => (first | ((refine stopIt ?_)) | fail "word"))
  trivial
theorem borne_rgb {w : World} {p : Program} {loose : List Str} {mean : ExcName → Option Value} {mg mb : Str → Option Value} {dp un : Nat} {gd : Option (List Code)} {cn : Str} {cs : Scope} {a : Addr} {ccd : Value} {cl : List (Str × Addr)} {outer : List Env} {A₀ : Around} {base h₀ : Heap} {L : Addr} {m : Str → Option Value} {s : Shared} {Q E : Value → Shared → Prop}
    {rest : List (Addr × Obj)} {l r : Addr} {c : Nat} {sx sy : Int} {s1 s2 : Tok} {u v : UInt8} {oct : List UInt8} {t1 t2 t3 t4 t5 : Tok} {g₀ : Heap} {ps : Array Value}
    (B : Below A₀ base outer h₀) (F : Fr h₀ L s.heap m) (X : (k0.heap_1 w.params).In h₀) (N : News h₀ L s.heap ((l, listOf #[.int sx s1, .int sy s2] c) :: (r, tupObj (rowVs "rgb" u.toNat v.toNat [] oct t1 t2 t3 t4 t5)) :: (183, tabObj ps) :: rest)) (T : Top p loose mean mg mb h₀) (hk : cs.kind = .function) (hdp : dp + 10 < recursionLimit) (hu : un + 80 < cLine)
    (XB : (k0.heap_1 w.params).In base) (TB : Top p loose mean mg mb base) (D : KtsDicts (outer.filterMap (·.frame)) h₀) (T0 : KtsTurn (outer.filterMap (·.frame)) g₀ h₀) (CH : CodeHd base 187 183) (hs : Sound "rgb" u.toNat v.toNat [] oct) (ho : ∀ p ∈ rest, p.1 ≠ 183) (hol : ∀ p ∈ rest, p.1 ≠ l) (hr : @Ne Nat r 183) (hl : @Ne Nat l 183) (hlr : @Ne Nat l r) (htb : Tab1 qualB 144 28 ps rest)
    (ret : ∀ ps' add sx' sy' s1' s2' h₀' h' tk', Tab1 qualB 144 28 ps' (add ++ rest) → (∀ p ∈ add, p ∈ rest ∨ ∀ q ∈ (183, tabObj ps) :: rest, q.1 < p.1) → KtsTurn (outer.filterMap (·.frame)) g₀ h₀' → Fr h₀' L h' m → News h₀' L h' ((l, listOf #[.int sx' s1', .int sy' s2'] c) :: (183, tabObj ps') :: (add ++ rest)) → Below A₀ base outer h₀' → (k0.heap_1 w.params).In h₀' → Top p loose mean mg mb h₀' → KtsDicts (outer.filterMap (·.frame)) h₀' → Q (.bool true) { s with heap := h', toks := tk' }) :
    wpAny (model Challenge.rw_pf0230_01.row.prog w) (ktrTop dp un gd cn cs L a ccd cl outer) (call (.ref 188) [.ref l, .ref r]) Q E s := by
  refine wpAny_call ?_
  k_dflt (walk_at "m_enterTC")
  rename (_ ∧ _ ∧ _ ∧ AllLt _ _) => lt0
  have ltR := allLt_to lt0.2.2.2
  rename Fr _ _ _ (bindL _ _ _) => Fz
  change Fr _ _ _ (fun y => if y = "row" then some (.ref r) else if y = "shelf" then some (.ref l) else none) at Fz
  rename _ = Data.cell _ => dz1
  change _ = Data.cell none at dz1
  revert dz1
  rename _ = Data.cell _ => dz2
  change _ = Data.cell none at dz2
  intro dz1
  have hS := hs
  obtain ⟨h1, h2, h3, h4, h0, hx⟩ := hs
  k_steps
  unfold Stop
  rename News _ _ _ _ => lN'
  with_unfolding_all refine' sub_heads2 lN' ?hl ?h0 ?h1 ?l0 ?l1 ?l2 ?l3 ?l4 ?hg ?hb ?hs
  case hl => k_mem
  case h0 => assumption
  case h1 => assumption
  case l0 => exact ⟨[0, 0], rfl, by decide, by decide⟩
  case l1 => exact ⟨[1, 1, 97, 98, 99], rfl, by decide, by decide⟩
  case l2 => exact ⟨by walk_at "m_size", Or.inr (by walk_at "m_size")⟩
  case l3 => exact ⟨by walk_at "m_size", Or.inl (by simp)⟩
  case l4 => exact ⟨by walk_at "m_size", Or.inl (by simp)⟩
  case hs => (intro _ _; with_unfolding_all rfl)
  all_goals rename ((_ : Int) < 5) => qz
  all_goals clear qz
  case hg =>
    intro rest' a' p' q'
    simp only [List.cons_append, List.nil_append]
    have sm : StopMark := trivial
    k_steps
    unfold Stop
    cases oct with
    | nil =>
      k_steps
      rename News _ _ _ _ => kN
      refine' ret ps [] _ _ _ _ _ _ _ htb ?za ?zt ?zf (news_at (p := (l, listOf #[.int _ _, .int _ _] c)) kN ?zml (fun p hp => kN p ?zs)) ?zb ?zx ?ztt ?zdd
      case za => intro p hp; cases hp
      case zml => repeat (first | exact .head _ | apply List.Mem.tail)
      case zs => repeat (first | exact hp | apply List.Mem.tail)
      case zt => assumption
      case zf => k_asm
      case zb => assumption
      case zx => assumption
      case ztt => assumption
      case zdd => assumption
    | cons c0 o0 =>
      have h09 : o0.length ≤ 200000 := by simp only [List.length_cons] at h0; omega
      k_steps
      rename News _ _ _ _ => kN
      refine' ret ps [] _ _ _ _ _ _ _ htb ?za1 ?zt1 ?zf1 (news_at (p := (l, listOf #[.int _ _, .int _ _] c)) kN ?zml1 (fun p hp => kN p ?zs1)) ?zb1 ?zx1 ?ztt1 ?zdd1
      case za1 => intro p hp; cases hp
      case zml1 => repeat (first | exact .head _ | apply List.Mem.tail)
      case zs1 => repeat (first | exact hp | apply List.Mem.tail)
      case zt1 => assumption
      case zf1 => k_asm
      case zb1 => assumption
      case zx1 => assumption
      case ztt1 => assumption
      case zdd1 => assumption
  case hb =>
    intro b' a' hB'
    have hpl : b'.take 5 ≠ [74, 70, 73, 70, 0] ∨ b'.length < 14 ∨ (Str.ofString "rgb") ≠ Str.ofString "rgb" := (headBad_place hB').imp id Or.inl
    have hB1 := hB'.1
    have hB2 := hB'.2
    have sm : StopMark := trivial
    k_steps
    unfold Stop
    rename Fr _ _ _ _ => F1
    rename News _ _ _ _ => N1
    refine or_true F1 N1 ?test ?cont
    case test =>
      by_cases hx : (List.take 4 b' != [74, 70, 73, 70]) = true
      · k_steps
        unfold Stop
        exact ⟨rfl, _, _, rfl, by k_asm, by k_asm⟩
      · have hy : b'.length < 14 := hB2.resolve_left (by simpa using hx)
        k_steps
        unfold Stop
        exact ⟨rfl, _, _, rfl, by k_asm, by k_asm⟩
    case cont =>
      clear F1 N1
      intro h' tk F1 N1
      k_steps
      all_goals try (show Deed _ _ _; walk_at "m_deed")
      rename News _ _ _ _ => kN
      rename (_ ∨ ∀ q : Addr × Obj, _ → _ < _) => ob
      rename _ = Data.fields _ => d1
      rename _ = some (Value.str _ _) => d2
      obtain ⟨ps', add, x1, x2, x3⟩ := lam_done (rest := rest) (P := 183) (ps := ps) (a := 144) (b := 28) (qual := qualB) kN d1 d2 ob (by
        intro q hq
        rcases List.mem_cons.mp hq with rfl | hq
        · repeat (first | exact .head _ | apply List.Mem.tail)
        · repeat (first | exact hq | apply List.Mem.tail)) (by
        intro q hq
        rcases List.mem_cons.mp hq with rfl | hq
        · repeat (first | exact .head _ | apply List.Mem.tail)
        · repeat (first | exact hq | apply List.Mem.tail))
      refine' ret ps' add _ _ _ _ _ _ _ x1 x2 ?zt2 ?zf2 (news_at (p := (l, listOf #[.int _ _, .int _ _] c)) kN ?zml2 x3) ?zb2 ?zx2 ?ztt2 ?zdd2
      case zml2 => repeat (first | exact .head _ | apply List.Mem.tail)
      case zt2 => assumption
      case zf2 => k_asm
      case zb2 => assumption
      case zx2 => assumption
      case ztt2 => assumption
      case zdd2 => assumption
abbrev qualW : Str := (Str.ofString "_law_wrong_right" ++ (Str.ofString ".<locals>.")) ++ Str.ofString "<lambda>"
/-- a new code object: apart from the odd cell, the iterator and the table, and old or above what was there -/
def CodeNew (off : List Addr) (tl rs : List (Addr × Obj)) (p : Addr × Obj) : Prop := (∀ a ∈ off, p.1 ≠ a) ∧ (p ∈ rs ∨ ((∀ q ∈ tl, q.1 < p.1) ∧ ∀ a ∈ off, a < p.1))
/-- the table of lambdas with the code objects made in this turn -/
def LamSt (off : List Addr) (tl rs acc : List (Addr × Obj)) (ps : Array Value) : Prop := TabN qualW ps (acc ++ rs) ∧ ∀ p ∈ acc, CodeNew off tl rs p
section
variable {M : Model} {A : Around} {E : Value → Shared → Prop} {s : Shared} {h₀ : Heap} {L a c P : Addr} {m mg mb : Str → Option Value} {cn : Str} {cs : Scope} {ccd : Value} {cl : List (Str × Addr)} {news rs tl acc : List (Addr × Obj)} {off : List Addr} {g : Obj → List (Addr × Obj)}
  {p : Program} {loose : List Str} {mean : ExcName → Option Value} {name : Str} {params : Arguments} {body : Expr} {scope : Scope} {ps : Array Value} {pos : Pos} {firstLine : Nat} {clos : List (Str × Addr)}
theorem lamW {Q : Value → Shared → Prop} (F : Fr h₀ L s.heap m) (N : News h₀ L s.heap news) (T : Top p loose mean mg mb h₀) (C : CodeHd h₀ c P) (hcd : ccd = .ref c) (U : UpdF P (tabObj ps) news g) (st : LamSt off tl rs acc ps) (hoff : ∀ q ∈ rs, ∀ a ∈ off, q.1 ≠ a) (hP : P ∈ off) (htl : ∀ q ∈ rs, q ∈ tl)
    (sacc : ∀ q ∈ acc, q ∈ news) (stl : ∀ q ∈ tl, q ∈ news) (soff : ∀ a ∈ off, ∃ o, (a, o) ∈ news)
    (hcl : closureFor scope (envX cn cs L a ccd cl) = pure clos)
    (h : ∀ f c' oc vs t ctv ps' h' tk, Fr h₀ L h' m →
      News h₀ L h' ((f, kla_obj name qualW params body scope clos ((mg "__name__").getD .none) c' ctv) :: (c', oc) :: g (tabObj ps')) → LamSt off tl rs ((c', oc) :: acc) ps' →
      oc.data = .fields vs → vs[1]? = some (.str qualW t) → (∀ q ∈ news, q.1 < f) → c' < f → @Ne Nat c' P → Q (.ref f) { s with heap := h', toks := tk }) :
    wpAny M A (makeFunction name qualW params (.expr body) scope (envX cn cs L a ccd cl) [] [] [] pos firstLine) Q E s := by
  refine lamN (rest := acc ++ rs) F N T C hcd U st.1 (fun q hq => ?_) (fun q hq => ?_) hcl fun f c' oc vs t ctv ps' h' tk F' N' tb' hd hv l1 l2 ne ob => ?_
  · rcases List.mem_append.mp hq with hq | hq
    · exact sacc q hq
    · exact stl q (htl q hq)
  · rcases List.mem_append.mp hq with hq | hq
    · exact (st.2 q hq).1 P hP
    · exact hoff q hq P hP
  · refine h f c' oc vs t ctv ps' h' tk F' N' ⟨tb', fun q hq => ?_⟩ hd hv l1 l2 ne
    rcases List.mem_cons.mp hq with rfl | hq
    · rcases ob with ob | ob
      · rcases List.mem_append.mp ob with ob | ob
        · exact st.2 _ ob
        · exact ⟨hoff _ ob, .inl ob⟩
      · have h1 : ∀ a ∈ off, a < c' := fun a ha => by
          obtain ⟨o, ho⟩ := soff a ha
          exact ob _ ho
        exact ⟨fun a ha => (Nat.ne_of_lt (h1 a ha)).symm, .inr ⟨fun q hq => ob q (stl q hq), h1⟩⟩
    · exact st.2 q hq
end
/-- the ledger of the outer loop: the odd cell, the table, the code objects made so far, what stays -/
def OutJ (Lo : Addr) (ps₀ : Array Value) (rest st : List (Addr × Obj)) (nx : List (Addr × Obj)) : Prop := ∃ ps add oO co, nx = (Lo, oO) :: (190, tabObj ps) :: (add ++ st) ∧ oO.data = Data.cell co ∧ TabN qualW ps (add ++ rest) ∧ (∀ p ∈ add, p.1 ≠ Lo ∧ p.1 ≠ 190) ∧ (∀ p ∈ add, p ∈ rest ∨ ∀ q ∈ (190, tabObj ps₀) :: rest, q.1 < p.1)
/-- one turn's end, from the ledger of the body -/
def OutEnd (G : Heap → Prop) (L : Addr) (stored : List Str) (m₀ : Str → Option Value) (I Lo : Addr) (oI : Obj) (tl rs : List (Addr × Obj)) (s : Shared) (Q : Flow → Shared → Prop) (f : Flow) (s₂ : Shared) : Prop :=
  match f with
  | .ret v => Q (.ret v) s₂
  | .brk => Q .next s₂
  | _ => ∃ h₁ h' tk m' ps acc oO co, s₂ = { s with heap := h', toks := tk } ∧ G h₁ ∧ Fr h₁ L h' m' ∧ News h₁ L h' ((I, oI) :: (Lo, oO) :: (190, tabObj ps) :: (acc ++ tl)) ∧ (∀ z, stored.contains z = false → m' z = m₀ z) ∧ oO.data = Data.cell co ∧ LamSt [190, Lo, I] tl rs acc ps
theorem outEnd_turn {G : Heap → Prop} {L : Addr} {stored : List Str} {m₀ : Str → Option Value} {I Lo : Addr} {oI : Obj} {add rest st : List (Addr × Obj)} {ps₀ : Array Value} {s : Shared} {Q : Flow → Shared → Prop} {i : Nat} (hrs : ∀ q ∈ rest, q ∈ st) (hI : ∀ p ∈ add ++ st, p.1 ≠ I) (nI : @Ne Nat Lo I) (n190 : @Ne Nat 190 I)
    (h1 : ∀ p ∈ add, p.1 ≠ Lo ∧ p.1 ≠ 190) (h2 : ∀ p ∈ add, p ∈ rest ∨ ∀ q ∈ (190, tabObj ps₀) :: rest, q.1 < p.1) :
    ∀ f s₂, OutEnd G L stored m₀ I Lo oI (add ++ st) (add ++ rest) s Q f s₂ → TurnEnd G L stored m₀ (fun _ nx => OutJ Lo ps₀ rest st nx) i I oI s Q f s₂ := by
  intro f s₂ x
  have fin : (∃ h₁ h' tk m' ps acc oO co, s₂ = { s with heap := h', toks := tk } ∧ G h₁ ∧ Fr h₁ L h' m' ∧ News h₁ L h' ((I, oI) :: (Lo, oO) :: (190, tabObj ps) :: (acc ++ (add ++ st))) ∧ (∀ z, stored.contains z = false → m' z = m₀ z) ∧ oO.data = Data.cell co ∧ LamSt [190, Lo, I] (add ++ st) (add ++ rest) acc ps) →
      ∃ h₁ h' tk m' nx, s₂ = { s with heap := h', toks := tk } ∧ G h₁ ∧ Fr h₁ L h' m' ∧ News h₁ L h' ((I, oI) :: nx) ∧ (∀ p ∈ nx, p.1 ≠ I) ∧ (∀ z, stored.contains z = false → m' z = m₀ z) ∧ OutJ Lo ps₀ rest st nx := by
    rintro ⟨h₁, h', tk, m', ps, acc, oO, co, rfl, hG, F, N, hm, hd, tb, hn⟩
    refine ⟨h₁, h', tk, m', (Lo, oO) :: (190, tabObj ps) :: (acc ++ (add ++ st)), rfl, hG, F, N, fun p hp => ?_, hm, ps, acc ++ add, oO, co, by rw [List.append_assoc], hd, by rw [List.append_assoc]; exact tb, fun p hp => ?_, fun p hp => ?_⟩
    · rcases List.mem_cons.mp hp with rfl | hp
      · exact nI
      rcases List.mem_cons.mp hp with rfl | hp
      · exact n190
      rcases List.mem_append.mp hp with hp | hp
      · exact (hn p hp).1 I (by simp)
      · exact hI p hp
    · rcases List.mem_append.mp hp with hp | hp
      · exact ⟨(hn p hp).1 Lo (by simp), (hn p hp).1 190 (by simp)⟩
      · exact h1 p hp
    · rcases List.mem_append.mp hp with hp | hp
      · rcases (hn p hp).2 with hq | ⟨hq, ho⟩
        · rcases List.mem_append.mp hq with hq | hq
          · exact h2 p hq
          · exact .inl hq
        · refine .inr fun q hq' => ?_
          rcases List.mem_cons.mp hq' with rfl | hq'
          · exact ho 190 (by simp)
          · exact hq q (List.mem_append.mpr (.inr (hrs q hq')))
      · exact h2 p hp
  cases f with
  | ret v => exact x
  | brk => exact x
  | next => exact fin x
  | cont => exact fin x
theorem wrong_outer {prog : Program} {w : World} {A : Around} {E : Value → Shared → Prop} {s : Shared} {env : Env} {target : Expr} {body : List Stmt} {Q : Flow → Shared → Prop} {h₀ : Heap} {m₀ : Str → Option Value}
    {T D1 D2 D3 Lp Lo l r : Addr} {X1 X2 X3 : Addr × Obj} {z kind : Str} {zz x y : Int} {a b1 b2 t1 t1' k2 k3 q1 q2 : Tok} {oP oO oL oR : Obj} {ps : Array Value} {rest : List (Addr × Obj)} {co : Option Value}
    (stored : List Str) (G : Heap → Prop) (hh : A.handled = none) (F : Fr h₀ env.locals s.heap m₀)
    (N : News h₀ env.locals s.heap ((T, tupObj [.ref D3, .ref D2, .ref D1]) :: (D1, tupObj [.str z a, .int x k2, .int y k3]) :: (D2, tupObj [.str kind t1, .int 0 q2, .int zz b2]) :: (D3, tupObj [.str kind t1', .int zz b1, .int 0 q1]) :: X1 :: X2 :: X3 :: (Lp, oP) :: (Lo, oO) :: (l, oL) :: (r, oR) :: (190, tabObj ps) :: rest))
    (hO : oO.data = Data.cell co) (g0 : G h₀) (hkd : kind = "jpeg" ∨ kind = "palette" ∨ kind = "rgb") (hz : zz < 0 ∨ 255 < zz) (hz2 : OddK z) (htb : TabN qualW ps rest)
    (sT : @LT.lt Nat _ Lo T ∧ @LT.lt Nat _ 190 T) (s1 : @LT.lt Nat _ Lo D1 ∧ @LT.lt Nat _ 190 D1) (s2 : @LT.lt Nat _ Lo D2 ∧ @LT.lt Nat _ 190 D2) (s3 : @LT.lt Nat _ Lo D3 ∧ @LT.lt Nat _ 190 D3) (sp : @LT.lt Nat _ Lo Lp ∧ @LT.lt Nat _ 190 Lp) (sl : @LT.lt Nat _ l Lo ∧ @Ne Nat l 190) (sr : @LT.lt Nat _ r Lo ∧ @Ne Nat r 190) (srest : ∀ p ∈ rest, p.1 < Lo) (ho : ∀ p ∈ rest, p.1 ≠ 190) (s190 : @LT.lt Nat _ 190 Lo)
    (step : ∀ t k x y tk1 tk2 tk3 h₁ (u : Str → Option Value) ps oO co tl rs h tk I oI, Odd k x y → @Ne Nat t Lo → @Ne Nat t 190 → @Ne Nat Lp Lo → @Ne Nat Lp 190 → @Ne Nat r Lo → @Ne Nat Lo 190 → @Ne Nat I Lo → @Ne Nat I 190 → (∀ p ∈ tl, p.1 ≠ Lo) → (∀ p ∈ tl, p.1 ≠ 190) → (∀ p ∈ rs, p ∈ tl) → (∀ q ∈ rs, ∀ a ∈ [190, Lo, I], q.1 ≠ a) → oO.data = Data.cell co → LamSt [190, Lo, I] tl rs [] ps → G h₁ → Fr h₁ env.locals h (fun y => if stored.contains y then u y else m₀ y) →
      News h₁ env.locals h ((t, tupObj [.str k tk1, .int x tk2, .int y tk3]) :: (I, oI) :: (Lp, oP) :: (r, oR) :: (Lo, oO) :: (190, tabObj ps) :: tl) →
      wpAny (model prog w) A (assign target env (.ref t)) (fun _ s₂ => wpAny (model prog w) A (execs body env) (OutEnd G env.locals stored m₀ I Lo oI tl rs s Q) E s₂) E { s with heap := h, toks := tk })
    (done : ∀ h₁ (u : Str → Option Value) ps' add h tk, G h₁ → TabN qualW ps' (add ++ rest) → (∀ p ∈ add, p ∈ rest ∨ ∀ q ∈ (190, tabObj ps) :: rest, q.1 < p.1) → Fr h₁ env.locals h (fun y => if stored.contains y then u y else m₀ y) → News h₁ env.locals h ((l, oL) :: (190, tabObj ps') :: (add ++ rest)) → Q .next { s with heap := h, toks := tk })
    (hE : PassesOwn (model prog w) A env E := by passes_own) :
    wpAny (model prog w) A (pyIter (.ref T)) (fun it s₂ => codeAny (model prog w) A (.forLoop target it body [] env) (fun r s' => match r with | .ok f => Q f s' | .error e => cameBackBy (model prog w) A env E e s') s₂) E s := by
  let st : List (Addr × Obj) := (T, tupObj [.ref D3, .ref D2, .ref D1]) :: (D1, tupObj [.str z a, .int x k2, .int y k3]) :: (D2, tupObj [.str kind t1, .int 0 q2, .int zz b2]) :: (D3, tupObj [.str kind t1', .int zz b1, .int 0 q1]) :: (Lp, oP) :: (l, oL) :: (r, oR) :: rest
  have hrs : ∀ q ∈ rest, q ∈ st := fun q hq => by repeat (first | exact hq | apply List.Mem.tail)
  have hoff : ∀ p ∈ st, p.1 ≠ Lo ∧ p.1 ≠ 190 := by
    refine List.forall_mem_cons.mpr ⟨⟨(Nat.ne_of_lt sT.1).symm, (Nat.ne_of_lt sT.2).symm⟩, List.forall_mem_cons.mpr ⟨⟨(Nat.ne_of_lt s1.1).symm, (Nat.ne_of_lt s1.2).symm⟩, List.forall_mem_cons.mpr ⟨⟨(Nat.ne_of_lt s2.1).symm, (Nat.ne_of_lt s2.2).symm⟩, List.forall_mem_cons.mpr ⟨⟨(Nat.ne_of_lt s3.1).symm, (Nat.ne_of_lt s3.2).symm⟩, List.forall_mem_cons.mpr ⟨⟨(Nat.ne_of_lt sp.1).symm, (Nat.ne_of_lt sp.2).symm⟩,
      List.forall_mem_cons.mpr ⟨⟨Nat.ne_of_lt sl.1, sl.2⟩, List.forall_mem_cons.mpr ⟨⟨Nat.ne_of_lt sr.1, sr.2⟩, fun p hp => ⟨Nat.ne_of_lt (srest p hp), ho p hp⟩⟩⟩⟩⟩⟩⟩⟩
  have nL : @Ne Nat Lo 190 := (Nat.ne_of_lt s190).symm
  have N2 : News h₀ env.locals s.heap ((Lo, oO) :: (190, tabObj ps) :: ([] ++ st)) := fun p hp => N p (by
    show p ∈ _
    simp only [st, List.nil_append, List.mem_cons] at hp ⊢
    rcases hp with h | h | h | h | h | h | h | h | h | h <;> simp [h])
  refine tup_loop (lo := tupObj [.ref D3, .ref D2, .ref D1]) (vs := [.ref D3, .ref D2, .ref D1]) (n := 0) (nx₀ := (Lo, oO) :: (190, tabObj ps) :: ([] ++ st)) stored G (fun _ nx => OutJ Lo ps rest st nx) hh F N2 rfl rfl g0 ⟨ps, [], oO, co, rfl, hO, htb, (fun p hp => nomatch hp), (fun p hp => nomatch hp)⟩ ?_ ?_ ?_ hE
  · rintro i nx ⟨ps', add, oO', co', rfl, -⟩
    exact .tail _ (.tail _ (List.mem_append.mpr (.inr (.head _))))
  · rintro i v h₁ u nx h tk I oI hv hG ⟨ps', add, oO', co', rfl, hd', tb', ho1, ho2⟩ hI hI0 F' N'
    have nI : @Ne Nat Lo I := hI _ (.head _)
    have n190 : @Ne Nat 190 I := hI _ (.tail _ (.head _))
    have hIt : ∀ p ∈ add ++ st, p.1 ≠ I := fun p hp => hI p (.tail _ (.tail _ hp))
    have hoff' : ∀ p ∈ add ++ st, p.1 ≠ Lo ∧ p.1 ≠ 190 := fun p hp => by
      rcases List.mem_append.mp hp with hp | hp
      · exact ho1 p hp
      · exact hoff p hp
    have hsub : ∀ p ∈ add ++ rest, p ∈ add ++ st := fun p hp => by
      rcases List.mem_append.mp hp with hp | hp
      · exact List.mem_append.mpr (.inl hp)
      · exact List.mem_append.mpr (.inr (hrs p hp))
    have pick : ∃ t k x y tk1 tk2 tk3, v = .ref t ∧ Odd k x y ∧ (t, tupObj [Value.str k tk1, .int x tk2, .int y tk3]) ∈ st := by
      match i, hv with
      | 0, hv =>
        refine ⟨D3, kind, zz, 0, _, _, _, (Option.some.inj hv).symm, .inl ⟨hkd, by omega⟩, .tail _ (.tail _ (.tail _ (.head _)))⟩
      | 1, hv =>
        refine ⟨D2, kind, 0, zz, _, _, _, (Option.some.inj hv).symm, .inl ⟨hkd, by omega⟩, .tail _ (.tail _ (.head _))⟩
      | 2, hv =>
        refine ⟨D1, z, x, y, _, _, _, (Option.some.inj hv).symm, .inr ?_, .tail _ (.head _)⟩
        exact hz2
      | i + 3, hv => cases hv
    obtain ⟨t, k, x', y', tk1, tk2, tk3, rfl, hodd, hm⟩ := pick
    have ht := hoff _ hm
    refine wpAny_mono (step t k x' y' tk1 tk2 tk3 h₁ u ps' oO' co' (add ++ st) (add ++ rest) h tk I oI hodd ht.1 ht.2 (Nat.ne_of_lt sp.1).symm (Nat.ne_of_lt sp.2).symm (Nat.ne_of_lt sr.1) nL nI.symm n190.symm (fun p hp => (hoff' p hp).1) (fun p hp => (hoff' p hp).2) hsub (fun q hq a ha => ?_) hd' ⟨tb', fun p hp => nomatch hp⟩ hG F' (fun p hp => ?_)) (fun _ s₂ hs => wpAny_mono hs (outEnd_turn hrs hIt nI n190 ho1 ho2) fun _ _ e => e) fun _ _ e => e
    · have hq' := hsub q hq
      rcases List.mem_cons.mp ha with rfl | ha
      · exact (hoff' q hq').2
      rcases List.mem_cons.mp ha with rfl | ha
      · exact (hoff' q hq').1
      rw [List.mem_singleton.mp ha]
      exact hIt q hq'
    · have k : p ∈ (I, oI) :: (Lo, oO') :: (190, tabObj ps') :: (add ++ st) := by
        rcases List.mem_cons.mp hp with rfl | hp
        · exact .tail _ (.tail _ (.tail _ (List.mem_append.mpr (.inr hm))))
        rcases List.mem_cons.mp hp with rfl | hp
        · exact .head _
        rcases List.mem_cons.mp hp with rfl | hp
        · exact .tail _ (.tail _ (.tail _ (List.mem_append.mpr (.inr (.tail _ (.tail _ (.tail _ (.tail _ (.head _)))))))))
        rcases List.mem_cons.mp hp with rfl | hp
        · exact .tail _ (.tail _ (.tail _ (List.mem_append.mpr (.inr (.tail _ (.tail _ (.tail _ (.tail _ (.tail _ (.tail _ (.head _)))))))))))
        exact .tail _ hp
      exact N' p k
  · rintro h₁ u nx h tk hG ⟨ps', add, oO', co', rfl, hd', tb', ho1, ho2⟩ F' N'
    refine done h₁ u ps' add h tk hG tb' ho2 F' (fun p hp => N' p ?_)
    rcases List.mem_cons.mp hp with rfl | hp
    · exact .tail _ (.tail _ (List.mem_append.mpr (.inr (.tail _ (.tail _ (.tail _ (.tail _ (.tail _ (.head _)))))))))
    rcases List.mem_cons.mp hp with rfl | hp
    · exact .tail _ (.head _)
    rcases List.mem_append.mp hp with hp | hp
    · exact .tail _ (.tail _ (List.mem_append.mpr (.inl hp)))
    · exact .tail _ (.tail _ (List.mem_append.mpr (.inr (hrs p hp))))
/-- one turn's end of the inner loop: the ledger stays -/
def InEnd (G : Heap → Prop) (L : Addr) (stored : List Str) (m₀ : Str → Option Value) (nx : List (Addr × Obj)) (I : Addr) (oI : Obj) (s : Shared) (Q : Flow → Shared → Prop) (f : Flow) (s₂ : Shared) : Prop :=
  match f with
  | .ret v => Q (.ret v) s₂
  | .brk => Q .next s₂
  | _ => ∃ h₁ h' tk m', s₂ = { s with heap := h', toks := tk } ∧ G h₁ ∧ Fr h₁ L h' m' ∧ News h₁ L h' ((I, oI) :: nx) ∧ (∀ z, stored.contains z = false → m' z = m₀ z)
theorem inEnd_turn {G : Heap → Prop} {L : Addr} {stored : List Str} {m₀ : Str → Option Value} {I : Addr} {oI : Obj} {nx : List (Addr × Obj)} {s : Shared} {Q : Flow → Shared → Prop} {i : Nat} (hI : ∀ p ∈ nx, p.1 ≠ I) :
    ∀ f s₂, InEnd G L stored m₀ nx I oI s Q f s₂ → TurnEnd G L stored m₀ (fun _ nx' => nx' = nx) i I oI s Q f s₂ := by
  intro f s₂ x
  have fin : (∃ h₁ h' tk m', s₂ = { s with heap := h', toks := tk } ∧ G h₁ ∧ Fr h₁ L h' m' ∧ News h₁ L h' ((I, oI) :: nx) ∧ (∀ z, stored.contains z = false → m' z = m₀ z)) →
      ∃ h₁ h' tk m' nx', s₂ = { s with heap := h', toks := tk } ∧ G h₁ ∧ Fr h₁ L h' m' ∧ News h₁ L h' ((I, oI) :: nx') ∧ (∀ p ∈ nx', p.1 ≠ I) ∧ (∀ z, stored.contains z = false → m' z = m₀ z) ∧ nx' = nx := by
    rintro ⟨h₁, h', tk, m', rfl, hG, F, N, hm⟩
    exact ⟨h₁, h', tk, m', nx, rfl, hG, F, N, hI, hm, rfl⟩
  cases f with
  | ret v => exact x
  | brk => exact x
  | next => exact fin x
  | cont => exact fin x
theorem wrong_inner {prog : Program} {w : World} {A : Around} {E : Value → Shared → Prop} {s : Shared} {env : Env} {target : Expr} {body : List Stmt} {Q : Flow → Shared → Prop} {h₀ : Heap} {m₀ : Str → Option Value}
    {D f1 f2 f3 f4 : Addr} {big : List (Addr × Obj)} {w' : World}
    (stored : List Str) (G : Heap → Prop) (hh : A.handled = none) (F : Fr h₀ env.locals s.heap m₀) (N : News h₀ env.locals s.heap ((D, tupObj [.ref f1, .ref f2, .ref f3, .ref f4]) :: big)) (g0 : G h₀)
    (m1 : ∃ fd : FuncData, (f1, ({ cls := .type "function", data := .func fd } : Obj)) ∈ big) (m2 : ∃ fd : FuncData, (f2, ({ cls := .type "function", data := .func fd } : Obj)) ∈ big) (m3 : ∃ fd : FuncData, (f3, ({ cls := .type "function", data := .func fd } : Obj)) ∈ big) (m4 : ∃ fd : FuncData, (f4, ({ cls := .type "function", data := .func fd } : Obj)) ∈ big)
   
    (d1 : ∀ I oI, Deed w' f1 ((I, oI) :: (D, tupObj [.ref f1, .ref f2, .ref f3, .ref f4]) :: big)) (d2 : ∀ I oI, Deed w' f2 ((I, oI) :: (D, tupObj [.ref f1, .ref f2, .ref f3, .ref f4]) :: big))
    (d3 : ∀ I oI, Deed w' f3 ((I, oI) :: (D, tupObj [.ref f1, .ref f2, .ref f3, .ref f4]) :: big)) (d4 : ∀ I oI, Deed w' f4 ((I, oI) :: (D, tupObj [.ref f1, .ref f2, .ref f3, .ref f4]) :: big))
    (step : ∀ f fd nx h₁ (u : Str → Option Value) h tk I oI, G h₁ → Deed w' f ((I, oI) :: nx) → (f, ({ cls := .type "function", data := .func fd } : Obj)) ∈ nx → Fr h₁ env.locals h (fun y => if stored.contains y then u y else m₀ y) → News h₁ env.locals h ((I, oI) :: nx) →
      wpAny (model prog w) A (assign target env (.ref f)) (fun _ s₂ => wpAny (model prog w) A (execs body env) (InEnd G env.locals stored m₀ nx I oI s Q) E s₂) E { s with heap := h, toks := tk })
    (done : ∀ h₁ (u : Str → Option Value) h tk, G h₁ → Fr h₁ env.locals h (fun y => if stored.contains y then u y else m₀ y) → News h₁ env.locals h ((D, tupObj [.ref f1, .ref f2, .ref f3, .ref f4]) :: big) → Q .next { s with heap := h, toks := tk })
    (hE : PassesOwn (model prog w) A env E := by passes_own) :
    wpAny (model prog w) A (pyIter (.ref D)) (fun it s₂ => codeAny (model prog w) A (.forLoop target it body [] env) (fun r s' => match r with | .ok f => Q f s' | .error e => cameBackBy (model prog w) A env E e s') s₂) E s := by
  refine tup_loop (lo := tupObj [.ref f1, .ref f2, .ref f3, .ref f4]) (vs := [.ref f1, .ref f2, .ref f3, .ref f4]) (n := 0) (nx₀ := (D, tupObj [.ref f1, .ref f2, .ref f3, .ref f4]) :: big) stored G (fun _ nx => nx = (D, tupObj [.ref f1, .ref f2, .ref f3, .ref f4]) :: big) hh F N rfl rfl g0 rfl ?_ ?_ ?_ hE
  · rintro i nx rfl
    exact .head _
  · rintro i v h₁ u nx h tk I oI hv hG rfl hI hI0 F' N'
    obtain ⟨fd1, m1⟩ := m1
    obtain ⟨fd2, m2⟩ := m2
    obtain ⟨fd3, m3⟩ := m3
    obtain ⟨fd4, m4⟩ := m4
    have pick : ∃ f fd, v = .ref f ∧ Deed w' f ((I, oI) :: (D, tupObj [.ref f1, .ref f2, .ref f3, .ref f4]) :: big) ∧ (f, ({ cls := .type "function", data := .func fd } : Obj)) ∈ (D, tupObj [.ref f1, .ref f2, .ref f3, .ref f4]) :: big := by
      match i, hv with
      | 0, hv => exact ⟨f1, fd1, (Option.some.inj hv).symm, d1 I oI, .tail _ m1⟩
      | 1, hv => exact ⟨f2, fd2, (Option.some.inj hv).symm, d2 I oI, .tail _ m2⟩
      | 2, hv => exact ⟨f3, fd3, (Option.some.inj hv).symm, d3 I oI, .tail _ m3⟩
      | 3, hv => exact ⟨f4, fd4, (Option.some.inj hv).symm, d4 I oI, .tail _ m4⟩
      | i + 4, hv => cases hv
    obtain ⟨f, fd, rfl, hd, hm⟩ := pick
    exact wpAny_mono (step f fd _ h₁ u h tk I oI hG hd hm F' N') (fun _ s₂ hs => wpAny_mono hs (inEnd_turn hI) fun _ _ e => e) fun _ _ e => e
  · rintro h₁ u nx h tk hG rfl F' N'
    exact done h₁ u h tk hG F' N'
def StopMarkW : Prop := True
theorem not_in1 {z a : Str} (h : [a].contains z = false) : ¬ z = a := by simpa using h
theorem is_out1 {z a : Str} (h : ¬ z = a) : [a].contains z = false := by simpa using h
theorem not_in4 {z a b c d : Str} (h : [a, b, c, d].contains z = false) : ¬ z = a ∧ ¬ z = b ∧ ¬ z = c ∧ ¬ z = d := by simpa using h
theorem words20 : True := by
  (k_with "ite" => (first | ((k_here; first | refine m_neg (by walk_at "m_dec") ?_ | refine m_pos (by walk_at "m_dec") ?_)) | fail "word"))
  (k_with "ite" => (first | ((k_here; first | refine m_neg (by walk_at "m_dec") ?_ | refine m_pos (by walk_at "m_dec") ?_ | refine m_neg (of_decide_eq_false (by with_unfolding_all rfl)) ?_ | refine m_pos (of_decide_eq_true (by with_unfolding_all rfl)) ?_)) | fail "word"))
  (k_with "subscriptTail" => (first | ((k_here; (with_reducible show wpAny _ _ (subscriptTail _ _ (Value.ref _) (Value.int _ _)) _ _ _); rename ((0 : Int) ≤ _) => zzq0; rename ((_ : Int) < 4) => zzq1; (rcases four_cases zzq0 zzq1 with zzqq | zzqq | zzqq | zzqq) <;> subst zzqq <;> clear zzq0 zzq1)) | fail "word"))
  (k_with "subscriptTail" => (first | ((k_here; (with_reducible show wpAny _ _ (subscriptTail _ _ (Value.ref _) (Value.int _ _)) _ _ _); rename ((0 : Int) ≤ _) => zzq0; rename ((_ : Int) < 3) => zzq1; (rcases three_cases zzq0 zzq1 with zzqq | zzqq | zzqq) <;> subst zzqq <;> clear zzq0 zzq1)) | fail "word"))
  (k_with "subscriptTail" => (first | ((k_here; (with_reducible show wpAny _ _ (subscriptTail _ _ (Value.ref _) (Value.int _ _)) _ _ _); (rename News _ _ _ _ => zzlN'); (with_unfolding_all refine' item_litK (by exact is_listN zzlN' (by k_mem)) (by decide) (by decide) (by rfl) ?_ (by with_unfolding_all rfl)))) | fail "word"))
  (k_with "subscriptTail" => (first | ((k_here; (with_reducible show wpAny _ _ (subscriptTail _ _ (Value.ref _) (Value.int (if _ then _ else _) _)) _ _ _); (rename News _ _ _ _ => zzlN'); (with_unfolding_all refine' sub_pair zzlN' (by k_mem) (by k_mem) (by k_mem) (by k_mem) (by k_mem) (by k_mem) (by assumption) (by assumption) (by assumption) (by assumption) (by assumption) (by assumption) ?_ (by (intro _ _; with_unfolding_all rfl))); intro zzT' zzW' zzH' zza' zzb' zzne' zzw0' zzw1' zzh0' zzh1' zzp0' zzp1' zztT')) | fail "word"))
  (k_with "ite" => (first | ((k_here; first | refine m_neg (by walk_at "m_dec") ?_ | refine m_pos (by walk_at "m_dec") ?_ | refine m_neg (of_decide_eq_false (by with_unfolding_all rfl)) ?_ | refine m_pos (of_decide_eq_true (by with_unfolding_all rfl)) ?_ | refine m_neg (by rw [bne_self_list]; decide) ?_)) | fail "word"))
  (k_with "subscriptTail" => (first | ((k_here; (with_reducible show wpAny _ _ (subscriptTail _ _ (Value.ref _) (Value.int _ _)) _ _ _); (rename News _ _ _ _ => zzlN'); k_dflt (refine' item_tupleT (by exact is_tupN zzlN' (by k_mem)) (by decide) (by decide) (by rfl) (by rfl) ?_))) | fail "word"))
  (k_with "subscriptTail" => (first | ((k_here; (with_reducible show wpAny _ _ (subscriptTail _ _ (Value.ref _) (Value.int _ _)) _ _ _); (rename News _ _ _ _ => zzlN'); k_dflt (refine' sub_level zzlN' (by k_mem) (by assumption) (by omega) (by simp only [List.length_map, List.length_range]; omega) (by omega) ?_); intro zzv' zzd' zzhd' zzhv')) | fail "word"))
  (k_with "ite" => (first | ((k_here; refine m_neg (by (try simp only [u8_back]); rw [bne_self_list]; decide) ?_)) | fail "word"))
  (k_with "compareOp Eq ref ref" => (first | ((k_here; refine stopIt ?_)) | fail "word"))
  (k_with "subscriptTail" => (first | ((k_here; (with_reducible show wpAny _ _ (subscriptTail _ _ (Value.ref _) (Value.int _ _)) _ _ _); (rename News _ _ _ _ => zzlN'); (with_unfolding_all refine' sub_heads zzlN' (by k_mem) (by assumption) (by assumption) (by walk_at "m_size") (by walk_at "m_size") (by walk_at "m_size") (by walk_at "m_size") (by walk_at "m_size") ?_ (by (intro _ _; with_unfolding_all rfl))); intro zzb' zza' zzbl')) | fail "word"))
  (k_with "ite" => (first | ((k_here; k_dflt (refine m_pos (by assumption) ?_))) | fail "word"))
  (k_with "subscriptTail" => (k_here; (with_reducible show wpAny _ _ (subscriptTail _ _ (Value.ref _) (Value.int _ _)) _ _ _); (rename News _ _ _ _ => lN'); (with_unfolding_all refine' sub_heads2 lN' ?hl ?h0 ?h1 ?l0 ?l1 ?l2 ?l3 ?l4 ?hg ?hb ?hs; (case hl => k_mem); (case h0 => assumption); (case h1 => assumption); (case l0 => exact ⟨[0, 0], rfl, by decide, by decide⟩); (case l1 => exact ⟨[1, 1, 97, 98, 99], rfl, by decide, by decide⟩); (case l2 => exact ⟨by walk_at "m_size", Or.inr (by walk_at "m_size")⟩); (case l3 => exact ⟨by walk_at "m_size", Or.inl (by simp)⟩); (case l4 => exact ⟨by walk_at "m_size", Or.inl (by simp)⟩); (case hs => (intro _ _; with_unfolding_all rfl)); (case hg => (intro rest' a' p' q'; (try simp only [List.cons_append, List.nil_append]); refine stopIt ?_)); intro b' a' hB')))
  (k_with "subscriptTail" => (first | ((k_here; (with_reducible show wpAny _ _ (subscriptTail _ _ (Value.ref _) (Value.int _ _)) _ _ _); (rename News _ _ _ _ => zzlN'); (with_unfolding_all refine' sub_side zzlN' (by k_mem) (by assumption) (by assumption) (by decide) (by decide) (by decide) ?_ (by (intro _ _; with_unfolding_all rfl))); intro zzz' zza' zzhz')) | fail "word"))
  (k_with "subscriptTail" => (first | ((k_here; (with_reducible show wpAny _ _ (subscriptTail _ _ (Value.ref _) (Value.int _ _)) _ _ _); (rename News _ _ _ _ => zzlN'); (with_unfolding_all refine' sub_oddk zzlN' (by k_mem) (by assumption) (by assumption) (by exact Or.inl rfl) (by exact Or.inr (Or.inl rfl)) (by exact Or.inr (Or.inr rfl)) ?_ (by (intro _ _; with_unfolding_all rfl))); intro zzz' zza' zzhz')) | fail "word"))
  (k_with "call type:bytes" => (first | ((k_here; (with_reducible show wpAny _ _ (call (Value.type _) [Value.int _ _]) _ _ _); (refine bytes_nine ?_); intro zzt' zzk')) | fail "word"))
  (k_with "exec For Tuple Tuple cons nil" => (first | ((k_here; refine' wpAny_For ?_ (by (intro _; with_unfolding_all rfl)))) | fail "word"))
  (k_with "exec For Name Tuple cons nil" => (first | ((k_here; refine' wpAny_For ?_ (by (intro _; with_unfolding_all rfl)))) | fail "word"))
  (k_with "pyIter ref" => (first | ((k_here; (with_reducible show wpAny _ _ (pyIter (Value.ref _)) (fun it s₂ => codeAny _ _ _ _ s₂) _ _); refine stopIt ?_)) | fail "word"))
  (k_with "call ref" => (first | ((k_here; (with_reducible show wpAny _ _ (call (Value.ref 64) _) _ _ _); k_dflt (refine' th_new (by k_asm) (by k_asm) (by k_asm) (by k_asm) (by k_asm) (by first | exact rfl | assumption) (by walk_at "m_room") (by walk_at "m_room") ?_; k_whole; intro zzx' zzd' zzq1 zzq2 zzq3 zzq4 zzq5 zzh' zztk' zzF' zzN' zzl1 zzl2; (try k_lt zzl1); (try k_lt2 zzl2)))) | fail "word"))
  (k_with "OutEnd" => (first | ((refine stopIt ?_)) | fail "word"))
  (k_with "InEnd" => (first | ((refine stopIt ?_)) | fail "word"))
  (k_with "m_acc" => (first | (((repeat (refine List.forall_mem_cons.mpr ⟨by k_mem, ?_⟩)); exact fun _ hq => nomatch hq)) | fail "word"))
  (k_with "m_off" => (first | (((repeat (refine List.forall_mem_cons.mpr ⟨⟨_, by k_mem⟩, ?_⟩)); exact fun _ hq => nomatch hq)) | fail "word"))
  (k_with "eval Lambda" => (first | ((k_here; k_dflt (refine' kla_eval (by exact rfl) ?_); k_dflt (refine' lamW (by k_asm) (by k_asm) (by k_asm) (by kn_code) (by exact rfl) (by k_updF) (by assumption) (by assumption) (by exact .head _) (by assumption) (by walk_at "m_acc") (by (intro zzqq zzhqq; repeat (first | exact zzhqq | apply List.Mem.tail))) (by walk_at "m_off") (by exact rfl) ?_); intro zzf' zzc' zzoc' zzvs' zzt' zzct' zzps' zzh' zztk' zzF' zzN' zzst' zzd1' zzd2' zzl1 zzl2 zzne'; (try dsimp only at zzN'); (try k_lt zzl1); (try k_lt2 zzl2))) | fail "word"))
  (k_with "eval IfExp" => (first | ((k_here; (rename StopMarkW => zzsm'); clear zzsm'; refine stopIt ?_)) | fail "word"))
  (k_with "call ref" => (first | ((k_here; (with_reducible show wpAny _ _ (call (Value.ref 169) _) _ _ _); k_dflt (refine' refused_spec (by k_asm) (by k_asm) (by k_asm) (by k_asm) (by k_asm) (by first | exact rfl | assumption) (by walk_at "m_room") (by walk_at "m_room") (by assumption) (by assumption) (by assumption) (by first | assumption | exact KtsTurn.refl) (by assumption) (List.Mem.tail _ (by assumption)) ?_); (intro zzkg zzh' zztk' zzkT zzkF zzkN zzkB zzkX₀ zzkP zzkD; (try k_lift zzkB)))) | fail "word"))
  (k_with "m_enterTCw" => (first | ((refine' code_defTC (by k_asm) (by k_asm) (by k_asm) (by k_asm) (by k_asm) (by assumption) (by assumption) (by assumption) (by first | assumption | exact KtsTurn.refl) (by exact rfl) (by exact rfl) (by first | exact rfl | assumption) (by k_is) (by k_is) (by walk_at "m_room") (by exact BindsTo.of_eq rfl) (by exact rfl) (by decide +kernel) ?_ (by exact rfl) (by exact rfl) (by exact rfl); k_whole; intro gg LL hh0 tk0 zzcells' FGz Fz Nz zzY' Bz Xz Tz Dz lt0; (try k_lt lt0); k_cells zzY'; (try simp only [List.cons_append, List.nil_append] at Nz); (try dsimp at Fz); (try (rename (_ = Data.cell _) => dz1; dsimp at dz1)); (try dsimp only); (try k_lift Bz); (try k_fold))) | fail "word"))
  trivial
theorem wrong_spec {w : World} {p : Program} {loose : List Str} {mean : ExcName → Option Value} {mg mb : Str → Option Value} {dp un : Nat} {gd : Option (List Code)} {cn : Str} {cs : Scope} {a : Addr} {ccd : Value} {cl : List (Str × Addr)} {outer : List Env} {A₀ : Around} {base h₀ : Heap} {L : Addr} {m : Str → Option Value} {s : Shared} {Q E : Value → Shared → Prop}
    {rest : List (Addr × Obj)} {l r : Addr} {c : Nat} {sx sy : Int} {s1 s2 : Tok} {kind : Str} {x y : Int} {pal oct : List UInt8} {t1 t2 t3 t4 t5 : Tok} {g₀ : Heap} {ps : Array Value}
    (B : Below A₀ base outer h₀) (F : Fr h₀ L s.heap m) (X : (k0.heap_1 w.params).In h₀) (N : News h₀ L s.heap ((l, listOf #[.int sx s1, .int sy s2] c) :: (r, tupObj (rowVs kind x y pal oct t1 t2 t3 t4 t5)) :: (190, tabObj ps) :: rest)) (T : Top p loose mean mg mb h₀) (hk : cs.kind = .function) (hdp : dp + 10 < recursionLimit) (hu : un + 80 < cLine)
    (XB : (k0.heap_1 w.params).In base) (TB : Top p loose mean mg mb base) (D : KtsDicts (outer.filterMap (·.frame)) h₀) (T0 : KtsTurn (outer.filterMap (·.frame)) g₀ h₀) (CH : CodeHd base 194 190) (hkd : kind = "jpeg" ∨ kind = "palette" ∨ kind = "rgb") (ho : ∀ p ∈ rest, p.1 ≠ 190) (hol : ∀ p ∈ rest, p.1 ≠ l) (hr : @Ne Nat r 190) (hl : @Ne Nat l 190) (hlr : @Ne Nat l r) (htb : TabN qualW ps rest)
    (ret : ∀ ps' add sx' sy' s1' s2' h₀' h' tk', TabN qualW ps' (add ++ rest) → (∀ p ∈ add, p ∈ rest ∨ ∀ q ∈ (190, tabObj ps) :: rest, q.1 < p.1) → KtsTurn (outer.filterMap (·.frame)) g₀ h₀' → Fr h₀' L h' m → News h₀' L h' ((l, listOf #[.int sx' s1', .int sy' s2'] c) :: (190, tabObj ps') :: (add ++ rest)) → Below A₀ base outer h₀' → (k0.heap_1 w.params).In h₀' → Top p loose mean mg mb h₀' → KtsDicts (outer.filterMap (·.frame)) h₀' → Q (.bool true) { s with heap := h', toks := tk' }) :
    wpAny (model Challenge.rw_pf0230_01.row.prog w) (ktrTop dp un gd cn cs L a ccd cl outer) (call (.ref 195) [.ref l, .ref r]) Q E s := by
  refine wpAny_call ?_
  k_dflt (walk_at "m_enterTCw")
  rename_i o1 o2 dz2
  have ltR := allLt_to lt0.2.2.2
  change Fr _ _ _ (fun y => if y = "row" then some (.ref r) else if y = "shelf" then some (.ref l) else none) at Fz
  change _ = Data.cell none at dz1
  change _ = Data.cell none at dz2
  k_steps
  unfold Stop
  rename Fr _ _ _ _ => F1
  rename News _ _ _ _ => N1
  rename ((_ : Int) < 0 ∨ (255 : Int) < _) => hz
  rename OddK _ => hz2
  refine wrong_outer ["kind", "width", "height", "deed"] (fun h₁ => KtsTurn ((envX cn cs L a ccd cl :: outer).filterMap (·.frame)) gg h₁ ∧ Below (ktrTop dp un gd cn cs L a ccd cl outer) base (envX cn cs L a ccd cl :: outer) h₁ ∧ (k0.heap_1 w.params).In h₁ ∧ Top p loose mean mg mb h₁ ∧ KtsDicts ((envX cn cs L a ccd cl :: outer).filterMap (·.frame)) h₁) rfl F1 N1 dz1 ⟨KtsTurn.refl, Bz, Xz, Tz, Dz⟩ hkd hz hz2 htb ?sT ?s1 ?s2 ?s3 ?sp ?sl ?sr ?srest ho ?s190 ?step ?done
  case sT => exact ⟨by omega, by omega⟩
  case s1 => exact ⟨by omega, by omega⟩
  case s2 => exact ⟨by omega, by omega⟩
  case s3 => exact ⟨by omega, by omega⟩
  case sp => exact ⟨by omega, by omega⟩
  case sl => exact ⟨by omega, hl⟩
  case sr => exact ⟨by omega, hr⟩
  case srest => exact fun p hp => Nat.lt_trans (ltR p hp) (Nat.lt_succ_self _)
  case s190 => omega
  case step =>
    clear F1 N1 Bz Xz Tz Dz
    rintro t k x y tk1 tk2 tk3 h₁ u ps' oO co tl rs h tk I oI hodd n1 n2 n3 n4 n5 n6 n7 n8 of1 of2 sub hof dO st0 ⟨kT, kB, kX, kTop, kD⟩ F1 N1
    have n6' := n6.symm
    change Fr h₁ LL _ _ at F1
    change News h₁ LL _ _ at N1
    repeat (rename (_ ∧ _ ∧ _ ∧ _ ∧ _ ∧ _) => qz; clear qz)
    repeat (rename (∀ p : Addr × Obj, p ∈ _ :: _ → p.1 < _) => qz; clear qz)
    have sm : StopMarkW := trivial
    k_steps
    unfold Stop
    refine if_bytes ?ia ?ib
    case ia =>
      k_steps
      all_goals (first | exact ⟨[], _, _, rfl, rfl⟩ | exact ⟨oct, _, _, rfl, rfl⟩)
    case ib =>
      intro o' t' k'
      k_steps
      unfold Stop
      rename Fr _ _ _ _ => F2
      rename News _ _ _ _ => N2
      rename LamSt _ _ _ _ _ => st4
      rename _ = Data.cell (some (Value.ref _)) => dO2
      refine wrong_inner (w' := w) ["deed"] (fun h₁ => KtsTurn ((envX cn cs L a ccd cl :: outer).filterMap (·.frame)) gg h₁ ∧ Below (ktrTop dp un gd cn cs L a ccd cl outer) base (envX cn cs L a ccd cl :: outer) h₁ ∧ (k0.heap_1 w.params).In h₁ ∧ Top p loose mean mg mb h₁ ∧ KtsDicts ((envX cn cs L a ccd cl :: outer).filterMap (·.frame)) h₁) rfl F2 N2 ⟨kT, kB, kX, kTop, kD⟩ ?m1 ?m2 ?m3 ?m4 ?d1 ?d2 ?d3 ?d4 ?istep ?idone
      case m1 => exact ⟨_, by k_mem⟩
      case m2 => exact ⟨_, by k_mem⟩
      case m3 => exact ⟨_, by k_mem⟩
      case m4 => exact ⟨_, by k_mem⟩
      case d1 =>
        clear F2 kT kB kX kTop kD
        intro I2 oI2
        clear N2
        walk_at "m_deed"
      case d2 =>
        clear F2 kT kB kX kTop kD
        intro I2 oI2
        clear N2
        walk_at "m_deed"
      case d3 =>
        clear F2 kT kB kX kTop kD
        intro I2 oI2
        clear N2
        walk_at "m_deed"
      case d4 =>
        clear F2 kT kB kX kTop kD
        intro I2 oI2
        clear N2
        walk_at "m_deed"
      case istep =>
        clear F2 N2 kT kB kX kTop kD
        rintro f fd nx h₂ u2 h tk I2 oI2 ⟨kT, kB, kX, kTop, kD⟩ dd hm F2 N2
        change Fr h₂ LL _ _ at F2
        change News h₂ LL _ _ at N2
        k_steps
        unfold Stop
        refine ⟨_, _, _, _, rfl, ⟨by assumption, by assumption, by assumption, by assumption, by assumption⟩, by k_asm, by k_asm, fun z hz => ?_⟩
        have q1 := not_in1 hz
        simp only [q1, hz, if_false, Bool.false_eq_true]
      case idone =>
        clear F2 N2 kT kB kX kTop kD
        rintro h₂ u2 h tk ⟨kT, kB, kX, kTop, kD⟩ F2 N2
        change Fr h₂ LL _ _ at F2
        change News h₂ LL _ _ at N2
        k_steps
        unfold Stop
        refine ⟨_, _, _, _, _, _, _, _, rfl, ⟨kT, kB, kX, kTop, kD⟩, F2, ?zn1, fun z hz => ?_, dO2, st4⟩
        case zn1 =>
          simp only [List.cons_append, List.nil_append]
          repeat (refine news_at N2 (by k_mem) ?_)
          exact fun p hp => N2 p (by repeat (first | exact hp | apply List.Mem.tail))
        obtain ⟨q1, q2, q3, q4⟩ := not_in4 hz
        have hz1 := is_out1 q4
        simp only [q1, q2, q3, q4, hz, hz1, if_false, Bool.false_eq_true]
  case done =>
    clear F1 N1 Bz Xz Tz Dz
    rintro h₁ u ps' add h tk ⟨kT, kB, kX, kTop, kD⟩ tb' ha F1 N1
    k_steps
    refine' ret ps' add _ _ _ _ _ _ _ tb' ha ?zt ?zf ?zn ?zb ?zx ?ztt ?zdd
    case zt => assumption
    case zf => k_asm
    case zn => k_asm
    case zb => assumption
    case zx => assumption
    case ztt => assumption
    case zdd => assumption
theorem turn_nil_back {g g' : Heap} (T : KtsTurn [] g g') {b : Addr} {o : Obj} (e : g.get? b = some o) : g'.get? b = some o := T.other b o e (fun h => nomatch h)
theorem fr_back {g g' h : Heap} {L : Addr} {m : Str → Option Value} (T : KtsTurn [] g g') (F : Fr g' L h m) : Fr g L h m := ⟨F.ns, fun b o e => F.keep b o (turn_nil_back T e), by rw [← T.size]; exact F.above⟩
theorem news_back {g g' h : Heap} {L : Addr} {news : List (Addr × Obj)} (T : KtsTurn [] g g') (N : News g' L h news) : News g L h news := fun p hp => ⟨(N p hp).1, (N p hp).2.1, by
  cases q : g.get? p.1 with
  | none => rfl
  | some o =>
    have := turn_nil_back T q
    rw [(N p hp).2.2] at this
    cases this⟩
theorem ext_small {w : World} {p : Program} {loose : List Str} {mean : ExcName → Option Value} {mg mb : Str → Option Value} {dp un : Nat} {gd : Option (List Code)} {cn : Str} {cs : Scope} {a : Addr} {ccd : Value} {cl : List (Str × Addr)} {A₀ : Around} {base h₀ : Heap} {L : Addr} {m : Str → Option Value} {s : Shared} {Q E : Value → Shared → Prop}
    {rest : List (Addr × Obj)} {r : Addr} {kind : Str} {x y : Int} {pal oct : List UInt8} {t1 t2 t3 t4 t5 : Tok} {ps : Array Value}
    (B : Below A₀ base [] h₀) (F : Fr h₀ L s.heap m) (X : (k0.heap_1 w.params).In h₀) (N : News h₀ L s.heap ((r, tupObj (rowVs kind x y pal oct t1 t2 t3 t4 t5)) :: (176, tabObj ps) :: rest)) (T : Top p loose mean mg mb h₀) (hk : cs.kind = .function) (hdp : dp + 10 < recursionLimit) (hu : un + 80 < cLine)
    (XB : (k0.heap_1 w.params).In base) (TB : Top p loose mean mg mb base) (CH : CodeHd base 180 176) (hs : Small kind x y pal oct) (ho : ∀ p ∈ rest, p.1 ≠ 176) (hr : @Ne Nat r 176) (htb : Tab1 qualE 137 28 ps rest)
    (ret : ∀ ps' add h' tk', Tab1 qualE 137 28 ps' (add ++ rest) → (∀ p ∈ add, p ∈ rest ∨ ∀ q ∈ (176, tabObj ps) :: rest, q.1 < p.1) → Fr h₀ L h' m → News h₀ L h' ((176, tabObj ps') :: (add ++ rest)) → Q (.bool true) { s with heap := h', toks := tk' }) :
    wpAny (model Challenge.rw_pf0230_01.row.prog w) (ktrTop dp un gd cn cs L a ccd cl []) (call (.ref 181) [.ref r]) Q E s := by
  have hS := hs
  obtain ⟨hso, ⟨rfl, rfl, rfl, rfl, h9⟩ | ⟨rfl, rfl, h9⟩ | ⟨rfl, rfl, h9⟩⟩ := hs
  · refine ext_jpeg B F X N T hk hdp hu XB TB ktsDicts_nil KtsTurn.refl CH hso ho hr htb fun ps' add h₀' h' tk' x1 x2 kT kF kN _ _ _ _ => ?_
    exact ret ps' add h' tk' x1 x2 (fr_back kT kF) (news_back kT kN)
  · obtain ⟨a0, a1, a2, a3, a4, hx⟩ := id hso
    obtain ⟨u, rfl⟩ := u8_of a0 a1
    obtain ⟨v, rfl⟩ := u8_of a2 a3
    rcases hx with ⟨h, _⟩ | ⟨_, ho', _⟩ | ⟨h, _⟩
    · exact absurd h (by decide)
    · have e1 : oct.length = u.toNat * v.toNat := by have : (oct.length : Int) = ((u.toNat * v.toNat : Nat) : Int) := by rw [ho']; push_cast; rfl
                                                     exact Int.ofNat.inj this
      refine ext_palette B F X N T hk hdp hu XB TB ktsDicts_nil KtsTurn.refl hso e1 (by omega) fun h₀' h' tk' kT kF kN _ _ _ _ => ?_
      exact ret ps [] h' tk' htb (fun p hp => nomatch hp) (fr_back kT kF) (fun p hp => news_back kT kN p (.tail _ hp))
    · exact absurd h (by decide)
  · obtain ⟨a0, a1, a2, a3, a4, hx⟩ := id hso
    obtain ⟨u, rfl⟩ := u8_of a0 a1
    obtain ⟨v, rfl⟩ := u8_of a2 a3
    rcases hx with ⟨h, _⟩ | ⟨h, _⟩ | ⟨_, ho', _⟩
    · exact absurd h (by decide)
    · exact absurd h (by decide)
    · have e1 : oct.length = 3 * (u.toNat * v.toNat) := by have : (oct.length : Int) = ((3 * (u.toNat * v.toNat) : Nat) : Int) := by rw [ho']; push_cast; rfl
                                                           exact Int.ofNat.inj this
      refine ext_rgb B F X N T hk hdp hu XB TB ktsDicts_nil KtsTurn.refl hso e1 (by omega) fun h₀' h' tk' kT kF kN _ _ _ _ => ?_
      exact ret ps [] h' tk' htb (fun p hp => nomatch hp) (fr_back kT kF) (fun p hp => news_back kT kN p (.tail _ hp))
/-- an entry that may be a code object: fields, a string at place 1 -/
def isCode (p : Addr × Obj) : Bool := match p.2.data with
  | Data.fields vs => match vs[1]? with
    | some (Value.str _ _) => true
    | _ => false
  | _ => false
theorem codeOk_is {qual : Str} {c : Addr} {news : List (Addr × Obj)} (h : CodeOk qual c news) : ∃ oc, (c, oc) ∈ news ∧ isCode (c, oc) = true ∧ ∀ news', (c, oc) ∈ news' → CodeOk qual c news' := by
  obtain ⟨oc, vs, t, hm, hd, hv⟩ := h
  refine ⟨oc, hm, ?_, fun news' hm' => ⟨oc, vs, t, hm', hd, hv⟩⟩
  simp only [isCode, hd, hv]
theorem codeOk_to {qual : Str} {c : Addr} {big cs : List (Addr × Obj)} (h : CodeOk qual c big) (hs : ∀ p ∈ big, isCode p = true → p ∈ cs) : CodeOk qual c cs := by
  obtain ⟨oc, hm, hi, k⟩ := codeOk_is h
  exact k cs (hs _ hm hi)
theorem tab1_to {qual : Str} {a b : Nat} {ps : Array Value} {big cs : List (Addr × Obj)} (h : Tab1 qual a b ps big) (hs : ∀ p ∈ big, isCode p = true → p ∈ cs) : Tab1 qual a b ps cs := by
  rcases h with rfl | ⟨c, rfl, hc⟩
  · exact .inl rfl
  · exact .inr ⟨c, rfl, codeOk_to hc hs⟩
theorem tabN_to {qual : Str} {ps : Array Value} {big cs : List (Addr × Obj)} (h : TabN qual ps big) (hs : ∀ p ∈ big, isCode p = true → p ∈ cs) : TabN qual ps cs := by
  obtain ⟨es, rfl, hc⟩ := h
  exact ⟨es, rfl, fun e he => codeOk_to (hc e he) hs⟩
theorem tab1_sub {qual : Str} {a b : Nat} {ps : Array Value} {big cs : List (Addr × Obj)} (h : Tab1 qual a b ps cs) (hs : ∀ p ∈ cs, p ∈ big) : Tab1 qual a b ps big := tab1_to h fun p hp _ => hs p hp
theorem isCode_tab1 {qual : Str} {a b : Nat} {ps : Array Value} {news : List (Addr × Obj)} {P : Addr} (h : Tab1 qual a b ps news) : isCode (P, tabObj ps) = false := by
  rcases h with rfl | ⟨c, rfl, hc⟩ <;> rfl
theorem isCode_tabN {qual : Str} {ps : Array Value} {news : List (Addr × Obj)} {P : Addr} (h : TabN qual ps news) : isCode (P, tabObj ps) = false := by
  obtain ⟨es, rfl, hc⟩ := h
  cases es with
  | nil => rfl
  | cons e es => rfl
/-- the code objects behind a call that made some: those of before and the new ones, and nothing else -/
theorem codes_step {P : Addr} {oP : Obj} {add rest cs : List (Addr × Obj)} {offs : List Addr} (hc : ∀ p ∈ rest, isCode p = true → p ∈ cs) (hcs : ∀ p ∈ cs, isCode p = true) (hsub : ∀ p ∈ cs, p ∈ rest) (hoff : ∀ p ∈ cs, ∀ a ∈ offs, p.1 ≠ a)
    (hin : ∀ a ∈ offs, ∃ q ∈ (P, oP) :: rest, a ≤ q.1) (ha : ∀ p ∈ add, p ∈ rest ∨ ∀ q ∈ (P, oP) :: rest, q.1 < p.1) :
    ∃ cs' : List (Addr × Obj), (∀ p ∈ cs, p ∈ cs') ∧ (∀ p ∈ cs', p ∈ add ++ rest) ∧ (∀ p ∈ cs', isCode p = true) ∧ (∀ p ∈ cs', ∀ a ∈ offs, p.1 ≠ a) ∧ ∀ p ∈ add ++ rest, isCode p = true → p ∈ cs' := by
  refine ⟨(add ++ rest).filter isCode, fun p hp => List.mem_filter.mpr ⟨List.mem_append.mpr (.inr (hsub p hp)), hcs p hp⟩, fun p hp => (List.mem_filter.mp hp).1, fun p hp => (List.mem_filter.mp hp).2, fun p hp a hA => ?_, fun p hp hi => List.mem_filter.mpr ⟨hp, hi⟩⟩
  obtain ⟨hm, hi⟩ := List.mem_filter.mp hp
  rcases List.mem_append.mp hm with hm | hm
  · rcases ha p hm with hr | hr
    · exact hoff p (hc p hr hi) a hA
    · obtain ⟨q, hq, hle⟩ := hin a hA
      exact (Nat.ne_of_lt (Nat.lt_of_le_of_lt hle (hr _ hq))).symm
  · exact hoff p (hc p hm hi) a hA
def RngEnd (h₀ : Heap) (L : Addr) (stored : List Str) (m₀ : Str → Option Value) (J : Nat → List (Addr × Obj) → Prop) (i : Nat) (I : Addr) (oI : Obj) (s : Shared) (Q : Flow → Shared → Prop) (f : Flow) (s₂ : Shared) : Prop :=
  match f with
  | .ret v => Q (.ret v) s₂
  | .brk => Q .next s₂
  | _ => ∃ h' tk m' nx, s₂ = { s with heap := h', toks := tk } ∧ Fr h₀ L h' m' ∧ News h₀ L h' ((I, oI) :: nx) ∧ (∀ p ∈ nx, p.1 ≠ I) ∧ (∀ z, stored.contains z = false → m' z = m₀ z) ∧ J i nx
theorem rng_loop {prog : Program} {w : World} {A : Around} {E : Value → Shared → Prop} {s : Shared} {env : Env} {x : Str} {px : Pos} {body : List Stmt} {Q : Flow → Shared → Prop} {h₀ : Heap} {r : Addr} {n : Nat} {t₀ u₀ v₀ : Tok} {m₀ : Str → Option Value} {nx₀ : List (Addr × Obj)}
    (stored : List Str) (J : Nat → List (Addr × Obj) → Prop) (hh : A.handled = none) (hr : IsRange s.heap r 0 (n : Int) 1 t₀ u₀ v₀) (hb : n ≤ 1000000) (F : Fr h₀ env.locals s.heap m₀) (N : News h₀ env.locals s.heap nx₀) (j0 : J 0 nx₀)
    (step : ∀ i t (u : Str → Option Value) nx h tk I oI, i < n → J i nx → (∀ p ∈ nx, p.1 ≠ I) → (∀ p ∈ nx₀, p.1 < I) → isCode (I, oI) = false → Fr h₀ env.locals h (fun y => if stored.contains y then u y else m₀ y) → News h₀ env.locals h ((I, oI) :: nx) →
      wpAny (model prog w) A (assign (.Name x px) env (.int (i : Int) t)) (fun _ s₂ => wpAny (model prog w) A (execs body env) (RngEnd h₀ env.locals stored m₀ J (i + 1) I oI s Q) E s₂) E { s with heap := h, toks := tk })
    (done : ∀ (u : Str → Option Value) nx h tk, J n nx → Fr h₀ env.locals h (fun y => if stored.contains y then u y else m₀ y) → News h₀ env.locals h nx → Q .next { s with heap := h, toks := tk })
    (hE : PassesOwn (model prog w) A env E := by passes_own) :
    wpAny (model prog w) A (pyIter (.ref r)) (fun it s₂ => codeAny (model prog w) A (.forLoop (.Name x px) it body [] env) (fun r s' => match r with | .ok f => Q f s' | .error e => cameBackBy (model prog w) A env E e s') s₂) E s := by
  refine wpAny_pyIter_range hr (small_one (by decide) (by decide) (by omega) (by omega)) ?_
  have hnew := next_is_new F
  have hlt := F.ns.lt
  have F0 := F.push { cls := .type "range_iterator", dict := none, data := .fields #[rawInt 0, rawInt (Builtin.Range.rangeSize 0 (n : Int) 1), rawInt 1], slots := #[] }
  have N0 : News h₀ env.locals (s.heap.push { cls := .type "range_iterator", dict := none, data := .fields #[rawInt 0, rawInt (Builtin.Range.rangeSize 0 (n : Int) 1), rawInt 1], slots := #[] }) nx₀ := fun p hp => ⟨Heap.get?_push_of_some _ (N p hp).1, (N p hp).2⟩
  have I0 : IsRangeIter (s.heap.push { cls := .type "range_iterator", dict := none, data := .fields #[rawInt 0, rawInt (Builtin.Range.rangeSize 0 (n : Int) 1), rawInt 1], slots := #[] }) s.heap.objs.size (0 + ((0 : Nat) : Int) * 1) ((n : Int) - ((0 : Nat) : Int)) 1 := by
    show IsRangeIter _ _ _ _ _
    rw [range_size]
    simpa using Heap.get?_push_size _ rfl
  have hfr : ∀ p ∈ nx₀, p.1 < s.heap.objs.size := fun p hp => Heap.lt_size (N p hp).1
  have hLI : env.locals ≠ s.heap.objs.size := Nat.ne_of_lt hlt
  generalize s.heap.objs.size = I at *
  have W : Walks prog w A I [I] [I] n (fun i v => i < n ∧ ∃ t, v = .int (0 + i * 1) t)
      (fun i h => IsRangeIter h I (0 + (i : Nat) * 1) ((n : Int) - (i : Nat)) 1) := (Walks.range hh _ 0 1 n).bound
  have hshape : ∀ (u : Str → Option Value), (∀ z, stored.contains z = false → u z = m₀ z) → u = (fun y => if stored.contains y then u y else m₀ y) := fun u hu => by
    funext y
    cases h2 : stored.contains y
    · simp [hu y h2]
    · simp
  refine codeAny_forLoop_any
    (fun k s' => ∃ i u nx h tk, s' = { s with heap := h, toks := tk } ∧ i ≤ n ∧ k = n + 1 - i ∧ Fr h₀ env.locals h u ∧ (∀ z, stored.contains z = false → u z = m₀ z) ∧ News h₀ env.locals h nx ∧ (∀ p ∈ nx, p.1 ≠ I) ∧ J i nx ∧ IsRangeIter h I (0 + (i : Nat) * 1) ((n : Int) - (i : Nat)) 1) ?_ (n + 1)
    ⟨0, m₀, nx₀, _, s.toks, rfl, Nat.zero_le _, rfl, F0, fun _ _ => rfl, N0, fun p hp => Nat.ne_of_lt (hfr p hp), j0, I0⟩
  rintro k s' ⟨i, u, nx, h, tk, rfl, hi, rfl, F', hu, N', off', hj, hit⟩
  have next : ∀ h₂ : Heap, (∀ b o, b ∉ [I] → h.get? b = some o → h₂.get? b = some o) → Fr h₀ env.locals h₂ u ∧ News h₀ env.locals h₂ nx := fun h₂ hk₂ =>
    ⟨⟨F'.ns.at' fun o e => hk₂ _ o (by simpa using hLI) e, fun b o e => hk₂ b o (by
      intro hb
      rw [List.mem_singleton.mp hb, hnew] at e
      cases e) (F'.keep b o e), F'.above⟩, fun p hp => ⟨hk₂ _ _ (by simpa using off' p hp) (N' p hp).1, (N' p hp).2⟩⟩
  by_cases hlt' : i < n
  · refine W.item i _ _ _ hlt' hit fun v h₂ tk₂ hP st₂ hk₂ => ?_
    obtain ⟨F₂, N₂⟩ := next h₂ hk₂
    obtain ⟨_, t, rfl⟩ := hP
    refine wpAny_pure ?_
    have e1 : (0 : Int) + (i : Int) * 1 = (i : Int) := by omega
    rw [e1]
    rw [hshape u hu] at F₂
    refine wpAny_mono (step i t u nx h₂ tk₂ I { cls := .type "range_iterator", dict := none, data := .fields #[rawInt (0 + ((i + 1 : Nat) : Int) * 1), rawInt ((n : Int) - ((i + 1 : Nat) : Int)), rawInt 1], slots := #[] } hlt' hj off' hfr rfl F₂ (fun p hp => ?_)) (fun _ s₂ h₂' => wpAny_mono h₂' (fun f s₃ h₃ => ?_) hE) hE
    · rcases List.mem_cons.mp hp with rfl | hp
      · exact ⟨st₂, hLI.symm, hnew⟩
      · exact N₂ p hp
    · have fin : (∃ h' tk m' nx, s₃ = { s with heap := h', toks := tk } ∧ Fr h₀ env.locals h' m' ∧ News h₀ env.locals h' ((I, { cls := .type "range_iterator", dict := none, data := .fields #[rawInt (0 + ((i + 1 : Nat) : Int) * 1), rawInt ((n : Int) - ((i + 1 : Nat) : Int)), rawInt 1], slots := #[] }) :: nx) ∧ (∀ p ∈ nx, p.1 ≠ I) ∧ (∀ z, stored.contains z = false → m' z = m₀ z) ∧ J (i + 1) nx) →
          ∃ m, m < n + 1 - i ∧ ∃ i u nx h tk, s₃ = { s with heap := h, toks := tk } ∧ i ≤ n ∧ m = n + 1 - i ∧ Fr h₀ env.locals h u ∧ (∀ z, stored.contains z = false → u z = m₀ z) ∧ News h₀ env.locals h nx ∧ (∀ p ∈ nx, p.1 ≠ I) ∧ J i nx ∧ IsRangeIter h I (0 + (i : Nat) * 1) ((n : Int) - (i : Nat)) 1 := by
        rintro ⟨h', tk', m', nx', rfl, F₃, N₃, off₃, hm', hj'⟩
        exact ⟨n + 1 - (i + 1), by omega, i + 1, m', nx', h', tk', rfl, hlt', rfl, F₃, hm', fun p hp => N₃ p (.tail _ hp), off₃, hj', (N₃ _ (.head _)).1⟩
      cases f with
      | ret v => exact h₃
      | brk => exact h₃
      | next => exact fin h₃
      | cont => exact fin h₃
  · obtain rfl : i = n := Nat.le_antisymm hi (Nat.not_lt.mp hlt')
    refine W.done _ _ _ hit fun h₂ tk₂ hk₂ => ?_
    obtain ⟨F₂, N₂⟩ := next h₂ hk₂
    rw [hshape u hu] at F₂
    exact wpAny_execs_nil (done u nx h₂ tk₂ hj F₂ N₂)
theorem borne_small {w : World} {p : Program} {loose : List Str} {mean : ExcName → Option Value} {mg mb : Str → Option Value} {dp un : Nat} {gd : Option (List Code)} {cn : Str} {cs : Scope} {a : Addr} {ccd : Value} {cl : List (Str × Addr)} {A₀ : Around} {base h₀ : Heap} {L : Addr} {m : Str → Option Value} {s : Shared} {Q E : Value → Shared → Prop}
    {rest : List (Addr × Obj)} {l r : Addr} {c : Nat} {sx sy : Int} {s1 s2 : Tok} {kind : Str} {x y : Int} {pal oct : List UInt8} {t1 t2 t3 t4 t5 : Tok} {ps : Array Value}
    (B : Below A₀ base [] h₀) (F : Fr h₀ L s.heap m) (X : (k0.heap_1 w.params).In h₀) (N : News h₀ L s.heap ((l, listOf #[.int sx s1, .int sy s2] c) :: (r, tupObj (rowVs kind x y pal oct t1 t2 t3 t4 t5)) :: (183, tabObj ps) :: rest)) (T : Top p loose mean mg mb h₀) (hk : cs.kind = .function) (hdp : dp + 10 < recursionLimit) (hu : un + 80 < cLine)
    (XB : (k0.heap_1 w.params).In base) (TB : Top p loose mean mg mb base) (CH : CodeHd base 187 183) (hs : Small kind x y pal oct) (ho : ∀ p ∈ rest, p.1 ≠ 183) (hol : ∀ p ∈ rest, p.1 ≠ l) (hr : @Ne Nat r 183) (hl : @Ne Nat l 183) (hlr : @Ne Nat l r) (htb : Tab1 qualB 144 28 ps rest)
    (ret : ∀ ps' add sx' sy' s1' s2' h' tk', Tab1 qualB 144 28 ps' (add ++ rest) → (∀ p ∈ add, p ∈ rest ∨ ∀ q ∈ (183, tabObj ps) :: rest, q.1 < p.1) → Fr h₀ L h' m → News h₀ L h' ((l, listOf #[.int sx' s1', .int sy' s2'] c) :: (183, tabObj ps') :: (add ++ rest)) → Q (.bool true) { s with heap := h', toks := tk' }) :
    wpAny (model Challenge.rw_pf0230_01.row.prog w) (ktrTop dp un gd cn cs L a ccd cl []) (call (.ref 188) [.ref l, .ref r]) Q E s := by
  have hS := hs
  by_cases hne : kind = "rgb"
  · subst hne
    obtain ⟨hso, ⟨h, _⟩ | ⟨h, _⟩ | ⟨_, rfl, h9⟩⟩ := hs
    · exact absurd h (by decide)
    · exact absurd h (by decide)
    obtain ⟨a0, a1, a2, a3, a4, hx⟩ := id hso
    obtain ⟨u, rfl⟩ := u8_of a0 a1
    obtain ⟨v, rfl⟩ := u8_of a2 a3
    refine borne_rgb B F X N T hk hdp hu XB TB ktsDicts_nil KtsTurn.refl CH hso ho hol hr hl hlr htb fun ps' add sx' sy' s1' s2' h₀' h' tk' x1 x2 kT kF kN _ _ _ _ => ?_
    exact ret ps' add sx' sy' s1' s2' h' tk' x1 x2 (fr_back kT kF) (news_back kT kN)
  · refine borne_other B F X N T hk hdp hu XB TB ktsDicts_nil KtsTurn.refl CH hs.1 hne ho hol hr hl hlr htb fun ps' add sx' sy' s1' s2' h₀' h' tk' x1 x2 kT kF kN _ _ _ _ => ?_
    exact ret ps' add sx' sy' s1' s2' h' tk' x1 x2 (fr_back kT kF) (news_back kT kN)
theorem wrong_small {w : World} {p : Program} {loose : List Str} {mean : ExcName → Option Value} {mg mb : Str → Option Value} {dp un : Nat} {gd : Option (List Code)} {cn : Str} {cs : Scope} {a : Addr} {ccd : Value} {cl : List (Str × Addr)} {A₀ : Around} {base h₀ : Heap} {L : Addr} {m : Str → Option Value} {s : Shared} {Q E : Value → Shared → Prop}
    {rest : List (Addr × Obj)} {l r : Addr} {c : Nat} {sx sy : Int} {s1 s2 : Tok} {kind : Str} {x y : Int} {pal oct : List UInt8} {t1 t2 t3 t4 t5 : Tok} {ps : Array Value}
    (B : Below A₀ base [] h₀) (F : Fr h₀ L s.heap m) (X : (k0.heap_1 w.params).In h₀) (N : News h₀ L s.heap ((l, listOf #[.int sx s1, .int sy s2] c) :: (r, tupObj (rowVs kind x y pal oct t1 t2 t3 t4 t5)) :: (190, tabObj ps) :: rest)) (T : Top p loose mean mg mb h₀) (hk : cs.kind = .function) (hdp : dp + 10 < recursionLimit) (hu : un + 80 < cLine)
    (XB : (k0.heap_1 w.params).In base) (TB : Top p loose mean mg mb base) (CH : CodeHd base 194 190) (hs : Small kind x y pal oct) (ho : ∀ p ∈ rest, p.1 ≠ 190) (hol : ∀ p ∈ rest, p.1 ≠ l) (hr : @Ne Nat r 190) (hl : @Ne Nat l 190) (hlr : @Ne Nat l r) (htb : TabN qualW ps rest)
    (ret : ∀ ps' add sx' sy' s1' s2' h' tk', TabN qualW ps' (add ++ rest) → (∀ p ∈ add, p ∈ rest ∨ ∀ q ∈ (190, tabObj ps) :: rest, q.1 < p.1) → Fr h₀ L h' m → News h₀ L h' ((l, listOf #[.int sx' s1', .int sy' s2'] c) :: (190, tabObj ps') :: (add ++ rest)) → Q (.bool true) { s with heap := h', toks := tk' }) :
    wpAny (model Challenge.rw_pf0230_01.row.prog w) (ktrTop dp un gd cn cs L a ccd cl []) (call (.ref 195) [.ref l, .ref r]) Q E s := by
  have hkd : kind = "jpeg" ∨ kind = "palette" ∨ kind = "rgb" := by
    rcases hs.2 with h | h | h
    · exact .inl h.1
    · exact .inr (.inl h.1)
    · exact .inr (.inr h.1)
  refine wrong_spec B F X N T hk hdp hu XB TB ktsDicts_nil KtsTurn.refl CH hkd ho hol hr hl hlr htb fun ps' add sx' sy' s1' s2' h₀' h' tk' x1 x2 kT kF kN _ _ _ _ => ?_
  exact ret ps' add sx' sy' s1' s2' h' tk' x1 x2 (fr_back kT kF) (news_back kT kN)
/-- what is known of the three tables and of the code objects between two deeds of the law -/
def LawJ (offs : List Addr) (ps1 ps2 ps3 : Array Value) (cs : List (Addr × Obj)) : Prop := Tab1 qualE 137 28 ps1 cs ∧ Tab1 qualB 144 28 ps2 cs ∧ TabN qualW ps3 cs ∧ (∀ p ∈ cs, isCode p = true) ∧ ∀ p ∈ cs, ∀ a ∈ offs, p.1 ≠ a
theorem code_no {p q : Addr × Obj} {cs : List (Addr × Obj)} (h : isCode q = false) (e : p = q) (hi : isCode p = true) : p ∈ cs := by
  rw [e, h] at hi
  cases hi
theorem code_in {q : Addr × Obj} {rest cs : List (Addr × Obj)} (h : isCode q = false) (k : ∀ p ∈ rest, isCode p = true → p ∈ cs) : ∀ p ∈ q :: rest, isCode p = true → p ∈ cs := fun p hp hi => by
  rcases List.mem_cons.mp hp with e | hp
  · exact code_no h e hi
  · exact k p hp hi
theorem ext_law {w : World} {p : Program} {loose : List Str} {mean : ExcName → Option Value} {mg mb : Str → Option Value} {dp un : Nat} {gd : Option (List Code)} {cn : Str} {cs : Scope} {a : Addr} {ccd : Value} {cl : List (Str × Addr)} {A₀ : Around} {base h₀ : Heap} {L : Addr} {m : Str → Option Value} {s : Shared} {Q E : Value → Shared → Prop}
    {l r I : Addr} {c : Nat} {sx sy : Int} {s1 s2 : Tok} {kind : Str} {x y : Int} {pal oct : List UInt8} {t1 t2 t3 t4 t5 : Tok} {ps1 ps2 ps3 : Array Value} {oI : Obj} {kc : List (Addr × Obj)}
    (B : Below A₀ base [] h₀) (F : Fr h₀ L s.heap m) (X : (k0.heap_1 w.params).In h₀) (N : News h₀ L s.heap ((r, tupObj (rowVs kind x y pal oct t1 t2 t3 t4 t5)) :: (l, listOf #[.int sx s1, .int sy s2] c) :: (I, oI) :: (176, tabObj ps1) :: (183, tabObj ps2) :: (190, tabObj ps3) :: kc)) (T : Top p loose mean mg mb h₀) (hk : cs.kind = .function) (hdp : dp + 10 < recursionLimit) (hu : un + 80 < cLine)
    (XB : (k0.heap_1 w.params).In base) (TB : Top p loose mean mg mb base) (CH : CodeHd base 180 176) (hs : Small kind x y pal oct) (J : LawJ [176, 183, 190, l, I] ps1 ps2 ps3 kc) (hI : isCode (I, oI) = false) (i1 : @Ne Nat I 176) (i2 : @Ne Nat I 183) (i3 : @Ne Nat I 190) (k1 : @LT.lt Nat _ 176 l) (k2 : @LT.lt Nat _ 183 l) (k3 : @LT.lt Nat _ 190 l) (k4 : @LT.lt Nat _ I l) (k5 : @LT.lt Nat _ l r)
    (ret : ∀ ps1' kc' h' tk', LawJ [176, 183, 190, l, I] ps1' ps2 ps3 kc' → Fr h₀ L h' m → News h₀ L h' ((r, tupObj (rowVs kind x y pal oct t1 t2 t3 t4 t5)) :: (l, listOf #[.int sx s1, .int sy s2] c) :: (I, oI) :: (176, tabObj ps1') :: (183, tabObj ps2) :: (190, tabObj ps3) :: kc') → Q (.bool true) { s with heap := h', toks := tk' }) :
    wpAny (model Challenge.rw_pf0230_01.row.prog w) (ktrTop dp un gd cn cs L a ccd cl []) (call (.ref 181) [.ref r]) Q E s := by
  obtain ⟨T1, T2, T3, I1, O⟩ := J
  refine ext_small (rest := (r, tupObj (rowVs kind x y pal oct t1 t2 t3 t4 t5)) :: (l, listOf #[.int sx s1, .int sy s2] c) :: (I, oI) :: (183, tabObj ps2) :: (190, tabObj ps3) :: kc) (t1 := t1) (t2 := t2) (t3 := t3) (t4 := t4) (t5 := t5) B F X ?zN T hk hdp hu XB TB CH hs (List.forall_mem_cons.mpr ⟨(Nat.ne_of_lt (Nat.lt_trans k1 k5)).symm, List.forall_mem_cons.mpr ⟨(Nat.ne_of_lt k1).symm, List.forall_mem_cons.mpr ⟨i1, List.forall_mem_cons.mpr ⟨(by decide : @Ne Nat 183 176), List.forall_mem_cons.mpr ⟨(by decide : @Ne Nat 190 176), fun p hp => O p hp 176 (by simp)⟩⟩⟩⟩⟩) (Nat.ne_of_lt (Nat.lt_trans k1 k5)).symm (tab1_sub T1 (fun p hp => .tail _ (.tail _ (.tail _ (.tail _ (.tail _ (hp))))))) fun ps' add h' tk' x1 x2 F' N' => ?_
  case zN =>
    intro p hp
    refine N p ?_
    simp only [List.mem_cons] at hp ⊢
    rcases hp with h | h | h | h | h | h | h <;> simp [h]
  obtain ⟨kc', c1, c2, c3, c4, c5⟩ := codes_step (P := 176) (oP := tabObj ps1) (add := add) (rest := (r, tupObj (rowVs kind x y pal oct t1 t2 t3 t4 t5)) :: (l, listOf #[.int sx s1, .int sy s2] c) :: (I, oI) :: (183, tabObj ps2) :: (190, tabObj ps3) :: kc) (cs := kc) (offs := [176, 183, 190, l, I]) (code_in rfl (code_in rfl (code_in hI (code_in (isCode_tab1 T2) (code_in (isCode_tabN T3) fun p hp _ => hp))))) I1 (fun p hp => .tail _ (.tail _ (.tail _ (.tail _ (.tail _ (hp)))))) O (List.forall_mem_cons.mpr ⟨⟨_, .head _, Nat.le_refl _⟩, List.forall_mem_cons.mpr ⟨⟨_, .tail _ (.tail _ (.tail _ (.tail _ (.head _)))), Nat.le_refl _⟩, List.forall_mem_cons.mpr ⟨⟨_, .tail _ (.tail _ (.tail _ (.tail _ (.tail _ (.head _))))), Nat.le_refl _⟩, List.forall_mem_cons.mpr ⟨⟨_, .tail _ (.tail _ (.head _)), Nat.le_refl _⟩, List.forall_mem_cons.mpr ⟨⟨_, .tail _ (.tail _ (.tail _ (.head _))), Nat.le_refl _⟩, fun _ h => nomatch h⟩⟩⟩⟩⟩) x2
  refine ret ps' kc' h' tk' ⟨tab1_to x1 c5, tab1_sub T2 c1, TabN.mono T3 c1, c3, c4⟩ F' (fun p hp => ?_)
  simp only [List.mem_cons] at hp
  have inr : ∀ q ∈ (r, tupObj (rowVs kind x y pal oct t1 t2 t3 t4 t5)) :: (l, listOf #[.int sx s1, .int sy s2] c) :: (I, oI) :: (183, tabObj ps2) :: (190, tabObj ps3) :: kc, News h₀ L h' [q] := fun q hq z hz => by
    rw [List.mem_singleton.mp hz]
    refine N' q ?_
    repeat (first | exact List.mem_append.mpr (.inr hq) | apply List.Mem.tail)
  have up : ∀ q, News h₀ L h' [q] → p = q → h'.get? p.1 = some p.2 ∧ p.1 ≠ L ∧ h₀.get? p.1 = none := fun q hq e => by
    rw [e]
    exact hq q (.head _)
  rcases hp with h | h | h | h | h | h | h
  · exact up _ (inr _ (.head _)) h
  · exact up _ (inr _ (.tail _ (.head _))) h
  · exact up _ (inr _ (.tail _ (.tail _ (.head _)))) h
  · rw [h]; exact N' _ (.head _)
  · exact up _ (inr _ (.tail _ (.tail _ (.tail _ (.head _))))) h
  · exact up _ (inr _ (.tail _ (.tail _ (.tail _ (.tail _ (.head _)))))) h
  · exact N' p (by repeat (first | exact c2 p h | apply List.Mem.tail))
theorem borne_law {w : World} {p : Program} {loose : List Str} {mean : ExcName → Option Value} {mg mb : Str → Option Value} {dp un : Nat} {gd : Option (List Code)} {cn : Str} {cs : Scope} {a : Addr} {ccd : Value} {cl : List (Str × Addr)} {A₀ : Around} {base h₀ : Heap} {L : Addr} {m : Str → Option Value} {s : Shared} {Q E : Value → Shared → Prop}
    {l r I : Addr} {c : Nat} {sx sy : Int} {s1 s2 : Tok} {kind : Str} {x y : Int} {pal oct : List UInt8} {t1 t2 t3 t4 t5 : Tok} {ps1 ps2 ps3 : Array Value} {oI : Obj} {kc : List (Addr × Obj)}
    (B : Below A₀ base [] h₀) (F : Fr h₀ L s.heap m) (X : (k0.heap_1 w.params).In h₀) (N : News h₀ L s.heap ((r, tupObj (rowVs kind x y pal oct t1 t2 t3 t4 t5)) :: (l, listOf #[.int sx s1, .int sy s2] c) :: (I, oI) :: (176, tabObj ps1) :: (183, tabObj ps2) :: (190, tabObj ps3) :: kc)) (T : Top p loose mean mg mb h₀) (hk : cs.kind = .function) (hdp : dp + 10 < recursionLimit) (hu : un + 80 < cLine)
    (XB : (k0.heap_1 w.params).In base) (TB : Top p loose mean mg mb base) (CH : CodeHd base 187 183) (hs : Small kind x y pal oct) (J : LawJ [176, 183, 190, l, I] ps1 ps2 ps3 kc) (hI : isCode (I, oI) = false) (i1 : @Ne Nat I 176) (i2 : @Ne Nat I 183) (i3 : @Ne Nat I 190) (k1 : @LT.lt Nat _ 176 l) (k2 : @LT.lt Nat _ 183 l) (k3 : @LT.lt Nat _ 190 l) (k4 : @LT.lt Nat _ I l) (k5 : @LT.lt Nat _ l r)
    (ret : ∀ ps2' kc' sx' sy' s1' s2' h' tk', LawJ [176, 183, 190, l, I] ps1 ps2' ps3 kc' → Fr h₀ L h' m → News h₀ L h' ((r, tupObj (rowVs kind x y pal oct t1 t2 t3 t4 t5)) :: (l, listOf #[.int sx' s1', .int sy' s2'] c) :: (I, oI) :: (176, tabObj ps1) :: (183, tabObj ps2') :: (190, tabObj ps3) :: kc') → Q (.bool true) { s with heap := h', toks := tk' }) :
    wpAny (model Challenge.rw_pf0230_01.row.prog w) (ktrTop dp un gd cn cs L a ccd cl []) (call (.ref 188) [.ref l, .ref r]) Q E s := by
  obtain ⟨T1, T2, T3, I1, O⟩ := J
  refine borne_small (rest := (r, tupObj (rowVs kind x y pal oct t1 t2 t3 t4 t5)) :: (I, oI) :: (176, tabObj ps1) :: (190, tabObj ps3) :: kc) (c := c) (sx := sx) (sy := sy) (s1 := s1) (s2 := s2) (t1 := t1) (t2 := t2) (t3 := t3) (t4 := t4) (t5 := t5) B F X ?zN T hk hdp hu XB TB CH hs (List.forall_mem_cons.mpr ⟨(Nat.ne_of_lt (Nat.lt_trans k2 k5)).symm, List.forall_mem_cons.mpr ⟨i2, List.forall_mem_cons.mpr ⟨(by decide : @Ne Nat 176 183), List.forall_mem_cons.mpr ⟨(by decide : @Ne Nat 190 183), fun p hp => O p hp 183 (by simp)⟩⟩⟩⟩) (List.forall_mem_cons.mpr ⟨(Nat.ne_of_lt k5).symm, List.forall_mem_cons.mpr ⟨Nat.ne_of_lt k4, List.forall_mem_cons.mpr ⟨Nat.ne_of_lt k1, List.forall_mem_cons.mpr ⟨Nat.ne_of_lt k3, fun p hp => O p hp l (by simp)⟩⟩⟩⟩) (Nat.ne_of_lt (Nat.lt_trans k2 k5)).symm (Nat.ne_of_lt k2).symm (Nat.ne_of_lt k5) (tab1_sub T2 (fun p hp => .tail _ (.tail _ (.tail _ (.tail _ (hp)))))) fun ps' add sx' sy' s1' s2' h' tk' x1 x2 F' N' => ?_
  case zN =>
    intro p hp
    refine N p ?_
    simp only [List.mem_cons] at hp ⊢
    rcases hp with h | h | h | h | h | h | h | h <;> simp [h]
  obtain ⟨kc', c1, c2, c3, c4, c5⟩ := codes_step (P := 183) (oP := tabObj ps2) (add := add) (rest := (r, tupObj (rowVs kind x y pal oct t1 t2 t3 t4 t5)) :: (I, oI) :: (176, tabObj ps1) :: (190, tabObj ps3) :: kc) (cs := kc) (offs := [176, 183, 190, l, I]) (code_in rfl (code_in hI (code_in (isCode_tab1 T1) (code_in (isCode_tabN T3) fun p hp _ => hp)))) I1 (fun p hp => .tail _ (.tail _ (.tail _ (.tail _ (hp))))) O (List.forall_mem_cons.mpr ⟨⟨_, .tail _ (.tail _ (.tail _ (.head _))), Nat.le_refl _⟩, List.forall_mem_cons.mpr ⟨⟨_, .head _, Nat.le_refl _⟩, List.forall_mem_cons.mpr ⟨⟨_, .tail _ (.tail _ (.tail _ (.tail _ (.head _)))), Nat.le_refl _⟩, List.forall_mem_cons.mpr ⟨⟨_, .tail _ (.head _), Nat.le_of_lt k5⟩, List.forall_mem_cons.mpr ⟨⟨_, .tail _ (.tail _ (.head _)), Nat.le_refl _⟩, fun _ h => nomatch h⟩⟩⟩⟩⟩) x2
  refine ret ps' kc' sx' sy' s1' s2' h' tk' ⟨tab1_sub T1 c1, tab1_to x1 c5, TabN.mono T3 c1, c3, c4⟩ F' (fun p hp => ?_)
  simp only [List.mem_cons] at hp
  have inr : ∀ q ∈ (r, tupObj (rowVs kind x y pal oct t1 t2 t3 t4 t5)) :: (I, oI) :: (176, tabObj ps1) :: (190, tabObj ps3) :: kc, News h₀ L h' [q] := fun q hq z hz => by
    rw [List.mem_singleton.mp hz]
    refine N' q ?_
    repeat (first | exact List.mem_append.mpr (.inr hq) | apply List.Mem.tail)
  have up : ∀ q, News h₀ L h' [q] → p = q → h'.get? p.1 = some p.2 ∧ p.1 ≠ L ∧ h₀.get? p.1 = none := fun q hq e => by
    rw [e]
    exact hq q (.head _)
  rcases hp with h | h | h | h | h | h | h
  · exact up _ (inr _ (.head _)) h
  · rw [h]; exact N' _ (.head _)
  · exact up _ (inr _ (.tail _ (.head _))) h
  · exact up _ (inr _ (.tail _ (.tail _ (.head _)))) h
  · rw [h]; exact N' _ (.tail _ (.head _))
  · exact up _ (inr _ (.tail _ (.tail _ (.tail _ (.head _))))) h
  · exact N' p (by repeat (first | exact c2 p h | apply List.Mem.tail))
theorem wrong_law {w : World} {p : Program} {loose : List Str} {mean : ExcName → Option Value} {mg mb : Str → Option Value} {dp un : Nat} {gd : Option (List Code)} {cn : Str} {cs : Scope} {a : Addr} {ccd : Value} {cl : List (Str × Addr)} {A₀ : Around} {base h₀ : Heap} {L : Addr} {m : Str → Option Value} {s : Shared} {Q E : Value → Shared → Prop}
    {l r I : Addr} {c : Nat} {sx sy : Int} {s1 s2 : Tok} {kind : Str} {x y : Int} {pal oct : List UInt8} {t1 t2 t3 t4 t5 : Tok} {ps1 ps2 ps3 : Array Value} {oI : Obj} {kc : List (Addr × Obj)}
    (B : Below A₀ base [] h₀) (F : Fr h₀ L s.heap m) (X : (k0.heap_1 w.params).In h₀) (N : News h₀ L s.heap ((r, tupObj (rowVs kind x y pal oct t1 t2 t3 t4 t5)) :: (l, listOf #[.int sx s1, .int sy s2] c) :: (I, oI) :: (176, tabObj ps1) :: (183, tabObj ps2) :: (190, tabObj ps3) :: kc)) (T : Top p loose mean mg mb h₀) (hk : cs.kind = .function) (hdp : dp + 10 < recursionLimit) (hu : un + 80 < cLine)
    (XB : (k0.heap_1 w.params).In base) (TB : Top p loose mean mg mb base) (CH : CodeHd base 194 190) (hs : Small kind x y pal oct) (J : LawJ [176, 183, 190, l, I] ps1 ps2 ps3 kc) (hI : isCode (I, oI) = false) (i1 : @Ne Nat I 176) (i2 : @Ne Nat I 183) (i3 : @Ne Nat I 190) (k1 : @LT.lt Nat _ 176 l) (k2 : @LT.lt Nat _ 183 l) (k3 : @LT.lt Nat _ 190 l) (k4 : @LT.lt Nat _ I l) (k5 : @LT.lt Nat _ l r)
    (ret : ∀ ps3' kc' sx' sy' s1' s2' h' tk', LawJ [176, 183, 190, l, I] ps1 ps2 ps3' kc' → Fr h₀ L h' m → News h₀ L h' ((r, tupObj (rowVs kind x y pal oct t1 t2 t3 t4 t5)) :: (l, listOf #[.int sx' s1', .int sy' s2'] c) :: (I, oI) :: (176, tabObj ps1) :: (183, tabObj ps2) :: (190, tabObj ps3') :: kc') → Q (.bool true) { s with heap := h', toks := tk' }) :
    wpAny (model Challenge.rw_pf0230_01.row.prog w) (ktrTop dp un gd cn cs L a ccd cl []) (call (.ref 195) [.ref l, .ref r]) Q E s := by
  obtain ⟨T1, T2, T3, I1, O⟩ := J
  refine wrong_small (rest := (r, tupObj (rowVs kind x y pal oct t1 t2 t3 t4 t5)) :: (I, oI) :: (176, tabObj ps1) :: (183, tabObj ps2) :: kc) (c := c) (sx := sx) (sy := sy) (s1 := s1) (s2 := s2) (t1 := t1) (t2 := t2) (t3 := t3) (t4 := t4) (t5 := t5) B F X ?zN T hk hdp hu XB TB CH hs (List.forall_mem_cons.mpr ⟨(Nat.ne_of_lt (Nat.lt_trans k3 k5)).symm, List.forall_mem_cons.mpr ⟨i3, List.forall_mem_cons.mpr ⟨(by decide : @Ne Nat 176 190), List.forall_mem_cons.mpr ⟨(by decide : @Ne Nat 183 190), fun p hp => O p hp 190 (by simp)⟩⟩⟩⟩) (List.forall_mem_cons.mpr ⟨(Nat.ne_of_lt k5).symm, List.forall_mem_cons.mpr ⟨Nat.ne_of_lt k4, List.forall_mem_cons.mpr ⟨Nat.ne_of_lt k1, List.forall_mem_cons.mpr ⟨Nat.ne_of_lt k2, fun p hp => O p hp l (by simp)⟩⟩⟩⟩) (Nat.ne_of_lt (Nat.lt_trans k3 k5)).symm (Nat.ne_of_lt k3).symm (Nat.ne_of_lt k5) (TabN.mono T3 (fun p hp => .tail _ (.tail _ (.tail _ (.tail _ (hp)))))) fun ps' add sx' sy' s1' s2' h' tk' x1 x2 F' N' => ?_
  case zN =>
    intro p hp
    refine N p ?_
    simp only [List.mem_cons] at hp ⊢
    rcases hp with h | h | h | h | h | h | h | h <;> simp [h]
  obtain ⟨kc', c1, c2, c3, c4, c5⟩ := codes_step (P := 190) (oP := tabObj ps3) (add := add) (rest := (r, tupObj (rowVs kind x y pal oct t1 t2 t3 t4 t5)) :: (I, oI) :: (176, tabObj ps1) :: (183, tabObj ps2) :: kc) (cs := kc) (offs := [176, 183, 190, l, I]) (code_in rfl (code_in hI (code_in (isCode_tab1 T1) (code_in (isCode_tab1 T2) fun p hp _ => hp)))) I1 (fun p hp => .tail _ (.tail _ (.tail _ (.tail _ (hp))))) O (List.forall_mem_cons.mpr ⟨⟨_, .tail _ (.tail _ (.tail _ (.head _))), Nat.le_refl _⟩, List.forall_mem_cons.mpr ⟨⟨_, .tail _ (.tail _ (.tail _ (.tail _ (.head _)))), Nat.le_refl _⟩, List.forall_mem_cons.mpr ⟨⟨_, .head _, Nat.le_refl _⟩, List.forall_mem_cons.mpr ⟨⟨_, .tail _ (.head _), Nat.le_of_lt k5⟩, List.forall_mem_cons.mpr ⟨⟨_, .tail _ (.tail _ (.head _)), Nat.le_refl _⟩, fun _ h => nomatch h⟩⟩⟩⟩⟩) x2
  refine ret ps' kc' sx' sy' s1' s2' h' tk' ⟨tab1_sub T1 c1, tab1_sub T2 c1, tabN_to x1 c5, c3, c4⟩ F' (fun p hp => ?_)
  simp only [List.mem_cons] at hp
  have inr : ∀ q ∈ (r, tupObj (rowVs kind x y pal oct t1 t2 t3 t4 t5)) :: (I, oI) :: (176, tabObj ps1) :: (183, tabObj ps2) :: kc, News h₀ L h' [q] := fun q hq z hz => by
    rw [List.mem_singleton.mp hz]
    refine N' q ?_
    repeat (first | exact List.mem_append.mpr (.inr hq) | apply List.Mem.tail)
  have up : ∀ q, News h₀ L h' [q] → p = q → h'.get? p.1 = some p.2 ∧ p.1 ≠ L ∧ h₀.get? p.1 = none := fun q hq e => by
    rw [e]
    exact hq q (.head _)
  rcases hp with h | h | h | h | h | h | h
  · exact up _ (inr _ (.head _)) h
  · rw [h]; exact N' _ (.head _)
  · exact up _ (inr _ (.tail _ (.head _))) h
  · exact up _ (inr _ (.tail _ (.tail _ (.head _)))) h
  · exact up _ (inr _ (.tail _ (.tail _ (.tail _ (.head _))))) h
  · rw [h]; exact N' _ (.tail _ (.head _))
  · exact N' p (by repeat (first | exact c2 p h | apply List.Mem.tail))
/-- what is known between two deeds of one turn of the law -/
def LawSt (r l I : Addr) (oI : Obj) (ps1 ps2 ps3 : Array Value) (cs : List (Addr × Obj)) : Prop := LawJ [176, 183, 190, l, I] ps1 ps2 ps3 cs ∧ isCode (I, oI) = false ∧ @Ne Nat I 176 ∧ @Ne Nat I 183 ∧ @Ne Nat I 190 ∧ @LT.lt Nat _ 176 l ∧ @LT.lt Nat _ 183 l ∧ @LT.lt Nat _ 190 l ∧ @LT.lt Nat _ I l ∧ @LT.lt Nat _ l r
theorem law_start {r l I : Addr} {oI : Obj} {ps1 ps2 ps3 : Array Value} {cs : List (Addr × Obj)} (J : LawJ [176, 183, 190] ps1 ps2 ps3 cs) (hI : ∀ p ∈ (176, tabObj ps1) :: (183, tabObj ps2) :: (190, tabObj ps3) :: cs, p.1 ≠ I) (hc : isCode (I, oI) = false)
    (l0 : ∀ p ∈ (I, oI) :: (176, tabObj ps1) :: (183, tabObj ps2) :: (190, tabObj ps3) :: cs, p.1 < l) (k5 : l < r) : LawSt r l I oI ps1 ps2 ps3 cs := by
  obtain ⟨T1, T2, T3, I1, O⟩ := J
  refine ⟨⟨T1, T2, T3, I1, fun p hp a ha => ?_⟩, hc, (hI _ (.head _)).symm, (hI _ (.tail _ (.head _))).symm, (hI _ (.tail _ (.tail _ (.head _)))).symm, l0 _ (.tail _ (.head _)), l0 _ (.tail _ (.tail _ (.head _))), l0 _ (.tail _ (.tail _ (.tail _ (.head _)))), l0 _ (.head _), k5⟩
  simp only [List.mem_cons, List.not_mem_nil, or_false] at ha
  rcases ha with rfl | rfl | rfl | rfl | rfl
  · exact O p hp _ (by simp)
  · exact O p hp _ (by simp)
  · exact O p hp _ (by simp)
  · exact Nat.ne_of_lt (l0 p (.tail _ (.tail _ (.tail _ (.tail _ hp)))))
  · exact hI p (.tail _ (.tail _ (.tail _ hp)))
theorem law_stop {h₀ h : Heap} {L r l I : Addr} {oI oR oL : Obj} {ps1 ps2 ps3 : Array Value} {cs : List (Addr × Obj)} (S : LawSt r l I oI ps1 ps2 ps3 cs) (N : News h₀ L h ((r, oR) :: (l, oL) :: (I, oI) :: (176, tabObj ps1) :: (183, tabObj ps2) :: (190, tabObj ps3) :: cs)) :
    News h₀ L h ((I, oI) :: (176, tabObj ps1) :: (183, tabObj ps2) :: (190, tabObj ps3) :: cs) ∧ (∀ p ∈ (176, tabObj ps1) :: (183, tabObj ps2) :: (190, tabObj ps3) :: cs, p.1 ≠ I) ∧ LawJ [176, 183, 190] ps1 ps2 ps3 cs := by
  obtain ⟨⟨T1, T2, T3, I1, O⟩, hc, i1, i2, i3, _⟩ := S
  refine ⟨fun p hp => N p (.tail _ (.tail _ hp)), ?_, T1, T2, T3, I1, fun p hp a ha => O p hp a ?_⟩
  · exact List.forall_mem_cons.mpr ⟨i1.symm, List.forall_mem_cons.mpr ⟨i2.symm, List.forall_mem_cons.mpr ⟨i3.symm, fun p hp => O p hp I (by simp)⟩⟩⟩
  · simp only [List.mem_cons, List.not_mem_nil, or_false] at ha ⊢
    rcases ha with h | h | h <;> simp [h]
theorem ext_st {w : World} {p : Program} {loose : List Str} {mean : ExcName → Option Value} {mg mb : Str → Option Value} {dp un : Nat} {gd : Option (List Code)} {cn : Str} {cs : Scope} {a : Addr} {ccd : Value} {cl : List (Str × Addr)} {A₀ : Around} {base h₀ : Heap} {L : Addr} {m : Str → Option Value} {s : Shared} {Q E : Value → Shared → Prop}
    {l r I : Addr} {c : Nat} {sx sy : Int} {s1 s2 : Tok} {kind : Str} {x y : Int} {pal oct : List UInt8} {t1 t2 t3 t4 t5 : Tok} {ps1 ps2 ps3 : Array Value} {oI : Obj} {kc : List (Addr × Obj)}
    (B : Below A₀ base [] h₀) (F : Fr h₀ L s.heap m) (X : (k0.heap_1 w.params).In h₀) (N : News h₀ L s.heap ((r, tupObj (rowVs kind x y pal oct t1 t2 t3 t4 t5)) :: (l, listOf #[.int sx s1, .int sy s2] c) :: (I, oI) :: (176, tabObj ps1) :: (183, tabObj ps2) :: (190, tabObj ps3) :: kc)) (T : Top p loose mean mg mb h₀) (hk : cs.kind = .function) (hdp : dp + 10 < recursionLimit) (hu : un + 80 < cLine)
    (XB : (k0.heap_1 w.params).In base) (TB : Top p loose mean mg mb base) (CH : CodeHd base 180 176) (hs : Small kind x y pal oct) (S : LawSt r l I oI ps1 ps2 ps3 kc)
    (ret : ∀ ps1' kc' h' tk', LawSt r l I oI ps1' ps2 ps3 kc' → Fr h₀ L h' m → News h₀ L h' ((r, tupObj (rowVs kind x y pal oct t1 t2 t3 t4 t5)) :: (l, listOf #[.int sx s1, .int sy s2] c) :: (I, oI) :: (176, tabObj ps1') :: (183, tabObj ps2) :: (190, tabObj ps3) :: kc') → Q (.bool true) { s with heap := h', toks := tk' }) :
    wpAny (model Challenge.rw_pf0230_01.row.prog w) (ktrTop dp un gd cn cs L a ccd cl []) (call (.ref 181) [.ref r]) Q E s := by
  obtain ⟨J, hI, i1, i2, i3, k1, k2, k3, k4, k5⟩ := S
  exact ext_law B F X N T hk hdp hu XB TB CH hs J hI i1 i2 i3 k1 k2 k3 k4 k5 fun ps1' kc' h' tk' J' F' N' => ret ps1' kc' h' tk' ⟨J', hI, i1, i2, i3, k1, k2, k3, k4, k5⟩ F' N'
theorem borne_st {w : World} {p : Program} {loose : List Str} {mean : ExcName → Option Value} {mg mb : Str → Option Value} {dp un : Nat} {gd : Option (List Code)} {cn : Str} {cs : Scope} {a : Addr} {ccd : Value} {cl : List (Str × Addr)} {A₀ : Around} {base h₀ : Heap} {L : Addr} {m : Str → Option Value} {s : Shared} {Q E : Value → Shared → Prop}
    {l r I : Addr} {c : Nat} {sx sy : Int} {s1 s2 : Tok} {kind : Str} {x y : Int} {pal oct : List UInt8} {t1 t2 t3 t4 t5 : Tok} {ps1 ps2 ps3 : Array Value} {oI : Obj} {kc : List (Addr × Obj)}
    (B : Below A₀ base [] h₀) (F : Fr h₀ L s.heap m) (X : (k0.heap_1 w.params).In h₀) (N : News h₀ L s.heap ((r, tupObj (rowVs kind x y pal oct t1 t2 t3 t4 t5)) :: (l, listOf #[.int sx s1, .int sy s2] c) :: (I, oI) :: (176, tabObj ps1) :: (183, tabObj ps2) :: (190, tabObj ps3) :: kc)) (T : Top p loose mean mg mb h₀) (hk : cs.kind = .function) (hdp : dp + 10 < recursionLimit) (hu : un + 80 < cLine)
    (XB : (k0.heap_1 w.params).In base) (TB : Top p loose mean mg mb base) (CH : CodeHd base 187 183) (hs : Small kind x y pal oct) (S : LawSt r l I oI ps1 ps2 ps3 kc)
    (ret : ∀ ps2' kc' sx' sy' s1' s2' h' tk', LawSt r l I oI ps1 ps2' ps3 kc' → Fr h₀ L h' m → News h₀ L h' ((r, tupObj (rowVs kind x y pal oct t1 t2 t3 t4 t5)) :: (l, listOf #[.int sx' s1', .int sy' s2'] c) :: (I, oI) :: (176, tabObj ps1) :: (183, tabObj ps2') :: (190, tabObj ps3) :: kc') → Q (.bool true) { s with heap := h', toks := tk' }) :
    wpAny (model Challenge.rw_pf0230_01.row.prog w) (ktrTop dp un gd cn cs L a ccd cl []) (call (.ref 188) [.ref l, .ref r]) Q E s := by
  obtain ⟨J, hI, i1, i2, i3, k1, k2, k3, k4, k5⟩ := S
  exact borne_law B F X N T hk hdp hu XB TB CH hs J hI i1 i2 i3 k1 k2 k3 k4 k5 fun ps2' kc' sx' sy' s1' s2' h' tk' J' F' N' => ret ps2' kc' sx' sy' s1' s2' h' tk' ⟨J', hI, i1, i2, i3, k1, k2, k3, k4, k5⟩ F' N'
theorem wrong_st {w : World} {p : Program} {loose : List Str} {mean : ExcName → Option Value} {mg mb : Str → Option Value} {dp un : Nat} {gd : Option (List Code)} {cn : Str} {cs : Scope} {a : Addr} {ccd : Value} {cl : List (Str × Addr)} {A₀ : Around} {base h₀ : Heap} {L : Addr} {m : Str → Option Value} {s : Shared} {Q E : Value → Shared → Prop}
    {l r I : Addr} {c : Nat} {sx sy : Int} {s1 s2 : Tok} {kind : Str} {x y : Int} {pal oct : List UInt8} {t1 t2 t3 t4 t5 : Tok} {ps1 ps2 ps3 : Array Value} {oI : Obj} {kc : List (Addr × Obj)}
    (B : Below A₀ base [] h₀) (F : Fr h₀ L s.heap m) (X : (k0.heap_1 w.params).In h₀) (N : News h₀ L s.heap ((r, tupObj (rowVs kind x y pal oct t1 t2 t3 t4 t5)) :: (l, listOf #[.int sx s1, .int sy s2] c) :: (I, oI) :: (176, tabObj ps1) :: (183, tabObj ps2) :: (190, tabObj ps3) :: kc)) (T : Top p loose mean mg mb h₀) (hk : cs.kind = .function) (hdp : dp + 10 < recursionLimit) (hu : un + 80 < cLine)
    (XB : (k0.heap_1 w.params).In base) (TB : Top p loose mean mg mb base) (CH : CodeHd base 194 190) (hs : Small kind x y pal oct) (S : LawSt r l I oI ps1 ps2 ps3 kc)
    (ret : ∀ ps3' kc' sx' sy' s1' s2' h' tk', LawSt r l I oI ps1 ps2 ps3' kc' → Fr h₀ L h' m → News h₀ L h' ((r, tupObj (rowVs kind x y pal oct t1 t2 t3 t4 t5)) :: (l, listOf #[.int sx' s1', .int sy' s2'] c) :: (I, oI) :: (176, tabObj ps1) :: (183, tabObj ps2) :: (190, tabObj ps3') :: kc') → Q (.bool true) { s with heap := h', toks := tk' }) :
    wpAny (model Challenge.rw_pf0230_01.row.prog w) (ktrTop dp un gd cn cs L a ccd cl []) (call (.ref 195) [.ref l, .ref r]) Q E s := by
  obtain ⟨J, hI, i1, i2, i3, k1, k2, k3, k4, k5⟩ := S
  exact wrong_law B F X N T hk hdp hu XB TB CH hs J hI i1 i2 i3 k1 k2 k3 k4 k5 fun ps3' kc' sx' sy' s1' s2' h' tk' J' F' N' => ret ps3' kc' sx' sy' s1' s2' h' tk' ⟨J', hI, i1, i2, i3, k1, k2, k3, k4, k5⟩ F' N'
theorem not_in3 {z a b c : Str} (h : [a, b, c].contains z = false) : ¬ z = a ∧ ¬ z = b ∧ ¬ z = c := by simpa using h
theorem turns_le {a b : Int} (h : a = if (if b < 2 then b else 2) > 1 then if b < 2 then b else 2 else 1) : a ≤ 2 := by
  split at h
  · split at h <;> omega
  · omega
theorem turns_ge {b : Int} : 0 ≤ (if (if b < 2 then b else 2) > 1 then if b < 2 then b else 2 else 1) := by
  split
  · split <;> omega
  · omega
theorem sound_fixed : Sound "palette" 2 1 COL [3, 255] := ⟨by decide, by decide, by decide, by decide, by decide, Or.inr (Or.inl ⟨rfl, by decide, by decide +kernel⟩)⟩
theorem fixed_rows : rowsD "palette" COL [3, 255] (Int.toNat 2) (Int.toNat 1) = [W.Dat.list [W.Dat.tuple [.int 3, .int 252, .int 21], W.Dat.tuple [.int 255, .int 0, .int 249]]] := by
  have e0 : pix "palette" COL [3, 255] (0 * 2 + 0) = [3, 252, 21] := by decide +kernel
  have e1 : pix "palette" COL [3, 255] (0 * 2 + 1) = [255, 0, 249] := by decide +kernel
  show [W.Dat.list [datT (pix "palette" COL [3, 255] (0 * 2 + 0)), datT (pix "palette" COL [3, 255] (0 * 2 + 1))]] = _
  rw [e0, e1]
  rfl
theorem words21 : True := by
  (k_with "compareOp NotEq ref ref" => (first | ((k_here; refine stopIt ?_)) | fail "word"))
  (k_with "exec For Name Call cons nil" => (first | ((k_here; refine' wpAny_For ?_ (by (intro _; with_unfolding_all rfl)))) | fail "word"))
  (k_with "call ref" => (first | ((k_here; (with_reducible show wpAny _ _ (call (Value.ref 124) _) _ _ _); k_dflt (refine' rows_good (by k_asm) (by k_asm) (by k_asm) (by k_asm) (by k_asm) (by first | exact rfl | assumption) (by walk_at "m_room") (by walk_at "m_room") (by k_mem) (by k_mem) sound_fixed (by decide) ?_; intro zzR' zzvs' zzn' zznew' zzh' zztk' zzF' zzN' zzdA'))) | fail "word"))
  (k_with "RngEnd" => (first | ((refine stopIt ?_)) | fail "word"))
  (k_with "call ref" => (first | ((k_here; (with_reducible show wpAny _ _ (call (Value.ref 131) _) _ _ _); k_dflt (refine' shelf_spec (by k_asm) (by k_asm) (by k_asm) (by k_asm) (by k_asm) (by first | exact rfl | assumption) (by walk_at "m_room") (by walk_at "m_room") (by assumption) (by assumption) (by omega) (by omega) (by omega) ?_); intro zzl' zzx' zzy' zzt1' zzt2' zzh' zztk' zzF' zzN' zzl1; (have zzl0 := zzl1); (try k_lt zzl1))) | fail "word"))
  (k_with "call ref" => (first | ((k_here; (with_reducible show wpAny _ _ (call (Value.ref 148) _) _ _ _); k_dflt (refine' small_spec (by k_asm) (by k_asm) (by k_asm) (by k_asm) (by k_asm) (by first | exact rfl | assumption) (by walk_at "m_room") (by walk_at "m_room") (by exact ne_of_allLt (by assumption)) ?_); intro zzR' zzkd' zzwd' zzht' zzpal' zzoct' zzt1' zzt2' zzt3' zzt4' zzt5' zzx' zzy' zzs1' zzs2' zzh' zztk' zzhsm' zzF' zzN' zzl1 zzl2; (have zzst' := law_start (by assumption) (by assumption) (by assumption) (by assumption) zzl2))) | fail "word"))
  (k_with "call ref" => (first | ((k_here; (with_reducible show wpAny _ _ (call (Value.ref 181) _) _ _ _); k_dflt (refine' ext_st (by k_asm) (by k_asm) (by k_asm) (by k_asm) (by k_asm) (by first | exact rfl | assumption) (by walk_at "m_room") (by walk_at "m_room") (by assumption) (by assumption) (by assumption) (by assumption) (by assumption) ?_); intro zzps' zzcs' zzh' zztk' zzst' zzF' zzN')) | fail "word"))
  (k_with "call ref" => (first | ((k_here; (with_reducible show wpAny _ _ (call (Value.ref 188) _) _ _ _); k_dflt (refine' borne_st (by k_asm) (by k_asm) (by k_asm) (by k_asm) (by k_asm) (by first | exact rfl | assumption) (by walk_at "m_room") (by walk_at "m_room") (by assumption) (by assumption) (by assumption) (by assumption) (by assumption) ?_); intro zzps' zzcs' zzsx' zzsy' zzs1' zzs2' zzh' zztk' zzst' zzF' zzN')) | fail "word"))
  (k_with "call ref" => (first | ((k_here; (with_reducible show wpAny _ _ (call (Value.ref 195) _) _ _ _); k_dflt (refine' wrong_st (by k_asm) (by k_asm) (by k_asm) (by k_asm) (by k_asm) (by first | exact rfl | assumption) (by walk_at "m_room") (by walk_at "m_room") (by assumption) (by assumption) (by assumption) (by assumption) (by assumption) ?_); intro zzps' zzcs' zzsx' zzsy' zzs1' zzs2' zzh' zztk' zzst' zzF' zzN')) | fail "word"))
  trivial
theorem law_holds : Challenge.rw_pf0230_01.Holds := hd_of (by rfl) (by rfl) (by rfl) (by
  k_go0
  all_goals (try k_fold)
  k_steps
  unfold Stop
  rename News _ _ _ _ => N1
  rename DatAll _ _ _ => dA
  rw [fixed_rows] at dA
  refine kqd_ne N1 (.tail _ (.tail _ (.tail _ (.tail _ (.head _))))) rfl rfl dA (fun p hp => .tail _ (.tail _ (.tail _ (.tail _ (.tail _ (List.mem_append.mpr (.inl hp))))))) (.head _) rfl rfl (.cons (.list (.tail _ (.head _)) (.cons (.tuple (.tail _ (.tail _ (.tail _ (.head _)))) (.cons (.int _ _) (.cons (.int _ _) (.cons (.int _ _) .nil)))) (.cons (.tuple (.tail _ (.tail _ (.head _))) (.cons (.int _ _) (.cons (.int _ _) (.cons (.int _ _) .nil)))) .nil))) .nil) (fun p hp => hp) (by decide) (by decide) (by ktr_units) ?_
  simp only [decide_true, Bool.not_true]
  k_steps
  unfold Stop
  clear dA
  rename Fr _ _ _ _ => F1
  rename News _ _ _ _ => N1
  rename IsRange _ _ _ _ _ _ _ _ => R1
  obtain ⟨n, hn, R2⟩ := range_nat R1 turns_ge
  have hn2 := turns_le hn
  refine rng_loop (n := n) ["turn", "shelf", "row"] (fun i nx => ∃ ps1 ps2 ps3 cs, nx = (176, tabObj ps1) :: (183, tabObj ps2) :: (190, tabObj ps3) :: cs ∧ LawJ [176, 183, 190] ps1 ps2 ps3 cs) rfl R2 (by omega) F1 (nx₀ := [(176, tabObj #[]), (183, tabObj #[]), (190, tabObj #[])]) (fun p hp => N1 p ?sub) ⟨#[], #[], #[], [], rfl, .inl rfl, .inl rfl, tabN_nil, (fun p hp => nomatch hp), (fun p hp => nomatch hp)⟩ ?step ?done
  case sub =>
    simp only [List.mem_cons, List.mem_append, List.not_mem_nil, or_false] at hp ⊢
    rcases hp with h | h | h <;> simp [h]
  case step =>
    clear F1 N1 R1 R2
    rintro i t u nx h tk I oI hi ⟨ps1, ps2, ps3, cs, rfl, J⟩ hI hI0 hcI F1 N1
    k_steps
    unfold Stop
    rename LawSt _ _ _ _ _ _ _ _ => st
    rename News _ _ _ _ => N2
    obtain ⟨n1, n2, n3⟩ := law_stop st N2
    refine ⟨_, _, _, _, rfl, by k_asm, n1, n2, fun z hz => ?_, _, _, _, _, rfl, n3⟩
    obtain ⟨q1, q2, q3⟩ := not_in3 hz
    simp only [q1, q2, q3, hz, if_false, Bool.false_eq_true]
  case done =>
    clear F1 N1 R1 R2
    rintro u nx h tk ⟨ps1, ps2, ps3, cs, rfl, J⟩ F1 N1
    k_steps
  )
end Mine
theorem PySem.Challenge.cw_pf0230_01_holds : PySem.Challenge.rw_pf0230_01.Holds := by
  exact Mine.law_holds
