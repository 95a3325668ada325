import PyProof.Rows.All
import Wide.All
import OpenK.AllK
import Wide.FinOn
import PySem.Challenge.RW_xm0719_01
open PySem PySem.W PyProof.Rows
set_option Elab.async false
set_option compiler.extract_closed false
set_option linter.all false
namespace Mine
set_option maxRecDepth 100000 in
noncomputable abbrev kept0 : PySem.Stmt := by
  refine ((fun (_ : (PySem.Challenge.pw_xm0719_01.main.body.drop 0).head? = some ?x) => ?x) ?e)
  case e => conv => lhs; whnf
set_option maxRecDepth 100000 in
noncomputable abbrev kept2 : PySem.Stmt := by
  refine ((fun (_ : (PySem.Challenge.pw_xm0719_01.main.body.drop 2).head? = some ?x) => ?x) ?e)
  case e => conv => lhs; whnf
set_option maxRecDepth 100000 in
noncomputable abbrev kept3 : PySem.Stmt := by
  refine ((fun (_ : (PySem.Challenge.pw_xm0719_01.main.body.drop 3).head? = some ?x) => ?x) ?e)
  case e => conv => lhs; whnf
set_option maxRecDepth 100000 in
noncomputable abbrev kept5 : PySem.Stmt := by
  refine ((fun (_ : (PySem.Challenge.pw_xm0719_01.main.body.drop 5).head? = some ?x) => ?x) ?e)
  case e => conv => lhs; whnf
set_option maxRecDepth 100000 in
noncomputable abbrev kept6 : PySem.Stmt := by
  refine ((fun (_ : (PySem.Challenge.pw_xm0719_01.main.body.drop 6).head? = some ?x) => ?x) ?e)
  case e => conv => lhs; whnf
set_option maxRecDepth 100000 in
noncomputable abbrev kept8 : PySem.Stmt := by
  refine ((fun (_ : (PySem.Challenge.pw_xm0719_01.main.body.drop 8).head? = some ?x) => ?x) ?e)
  case e => conv => lhs; whnf
set_option maxRecDepth 100000 in
noncomputable abbrev kept9 : PySem.Stmt := by
  refine ((fun (_ : (PySem.Challenge.pw_xm0719_01.main.body.drop 9).head? = some ?x) => ?x) ?e)
  case e => conv => lhs; whnf
set_option maxRecDepth 100000 in
noncomputable abbrev kept10 : PySem.Stmt := by
  refine ((fun (_ : (PySem.Challenge.pw_xm0719_01.main.body.drop 10).head? = some ?x) => ?x) ?e)
  case e => conv => lhs; whnf
set_option maxRecDepth 100000 in
noncomputable abbrev kept12 : PySem.Stmt := by
  refine ((fun (_ : (PySem.Challenge.pw_xm0719_01.main.body.drop 12).head? = some ?x) => ?x) ?e)
  case e => conv => lhs; whnf
set_option maxRecDepth 100000 in
noncomputable abbrev kept13 : PySem.Stmt := by
  refine ((fun (_ : (PySem.Challenge.pw_xm0719_01.main.body.drop 13).head? = some ?x) => ?x) ?e)
  case e => conv => lhs; whnf
set_option maxRecDepth 100000 in
noncomputable abbrev kept14 : PySem.Stmt := by
  refine ((fun (_ : (PySem.Challenge.pw_xm0719_01.main.body.drop 14).head? = some ?x) => ?x) ?e)
  case e => conv => lhs; whnf
set_option maxRecDepth 100000 in
noncomputable abbrev kept15 : PySem.Stmt := by
  refine ((fun (_ : (PySem.Challenge.pw_xm0719_01.main.body.drop 15).head? = some ?x) => ?x) ?e)
  case e => conv => lhs; whnf
set_option maxRecDepth 100000 in
noncomputable abbrev kept16 : PySem.Stmt := by
  refine ((fun (_ : (PySem.Challenge.pw_xm0719_01.main.body.drop 16).head? = some ?x) => ?x) ?e)
  case e => conv => lhs; whnf
set_option maxRecDepth 100000 in
noncomputable abbrev kept17 : PySem.Stmt := by
  refine ((fun (_ : (PySem.Challenge.pw_xm0719_01.main.body.drop 17).head? = some ?x) => ?x) ?e)
  case e => conv => lhs; whnf
set_option maxRecDepth 100000 in
noncomputable abbrev kept18 : PySem.Stmt := by
  refine ((fun (_ : (PySem.Challenge.pw_xm0719_01.main.body.drop 18).head? = some ?x) => ?x) ?e)
  case e => conv => lhs; whnf
set_option maxRecDepth 100000 in
noncomputable abbrev kept19 : PySem.Stmt := by
  refine ((fun (_ : (PySem.Challenge.pw_xm0719_01.main.body.drop 19).head? = some ?x) => ?x) ?e)
  case e => conv => lhs; whnf
set_option maxRecDepth 100000 in
noncomputable abbrev kept20 : PySem.Stmt := by
  refine ((fun (_ : (PySem.Challenge.pw_xm0719_01.main.body.drop 20).head? = some ?x) => ?x) ?e)
  case e => conv => lhs; whnf
set_option maxRecDepth 100000 in
noncomputable abbrev kept21 : PySem.Stmt := by
  refine ((fun (_ : (PySem.Challenge.pw_xm0719_01.main.body.drop 21).head? = some ?x) => ?x) ?e)
  case e => conv => lhs; whnf
set_option maxRecDepth 100000 in
noncomputable abbrev kept22 : PySem.Stmt := by
  refine ((fun (_ : (PySem.Challenge.pw_xm0719_01.main.body.drop 22).head? = some ?x) => ?x) ?e)
  case e => conv => lhs; whnf
set_option maxRecDepth 100000 in
noncomputable abbrev kept24 : PySem.Stmt := by
  refine ((fun (_ : (PySem.Challenge.pw_xm0719_01.main.body.drop 24).head? = some ?x) => ?x) ?e)
  case e => conv => lhs; whnf
set_option maxRecDepth 100000 in
noncomputable abbrev kept25 : PySem.Stmt := by
  refine ((fun (_ : (PySem.Challenge.pw_xm0719_01.main.body.drop 25).head? = some ?x) => ?x) ?e)
  case e => conv => lhs; whnf
set_option maxRecDepth 100000 in
noncomputable abbrev kept26 : PySem.Stmt := by
  refine ((fun (_ : (PySem.Challenge.pw_xm0719_01.main.body.drop 26).head? = some ?x) => ?x) ?e)
  case e => conv => lhs; whnf
set_option maxRecDepth 100000 in
noncomputable abbrev kept27 : PySem.Stmt := by
  refine ((fun (_ : (PySem.Challenge.pw_xm0719_01.main.body.drop 27).head? = some ?x) => ?x) ?e)
  case e => conv => lhs; whnf
set_option maxRecDepth 100000 in
noncomputable abbrev kept28 : PySem.Stmt := by
  refine ((fun (_ : (PySem.Challenge.pw_xm0719_01.main.body.drop 28).head? = some ?x) => ?x) ?e)
  case e => conv => lhs; whnf
set_option maxRecDepth 100000 in
noncomputable abbrev kept29 : PySem.Stmt := by
  refine ((fun (_ : (PySem.Challenge.pw_xm0719_01.main.body.drop 29).head? = some ?x) => ?x) ?e)
  case e => conv => lhs; whnf
set_option maxRecDepth 100000 in
noncomputable abbrev kept30 : PySem.Stmt := by
  refine ((fun (_ : (PySem.Challenge.pw_xm0719_01.main.body.drop 30).head? = some ?x) => ?x) ?e)
  case e => conv => lhs; whnf
set_option maxRecDepth 100000 in
noncomputable abbrev kept31 : PySem.Stmt := by
  refine ((fun (_ : (PySem.Challenge.pw_xm0719_01.main.body.drop 31).head? = some ?x) => ?x) ?e)
  case e => conv => lhs; whnf
set_option maxRecDepth 100000 in
noncomputable abbrev kept32 : PySem.Stmt := by
  refine ((fun (_ : (PySem.Challenge.pw_xm0719_01.main.body.drop 32).head? = some ?x) => ?x) ?e)
  case e => conv => lhs; whnf
set_option maxRecDepth 100000 in
noncomputable abbrev kept33 : PySem.Stmt := by
  refine ((fun (_ : (PySem.Challenge.pw_xm0719_01.main.body.drop 33).head? = some ?x) => ?x) ?e)
  case e => conv => lhs; whnf
set_option maxRecDepth 100000 in
noncomputable def hd.view_39 : PySem.Program := { PySem.Challenge.rw_xm0719_01.row.toRowW.1 with main := { PySem.Challenge.rw_xm0719_01.row.toRowW.1.main with body := [kept0, kept2, kept3, kept5, kept6, kept8, kept9, kept10, kept12, kept13, kept14, kept15, kept16, kept17, kept18, kept19, kept20, kept21, kept22, kept24, kept25, kept26, kept27, kept28, kept29, kept30, kept31, kept32, kept33] } }
theorem run_of_seg {tb : String → Option Builtin} {p : Program} {w : World} {n₀ : Nat} {ann : Option Value} : ∀ {n : Nat} {s s' : Shared} {t : Thread} {f : Flow} {c : Code} {q : Pos}, segRun tb p w n₀ ann 0 n s t = some (f, s', c, q) → topRun tb p w n₀ ann n s t = some s'
  | 0, _, _, _, _, _, _, h => by cases h
  | n + 1, s, s', ⟨cur, code, pos, st⟩, f, c, q, h => by
    unfold segRun at h
    unfold topRun
    cases he : endAt 0 ⟨cur, code, pos, st⟩ with
    | some g =>
      rw [he] at h
      have ht : through ⟨cur, code, pos, st⟩ = true := by
        unfold endAt at he
        split at he
        · rename_i h1 h2
          dsimp only at h1 h2
          unfold through
          dsimp only
          rw [h2, List.isEmpty_iff.mpr (List.eq_nil_of_length_eq_zero (eq_of_beq h1))]
          rfl
        · cases he
      rw [ht]
      cases h
      rfl
    | none =>
      rw [he] at h
      have ht : through ⟨cur, code, pos, st⟩ = false := by
        cases ht : through ⟨cur, code, pos, st⟩ with
        | false => rfl
        | true =>
          exfalso
          unfold through at ht
          dsimp only at ht
          obtain ⟨h1, h2⟩ := Bool.and_eq_true_iff.mp ht
          obtain rfl := List.isEmpty_iff.mp h1
          split at h2
          · cases he
          · cases h2
      rw [ht]
      dsimp only at h ⊢
      cases hk : stepOk n₀ ann ⟨cur, code, pos, st⟩ with
      | false => rw [hk] at h; cases h
      | true =>
        rw [hk] at h
        dsimp only at h ⊢
        cases hs : step (denote tb) p w s ⟨cur, code, pos, st⟩ with
        | halt o s₂ => rw [hs] at h; cases h
        | go s₂ t₂ => rw [hs] at h; exact run_of_seg h
noncomputable def growT : List Obj → BT → Nat → BT
  | [], t, _ => t
  | o :: l, t, n => growT l (t.ins n o) (n + 1)
noncomputable def bootT (P : Params) : BT := growT (boot_heap P).objs.toList .nil 0
noncomputable def looksA (p q : Program) (loose : List Str) (Xt : Shared → Bool) (g0 : Bool) (h₀ : Heap) (s : Shared) :=
  ((staticsOk (importedModules p.main.body) h₀ s.heap && namesBound p s.heap && gensDone s && laidKept h₀ s.heap), (openSeen q loose (importedModules p.main.body) Xt g0 s).1, (openSeen q loose (importedModules p.main.body) Xt g0 s).2.1, (openSeen q loose (importedModules p.main.body) Xt g0 s).2.2.1)
noncomputable def looksB (p q : Program) (loose : List Str) (Xt : Shared → Bool) {α : Type} (Yf : Shared → α) (g0 : Bool) (s : Shared) :=
  ((openSeen q loose (importedModules p.main.body) Xt g0 s).2.2.2, Yf s)
theorem left_tree {p q : Program} {loose : List Str} {Xt : Shared → Bool} {α : Type} {Yf : Shared → α} {Ya : World → α} {N : Nat} {g0 : Bool} {n : Nat} {life : Life} {ann : Option Value}
    (e : opening p = plainProg p.main.scope.names) (hN : Nat.ble 600 N = true) (f : ∀ s, fenceModules? p s = some s)
    (b : ∀ P, absHeap (bootT P) n life = boot_heap P)
    (z : ∀ P, ((boot_heap P).isNs mainGlobals, (boot_heap P).objs.size, (boot_heap P).nsMap mainGlobals "__annotations__") = (true, n, ann))
    (hA : ∀ (w : World) (os : OsState), (segRunT treeTable p w n ann 0 N ⟨bootT w.params, n, life, Array.mk [], boot_drawn, boot_toks, os⟩ (topStub p)).map (fun r => looksA p q loose Xt g0 (boot_heap w.params) r.2.1.abs) = some (true, (openGood q loose).1, (openGood q loose).2.1, (openGood q loose).2.2.1))
    (hB : ∀ (w : World) (os : OsState), (segRunT treeTable p w n ann 0 N ⟨bootT w.params, n, life, Array.mk [], boot_drawn, boot_toks, os⟩ (topStub p)).map (fun r => looksB p q loose Xt Yf g0 r.2.1.abs) = some ((openGood q loose).2.2.2, Ya w)) : LeftO p q loose Xt Yf Ya N g0 := fun w => by
  obtain ⟨⟨h0, gs, d, k, os⟩, e1, e2⟩ := Option.map_eq_some_iff.mp (boot_open e hN f w)
  simp only [Prod.mk.injEq] at e2
  obtain ⟨a1, a2, a3, a4⟩ := e2
  subst a1 a2 a3 a4
  obtain ⟨⟨f1, s1, c1, q1⟩, r1, r2⟩ := Option.map_eq_some_iff.mp (hA w os)
  have r3 := hB w os
  rw [r1] at r3
  have r3 : looksB p q loose Xt Yf g0 s1.abs = _ := Option.some.inj r3
  have r := run_of_seg (segRun_of r1)
  have z1 := z w.params
  simp only [Prod.mk.injEq] at z1
  obtain ⟨z1, z2, z3⟩ := z1
  unfold SharedT.abs at r
  dsimp only at r
  rw [b] at r
  unfold looksA at r2
  unfold looksB at r3
  simp only [Prod.mk.injEq] at r2 r3
  obtain ⟨l1, m1, m2, m3⟩ := r2
  obtain ⟨m4, l3⟩ := r3
  have l2 : openSeen q loose (importedModules p.main.body) Xt g0 s1.abs = openGood q loose := Prod.ext m1 (Prod.ext m2 (Prod.ext m3 m4))
  have t : topFrom treeTable p w N ⟨boot_heap w.params, Array.mk [], boot_drawn, boot_toks, os⟩ = some s1.abs := by
    unfold topFrom
    dsimp only
    rw [z1, z2, z3, r]
    show (match staticsOk (importedModules p.main.body) (boot_heap w.params) s1.abs.heap && namesBound p s1.abs.heap && gensDone s1.abs && laidKept (boot_heap w.params) s1.abs.heap with | true => some s1.abs | false => none) = _
    rw [l1]
  unfold openEnds
  rw [e1]
  show (topFrom treeTable p w N _).map _ = _
  rw [t]
  exact congrArg some (Prod.ext l2 l3)
set_option maxRecDepth 100000 in
set_option maxHeartbeats 8000000 in
theorem hd_said : PySem.Challenge.rw_xm0719_01.wellSaid = true := by
  unfold OpenLaw.wellSaid OpenRow.wellSaid OpenRow.partSaid looksOpen
  repeat' (with_reducible refine look_both ?_ ?_)
  all_goals (try rw [PySem.W.Fast.te8326940854005059898])
  all_goals (try rw [PySem.W.Fast.te17119622794617984870])
  all_goals (try rw [PySem.W.Fast.te8377067652309620493])
  all_goals decide +kernel
set_option maxRecDepth 100000 in
set_option maxHeartbeats 8000000 in
theorem hd_looks : ∀ (w : World) (os : OsState), (segRunT treeTable PySem.Challenge.rw_xm0719_01.row.toRowW.prog w 11 (some (.ref 6)) 0 3796 ⟨bootT w.params, 11, {}, Array.mk [], boot_drawn, boot_toks, os⟩ (topStub PySem.Challenge.rw_xm0719_01.row.toRowW.prog)).map (fun r => looksA PySem.Challenge.rw_xm0719_01.row.toRowW.prog hd.view_39 [PySem.Str.ofString "Outline"] (fun s => xlAt hd.view_39 [] s && recOk PySem.Challenge.rw_xm0719_01.row.records s) true (boot_heap w.params) r.2.1.abs) = some (true, (openGood hd.view_39 [PySem.Str.ofString "Outline"]).1, (openGood hd.view_39 [PySem.Str.ofString "Outline"]).2.1, (openGood hd.view_39 [PySem.Str.ofString "Outline"]).2.2.1) := by
  rw [PySem.W.Fast.te10110043849684766642, PySem.W.Fast.te14364793385576792824]
  unfold looksA
  rw [PySem.W.Fast.te4187177175401517315]
  intro w os
  kernel_rfl
local macro_rules | `(tactic| o_law) => `(tactic| refine holds_law hd_said fun said => ?_)
local macro_rules | `(tactic| o_head $H) => `(tactic| refine holds_open (q := hd.view_39) (loose := [PySem.Str.ofString "Outline"]) (Xt := fun s => xlAt hd.view_39 [] s && recOk PySem.Challenge.rw_xm0719_01.row.records s) (XP := XL hd.view_39 []) (Yf := Hook.obs $H) (Ya := Hook.val $H) (YP := Hook.says $H) (N := 3796) (left_tree (n := 11) (life := {}) (ann := some (.ref 6)) (by kernel_rfl) (by decide +kernel) (fun _ => by kernel_rfl) (fun _ => by kernel_rfl) (fun _ => by kernel_rfl) hd_looks (by rw [PySem.W.Fast.te10110043849684766642, PySem.W.Fast.te14364793385576792824]; unfold looksB; rw [PySem.W.Fast.te4187177175401517315]; intro w os; kernel_rfl)) (Hook.of $H) (Hook.keeps $H) (fun s e => xl_of s (Bool.and_eq_true_iff.mp e).1) XL.keeps (by rfl) (by rfl) (by rfl) (fun s e => recFacts_of (Bool.and_eq_true_iff.mp e).2) (by rfl) (by assumption) (by decide +kernel) ⟨rfl, rfl, rfl, rfl, rfl, by decide +kernel⟩ ?hw ?hc)
set_option maxRecDepth 100000 in
set_option maxHeartbeats 8000000 in
open_top hd for PySem.Challenge.rw_xm0719_01
end Mine
namespace Mine
open PySem PySem.W PySem.Calls PyProof.Rows
-- XExc
set_option maxRecDepth 100000
abbrev fontBm : List Value := [.ref 38, .type "Exception", .type "BaseException", .type "object"]
abbrev fontObj : Obj := excClassObj (Str.ofString "FontFault") (Str.ofString "FontFault") 51 50 [.ref 38] fontBm true [] [] false none none (some (.ref 42)) none (some (.str (Str.ofString "FontFault") 225)) (some (.str (Str.ofString "FontFault") 233)) (some (.bool true)) "Exception.__new__"
theorem font_at {w : World} {h : Heap} (X : (hd.heap_1 w.params).In h) : h.get? 51 = some fontObj := X 51 _ (by k_dflt k_is)
abbrev excBare (t : Addr) : Obj := { cls := .ref 51, data := .fields #[.ref t, .none, .none, .none, .bool false, .none] }
set_option maxHeartbeats 8000000 in
theorem font_new {prog : Program} {w : World} {A : Around} {R : Result → Shared → Prop} {h : Heap} {g : Array GenState} {d : Drawn} {t : Nat} {os : OsState} {v : Value}
    (hC : h.get? 51 = some fontObj)
    (hq : R (.ok (.ret (.ref (h.objs.size + 1)))) ⟨(h.push { cls := .type "tuple", data := .seq #[v] }).push (excBare h.objs.size), g, d, t, os⟩) :
    codeAny (model prog w) A (.builtin "Exception.__new__" ⟨[.ref 51, v], []⟩) R ⟨h, g, d, t, os⟩ := by
  have Fn := PySem.F.excBase_Exception
  have hends := Fn.ends
  have c1 : (Value.ref 51 :: fontBm).contains (.type "Exception") = true := by decide
  have c2 : (Value.ref 51 :: fontBm).contains (.type "AttributeError") = false := by decide
  have c3 : (Value.ref 51 :: fontBm).contains (.type "NameError") = false := by decide
  refine codeAny_builtinAt Fn.entry ?_
  unfold Builtin.«BaseException.__new__»
  refine PySem.wpAt_bind ?_
  show PySem.wpAt _ _ _ (stack >>= _) _ _ _
  refine PySem.wpAt_bind (PySem.wpAt_stack fun p below => PySem.wpAt_of_wpAny ?_)
  wp_walk
  refine PySem.wpAt_of_wpAny ?_
  rw [Fn.owner]
  repeat (first | with_reducible refine wpAny_madeHere_exc Fn.canon hC ?_ | with_reducible refine wpAny_loadPart_at hC ?_ | (with_reducible refine wpAny_isSubtype_exc hC ?_; first | rw [c1] | rw [c2] | rw [c3]) | wp_step)
  show R _ _
  rw [Heap.size_push]
  exact hq
theorem font_check {M : Model} {A : Around} {E : Value → Shared → Prop} {h : Heap} {g : Array GenState} {d : Drawn} {t : Nat} {os : OsState} {v : Value} {Q : Unit → Shared → Prop}
    (hC : h.get? 51 = some fontObj) (hq : Q () ⟨h, g, d, t, os⟩) : wpAny M A (checkBuiltinCall "Exception.__new__" ⟨[.ref 51, v], []⟩) Q E ⟨h, g, d, t, os⟩ := by
  have F := PySem.F.excBase_Exception
  have c1 : (Value.ref 51 :: fontBm).contains (.type "Exception") = true := by decide
  have hstar := F.noStar
  simp only [checkBuiltinCall, F.newKind, F.newSplit, F.newRow]
  repeat (first | refine wpAny_loadPart_at hC ?_ | (refine wpAny_isSubtype_exc hC ?_; rw [c1]) | refine wpAny_staticBase_exc hC ?_ | refine wpAny_madeBy_exc hC ?_ | simp only [bne_self_eq_false, Bool.false_eq_true, if_false] | wp_step)
  exact hq
theorem font_made {M : Model} {h : Heap} (hC : h.get? 51 = some fontObj) : Looks M h (Bind.madeBy (.ref 51)) (some "Exception.__new__") := by
  intro A Q E s k q
  obtain ⟨hh, g, d, t, os⟩ := s
  exact wpAny_madeBy_exc (k _ _ hC) q
theorem font_mro {M : Model} {h : Heap} (hC : h.get? 51 = some fontObj) : Looks M h (mroOf (.ref 51)) (.ref 51 :: fontBm) := by
  intro A Q E s k q
  obtain ⟨hh, g, d, t, os⟩ := s
  exact wpAny_mroOf_exc (k _ _ hC) q
set_option maxHeartbeats 8000000 in
theorem font_core {prog : Program} {w : World} {A : Around} {R : Result → Shared → Prop} {h : Heap} {g : Array GenState} {d : Drawn} {t : Nat} {os : OsState} {v : Value}
    (X : (hd.heap_1 w.params).In h)
    (hq : codeAny (model prog w) (A.under (.builtin "type.__call__" ⟨[.ref 51, v], []⟩)) (.call (.ref 35) ⟨[.ref (h.objs.size + 1), v], []⟩) (InitBack (h.objs.size + 1) R)
      ⟨(h.push { cls := .type "tuple", data := .seq #[v] }).push (excBare h.objs.size), g, d, t, os⟩) :
    codeAny (model prog w) A (.call (.ref 51) ⟨[v], []⟩) R ⟨h, g, d, t, os⟩ := by
  have hC := font_at X
  have call := looks_specialIn (M := model prog w) X (v := .ref 51) (name := "__call__") (r := some (.builtin "type.__call__")) (by k_dflt k_is)
  have typ := looks_instIn (M := model prog w) X (v := .ref 51) (base := .type "type") (r := true) (by k_dflt k_is)
  have hm := font_mro (M := model prog w) hC
  have made := font_made (M := model prog w) hC
  have hi := looks_findIn (M := model prog w) X (t := .ref 51) (name := "__init__") (r := some (.ref 35)) (by k_dflt k_is)
  have hb := fun self => bind_fn (M := model prog w) X (f := 35) self (by k_dflt k_is)
  refine codeAny_of_tree ?_
  show wpAny _ _ (callAny (.ref 51) _) _ _ _
  refine nd_load hC ?_
  show wpAny _ _ (callAny.viaDunder (.ref 51) _) _ _ _
  unfold callAny.viaDunder
  refine wpAny_bind (call.at ?_)
  dsimp only
  rw [tc_bind]
  refine wpAny_bind (wpAny_pure (wpAny_bind (wpAny_pure ?_)))
  refine wpAny_pure (a := Fin.again (.call (.builtin "type.__call__") ⟨[.ref 51, v], []⟩)) (And.intro rfl ?_)
  refine codeAny_call_builtin_at (Code.quiet_builtin _ (by decide +kernel)) entry_typeCall (check_slot tc_kind tc_split typ (tc_args _ _ _) ?_)
  unfold Builtin.«type.__call__»
  repeat (first | simp only [Bool.false_eq_true, if_false] | with_reducible refine wpAny_call ?_ | lk)
  refine codeAny_call_builtin_code (Code.quiet_builtin _ PySem.F.excBase_Exception.quiet) (font_check hC ?_)
  refine font_new hC ?_
  have k : ∀ b o, h.get? b = some o → ((h.push { cls := .type "tuple", data := .seq #[v] }).push (excBare h.objs.size)).get? b = some o := fun b o e => Heap.get?_push_of_some _ (Heap.get?_push_of_some _ e)
  have hx : ((h.push { cls := .type "tuple", data := .seq #[v] }).push (excBare h.objs.size)).get? (h.objs.size + 1) = some (excBare h.objs.size) := by heap_get
  have t1 : Looks (model prog w) ((h.push { cls := .type "tuple", data := .seq #[v] }).push (excBare h.objs.size)) (typeOf (.ref (h.objs.size + 1))) (.ref 51) := (Looks.ld hx).andThen .now
  have s1 := (looks_subIn (M := model prog w) X (t := .ref 51) (base := .ref 51) (r := true) (by k_dflt k_is)).keeps k
  have i1 := hi.keeps k
  have b1 := (hb (.ref (h.objs.size + 1))).keeps k
  show wpAny _ _ _ _ _ _
  unfold isInstance callSpecial? specialOf
  repeat (first | with_reducible refine wpAny_call ?_ | lk)
  refine codeAny_mono hq fun r s' z => ?_
  rcases r with e | (u | _ | _ | _) <;> first | exact z | exact z.elim | skip
  obtain ⟨rfl, z⟩ := z
  exact wpAny_pure (wpAny_pure z)
end Mine
namespace Mine
open PySem PySem.W PySem.Calls PyProof.Rows PySem.Builtin PySem.Builtin.ObjectAttr
-- XExc2
set_option maxRecDepth 100000
theorem font_pass (self : Value) : refuseLoop self "__setattr__" (.ref 51 :: fontBm) = pure () := by
  rw [refuseLoop_ref, refuseLoop_ref]
  exact PySem.F.store_Exception.passes self
abbrev excFull (t dx : Addr) : Obj := { cls := .ref 51, dict := some dx, data := .fields #[.ref t, .none, .none, .none, .bool false, .none] }
set_option maxHeartbeats 8000000 in
theorem font_entry {prog : Program} {w : World} {A : Around} {E : Value → Shared → Prop} {h : Heap} {g : Array GenState} {d : Drawn} {t : Nat} {os : OsState} {v : Value} {e t0 : Addr} {tk : Tok} {Q : Fin → Shared → Prop}
    (X : (hd.heap_1 w.params).In h) (he : h.get? e = some (excBare t0))
    (hq : ∀ h' tk' dx, (∀ b o, b ≠ e → h.get? b = some o → h'.get? b = some o) → h'.get? e = some (excFull t0 dx) → Q (.done (.ret .none)) ⟨h', g, d, tk', os⟩) :
    wpAny (model prog w) A (Builtin.«object.__setattr__» ⟨[.ref e, .str (Str.ofString "message") tk, v], []⟩) Q E ⟨h, g, d, t, os⟩ := by
  have hC := font_at X
  have hpass := font_pass (.ref e)
  have hm := font_mro (M := model prog w) hC
  have ty : Looks (model prog w) h (typeOf (.ref e)) (.ref 51) := (Looks.ld he).andThen .now
  have lk1 := looks_findIn (M := model prog w) X (t := .ref 51) (name := "message") (r := none) (by k_dflt k_is)
  rw [osa_eq, refuse_eq]
  repeat (first | rw [hpass] | lk)
  have hes : e ≠ h.objs.size := Nat.ne_of_lt (Heap.lt_size he)
  have he₁ : (h.push { cls := .type "dict", data := .dict #[] }).get? e = some (excBare t0) := Heap.get?_push_of_some _ he
  refine wpAny_update (f := fun o => { cls := o.cls, dict := some h.objs.size, data := o.data, slots := o.slots }) he₁ ?_
  refine wpAny_pure ?_
  have hgd : ((h.push { cls := .type "dict", data := .dict #[] }).update e fun o => { cls := o.cls, dict := some h.objs.size, data := o.data, slots := o.slots }).get? h.objs.size = some { cls := .type "dict", data := .dict #[] } :=
    (Heap.get?_update_ne _ _ _ _ hes.symm).trans (Heap.get?_push_at rfl rfl)
  have hnd : ((h.push { cls := .type "dict", data := .dict #[] }).update e fun o => { cls := o.cls, dict := some h.objs.size, data := o.data, slots := o.slots }).Ns h.objs.size (fun _ => none) :=
    ⟨_, #[], _, hgd, rfl, fun _ he => absurd he (by simp), fun _ => rfl⟩
  show wpAny _ _ (storeInDict h.objs.size (.str (Str.ofString "message") tk) (Str.ofString "message") v) _ _ _
  unfold storeInDict newKeyGuard
  refine wpAny_bind (wpAny_pure (wpAny_bind (wpAny_nsSet1 (Heap.Ns1.of_empty hnd) fun h' hn' hs => ?_)))
  obtain ⟨oD, esD, epD, hoD, hdD, hcD⟩ := hn'.count (Within.cons (Str.ofString "message") v Within.nil)
  refine wpAny_bind (wpAny_lookBehind hoD (by rw [hdD]; exact pastItsLine_dict (Nat.le_trans hcD (by rw [List.length_cons, List.length_nil, sizeLine_eq]; omega))) ?_)
  wp_walk
  refine hq h' _ h.objs.size (fun b o hb ho => ?_) ?_
  · exact (hs.2 b (Nat.ne_of_lt (Heap.lt_size ho))).trans ((Heap.get?_update_ne _ _ _ _ hb).trans (Heap.get?_push_of_some _ ho))
  · exact (hs.2 e hes).trans (Heap.get?_update_self _ he₁ rfl)
end Mine
namespace Mine
open PySem PySem.W PySem.Calls PyProof.Rows PySem.Builtin PySem.Builtin.ObjectAttr
-- XExc3
set_option maxRecDepth 100000
set_option maxHeartbeats 8000000 in
theorem font_setattr {prog : Program} {w : World} {A : Around} {E : Value → Shared → Prop} {s : Shared} {v : Value} {e t0 : Addr} {Q : Unit → Shared → Prop}
    (X : (hd.heap_1 w.params).In s.heap) (he : s.heap.get? e = some (excBare t0))
    (hq : ∀ h' tk' dx, (∀ b o, b ≠ e → s.heap.get? b = some o → h'.get? b = some o) → h'.get? e = some (excFull t0 dx) → Q () { s with heap := h', toks := tk' }) :
    wpAny (model prog w) A (setAttr (.ref e) (Str.ofString "message") v) Q E s := by
  obtain ⟨h, g, d, t, os⟩ := s
  have SF := PySem.F.store_Exception
  have ty : Looks (model prog w) h (typeOf (.ref e)) (.ref 51) := (Looks.ld he).andThen .now
  have sa := looks_findIn (M := model prog w) X (t := .ref 51) (name := "__setattr__") (r := some (.builtin "object.__setattr__")) (by k_dflt k_is)
  have f3 := SF.slot.bind (.ref e)
  have sub : Looks (model prog w) h (isInstance (.ref e) (.type "object")) true := ty.andThen (looks_subIn X (t := .ref 51) (base := .type "object") (r := true) (by k_dflt k_is))
  unfold setAttr callSpecial? specialOf
  repeat (first | rw [f3] | with_reducible refine wpAny_call ?_ | lk)
  refine codeAny_call_builtin SF.slot.plain SF.entry (@check_slot (model prog w) _ _ _ "object.__setattr__" "object" "__setattr__" (.ref e) _ [] _ SF.kind SF.split sub (SF.args (.ref e) _ v) ?_)
  refine font_entry X he fun h' tk' dx h1 h2 => ?_
  exact wpAny_pure (wpAny_pure (hq h' tk' dx h1 h2))
end Mine
namespace Mine
open PySem PySem.W PySem.Calls PyProof.Rows PySem.Builtin PySem.Builtin.ObjectAttr
-- XExc4
set_option maxRecDepth 100000
set_option maxHeartbeats 8000000 in
theorem font_init {w : World} {A : Around} {R : Result → Shared → Prop} {s : Shared} {x : Str} {tk : Tok} {e t0 : Addr}
    (X : (hd.heap_1 w.params).In s.heap) (hlim : s.heap.NoLimit) (hroom : A.depth < recursionLimit) (he : s.heap.get? e = some (excBare t0))
    (hq : ∀ h' tk' dx, (∀ b o, b ≠ e → s.heap.get? b = some o → h'.get? b = some o) → h'.get? e = some (excFull t0 dx) → R (.ok (.ret .none)) { s with heap := h', toks := tk' }) :
    codeAny (model PySem.Challenge.rw_xm0719_01.row.prog w) A (.call (.ref 35) ⟨[.ref e, .str x tk], []⟩) R s := by
  refine codeAny_call_def (hroom := hroom) (ho := X 35 _ (by k_dflt k_is)) (hdata := rfl) (hlim := hlim) (hcd := codeRec_of X (by k_dflt k_is)) (hbody := rfl) (hbind := BindsTo.of_eq rfl) (hcell := by decide) (hloc := locs rfl) (h := fun h₁ hns hk => ?_)
  have F : Fr s.heap s.heap.objs.size h₁ _ := ⟨hns, hk, Nat.le_refl _⟩
  have N : News s.heap s.heap.objs.size h₁ [] := News.nil
  dsimp only
  iterate 4 walk1
  refine font_setattr (X.keeps hk) (hk _ _ he) fun h' tk' dx h1 h2 => ?_
  dsimp only
  iterate 1 walk1
  dsimp only
  exact hq h' tk' dx (fun b o hb ho => h1 b o hb (hk _ _ ho)) h2
set_option maxHeartbeats 8000000 in
theorem font_call {w : World} {A : Around} {Q E : Value → Shared → Prop} {s : Shared} {x : Str} {tk : Tok}
    (X : (hd.heap_1 w.params).In s.heap) (hlim : s.heap.NoLimit) (hroom : (A.under (.builtin "type.__call__" ⟨[.ref 51, .str x tk], []⟩)).depth < recursionLimit)
    (hq : ∀ h' tk' e t dx, (∀ b o, s.heap.get? b = some o → h'.get? b = some o) → s.heap.get? e = none → h'.get? e = some (excFull t dx) → Q (.ref e) { s with heap := h', toks := tk' }) :
    wpAny (model PySem.Challenge.rw_xm0719_01.row.prog w) A (call (.ref 51) [.str x tk]) Q E s := by
  refine wpAny_call ?_
  obtain ⟨h, g, d, t, os⟩ := s
  refine font_core X ?_
  have k : ∀ b o, h.get? b = some o → ((h.push { cls := .type "tuple", data := .seq #[.str x tk] }).push (excBare h.objs.size)).get? b = some o := fun b o e => Heap.get?_push_of_some _ (Heap.get?_push_of_some _ e)
  have hx : ((h.push { cls := .type "tuple", data := .seq #[.str x tk] }).push (excBare h.objs.size)).get? (h.objs.size + 1) = some (excBare h.objs.size) := by heap_get
  refine font_init (X.keeps k) (hlim.keeps k) hroom hx fun h' tk' dx h1 h2 => ?_
  refine ⟨rfl, hq h' tk' _ _ dx (fun b o ho => h1 b o ?_ (k b o ho)) (Heap.get?_none_of_le (Nat.le_succ _)) h2⟩
  have := Heap.lt_size ho
  exact Nat.ne_of_lt (Nat.lt_succ_of_lt this)
end Mine
namespace Mine
open PySem PySem.W PySem.Calls PyProof.Rows
-- XExc5
set_option maxRecDepth 100000
set_option maxHeartbeats 8000000 in
theorem font_raiseStmt {M : Model} {A : Around} {E : Value → Shared → Prop} {env : Env} {s : Shared} {x : Sem Value} {Q : Flow → Shared → Prop} (hh : A.handled = none)
    (h : wpAny M A x (fun v s₁ => ∃ e t dx, v = .ref e ∧ s₁.heap.get? 51 = some fontObj ∧ s₁.heap.get? e = some (excFull t dx) ∧ E (.ref e) s₁) E s) :
    wpAny M A (raiseStmt env (some x) none) Q E s := by
  have c1 : (Value.ref 51 :: fontBm).contains (.type "BaseException") = true := by decide
  unfold raiseStmt
  refine wpAny_bind (wpAny_mono h (fun v s₁ h₁ => ?_) fun _ _ x => x)
  obtain ⟨e, t, dx, rfl, hC, he, hE⟩ := h₁
  obtain ⟨hp, g, d, tk, os⟩ := s₁
  repeat (first | with_reducible refine wpAny_loadPart_at he ?_ | with_reducible refine wpAny_loadPart_at hC ?_ | (with_reducible refine wpAny_isSubtype_exc hC ?_; rw [c1]) | wp_step)
  exact wpAny_raiseNew_none hh hE
set_option maxHeartbeats 8000000 in
theorem font_raise {w : World} {A : Around} {E : Value → Shared → Prop} {s : Shared} {h₀ : Heap} {L a : Addr} {m mg mb : Str → Option Value} {mean : ExcName → Option Value} {cn : Str} {cs : Scope} {ccd : Value} {msg : Str} {np cp cpos pos : Pos} {kk : Nat} {Q : Flow → Shared → Prop}
    (F : Fr h₀ L s.heap m) (X : (hd.heap_1 w.params).In h₀) (T : Top hd.view_39 (looseW hd.view_39 [Str.ofString "Outline"]) mean mg mb h₀) (hh : A.handled = none) (hroom : A.depth + 5 < recursionLimit)
    (hk : cs.kind = .function) (hx : (envOf cn cs L a ccd).kindOf (Str.ofString "FontFault") = some .globalImplicit) (hm : msg.length ≤ sizeLine)
    (hq : ∀ h' tk' e t dx, (∀ b o, s.heap.get? b = some o → h'.get? b = some o) → s.heap.get? e = none → h'.get? e = some (excFull t dx) → E (.ref e) { s with heap := h', toks := tk' }) :
    wpAny (model PySem.Challenge.rw_xm0719_01.row.prog w) A (exec (.Raise (some (.Call (.Name (Str.ofString "FontFault") np) [.Constant (.str msg) kk cp] [] cpos)) none pos) (envOf cn cs L a ccd)) Q E s := by
  have X1 : (hd.heap_1 w.params).In s.heap := X.keeps F.keep
  rw [arm_exec_Raise]
  refine wpAny_bind (wpAny_standAt (font_raiseStmt hh ?_))
  refine wpAny_bind (wpAny_mono (wpAny_Call_ofName (name_K F X (topRead_of T) (v := .ref 51) (by k_dflt k_is) ?_ hk hx)) (fun v s₃ h₃ => wpAny_bind (wpAny_standAt (wpAny_pure h₃))) fun _ _ x => x)
  refine callWith_K X (by k_dflt k_is) ?_
  iterate 3 walk1
  refine ⟨X1, ?_⟩
  show wpAny _ _ (call (Value.ref 51) [_]) _ _ _
  refine font_call X1 (T.nolimit.keeps F.keep) ?_ fun h' tk' e t dx h1 h2 h3 => ?_
  · rw [depth_under_make]; omega
  · exact ⟨e, t, dx, rfl, font_at (X1.keeps h1), h3, hq h' tk' e t dx h1 h2 h3⟩
end Mine
namespace Mine
open PySem PySem.W PySem.Calls PyProof.Rows
-- XExc6
set_option maxRecDepth 100000
theorem mem_frX {b : Addr} {name : Str} {scope : Scope} {L a : Addr} {cd : Value} {cl : List (Str × Addr)} {outer : List Env} (hm : b ∈ (envX name scope L a cd cl :: outer).filterMap (·.frame)) : b = L ∨ b ∈ outer.filterMap (·.frame) := by
  obtain ⟨env, he, hf⟩ := List.mem_filterMap.mp hm
  rcases List.mem_cons.mp he with rfl | he
  · exact .inl (Option.some.inj hf).symm
  · exact .inr (List.mem_filterMap.mpr ⟨env, he, hf⟩)
theorem font_leave {M : Model} {A : Around} {E : Value → Shared → Prop} {s' : Shared} {base g h : Heap} {outer : List Env} {L a e t dx : Addr} {m : Str → Option Value} {name : Str} {scope : Scope} {cd : Value} {Q : Unit → Shared → Prop}
    (K : Below A base outer g) (F : Fr g L h m) (hkeep : ∀ b o, h.get? b = some o → s'.heap.get? b = some o) (hnew : h.get? e = none) (hthere : s'.heap.get? e = some (excFull t dx))
    (hQ : ∀ h', RaisedSN base g outer e (.ref 51) [] h' → g.UpToSlots h' → Q () { s' with heap := h' }) (hk : scope.kind = .function := by rfl) :
    wpAny M (A.deeper (envOf name scope L a cd)) (leaving (envOf name scope L a cd) (.ref e)) Q E s' := by
  have K' := K.push (name := name) (a := a) (cd := cd) F hk
  have hin : ∀ env ∈ (envOf name scope L a cd :: outer), ∀ b, env.frame = some b → b ∈ (envOf name scope L a cd :: outer).filterMap (·.frame) := fun env he b hb => List.mem_filterMap.mpr ⟨env, he, hb⟩
  have st : base.StaysIn (hideAll h ((envOf name scope L a cd :: outer).filterMap (·.frame))) := fun b o q => hideAll_get _ (K'.stays b o q) fun hm => by
    rw [(K'.frames.mem hm).1] at q; cases q
  have sg : ∀ b o, g.get? b = some o → b ∉ outer.filterMap (·.frame) → (hideAll h ((envOf name scope L a cd :: outer).filterMap (·.frame))).get? b = some o := fun b o q nm => hideAll_get _ (F.keep b o q) fun hm => by
    rcases kts_mem hm with z | z
    · rw [z, kts_self F] at q
      cases q
    · exact nm z
  have hen : (hideAll h ((envOf name scope L a cd :: outer).filterMap (·.frame))).get? e = none := by
    cases q : (hideAll h ((envOf name scope L a cd :: outer).filterMap (·.frame))).get? e with
    | none => rfl
    | some o => have := of_hideAll _ q; rw [hnew] at this; cases this
  refine wpAny_leaving_firstW (a0 := .ref t) K'.stack ((funFrames_hide K'.frames hin).of_keeps fun b o hb _ => ⟨o, hkeep b o hb, rfl⟩) rfl hthere (fun b o hb => hkeep b o (of_hideAll _ hb)) hen rfl rfl rfl fun h' hL => ?_
  obtain ⟨k1, ⟨_, _, k2⟩, k3, k4⟩ := hL
  exact hQ h' ⟨_, .ref t, st, sg, (fun _ hq => nomatch hq), k1, hen, k2, k3⟩ (((Heap.UpToSlots.of_keeps F.keep).trans (Heap.UpToSlots.of_keeps hkeep)).trans k4)
theorem leave_onSX {M : Model} {A : Around} {E : Value → Shared → Prop} {s' : Shared} {base g g₂ : Heap} {outer : List Env} {L a e : Addr} {m : Str → Option Value} {cn : Str} {cs : Scope} {ccd : Value} {cl : List (Str × Addr)} {Q : Unit → Shared → Prop} {news : List (Addr × Obj)} {cls : Value}
    (K : Below A base outer g) (F : Fr g L g₂ m) (R : RaisedSN base g₂ (envX cn cs L a ccd cl :: outer) e cls news s'.heap) (hsm : g₂.UpToSlots s'.heap)
    (hQ : ∀ h', RaisedSN base g outer e cls news h' → g.UpToSlots h' → Q () { s' with heap := h' }) :
    wpAny M (A.deeper (envX cn cs L a ccd cl)) (leaving (envX cn cs L a ccd cl) (.ref e)) Q E s' := by
  obtain ⟨B, a0, hB, hBG, hl, hfl⟩ := R
  exact wpAny_leaves_onW (Around.frames_deeper K.stack) rfl hfl fun h' x1 x2 =>
    hQ h' ⟨B, a0, hB, fun b o q nm => hBG b o (F.keep b o q) (fun hm => by
      rcases mem_frX hm with z | z
      · rw [z, kts_self F] at q
        cases q
      · exact nm z), fun q hq => ⟨(hl q hq).1, kts_none F.keep (hl q hq).2.1, (hl q hq).2.2⟩, x1⟩ ((Heap.UpToSlots.of_keeps F.keep).trans (hsm.trans x2))
end Mine
namespace Mine
open PySem PySem.W PySem.Calls PyProof.Rows
-- XBase
set_option maxRecDepth 100000

/-- what stands at the law's own base -/
structure Bs (w : World) (mean : ExcName → Option Value) (mg mb : Str → Option Value) (base : Heap) : Prop where
  X : (hd.heap_1 w.params).In base
  T : Top hd.view_39 (looseW hd.view_39 [Str.ofString "Outline"]) mean mg mb base

/-- a caller's standing: its frames, and the addresses U that a call may turn -/
structure Cx (w : World) (A : Around) (base : Heap) (envs : List Env) (U : List Addr) (h : Heap) : Prop where
  bs : ∃ mean mg mb, Bs w mean mg mb base
  frames : A.frames = some envs
  stays : base.StaysIn h
  ff : h.FunFrames base envs
  fresh : ∀ u ∈ U, base.get? u = none
  off : ∀ env ∈ envs, ∀ u ∈ U, env.frame ≠ some u

/-- all but U stands as it stood -/
def Same (U : List Addr) (h h' : Heap) : Prop := ∀ b o, b ∉ U → h.get? b = some o → h'.get? b = some o
/-- what stands behind a call: turned (in U) or new -/
def Now (U : List Addr) (h h' : Heap) (led : List (Addr × Obj)) : Prop := ∀ p ∈ led, h'.get? p.1 = some p.2 ∧ (p.1 ∈ U ∨ h.get? p.1 = none)

theorem Same.refl {U : List Addr} {h : Heap} : Same U h h := fun _ _ _ e => e
theorem Same.trans {U : List Addr} {h h' h'' : Heap} (a : Same U h h') (b : Same U h' h'') : Same U h h'' := fun x o hx e => b x o hx (a x o hx e)
theorem Same.mono {U V : List Addr} {h h' : Heap} (a : Same U h h') (s : ∀ u ∈ U, u ∈ V) : Same V h h' := fun x o hx e => a x o (fun m => hx (s x m)) e

theorem same_of {g h h' : Heap} {U : List Addr} {L : Addr} {m : Str → Option Value} (hg : g = hideAll h U) (F : Fr g L h' m) : Same U h h' := fun b o hb e => F.keep b o (by rw [hg]; exact hideAll_get _ e hb)
theorem hideAll_of {h : Heap} {U : List Addr} {b : Addr} (e : (hideAll h U).get? b = none) : b ∈ U ∨ h.get? b = none := by
  by_cases hb : b ∈ U
  · exact .inl hb
  · right
    cases q : h.get? b with
    | none => rfl
    | some o => rw [hideAll_get _ q hb] at e; cases e
theorem now_of {g h h' : Heap} {U : List Addr} {L : Addr} {led : List (Addr × Obj)} (hg : g = hideAll h U) (N : News g L h' led) : Now U h h' led := fun p hp =>
  ⟨(N p hp).1, hideAll_of (by rw [← hg]; exact (N p hp).2.2)⟩

section
variable {w : World} {A : Around} {base h₀ h h' : Heap} {outer envs : List Env} {U : List Addr} {L a : Addr} {m mg mb : Str → Option Value} {mean : ExcName → Option Value} {cn : Str} {cs : Scope} {ccd : Value} {cl : List (Str × Addr)} {news rest led : List (Addr × Obj)}
theorem cx_of (hB : Bs w mean mg mb base) (B : Below A base outer h₀) (F : Fr h₀ L h m) (N : News h₀ L h news) (hU : ∀ u ∈ U, ∃ o, (u, o) ∈ news) (hk : cs.kind = .function := by rfl) :
    Cx w (A.deeper (envX cn cs L a ccd cl)) base (envX cn cs L a ccd cl :: outer) U h := by
  have B₁ : Below (A.deeper (envX cn cs L a ccd cl)) base (envX cn cs L a ccd cl :: outer) h := by
    refine ⟨Around.frames_deeper B.stack, fun b o e => F.keep b o (B.stays b o e), ?_⟩
    have hnew : base.get? L = none := by
      cases hq : base.get? L with
      | none => rfl
      | some o => exact absurd (Nat.lt_of_lt_of_le (Heap.lt_size (B.stays L o hq)) F.above) (Nat.lt_irrefl _)
    exact .cons (by show cs.kind ≠ .module; rw [hk]; decide) rfl F.ns hnew (B.frames.of_keeps fun b o e _ => ⟨o, F.keep b o e, rfl⟩)
  refine ⟨⟨_, _, _, hB⟩, B₁.stack, B₁.stays, B₁.frames, fun u hu => ?_, fun env he u hu hf => ?_⟩
  · obtain ⟨o, ho⟩ := hU u hu
    exact fresh_of_stays B.stays (N _ ho).2.2
  · obtain ⟨o, ho⟩ := hU u hu
    rcases List.mem_cons.mp he with rfl | he
    · exact (N _ ho).2.1 (Option.some.inj hf).symm
    · obtain ⟨L₁, o₁, hf₁, ho₁⟩ := funFrames_in B.frames env he
      rw [hf₁] at hf
      obtain rfl := Option.some.inj hf
      have := (N _ ho).2.2
      rw [ho₁] at this
      cases this
theorem fr_same (F : Fr h₀ L h m) (N : News h₀ L h news) (hU : ∀ u ∈ U, ∃ o, (u, o) ∈ news) (S : Same U h h') : Fr h₀ L h' m := by
  have nu : ∀ u ∈ U, h₀.get? u = none ∧ u ≠ L := fun u hu => by
    obtain ⟨o, ho⟩ := hU u hu
    exact ⟨(N _ ho).2.2, (N _ ho).2.1⟩
  obtain ⟨oL, es, ep, hL, r⟩ := F.ns
  refine ⟨⟨oL, es, ep, S L oL (fun hm => (nu L hm).2 rfl) hL, r⟩, fun b o e => S b o (fun hm => ?_) (F.keep b o e), F.above⟩
  rw [(nu b hm).1] at e
  cases e
theorem news_same (N : News h₀ L h news) (S : Same U h h') (hr : ∀ p ∈ rest, p ∈ news) (hU : ∀ p ∈ rest, p.1 ∉ U) : News h₀ L h' rest := fun p hp =>
  ⟨S _ _ (hU p hp) (N p (hr p hp)).1, (N p (hr p hp)).2⟩
theorem news_now (F : Fr h₀ L h m) (N : News h₀ L h news) (hU : ∀ u ∈ U, ∃ o, (u, o) ∈ news) (W : Now U h h' led) : News h₀ L h' led := fun p hp => by
  obtain ⟨h1, h2 | h2⟩ := W p hp
  · obtain ⟨o, ho⟩ := hU _ h2
    exact ⟨h1, (N _ ho).2⟩
  · refine ⟨h1, fun q => ?_, ?_⟩
    · obtain ⟨oL, _, _, hL, _⟩ := F.ns
      rw [q, hL] at h2
      cases h2
    · cases q : h₀.get? p.1 with
      | none => rfl
      | some o => rw [F.keep _ _ q] at h2; cases h2
theorem news_cat (a : News h₀ L h led) (b : News h₀ L h rest) : News h₀ L h (led ++ rest) := fun p hp => (List.mem_append.mp hp).elim (a p) (b p)
/-- what is new is apart from what stood -/
theorem now_apart {p q : Addr × Obj} (N : News h₀ L h news) (W : Now U h h' led) (hp : p ∈ led) (hpU : p.1 ∉ U) (hq : q ∈ news) : q.1 ≠ p.1 := fun e => by
  rcases (W p hp).2 with h2 | h2
  · exact hpU h2
  · have := (N q hq).1
    rw [e, h2] at this
    cases this
end

section
variable {w : World} {A : Around} {s : Shared} {base : Heap} {envs : List Env} {U : List Addr} {use : List (Addr × Obj)}
  {R : Result → Shared → Prop} {name qual : Str} {params : Arguments} {body : List Stmt} {scope : Scope} {dV kV doc pm cdv ct oc : Value} {an od : Option Addr} {osl : Array (Option Value)} {f : Addr} {args : Args} {binds : List (Str × Value)}

theorem enter (C : Cx w A base envs U s.heap) (hu : ∀ p ∈ use, s.heap.get? p.1 = some p.2 ∧ p.1 ∈ U)
    (ho : (hd.heap_1 w.params).lookup f = some ⟨oc, od, .func (fnOf name qual params body scope dV kV doc pm an cdv ct), osl⟩) (hcd : codeIn (hd.heap_1 w.params) cdv qual = true) (hroom : A.depth < recursionLimit)
    (hbind : BindsTo s (fnOf name qual params body scope dV kV doc pm an cdv ct) args binds) (hloc : ∀ y ∈ binds, scope.names.lookup y.1 = some .local)
    (h : ∀ g L h₁ mean mg mb, L = s.heap.objs.size → g = hideAll s.heap U → Bs w mean mg mb base → Fr g L h₁ (fun y => binds.reverse.lookup y) → News g L h₁ use → Below A base envs g → (hd.heap_1 w.params).In g → Top hd.view_39 (looseW hd.view_39 [Str.ofString "Outline"]) mean mg mb g →
      wpAny (model PySem.Challenge.rw_xm0719_01.row.prog w) (A.deeper (envOf qual scope L f cdv)) (execs body (envOf qual scope L f cdv))
        (fun fl s' => R (.ok (.ret (match fl with | .ret v => v | _ => .none))) s')
        (fun e s' => wpAny (model PySem.Challenge.rw_xm0719_01.row.prog w) (A.deeper (envOf qual scope L f cdv)) (leaving (envOf qual scope L f cdv) e) (fun _ s'' => R (.error e) s'') (fun e' s'' => R (.error e') s'') s')
        { s with heap := h₁, toks := s.toks + binds.length })
    (hco : scope.isCoroutine = false) (hgen : scope.isGenerator = false) (hk : scope.kind = .function)
    (hcell : ∀ x ∈ scope.names, x.2 ≠ .cell) : codeAny (model PySem.Challenge.rw_xm0719_01.row.prog w) A (.call (.ref f) args) R s := by
  obtain ⟨⟨mean, mg, mb, bs⟩, frames, stays, ff, fresh, off⟩ := C
  have X : (hd.heap_1 w.params).In s.heap := bs.X.keeps stays
  refine codeAny_call_def (fd := fnOf name qual params body scope dV kV doc pm an cdv ct) (body := body) (binds := binds) hroom (X _ _ ho) rfl (bs.T.nolimit.keeps stays) (codeRec_of X hcd) rfl hbind hcell hloc (fun h₁ hns hk₁ => ?_) hco hgen hk
  have stg : base.StaysIn (hideAll s.heap U) := fun b o e => hideAll_get _ (stays b o e) fun hm => by rw [fresh b hm] at e; cases e
  exact h _ _ h₁ mean mg mb rfl rfl bs ⟨hns, fun b o e => hk₁ b o (of_hideAll _ e), Nat.le_of_eq (hideAll_size _ _)⟩
    (fun p hp => ⟨hk₁ _ _ (hu p hp).1, Nat.ne_of_lt (Heap.lt_size (hu p hp).1), hideAll_none _ (hu p hp).2⟩)
    ⟨frames, stg, funFrames_hideAll ff fun env he b hb => off env he b hb⟩ (bs.X.keeps stg) (bs.T.keeps stg)
end
end Mine
namespace Mine
open PySem PySem.W PySem.Calls PyProof.Rows
local macro_rules | `(tactic| walk_at $s:str) => `(tactic| k_extra $s)
local macro_rules | `(tactic| k_ne) => `(tactic| k_extra "k_ne")
local macro_rules | `(tactic| k_all) => `(tactic| k_extra "k_all")
local macro_rules | `(tactic| k_mem) => `(tactic| k_extra "k_mem")
local macro_rules | `(tactic| k_lt $_) => `(tactic| skip)
section
open PySem PySem.W PySem.Calls PyProof.Rows
-- XTake
set_option maxRecDepth 100000
abbrev Ar (dp un : Nat) (gd : Option (List Code)) (envs : List Env) : Around := { handled := none, depth := dp, frames := some envs, guards := gd, units := un }
theorem lnXTake_1 : True := by
  w_top off
  k_with_none
  (k_with "c enter" => (refine wpAny_call ?_; k_dflt (refine' enter (by assumption) (by first | assumption | exact use_nil) (by k_is) (by k_is) (by first | assumption | (dsimp only; omega)) (by exact BindsTo.of_eq rfl) (by exact locs rfl) ?_ (by exact rfl) (by exact rfl) (by exact rfl) (by decide); k_whole; intro _ _ _ _ _ _ _ _ _ _ _ _ _ _; (try dsimp only); (try k_fold))))
  trivial
theorem use_one {h : Heap} {S : Addr} {o : Obj} (hS : h.get? S = some o) : ∀ p ∈ [(S, o)], h.get? p.1 = some p.2 ∧ p.1 ∈ [S] := fun p hp => by
  rw [List.mem_singleton.mp hp]
  exact ⟨hS, .head _⟩
theorem use_nil {h : Heap} {U : List Addr} : ∀ p ∈ ([] : List (Addr × Obj)), h.get? p.1 = some p.2 ∧ p.1 ∈ U := fun _ hp => nomatch hp
theorem my_item {prog : Program} {w : World} {A : Around} {E : Value → Shared → Prop} {s : Shared} {value slice : PySem.Expr} {l : Addr} {vs : List Value} {k : Int} {u : Tok} {v : Value} {Q : Value → Shared → Prop}
    (hl : s.heap.IsList l vs.toArray) (h0 : 0 ≤ k) (hhi : k < 2 ^ 63) (hx : vs[k.toNat]? = some v) (h : Q v s)
    (hs : subscripted slice false (.ref l) (.int k u) = operate [.ref l, .int k u] (getItem (.ref l) (.int k u)) := by with_unfolding_all rfl) :
    wpAny (model prog w) A (subscriptTail value slice (.ref l) (.int k u)) Q E s :=
  tail_any hl.typeIs slot_list_getitem.lookup (wpAny_getItem_list hl h0 hhi (by simpa using hx) h) hs
theorem lnXTake_2 : True := by
  (k_with "subscriptTail Name Constant ref int" => (k_here; (with_reducible show wpAny _ _ (subscriptTail _ _ (Value.ref _) (Value.int _ _)) _ _ _); (with_unfolding_all refine' my_item (by is_list) (by decide) (by decide) (by rfl) ?_ (by with_unfolding_all rfl); k_whole)))
  trivial
theorem my_itemN {prog : Program} {w : World} {A : Around} {E : Value → Shared → Prop} {s : Shared} {value slice : PySem.Expr} {l : Addr} {vs : List Value} {k : Int} {u : Tok} {Q : Value → Shared → Prop}
    (hl : s.heap.IsList l vs.toArray) (h0 : 0 ≤ k) (h1 : k < vs.length) (hfit : vs.length < 2 ^ 62) (h : ∀ v, vs[k.toNat]? = some v → Q v s)
    (hs : subscripted slice false (.ref l) (.int k u) = operate [.ref l, .int k u] (getItem (.ref l) (.int k u)) := by with_unfolding_all rfl) :
    wpAny (model prog w) A (subscriptTail value slice (.ref l) (.int k u)) Q E s := by
  have hx : vs[k.toNat]? = some (vs[k.toNat]'(by omega)) := List.getElem?_eq_getElem (by omega)
  exact my_item hl h0 (by omega) hx (h _ hx) hs
theorem my_len {prog : Program} {w : World} {A : Around} {E : Value → Shared → Prop} {s : Shared} {l : Addr} {vs : List Value} {Q : Value → Shared → Prop}
    (hl : s.heap.IsList l vs.toArray) (hfit : vs.length < 2 ^ 62) (h : ∀ t tk, Q (.int vs.length t) { s with toks := tk }) : wpAny (model prog w) A (call (.builtin "len") [.ref l]) Q E s :=
  call_len_list hl (by rw [List.size_toArray]; omega) (by rw [List.size_toArray]; exact h _ _)
theorem fm {a m : Int} (h : 0 < m) : 0 ≤ a.fmod m ∧ a.fmod m < m := ⟨Int.fmod_nonneg_of_pos _ h, Int.fmod_lt_of_pos _ h⟩
set_option maxHeartbeats 8000000 in
theorem take_spec {w : World} {dp un : Nat} {gd : Option (List Code)} {base : Heap} {envs : List Env} {s : Shared} {Q E : Value → Shared → Prop} {S : Addr} {x y top : Int} {tx ty tt : Tok} {n : Nat}
  (C : Cx w (Ar dp un gd envs) base envs [S] s.heap) (hS : s.heap.get? S = some (listOf #[Value.int x tx, Value.int y ty] n))
  (hy0 : 0 ≤ y) (hy1 : y < 2147483647) (ht0 : 0 < top) (ht1 : top < 1000) (hroom : dp + 1 < recursionLimit)
  (k : ∀ r tr x' y' tx' ty' h' tk', 0 ≤ r → r < top → 0 ≤ y' → y' < 2147483647 → Same [S] s.heap h' → Now [S] s.heap h' [(S, listOf #[Value.int x' tx', Value.int y' ty'] n)] → Q (.int r tr) { s with heap := h', toks := tk' }) :
  wpAny (model PySem.Challenge.rw_xm0719_01.row.prog w) (Ar dp un gd envs) (call (.ref 218) [.ref S, .int top tt]) Q E s := by
  have hu := use_one hS
  walk_at "c enter"
  k_steps
  all_goals (dsimp only; refine k _ _ _ _ _ _ _ _ ?_ ?_ ?_ ?_ (same_of (by assumption) (by assumption)) (now_of (by assumption) (by assumption)))
  all_goals first | exact (fm ht0).1 | exact (fm ht0).2 | assumption | exact (fm (by decide)).1 | exact (fm (by decide)).2

inductive Pick (a : Addr) (o : Obj) : List (Addr × Obj) → List (Addr × Obj) → Prop
  | head {r} : Pick a o ((a, o) :: r) r
  | tail {p r r'} : Pick a o r r' → Pick a o (p :: r) (p :: r')
theorem Pick.mem {a : Addr} {o : Obj} {l r : List (Addr × Obj)} (h : Pick a o l r) : (a, o) ∈ l := by
  induction h with
  | head => exact .head _
  | tail _ ih => exact .tail _ ih
theorem Pick.rest {a : Addr} {o : Obj} {l r : List (Addr × Obj)} (h : Pick a o l r) : ∀ p ∈ r, p ∈ l := by
  induction h with
  | head => exact fun p hp => .tail _ hp
  | tail _ ih =>
    intro p hp
    rcases List.mem_cons.mp hp with rfl | hp
    · exact .head _
    · exact .tail _ (ih p hp)
section
variable {w : World} {A : Around} {base h₀ h : Heap} {outer : List Env} {L a S S₂ : Addr} {o o₂ : Obj} {m mg mb : Str → Option Value} {mean : ExcName → Option Value} {cn : Str} {cs : Scope} {ccd : Value} {cl : List (Str × Addr)} {news rest r₁ : List (Addr × Obj)}
theorem use_spec0 (hB : Bs w mean mg mb base) (B : Below A base outer h₀) (F : Fr h₀ L h m) (N : News h₀ L h news) (hk : cs.kind = .function := by rfl) :
    Cx w (A.deeper (envX cn cs L a ccd cl)) base (envX cn cs L a ccd cl :: outer) [] h ∧
      ∀ h' led, Same [] h h' → Now [] h h' led → Fr h₀ L h' m ∧ News h₀ L h' (led ++ news) := by
  have hU : ∀ u ∈ ([] : List Addr), ∃ o, (u, o) ∈ news := fun _ hu => nomatch hu
  exact ⟨cx_of hB B F N hU hk, fun h' led hS hN => ⟨fr_same F N hU hS, news_cat (news_now F N hU hN) (news_same N hS (fun _ h => h) fun _ _ h => nomatch h)⟩⟩
theorem use_spec1 (hB : Bs w mean mg mb base) (B : Below A base outer h₀) (F : Fr h₀ L h m) (N : News h₀ L h news) (P : Pick S o news rest) (D : ∀ p ∈ rest, p.1 ≠ S) (hk : cs.kind = .function := by rfl) :
    Cx w (A.deeper (envX cn cs L a ccd cl)) base (envX cn cs L a ccd cl :: outer) [S] h ∧ h.get? S = some o ∧
      ∀ h' led, Same [S] h h' → Now [S] h h' led → Fr h₀ L h' m ∧ News h₀ L h' (led ++ rest) := by
  have hU : ∀ u ∈ [S], ∃ o, (u, o) ∈ news := fun u hu => by rw [List.mem_singleton.mp hu]; exact ⟨o, P.mem⟩
  exact ⟨cx_of hB B F N hU hk, (N _ P.mem).1, fun h' led hS hN => ⟨fr_same F N hU hS, news_cat (news_now F N hU hN) (news_same N hS P.rest fun p hp hm => D p hp (List.mem_singleton.mp hm))⟩⟩
theorem use_spec2 (hB : Bs w mean mg mb base) (B : Below A base outer h₀) (F : Fr h₀ L h m) (N : News h₀ L h news) (P : Pick S o news r₁) (P₂ : Pick S₂ o₂ r₁ rest) (D : ∀ p ∈ r₁, p.1 ≠ S) (D₂ : ∀ p ∈ rest, p.1 ≠ S₂) (hk : cs.kind = .function := by rfl) :
    Cx w (A.deeper (envX cn cs L a ccd cl)) base (envX cn cs L a ccd cl :: outer) [S, S₂] h ∧ h.get? S = some o ∧ h.get? S₂ = some o₂ ∧
      ∀ h' led, Same [S, S₂] h h' → Now [S, S₂] h h' led → Fr h₀ L h' m ∧ News h₀ L h' (led ++ rest) := by
  have hU : ∀ u ∈ [S, S₂], ∃ o, (u, o) ∈ news := fun u hu => by
    rcases List.mem_cons.mp hu with rfl | hu
    · exact ⟨o, P.mem⟩
    · rw [List.mem_singleton.mp hu]; exact ⟨o₂, P.rest _ P₂.mem⟩
  refine ⟨cx_of hB B F N hU hk, (N _ P.mem).1, (N _ (P.rest _ P₂.mem)).1, fun h' led hS hN => ⟨fr_same F N hU hS, news_cat (news_now F N hU hN) (news_same N hS (fun p hp => P.rest p (P₂.rest p hp)) fun p hp hm => ?_)⟩⟩
  rcases List.mem_cons.mp hm with q | hm
  · exact D p (P₂.rest p hp) q
  · exact D₂ p hp (List.mem_singleton.mp hm)
theorem via0 {M : Model} {s : Shared} {t : Sem Value} {Q E : Value → Shared → Prop} (hB : Bs w mean mg mb base) (B : Below A base outer h₀) (F : Fr h₀ L s.heap m) (N : News h₀ L s.heap news) (hk : cs.kind = .function)
    (k : Cx w (A.deeper (envX cn cs L a ccd cl)) base (envX cn cs L a ccd cl :: outer) [] s.heap → (∀ h' led, Same [] s.heap h' → Now [] s.heap h' led → Fr h₀ L h' m ∧ News h₀ L h' (led ++ news)) →
      wpAny M (A.deeper (envX cn cs L a ccd cl)) t Q E s) : wpAny M (A.deeper (envX cn cs L a ccd cl)) t Q E s :=
  let ⟨a, b⟩ := use_spec0 hB B F N hk
  k a b
theorem via1 {M : Model} {s : Shared} {f : Value} {vs : List Value} {Q E : Value → Shared → Prop} (hB : Bs w mean mg mb base) (B : Below A base outer h₀) (F : Fr h₀ L s.heap m) (N : News h₀ L s.heap news) (P : Pick S o news rest) (D : ∀ p ∈ rest, p.1 ≠ S) (hk : cs.kind = .function)
    (k : Cx w (A.deeper (envX cn cs L a ccd cl)) base (envX cn cs L a ccd cl :: outer) [S] s.heap → s.heap.get? S = some o → (∀ h' led, Same [S] s.heap h' → Now [S] s.heap h' led → Fr h₀ L h' m ∧ News h₀ L h' (led ++ rest)) →
      wpAny M (A.deeper (envX cn cs L a ccd cl)) (call f (.ref S :: vs)) Q E s) : wpAny M (A.deeper (envX cn cs L a ccd cl)) (call f (.ref S :: vs)) Q E s :=
  let ⟨a, b, c⟩ := use_spec1 hB B F N P D hk
  k a b c
theorem via2 {M : Model} {s : Shared} {f : Value} {C : Addr} {vs : List Value} {Q E : Value → Shared → Prop} (hB : Bs w mean mg mb base) (B : Below A base outer h₀) (F : Fr h₀ L s.heap m) (N : News h₀ L s.heap news) (P : Pick S (instObj C S₂) news r₁) (P₂ : Pick S₂ o₂ r₁ rest) (D : ∀ p ∈ r₁, p.1 ≠ S) (D₂ : ∀ p ∈ rest, p.1 ≠ S₂) (hk : cs.kind = .function)
    (k : Cx w (A.deeper (envX cn cs L a ccd cl)) base (envX cn cs L a ccd cl :: outer) [S, S₂] s.heap → s.heap.get? S = some (instObj C S₂) → s.heap.get? S₂ = some o₂ → (∀ h' led, Same [S, S₂] s.heap h' → Now [S, S₂] s.heap h' led → Fr h₀ L h' m ∧ News h₀ L h' (led ++ rest)) →
      wpAny M (A.deeper (envX cn cs L a ccd cl)) (call f (.ref S :: vs)) Q E s) : wpAny M (A.deeper (envX cn cs L a ccd cl)) (call f (.ref S :: vs)) Q E s :=
  let ⟨a, b, c, d⟩ := use_spec2 hB B F N P P₂ D D₂ hk
  k a b c d
theorem now_new {h' : Heap} {p : Addr × Obj} {r : List (Addr × Obj)} (W : Now [] h h' (p :: r)) : h.get? p.1 = none := (W p (.head _)).2.elim (fun h => nomatch h) id
theorem now_sub {g h h' : Heap} {U : List Addr} {L : Addr} {big led : List (Addr × Obj)} (hg : g = hideAll h U) (N : News g L h' big) (hs : ∀ p ∈ led, p ∈ big) : Now U h h' led := now_of hg fun p hp => N p (hs p hp)
theorem now_at {h' : Heap} {led : List (Addr × Obj)} {p : Addr × Obj} (W : Now [] h h' led) (hp : p ∈ led) : h.get? p.1 = none := (W p hp).2.elim (fun h => nomatch h) id
theorem apart_new {l : Addr} (N : News h₀ L h news) (hl : h.get? l = none) : ∀ p ∈ news, p.1 ≠ l := fun p hp e => by
  have := (N p hp).1
  rw [e, hl] at this
  cases this
end
/-- inequalities that omega does not see -/
structure Apt (a b : Nat) : Prop where
  ne : a ≠ b
structure NewAt (l : Nat) (news : List (Addr × Obj)) : Prop where
  all : ∀ p ∈ news, p.1 ≠ l
theorem NewAt.ne {l a : Nat} {o : Obj} {news : List (Addr × Obj)} (h : NewAt l news) (hm : (a, o) ∈ news) : a ≠ l := h.all _ hm
theorem NewAt.sub {l : Nat} {news nx : List (Addr × Obj)} (h : NewAt l news) (hs : ∀ p ∈ nx, p ∈ news) : ∀ p ∈ nx, p.1 ≠ l := fun p hp => h.all p (hs p hp)
theorem room0 {dp a n : Nat} (h : dp + a < n) : dp < n := Nat.lt_of_le_of_lt (Nat.le_add_right _ _) h
theorem room1 {dp a c n : Nat} (h : dp + a < n) (e : c ≤ a) : dp + c < n := Nat.lt_of_le_of_lt (Nat.add_le_add_left e _) h
theorem room2 {dp a b c n : Nat} (h : dp + a < n) (e : b + c ≤ a) : dp + b + c < n := by rw [Nat.add_assoc]; exact room1 h e
theorem size2 {a b c d : Nat} (e : a = b) (h : b < c) (k : c ≤ d) : a < d := e ▸ Nat.lt_of_lt_of_le h k
theorem ne_gt {D x : Nat} {o : Obj} {l : List (Addr × Obj)} (h : ∀ p ∈ l, p.1 < D) (m : (x, o) ∈ l) : D ≠ x := Nat.ne_of_gt (h _ m)
theorem ne_lt {D x : Nat} {o : Obj} {l : List (Addr × Obj)} (h : ∀ p ∈ l, p.1 < D) (m : (x, o) ∈ l) : x ≠ D := Nat.ne_of_lt (h _ m)
section
variable {x a b c d : Addr × Obj} {l : List (Addr × Obj)}
theorem lm0 : x ∈ x :: l := .head _
theorem lm1 : x ∈ a :: x :: l := .tail _ (.head _)
theorem lm2 : x ∈ a :: b :: x :: l := .tail _ (.tail _ (.head _))
theorem lm3 : x ∈ a :: b :: c :: x :: l := .tail _ (.tail _ (.tail _ (.head _)))
theorem lm4 (h : x ∈ l) : x ∈ a :: b :: c :: d :: l := .tail _ (.tail _ (.tail _ (.tail _ h)))
end
theorem upd_ne {z x : Str} {v t r : Option Value} (h : z ≠ x) (k : t = r) : (if z = x then v else t) = r := (if_neg h).trans k
theorem ne_stored {z x : Str} {st : List Str} (hz : st.contains z = false) (hx : st.contains x = true) : z ≠ x := fun e => by
  rw [e, hx] at hz
  exact absurd hz (by decide)
theorem kst_ne {z x : Str} {v : Value} {rest : Str → Option Value} {ps : List (Str × Value)} {r : Option Value} (h : z ≠ x) (k : kstB rest ps z = r) : kstB rest ((x, v) :: ps) z = r := (if_neg h).trans k
theorem kst_end {st : List Str} {u m₀ : Str → Option Value} {z : Str} (hz : st.contains z = false) : kstB (fun z => if st.contains z then u z else m₀ z) [] z = m₀ z := by
  show (if st.contains z then u z else m₀ z) = m₀ z
  rw [hz]; rfl
theorem lt_mem2 {D X x : Nat} {o : Obj} {l : List (Addr × Obj)} (k : D < X) (h : ∀ p ∈ l, p.1 < D) (m : (x, o) ∈ l) : x < X := Nat.lt_trans (h _ m) k
theorem all_lt {D : Nat} {l : List (Addr × Obj)} (h : ∀ p ∈ l, p.1 < D) : ∀ p ∈ l, p.1 ≠ D := fun p hp => Nat.ne_of_lt (h p hp)
theorem all_ltS {D : Nat} {l r : List (Addr × Obj)} (h : ∀ p ∈ l, p.1 < D) (s : ∀ p ∈ r, p ∈ l) : ∀ p ∈ r, p.1 ≠ D := fun p hp => Nat.ne_of_lt (h p (s p hp))
theorem take_drop_lt {α : Type} {l : List α} {a b n m : Nat} (h : l.length < n) (k : n ≤ m) : ((l.drop a).take b).length < m := by
  rw [List.length_take, List.length_drop]
  exact Nat.lt_of_le_of_lt (Nat.le_trans (Nat.min_le_right _ _) (Nat.sub_le _ _)) (Nat.lt_of_lt_of_le h k)
theorem hi_of {z : Int} (h : z = 0 ∨ z = 0 ∨ z = 0 ∨ z = 1 ∨ z = 3) : z = 0 ∨ z = 1 ∨ z = 3 := h.elim .inl fun h => h.elim .inl fun h => h
theorem not_in_nil {z : Str} : ([] : List Str).contains z = false := rfl
theorem not_in_cons {z x : Str} {st : List Str} (h : z ≠ x) (k : st.contains z = false) : (x :: st).contains z = false := by
  rw [List.contains_cons, k, Bool.or_false]
  exact beq_eq_false_iff_ne.mpr h
theorem kst_mid {st : List Str} {u m₀ : Str → Option Value} {z : Str} {r : Option Value} (hz : st.contains z = false) (k : m₀ z = r) : kstB (fun z => if st.contains z then u z else m₀ z) [] z = r := (kst_end hz).trans k
theorem lt_mem {D x : Nat} {o : Obj} {l : List (Addr × Obj)} (h : ∀ p ∈ l, p.1 < D) (m : (x, o) ∈ l) : x < D := h _ m
end
section
open PySem PySem.W PySem.Calls PyProof.Rows
-- XLoop
theorem lnXLoop_0 : True := by
  w_top off
  k_with_none
  trivial
set_option maxRecDepth 100000
theorem news_sub {h₀ h : Heap} {L : Addr} {big led : List (Addr × Obj)} (N : News h₀ L h big) (hs : ∀ p ∈ led, p ∈ big) : News h₀ L h led := fun p hp => N p (hs p hp)
section
variable {prog : Program} {w : World} {A : Around} {E : Value → Shared → Prop} {s : Shared} {h₀ : Heap} {L D : Addr} {m : Str → Option Value} {news news' : List (Addr × Obj)} {Q : Value → Shared → Prop}
theorem my_append {vs : List Value} {n : Nat} {x : Value} (F : Fr h₀ L s.heap m) (N : News h₀ L s.heap news) (U : Upd D (listOf vs.toArray n) (listOf (vs ++ [x]).toArray (n + 1)) news news') (hsz : vs.length < 2 ^ 20)
    (h : ∀ h', Fr h₀ L h' m → News h₀ L h' news' → Q .none { s with heap := h' }) : wpAny (model prog w) A (call (.builtin "list.append") [.ref D, x]) Q E s := by
  refine append_K (its := vs.toArray) F N (by rw [List.push_toArray]; exact U) h ?_
  rw [List.size_toArray, sizeLine_eq]
  omega
theorem my_addL {l b : Addr} {vs ws : List Value} (F : Fr h₀ L s.heap m) (N : News h₀ L s.heap news) (hl : s.heap.IsList l vs.toArray) (hb : s.heap.IsList b ws.toArray) (hsz : vs.length + ws.length < 2 ^ 20)
    (h : ∀ q h', (∀ p ∈ news, p.1 < q) → Fr h₀ L h' m → News h₀ L h' ((q, listOf (vs ++ ws).toArray 0) :: news) → Q (.ref q) { s with heap := h' }) :
    wpAny (model prog w) A (binaryOp .Add (.ref l) (.ref b)) Q E s :=
  add_lists F N hl hb (fun h' F' N' => h _ h' (fun p hp => Heap.lt_size (N p hp).1) F' N') (by rw [sizeLine_eq]; omega)
end
theorem my_itemI {prog : Program} {w : World} {A : Around} {E : Value → Shared → Prop} {s : Shared} {value slice : PySem.Expr} {l : Addr} {vs : List Value} {ns : List Int} {k : Int} {u : Tok} {Q : Value → Shared → Prop}
    (hl : s.heap.IsList l vs.toArray) (hi : IntsAre vs ns) (h0 : 0 ≤ k) (h1 : k < ns.length) (hfit : ns.length < 2 ^ 62) (h : ∀ t, Q (.int (ns.getD k.toNat 0) t) s)
    (hs : subscripted slice false (.ref l) (.int k u) = operate [.ref l, .int k u] (getItem (.ref l) (.int k u)) := by with_unfolding_all rfl) :
    wpAny (model prog w) A (subscriptTail value slice (.ref l) (.int k u)) Q E s := by
  have hlt : k.toNat < ns.length := by omega
  obtain ⟨t, hx⟩ := hi.get k.toNat (ns[k.toNat]'hlt) (List.getElem?_eq_getElem hlt)
  have e : ns.getD k.toNat 0 = ns[k.toNat]'hlt := by simp [List.getD_eq_getElem?_getD, hlt]
  have h' := h t
  rw [e] at h'
  exact my_item hl h0 (by omega) hx h' hs
/-- a turn's end: the iterator's object stands as it stood -/
def TEnd (h₀ : Heap) (L I : Addr) (oI : Obj) (J : (Str → Option Value) → List (Addr × Obj) → Prop) (s₁ s₂ : Shared) : Prop :=
  ∃ h' tk m' nx, s₂ = { s₁ with heap := h', toks := tk } ∧ Fr h₀ L h' m' ∧ News h₀ L h' ((I, oI) :: nx) ∧ (∀ p ∈ nx, p.1 ≠ I) ∧ J m' nx
def TPost (h₀ : Heap) (L I : Addr) (oI : Obj) (J : (Str → Option Value) → List (Addr × Obj) → Prop) (s₁ : Shared) (Q : Flow → Shared → Prop) (f : Flow) (s₂ : Shared) : Prop :=
  match f with
  | .ret v => Q (.ret v) s₂
  | .brk => Q .next s₂
  | _ => TEnd h₀ L I oI J s₁ s₂
theorem TEnd.intro {h₀ : Heap} {L I : Addr} {oI : Obj} {J : (Str → Option Value) → List (Addr × Obj) → Prop} {s₁ : Shared} {h' : Heap} {tk : Nat} {m' : Str → Option Value} {big : List (Addr × Obj)} (nx : List (Addr × Obj))
    (F : Fr h₀ L h' m') (N : News h₀ L h' big) (hs : ∀ p ∈ (I, oI) :: nx, p ∈ big) (hI : ∀ p ∈ nx, p.1 ≠ I) (hJ : J m' nx) : TEnd h₀ L I oI J s₁ { s₁ with heap := h', toks := tk } :=
  ⟨h', tk, m', nx, rfl, F, fun p hp => N p (hs p hp), hI, hJ⟩
section
variable {prog : Program} {w : World} {A : Around} {E : Value → Shared → Prop} {s : Shared} {env : Env} {h₀ : Heap} {x : Str} {body : List Stmt} {Q : Flow → Shared → Prop}
theorem my_loop {I : Addr} {fp : List Addr} {n : Nat} {P : Nat → Value → Prop} {St : Nat → Heap → Prop} {m₀ : Str → Option Value} {news : List (Addr × Obj)} (J : Nat → (Str → Option Value) → List (Addr × Obj) → Prop)
    (W : Walks prog w A I fp [I] n P St) (hIf : I ∈ fp) (hfp : ∀ b ∈ fp, b ≠ I → ∃ o, h₀.get? b = some o) (hLf : env.locals ∉ fp) (hI₀ : h₀.get? I = none) (hnw : ∀ p ∈ news, p.1 ≠ I) (hSt : ∀ i h, St i h → ∃ o, h.get? I = some o) (hst : St 0 s.heap)
    (F : Fr h₀ env.locals s.heap m₀) (N : News h₀ env.locals s.heap news) (hj : J 0 m₀ news)
    (turn : ∀ i v m₁ nx h tk oI, i < n → P i v → (∀ p ∈ nx, p.1 ≠ I) → J i m₁ nx → Fr h₀ env.locals h (fun y => if y = x then some v else m₁ y) → News h₀ env.locals h ((I, oI) :: nx) →
      wpAny (model prog w) A (execs body env) (TPost h₀ env.locals I oI (J (i + 1)) { s with heap := h, toks := tk } Q) E { s with heap := h, toks := tk })
    (done : ∀ m₁ nx h tk, J n m₁ nx → Fr h₀ env.locals h m₁ → News h₀ env.locals h nx → Q .next { s with heap := h, toks := tk }) :
    LoopAtV prog w A h₀ env x body Q E (.ref I) s := by
  refine ⟨I, fp, [I], n, P, St, m₀, news, J, rfl, W, hLf, fun b hb => by rw [List.mem_singleton.mp hb]; exact hI₀, fun p hp hq => hnw p hp (List.mem_singleton.mp hq), hst, F, N, hj, ?_, ?_⟩
  · rintro i v m₁ nx s₁ own ⟨hh, tk, rfl⟩ hin hP hJ hoff h5 _ h7 hs F₁ N₁
    obtain ⟨oI, hoI⟩ := hSt _ _ hs
    have own1 : ∀ p ∈ own, p = (I, oI) := fun p hp => by
      have a := N₁ p (List.mem_append_left _ hp)
      have b : p.1 = I := by
        by_cases q : p.1 = I
        · exact q
        · obtain ⟨o, ho⟩ := hfp p.1 (h5 p hp) q
          rw [a.2.2] at ho
          cases ho
      have c := a.1
      rw [b] at c
      exact Prod.ext b (Option.some.inj (c.symm.trans hoI))
    have NI : News h₀ env.locals hh ((I, oI) :: nx) := fun p hp => by
      rcases List.mem_cons.mp hp with rfl | hp
      · exact N₁ _ (List.mem_append_left _ (h7 I hIf hI₀ oI hoI))
      · exact N₁ p (List.mem_append_right _ hp)
    refine wpAny_mono (turn i v m₁ nx hh tk oI hin hP (fun p hp e => hoff p hp (List.mem_singleton.mpr e)) hJ F₁ NI) (fun f s₂ p => ?_) fun _ _ e => e
    have fin : TEnd h₀ env.locals I oI (J (i + 1)) { s with heap := hh, toks := tk } s₂ → LoopStepU h₀ env.locals [I] own (J (i + 1)) { s with heap := hh, toks := tk } .next s₂ := by
      rintro ⟨h', tk', m', nx', e, F', N', hI', hm⟩
      refine ⟨rfl, h', tk', m', nx', e, F', fun p hp => ?_, fun p hp hq => hI' p hp (List.mem_singleton.mp hq), hm⟩
      rcases List.mem_append.mp hp with hp | hp
      · obtain rfl := own1 p hp
        exact N' _ (.head _)
      · exact N' p (.tail _ hp)
    cases f with
    | ret v => exact .ret p
    | brk => exact .brk p
    | next => exact .next (fin p)
    | cont => exact .cont (fin p)
  · rintro h' tk m' nx F' N' _ hJ
    exact done m' nx h' tk hJ F' N'
theorem my_range {r : Addr} {b₀ : Int} {t₀ u₀ v₀ : Tok} {n : Nat} {m₀ : Str → Option Value} {news : List (Addr × Obj)} (J : Nat → (Str → Option Value) → List (Addr × Obj) → Prop)
    (hh : A.handled = none) (hr : IsRange s.heap r 0 b₀ 1 t₀ u₀ v₀) (hsmall : b₀ < 2 ^ 60) (hn : b₀ = (n : Int))
    (F : Fr h₀ env.locals s.heap m₀) (N : News h₀ env.locals s.heap news) (hj : J 0 m₀ news)
    (turn : ∀ i t m₁ nx h tk I oI, i < n → (∀ p ∈ nx, p.1 ≠ I) → J i m₁ nx → Fr h₀ env.locals h (fun y => if y = x then some (.int (i : Int) t) else m₁ y) → News h₀ env.locals h ((I, oI) :: nx) →
      wpAny (model prog w) A (execs body env) (TPost h₀ env.locals I oI (J (i + 1)) { s with heap := h, toks := tk } Q) E { s with heap := h, toks := tk })
    (done : ∀ m₁ nx h tk, J n m₁ nx → Fr h₀ env.locals h m₁ → News h₀ env.locals h nx → Q .next { s with heap := h, toks := tk }) :
    wpAny (model prog w) A (pyIter (.ref r)) (fun it s₂ => LoopAtV prog w A h₀ env x body Q E it s₂) E s := by
  have hsz : Builtin.Range.rangeSize 0 b₀ 1 = (n : Int) := by
    subst hn
    unfold Builtin.Range.rangeSize
    rw [if_pos (by decide)]
    split <;> omega
  have hsm : Builtin.Range.small 0 b₀ 1 = true := by
    have fit : ∀ z : Int, -5 ≤ z → z < 2 ^ 60 + 5 → Builtin.Range.rangeFitsLong z = true := fun z h1 h2 => by
      unfold Builtin.Range.rangeFitsLong
      simp only [Bool.and_eq_true, decide_eq_true_eq]
      omega
    unfold Builtin.Range.small
    rw [hsz, if_pos (by decide), fit 0 (by omega) (by omega), fit b₀ (by omega) (by omega), fit 1 (by omega) (by omega), fit n (by omega) (by omega), fit (b₀ + (1 - 1)) (by omega) (by omega)]
    simp
  refine wpAny_pyIter_range hr hsm ?_
  have W : Walks prog w A s.heap.objs.size [s.heap.objs.size] [s.heap.objs.size] n (fun i v => i < n ∧ ∃ t, v = .int (0 + i * 1) t)
      (fun i h => IsRangeIter h s.heap.objs.size (0 + (i : Nat) * 1) ((n : Int) - (i : Nat)) 1) := (Walks.range hh _ 0 1 n).bound
  refine my_loop J W (List.mem_singleton.mpr rfl) (fun b hb q => absurd (List.mem_singleton.mp hb) q) ?_ (next_is_new F) (fun p hp => Nat.ne_of_lt (Heap.lt_size (N p hp).1)) (fun i h st => ⟨_, st⟩) (by show IsRangeIter _ _ _ _ _; rw [hsz]; simpa using Heap.get?_push_size _ rfl) (F.push _) (fun p hp => ⟨Heap.get?_push_of_some _ (N p hp).1, (N p hp).2⟩) hj ?_ ?_
  · intro hm
    exact absurd F.ns.lt ((List.mem_singleton.mp hm) ▸ Nat.lt_irrefl _)
  · rintro i v m₁ nx h tk oI hi ⟨_, t, rfl⟩ hI hJ F₁ N₁
    have e1 : 0 + (i : Int) * 1 = (i : Int) := by omega
    rw [e1] at F₁
    exact turn i t m₁ nx h tk _ oI hi hI hJ F₁ N₁
  · exact fun m₁ nx h tk hJ F₁ N₁ => done m₁ nx h tk hJ F₁ N₁
theorem my_list {l : Addr} {vs : List Value} {m₀ : Str → Option Value} {news : List (Addr × Obj)} (J : Nat → (Str → Option Value) → List (Addr × Obj) → Prop)
    (hh : A.handled = none) (hl : h₀.IsList l vs.toArray) (F : Fr h₀ env.locals s.heap m₀) (N : News h₀ env.locals s.heap news) (hj : J 0 m₀ news)
    (turn : ∀ i v m₁ nx h tk I oI, vs[i]? = some v → (∀ p ∈ nx, p.1 ≠ I) → J i m₁ nx → Fr h₀ env.locals h (fun y => if y = x then some v else m₁ y) → News h₀ env.locals h ((I, oI) :: nx) →
      wpAny (model prog w) A (execs body env) (TPost h₀ env.locals I oI (J (i + 1)) { s with heap := h, toks := tk } Q) E { s with heap := h, toks := tk })
    (done : ∀ m₁ nx h tk, J vs.length m₁ nx → Fr h₀ env.locals h m₁ → News h₀ env.locals h nx → Q .next { s with heap := h, toks := tk }) :
    wpAny (model prog w) A (pyIter (.ref l)) (fun it s₂ => LoopAtV prog w A h₀ env x body Q E it s₂) E s := by
  have hls : s.heap.IsList l vs.toArray := hl.at fun o e => F.keep l o e
  obtain ⟨ol, hol, _⟩ := id hl
  have hlt : l < h₀.objs.size := Heap.lt_size hol
  have hne : l ≠ s.heap.objs.size := Nat.ne_of_lt (Nat.lt_trans (Nat.lt_of_lt_of_le hlt F.above) F.ns.lt)
  refine wpAny_pyIter_list hls ?_
  have W := Walks.list (prog := prog) (w := w) hh s.heap.objs.size l hne vs.toArray
  rw [List.size_toArray] at W
  refine my_loop J W List.mem_cons_self (fun b hb q => ?_) ?_ (next_is_new F) (fun p hp => Nat.ne_of_lt (Heap.lt_size (N p hp).1)) (fun i h st => by obtain ⟨o, e, _⟩ := st.1; exact ⟨o, e⟩) ⟨⟨_, Heap.get?_push_size _ rfl, rfl, rfl⟩, hls.at fun o e => Heap.get?_push_of_some _ e⟩ (F.push _) (fun p hp => ⟨Heap.get?_push_of_some _ (N p hp).1, (N p hp).2⟩) hj ?_ done
  · rcases List.mem_cons.mp hb with e | hb
    · exact absurd e q
    · rw [List.mem_singleton.mp hb]
      exact ⟨ol, hol⟩
  · intro hm
    rcases List.mem_cons.mp hm with e | hm
    · exact absurd F.ns.lt (e ▸ Nat.lt_irrefl _)
    · exact absurd (Nat.lt_of_lt_of_le hlt F.above) ((List.mem_singleton.mp hm) ▸ Nat.lt_irrefl _)
  · rintro i v m₁ nx h tk oI hi hP hI hJ F₁ N₁
    exact turn i v m₁ nx h tk _ oI (by simpa using hP) hI hJ F₁ N₁
end

/-- a turn's end with a state: named locals, a word on state and ledger -/
def SEnd {σ : Type} (ps : σ → List (Str × Value)) (stored : List Str) (m₀ : Str → Option Value) (x : Str) (G : σ → List (Addr × Obj) → Prop) (h₀ : Heap) (L I : Addr) (oI : Obj) (s₁ s₂ : Shared) : Prop :=
  ∃ h' tk m' nx c, s₂ = { s₁ with heap := h', toks := tk } ∧ Fr h₀ L h' m' ∧ News h₀ L h' ((I, oI) :: nx) ∧ (∀ p ∈ nx, p.1 ≠ I) ∧ (∀ p ∈ ps c, m' p.1 = some p.2) ∧ (∀ z, z ≠ x → (∀ p ∈ ps c, z ≠ p.1) → stored.contains z = false → m' z = m₀ z) ∧ G c nx
def SPost {σ : Type} (ps : σ → List (Str × Value)) (stored : List Str) (m₀ : Str → Option Value) (x : Str) (G : σ → List (Addr × Obj) → Prop) (h₀ : Heap) (L I : Addr) (oI : Obj) (s₁ : Shared) (Q : Flow → Shared → Prop) (f : Flow) (s₂ : Shared) : Prop :=
  match f with
  | .ret v => Q (.ret v) s₂
  | .brk => Q .next s₂
  | _ => SEnd ps stored m₀ x G h₀ L I oI s₁ s₂
theorem SEnd.intro {σ : Type} {ps : σ → List (Str × Value)} {stored : List Str} {m₀ : Str → Option Value} {x : Str} {G : σ → List (Addr × Obj) → Prop} {h₀ : Heap} {L I : Addr} {oI : Obj} {s₁ : Shared} {h' : Heap} {tk : Nat} {m' : Str → Option Value} {big : List (Addr × Obj)} (c : σ) (nx : List (Addr × Obj))
    (F : Fr h₀ L h' m') (N : News h₀ L h' big) (hs : ∀ p ∈ (I, oI) :: nx, p ∈ big) (hI : ∀ p ∈ nx, p.1 ≠ I) (hk : ∀ p ∈ ps c, m' p.1 = some p.2) (hr : ∀ z, z ≠ x → (∀ p ∈ ps c, z ≠ p.1) → stored.contains z = false → m' z = m₀ z) (hG : G c nx) :
    SEnd ps stored m₀ x G h₀ L I oI s₁ { s₁ with heap := h', toks := tk } :=
  ⟨h', tk, m', nx, c, rfl, F, fun p hp => N p (hs p hp), hI, hk, hr, hG⟩
section
variable {prog : Program} {w : World} {A : Around} {E : Value → Shared → Prop} {s : Shared} {env : Env} {h₀ : Heap} {x : Str} {body : List Stmt} {Q : Flow → Shared → Prop} {σ : Type}
theorem SEnd.toT {ps : σ → List (Str × Value)} {stored : List Str} {m₀ : Str → Option Value} {G : σ → List (Addr × Obj) → Prop} {L I : Addr} {oI : Obj} {s₁ s₂ : Shared} (h : SEnd ps stored m₀ x G h₀ L I oI s₁ s₂) :
    TEnd h₀ L I oI (fun m nx => ∃ c, (∀ p ∈ ps c, m p.1 = some p.2) ∧ (∀ z, z ≠ x → (∀ p ∈ ps c, z ≠ p.1) → stored.contains z = false → m z = m₀ z) ∧ G c nx) s₁ s₂ := by
  obtain ⟨h', tk, m', nx, c, e, F, N, hI, hk, hr, hG⟩ := h
  exact ⟨h', tk, m', nx, e, F, N, hI, c, hk, hr, hG⟩
theorem my_rangeS {r : Addr} {b₀ : Int} {t₀ u₀ v₀ : Tok} {n : Nat} {m₀ : Str → Option Value} {news : List (Addr × Obj)} (ps : σ → List (Str × Value)) (stored : List Str) (G : Nat → σ → List (Addr × Obj) → Prop) (c₀ : σ)
    (hh : A.handled = none) (hr : IsRange s.heap r 0 b₀ 1 t₀ u₀ v₀) (hsmall : b₀ < 2 ^ 60) (hn : b₀ = (n : Int))
    (F : Fr h₀ env.locals s.heap m₀) (N : News h₀ env.locals s.heap news) (hk : ∀ p ∈ ps c₀, m₀ p.1 = some p.2) (hG : G 0 c₀ news)
    (turn : ∀ i t (c : σ) (u : Str → Option Value) nx h tk I oI, i < n → (∀ p ∈ nx, p.1 ≠ I) → G i c nx → Fr h₀ env.locals h (fun y => if y = x then some (.int (i : Int) t) else kstB (fun z => if stored.contains z then u z else m₀ z) (ps c) y) → News h₀ env.locals h ((I, oI) :: nx) →
      wpAny (model prog w) A (execs body env) (SPost ps stored m₀ x (G (i + 1)) h₀ env.locals I oI { s with heap := h, toks := tk } Q) E { s with heap := h, toks := tk })
    (done : ∀ (c : σ) (u : Str → Option Value) nx h tk, G n c nx → Fr h₀ env.locals h (fun y => if y = x then u y else kstB (fun z => if stored.contains z then u z else m₀ z) (ps c) y) → News h₀ env.locals h nx → Q .next { s with heap := h, toks := tk }) :
    wpAny (model prog w) A (pyIter (.ref r)) (fun it s₂ => LoopAtV prog w A h₀ env x body Q E it s₂) E s := by
  refine my_range (fun i m nx => ∃ c, (∀ p ∈ ps c, m p.1 = some p.2) ∧ (∀ z, z ≠ x → (∀ p ∈ ps c, z ≠ p.1) → stored.contains z = false → m z = m₀ z) ∧ G i c nx) hh hr hsmall hn F N ⟨c₀, hk, fun _ _ _ _ => rfl, hG⟩ ?_ ?_
  · rintro i t m₁ nx h tk I oI hi hI ⟨c, h1, h2, hg⟩ F₁ N₁
    refine wpAny_mono (turn i t c m₁ nx h tk I oI hi hI hg (kst_fr h1 h2 F₁) N₁) (fun f s₂ p => ?_) fun _ _ e => e
    cases f with
    | ret v => exact p
    | brk => exact p
    | next => exact SEnd.toT p
    | cont => exact SEnd.toT p
  · rintro m₁ nx h tk ⟨c, h1, h2, hg⟩ F₁ N₁
    exact done c m₁ nx h tk hg (kst_frOut h1 h2 F₁) N₁
theorem my_listS {l : Addr} {vs : List Value} {m₀ : Str → Option Value} {news : List (Addr × Obj)} (ps : σ → List (Str × Value)) (stored : List Str) (G : Nat → σ → List (Addr × Obj) → Prop) (c₀ : σ)
    (hh : A.handled = none) (hl : h₀.IsList l vs.toArray)
    (F : Fr h₀ env.locals s.heap m₀) (N : News h₀ env.locals s.heap news) (hk : ∀ p ∈ ps c₀, m₀ p.1 = some p.2) (hG : G 0 c₀ news)
    (turn : ∀ i v (c : σ) (u : Str → Option Value) nx h tk I oI, vs[i]? = some v → (∀ p ∈ nx, p.1 ≠ I) → G i c nx → Fr h₀ env.locals h (fun y => if y = x then some v else kstB (fun z => if stored.contains z then u z else m₀ z) (ps c) y) → News h₀ env.locals h ((I, oI) :: nx) →
      wpAny (model prog w) A (execs body env) (SPost ps stored m₀ x (G (i + 1)) h₀ env.locals I oI { s with heap := h, toks := tk } Q) E { s with heap := h, toks := tk })
    (done : ∀ (c : σ) (u : Str → Option Value) nx h tk, G vs.length c nx → Fr h₀ env.locals h (fun y => if y = x then u y else kstB (fun z => if stored.contains z then u z else m₀ z) (ps c) y) → News h₀ env.locals h nx → Q .next { s with heap := h, toks := tk }) :
    wpAny (model prog w) A (pyIter (.ref l)) (fun it s₂ => LoopAtV prog w A h₀ env x body Q E it s₂) E s := by
  refine my_list (fun i m nx => ∃ c, (∀ p ∈ ps c, m p.1 = some p.2) ∧ (∀ z, z ≠ x → (∀ p ∈ ps c, z ≠ p.1) → stored.contains z = false → m z = m₀ z) ∧ G i c nx) hh hl F N ⟨c₀, hk, fun _ _ _ _ => rfl, hG⟩ ?_ ?_
  · rintro i v m₁ nx h tk I oI hi hI ⟨c, h1, h2, hg⟩ F₁ N₁
    refine wpAny_mono (turn i v c m₁ nx h tk I oI hi hI hg (kst_fr h1 h2 F₁) N₁) (fun f s₂ p => ?_) fun _ _ e => e
    cases f with
    | ret v => exact p
    | brk => exact p
    | next => exact SEnd.toT p
    | cont => exact SEnd.toT p
  · rintro m₁ nx h tk ⟨c, h1, h2, hg⟩ F₁ N₁
    exact done c m₁ nx h tk hg (kst_frOut h1 h2 F₁) N₁
end
/-- a while: a state, a word on state and ledger, a measure that falls -/
def WEnd {σ : Type} (ps : σ → List (Str × Value)) (stored : List Str) (m₀ : Str → Option Value) (G : σ → List (Addr × Obj) → Prop) (μ : σ → Nat) (n : Nat) (h₀ : Heap) (L : Addr) (s₁ s₂ : Shared) : Prop :=
  ∃ h' tk m' nx c, s₂ = { s₁ with heap := h', toks := tk } ∧ Fr h₀ L h' m' ∧ News h₀ L h' nx ∧ (∀ p ∈ ps c, m' p.1 = some p.2) ∧ (∀ z, (∀ p ∈ ps c, z ≠ p.1) → stored.contains z = false → m' z = m₀ z) ∧ G c nx ∧ μ c < n
def WPost {σ : Type} (ps : σ → List (Str × Value)) (stored : List Str) (m₀ : Str → Option Value) (G : σ → List (Addr × Obj) → Prop) (μ : σ → Nat) (n : Nat) (h₀ : Heap) (L : Addr) (s₁ : Shared) (Q : Flow → Shared → Prop) (f : Flow) (s₂ : Shared) : Prop :=
  match f with
  | .ret v => Q (.ret v) s₂
  | .brk => Q .next s₂
  | _ => WEnd ps stored m₀ G μ n h₀ L s₁ s₂
theorem WEnd.intro {σ : Type} {ps : σ → List (Str × Value)} {stored : List Str} {m₀ : Str → Option Value} {G : σ → List (Addr × Obj) → Prop} {μ : σ → Nat} {n : Nat} {h₀ : Heap} {L : Addr} {s₁ : Shared} {h' : Heap} {tk : Nat} {m' : Str → Option Value} {big : List (Addr × Obj)} (c : σ) (nx : List (Addr × Obj))
    (F : Fr h₀ L h' m') (N : News h₀ L h' big) (hs : ∀ p ∈ nx, p ∈ big) (hk : ∀ p ∈ ps c, m' p.1 = some p.2) (hr : ∀ z, (∀ p ∈ ps c, z ≠ p.1) → stored.contains z = false → m' z = m₀ z) (hG : G c nx) (hm : μ c < n) :
    WEnd ps stored m₀ G μ n h₀ L s₁ { s₁ with heap := h', toks := tk } :=
  ⟨h', tk, m', nx, c, rfl, F, fun p hp => N p (hs p hp), hk, hr, hG, hm⟩
theorem my_whileS {prog : Program} {w : World} {A : Around} {E : Value → Shared → Prop} {s : Shared} {env : Env} {h₀ : Heap} {L : Addr} {Q : Flow → Shared → Prop} {σ : Type} {test : Expr} {body : List Stmt} {pos : Pos} {m₀ : Str → Option Value} {news : List (Addr × Obj)}
    (ps : σ → List (Str × Value)) (stored : List Str) (G : σ → List (Addr × Obj) → Prop) (μ : σ → Nat) (c₀ : σ)
    (F : Fr h₀ L s.heap m₀) (N : News h₀ L s.heap news) (hk : ∀ p ∈ ps c₀, m₀ p.1 = some p.2) (hG : G c₀ news)
    (turn : ∀ (c : σ) (u : Str → Option Value) nx h tk, G c nx → Fr h₀ L h (kstB (fun z => if stored.contains z then u z else m₀ z) (ps c)) → News h₀ L h nx →
      wpAny (model prog w) A (isTrue test env (eval test env)) (fun b s₂ =>
        if b = true then wpAny (model prog w) A (execs body env) (WPost ps stored m₀ G μ (μ c) h₀ L s Q) E s₂ else Q .next s₂) E { s with heap := h, toks := tk })
    (hE : PassesOwn (model prog w) A env E := by passes_own) :
    wpAny (model prog w) A (exec (.While test body [] pos) env) Q E s := by
  refine While_inv2 (fun n m nx => ∃ c : σ, μ c = n ∧ (∀ p ∈ ps c, m p.1 = some p.2) ∧ (∀ z, (∀ p ∈ ps c, z ≠ p.1) → stored.contains z = false → m z = m₀ z) ∧ G c nx) F N ⟨c₀, rfl, hk, fun _ _ _ => rfl, hG⟩ ?_ hE
  rintro n m₁ nx h tk F₁ N₁ ⟨c, rfl, h1, h2, hg⟩
  refine wpAny_mono (turn c m₁ nx h tk hg (ksw_fr h1 h2 F₁) N₁) (fun b s₂ p => ?_) fun _ _ x => x
  cases b with
  | false => simpa using p
  | true =>
    simp only [if_true] at p ⊢
    refine wpAny_mono p (fun f s₃ q => ?_) fun _ _ x => x
    have fin : WEnd ps stored m₀ G μ (μ c) h₀ L s s₃ → ∃ h' tk' m₂ news₂ n', s₃ = { s with heap := h', toks := tk' } ∧ Fr h₀ L h' m₂ ∧ News h₀ L h' news₂ ∧ n' < μ c ∧
        ∃ c : σ, μ c = n' ∧ (∀ p ∈ ps c, m₂ p.1 = some p.2) ∧ (∀ z, (∀ p ∈ ps c, z ≠ p.1) → stored.contains z = false → m₂ z = m₀ z) ∧ G c news₂ := by
      rintro ⟨h', tk', m', nx', c', e, F', N', hk', hr', hG', hm'⟩
      exact ⟨h', tk', m', nx', μ c', e, F', N', hm', c', rfl, hk', hr', hG'⟩
    cases f with
    | ret v => exact q
    | brk => exact q
    | next => exact fin q
    | cont => exact fin q
end
section
open PySem PySem.W PySem.Calls PyProof.Rows
-- XLaw1
set_option maxRecDepth 100000
theorem lnXLaw1_1 : True := by
  w_top off
  k_with_none
  (k_with "c enter" => (refine wpAny_call ?_; k_dflt (refine' enter (by assumption) (by first | assumption | exact use_nil) (by k_is) (by k_is) (by walk_at "c room") (by exact BindsTo.of_eq rfl) (by exact locs rfl) ?_ (by exact rfl) (by exact rfl) (by exact rfl) (by decide); k_whole; intro _ _ _ _ _ _ _ _ _ _ _ _ _ _; (try dsimp only); (try k_fold))))
  (k_with "c room" => first | assumption | decide | ((try simp only [depth_under_make, depth_under_kw, depth_in1, depth_deeper, depth_caller]); (try dsimp only [Ar]); first | exact room2 (by assumption) (by decide) | exact room1 (by assumption) (by decide) | exact room0 (by assumption) | omega))
  (k_with "c pick" => first | exact Pick.head | exact Pick.tail (by walk_at "c pick"))
  (k_with "c go" => repeat' (first | ((fail_if_success (with_reducible show wpAny _ _ (pyIter (Value.ref _)) _ _ _)); (fail_if_success (with_reducible show wpAny _ _ (exec (Stmt.While _ _ _ _) _) _ _ _)); first | (k_unfold; (try dsimp only)) | walk1 | (dsimp only; walk1))))
  (k_with "subscriptTail Name Constant ref int" => (k_here; (with_reducible show wpAny _ _ (subscriptTail _ _ (Value.ref _) (Value.int _ _)) _ _ _); (with_unfolding_all refine' my_item (by is_list) (by decide) (by decide) (by rfl) ?_ (by with_unfolding_all rfl); k_whole)))
  (k_with "call builtin:len" => (k_here; (with_reducible show wpAny _ _ (call (Value.builtin "len") [Value.ref _]) _ _ _); k_dflt (refine' my_len (by is_list) (by walk_at "c fit") ?_; k_whole)))
  (k_with "c via1" => (k_dflt (refine' via1 (by assumption) (by assumption) (by assumption) (by assumption) (by walk_at "c pick") (by k_all) (by first | exact rfl | assumption) ?_)))
  (k_with "c via0" => (k_dflt (refine' via0 (by assumption) (by assumption) (by assumption) (by assumption) (by first | exact rfl | assumption) ?_)))
  (k_with "c num" => first | assumption | decide | exact Int.natCast_nonneg _ | exact Nat.lt_of_lt_of_le (by assumption) (by decide) | exact size2 (by assumption) (by assumption) (by decide) | omega)
  (k_with "call ref" => (k_here; (with_reducible show wpAny _ _ (call (Value.ref 218) [Value.ref _, Value.int _ _]) _ _ _); walk_at "c via1"; intro cC cS cK; k_dflt (refine' take_spec cC cS (by walk_at "c num") (by walk_at "c num") (by walk_at "c num") (by walk_at "c num") (by walk_at "c room") ?_); clear cC cS; intro _ _ _ _ _ _ _ _ _ _ _ _ zzS zzW; (refine And.elim (fun _ zzN => ?_) (cK _ _ zzS zzW)); clear cK zzS zzW; (try dsimp only [List.cons_append, List.nil_append] at zzN); (try dsimp only); (try k_sweep)))
  (k_with "c fit" => first | assumption | exact Nat.le_of_ble_eq_true rfl | exact Nat.lt_of_lt_of_le (by assumption) (by decide) | exact size2 (by assumption) (by assumption) (by decide) | omega | ((simp only [List.length_cons, List.length_append, List.length_nil]); omega))
  (k_with "c itemN" => (k_here; (with_reducible show wpAny _ _ (subscriptTail _ _ (Value.ref _) (Value.int _ _)) _ _ _); (with_unfolding_all refine' my_itemN (by is_list) (by walk_at "c num") (by walk_at "c num") (by walk_at "c fit") ?_ (by with_unfolding_all rfl); k_whole)))
  (k_with "c end" => ((try k_unfold); (try dsimp only)))
  (k_with "c same" => exact same_of (by assumption) (by assumption))
  (k_with "c sub" => first | exact List.forall_mem_nil _ | exact fun _ h => h | exact List.forall_mem_cons.mpr ⟨by k_mem, by walk_at "c sub"⟩)
  (k_with "c now" => first | exact now_of (by assumption) (by assumption) | exact now_sub (by assumption) (by assumption) (by walk_at "c sub"))
  (k_with "c ints" => first | assumption | exact IntsAre.nil | exact IntsAre.cons _ _ IntsAre.nil | exact IntsAre.cons _ _ (IntsAre.cons _ _ IntsAre.nil) | exact IntsAre.cons _ _ (IntsAre.cons _ _ (IntsAre.cons _ _ IntsAre.nil)))
  (k_with "k_all" => first | exact all_ltS (by assumption) (by walk_at "c tail") | fail)
  (k_with "k_all" => first | exact List.forall_mem_nil _ | (refine' List.forall_mem_cons.mpr ⟨(by k_ne), (by k_all)⟩))
  (k_with "k_all" => first | (with_reducible assumption) | exact all_lt (by with_reducible assumption) | fail)
  (k_with "c lt" => first | assumption | exact lt_mem (by assumption) (by k_mem) | exact lt_mem2 (by assumption) (by assumption) (by k_mem) | exact Nat.lt_succ_self _ | exact Nat.lt_succ_of_lt (by walk_at "c lt"))
  (k_with "k_ne" => first | exact Apt.ne (by assumption) | exact (Apt.ne (by assumption)).symm | exact NewAt.ne (by assumption) (by k_mem) | exact (NewAt.ne (by assumption) (by k_mem)).symm | exact ne_gt (by assumption) (by k_mem) | exact ne_lt (by assumption) (by k_mem) | exact Nat.ne_of_gt (by walk_at "c lt") | exact Nat.ne_of_lt (by walk_at "c lt") | (refine neN ?_; (try dsimp only); omega))
  (k_with "k_mem" => first | exact lm0 | exact lm1 | exact lm2 | exact lm3 | (refine' lm4 ?_; k_mem))
  (k_with "le" => k_dflt (exact Nat.le_of_ble_eq_true rfl))
  (k_with "lt" => k_dflt (exact Nat.le_of_ble_eq_true rfl))
  (k_with "c size" => first | assumption | exact Nat.le_of_ble_eq_true rfl | exact Nat.lt_of_lt_of_le (by assumption) (by decide) | exact size2 (by assumption) (by assumption) (by decide) | omega | ((simp only [List.length_cons, List.length_append, List.length_nil]); omega))
  (k_with "call builtin:list.append" => (k_here; (with_reducible show wpAny _ _ (call (Value.builtin "list.append") [Value.ref _, _]) _ _ _); k_dflt (refine' my_append (by k_asm) (by k_asm) (by k_upd) (by walk_at "c size") ?_; k_whole); intro _ _ _; (try k_sweep)))
  (k_with "binaryOp Add ref ref" => (k_here; (with_reducible show wpAny _ _ (binaryOp Operator.Add (Value.ref _) (Value.ref _)) _ _ _); k_dflt (refine' my_addL (by k_asm) (by k_asm) (by is_list) (by is_list) (by walk_at "c size") ?_; k_whole); intro _ _ _ _ _; (try k_sweep)))
  (k_with "c tail" => (intro _ zzhp; repeat (first | exact zzhp | refine List.mem_cons_of_mem _ ?_)))
  (k_with "c rest" => (intro _ zzq1 zzq2 zzq3; (repeat (first | refine upd_ne zzq1 ?_ | refine upd_ne (ne_stored zzq3 (by decide +kernel)) ?_ | refine upd_ne (zzq2 (_, _) (by k_mem)) ?_ | exact kst_end zzq3 | refine kst_mid (not_in_cons (ne_stored zzq3 (by decide +kernel)) not_in_nil) ?_ | refine kst_ne (ne_stored zzq3 (by decide +kernel)) ?_ | refine kst_ne (zzq2 (_, _) (by k_mem)) ?_))))
  (k_with "c restW" => (intro _ zzq2 zzq3; (repeat (first | refine upd_ne (ne_stored zzq3 (by decide +kernel)) ?_ | refine upd_ne (zzq2 (_, _) (by k_mem)) ?_ | exact kst_end zzq3 | refine kst_mid (not_in_cons (ne_stored zzq3 (by decide +kernel)) not_in_nil) ?_ | refine kst_ne (ne_stored zzq3 (by decide +kernel)) ?_ | refine kst_ne (zzq2 (_, _) (by k_mem)) ?_))))
  (k_with "c ps" => first | exact List.forall_mem_nil _ | exact List.forall_mem_cons.mpr ⟨rfl, by walk_at "c ps"⟩)
  (k_with "c itemI" => (k_here; (with_reducible show wpAny _ _ (subscriptTail _ _ (Value.ref _) (Value.int _ _)) _ _ _); (with_unfolding_all refine' my_itemI (by is_list) (by with_reducible assumption) (by walk_at "c num") (by walk_at "c num") (by walk_at "c fit") ?_ (by with_unfolding_all rfl); k_whole); intro _))
  (k_with "exec Raise some none" => (k_here; k_dflt (refine' font_raise (by assumption) (by assumption) (by assumption) (by exact rfl) (by walk_at "c room") (by exact rfl) (by exact rfl) (by decide +kernel) ?_; intro _ _ _ _ _ _ _ _; (try k_unfold); (try dsimp only); refine' font_leave (by assumption) (by assumption) (by assumption) (by assumption) (by assumption) ?_ (by exact rfl); intro _ _ _; (try dsimp only))))
  (k_with "call type:bytes cons nil bytes" => (k_here; refine bb_call ?_))
  (k_with "call type:bytes" => (k_here; (with_reducible show wpAny _ _ (call (Value.type "bytes") [Value.bytes _ _]) _ _ _); refine bb_call ?_))
  (k_with "leaving ref" => (k_here; k_dflt (refine' leave_onSX (by assumption) (by assumption) (by assumption) (by assumption) ?_; k_whole); intro _ zzR zzU; (try dsimp only at zzR zzU ⊢)))
  (k_with "storeName" => (dsimp only; walk_at "storeName"))
  trivial
/-- a list of the base, seen through a hidden U -/
theorem list_hide {h : Heap} {U : List Addr} {l : Addr} {vs : Array Value} (hl : h.IsList l vs) (hU : l ∉ U) : (hideAll h U).IsList l vs := by
  obtain ⟨o, ho, r⟩ := hl
  exact ⟨o, hideAll_get _ ho hU, r⟩
theorem fr_list {g h : Heap} {L l : Addr} {m : Str → Option Value} {vs : Array Value} (F : Fr g L h m) (hl : g.IsList l vs) : h.IsList l vs := hl.at fun o e => F.keep l o e
set_option maxHeartbeats 8000000 in
theorem one_spec {w : World} {dp un : Nat} {gd : Option (List Code)} {base : Heap} {envs : List Env} {s : Shared} {Q E : Value → Shared → Prop} {S T : Addr} {x y : Int} {tx ty : Tok} {n : Nat} {vs : List Value}
  (C : Cx w (Ar dp un gd envs) base envs [S] s.heap) (hS : s.heap.get? S = some (listOf #[Value.int x tx, Value.int y ty] n)) (hT : s.heap.IsList T vs.toArray) (hTS : T ≠ S) (hv : 0 < vs.length) (hv1 : vs.length < 1000)
  (hy0 : 0 ≤ y) (hy1 : y < 2147483647) (hroom : dp + 2 < recursionLimit)
  (k : ∀ (r : Nat) v x' y' tx' ty' h' tk', vs[r]? = some v → 0 ≤ y' → y' < 2147483647 → Same [S] s.heap h' → Now [S] s.heap h' [(S, listOf #[Value.int x' tx', Value.int y' ty'] n)] → Q v { s with heap := h', toks := tk' }) :
  wpAny (model PySem.Challenge.rw_xm0719_01.row.prog w) (Ar dp un gd envs) (call (.ref 225) [.ref S, .ref T]) Q E s := by
  have hu := use_one hS
  have hT' := list_hide hT (U := [S]) (fun h => hTS (List.mem_singleton.mp h))
  walk_at "c enter"
  rename _ = hideAll _ _ => eg
  rw [← eg] at hT'
  walk_at "c go"
  walk_at "c itemN"
  intro v hx
  walk_at "c end"
  exact k _ _ _ _ _ _ _ _ hx (by assumption) (by assumption) (by walk_at "c same") (by walk_at "c now")
end
section
open PySem PySem.W PySem.Calls PyProof.Rows
-- XLaw2
set_option maxRecDepth 100000
theorem lnXLaw2_1 : True := by
  w_top off
  k_with_none
  (k_with "c enter" => (refine wpAny_call ?_; k_dflt (refine' enter (by assumption) (by first | assumption | exact use_nil) (by k_is) (by k_is) (by walk_at "c room") (by exact BindsTo.of_eq rfl) (by exact locs rfl) ?_ (by exact rfl) (by exact rfl) (by exact rfl) (by decide); k_whole; intro _ _ _ _ _ _ _ _ _ _ _ _ _ _; (try dsimp only); (try k_fold))))
  (k_with "c room" => first | assumption | decide | ((try simp only [depth_under_make, depth_under_kw, depth_in1, depth_deeper, depth_caller]); (try dsimp only [Ar]); first | exact room2 (by assumption) (by decide) | exact room1 (by assumption) (by decide) | exact room0 (by assumption) | omega))
  (k_with "c pick" => first | exact Pick.head | exact Pick.tail (by walk_at "c pick"))
  (k_with "c go" => repeat' (first | ((fail_if_success (with_reducible show wpAny _ _ (pyIter (Value.ref _)) _ _ _)); (fail_if_success (with_reducible show wpAny _ _ (exec (Stmt.While _ _ _ _) _) _ _ _)); first | (k_unfold; (try dsimp only)) | walk1 | (dsimp only; walk1))))
  (k_with "subscriptTail Name Constant ref int" => (k_here; (with_reducible show wpAny _ _ (subscriptTail _ _ (Value.ref _) (Value.int _ _)) _ _ _); (with_unfolding_all refine' my_item (by is_list) (by decide) (by decide) (by rfl) ?_ (by with_unfolding_all rfl); k_whole)))
  (k_with "call builtin:len" => (k_here; (with_reducible show wpAny _ _ (call (Value.builtin "len") [Value.ref _]) _ _ _); k_dflt (refine' my_len (by is_list) (by walk_at "c fit") ?_; k_whole)))
  (k_with "c via1" => (k_dflt (refine' via1 (by assumption) (by assumption) (by assumption) (by assumption) (by walk_at "c pick") (by k_all) (by first | exact rfl | assumption) ?_)))
  (k_with "c via0" => (k_dflt (refine' via0 (by assumption) (by assumption) (by assumption) (by assumption) (by first | exact rfl | assumption) ?_)))
  (k_with "c num" => first | assumption | decide | exact Int.natCast_nonneg _ | exact Nat.lt_of_lt_of_le (by assumption) (by decide) | exact size2 (by assumption) (by assumption) (by decide) | omega)
  (k_with "call ref" => (k_here; (with_reducible show wpAny _ _ (call (Value.ref 218) [Value.ref _, Value.int _ _]) _ _ _); walk_at "c via1"; intro cC cS cK; k_dflt (refine' take_spec cC cS (by walk_at "c num") (by walk_at "c num") (by walk_at "c num") (by walk_at "c num") (by walk_at "c room") ?_); clear cC cS; intro _ _ _ _ _ _ _ _ _ _ _ _ zzS zzW; (refine And.elim (fun _ zzN => ?_) (cK _ _ zzS zzW)); clear cK zzS zzW; (try dsimp only [List.cons_append, List.nil_append] at zzN); (try dsimp only); (try k_sweep)))
  (k_with "c fit" => first | assumption | exact Nat.le_of_ble_eq_true rfl | exact Nat.lt_of_lt_of_le (by assumption) (by decide) | exact size2 (by assumption) (by assumption) (by decide) | omega | ((simp only [List.length_cons, List.length_append, List.length_nil]); omega))
  (k_with "c itemN" => (k_here; (with_reducible show wpAny _ _ (subscriptTail _ _ (Value.ref _) (Value.int _ _)) _ _ _); (with_unfolding_all refine' my_itemN (by is_list) (by walk_at "c num") (by walk_at "c num") (by walk_at "c fit") ?_ (by with_unfolding_all rfl); k_whole)))
  (k_with "c end" => ((try k_unfold); (try dsimp only)))
  (k_with "c same" => exact same_of (by assumption) (by assumption))
  (k_with "c sub" => first | exact List.forall_mem_nil _ | exact fun _ h => h | exact List.forall_mem_cons.mpr ⟨by k_mem, by walk_at "c sub"⟩)
  (k_with "c now" => first | exact now_of (by assumption) (by assumption) | exact now_sub (by assumption) (by assumption) (by walk_at "c sub"))
  (k_with "c ints" => first | assumption | exact IntsAre.nil | exact IntsAre.cons _ _ IntsAre.nil | exact IntsAre.cons _ _ (IntsAre.cons _ _ IntsAre.nil) | exact IntsAre.cons _ _ (IntsAre.cons _ _ (IntsAre.cons _ _ IntsAre.nil)))
  (k_with "k_all" => first | exact all_ltS (by assumption) (by walk_at "c tail") | fail)
  (k_with "k_all" => first | exact List.forall_mem_nil _ | (refine' List.forall_mem_cons.mpr ⟨(by k_ne), (by k_all)⟩))
  (k_with "k_all" => first | (with_reducible assumption) | exact all_lt (by with_reducible assumption) | fail)
  (k_with "c lt" => first | assumption | exact lt_mem (by assumption) (by k_mem) | exact lt_mem2 (by assumption) (by assumption) (by k_mem) | exact Nat.lt_succ_self _ | exact Nat.lt_succ_of_lt (by walk_at "c lt"))
  (k_with "k_ne" => first | exact Apt.ne (by assumption) | exact (Apt.ne (by assumption)).symm | exact NewAt.ne (by assumption) (by k_mem) | exact (NewAt.ne (by assumption) (by k_mem)).symm | exact ne_gt (by assumption) (by k_mem) | exact ne_lt (by assumption) (by k_mem) | exact Nat.ne_of_gt (by walk_at "c lt") | exact Nat.ne_of_lt (by walk_at "c lt") | (refine neN ?_; (try dsimp only); omega))
  (k_with "k_mem" => first | exact lm0 | exact lm1 | exact lm2 | exact lm3 | (refine' lm4 ?_; k_mem))
  (k_with "le" => k_dflt (exact Nat.le_of_ble_eq_true rfl))
  (k_with "lt" => k_dflt (exact Nat.le_of_ble_eq_true rfl))
  (k_with "c size" => first | assumption | exact Nat.le_of_ble_eq_true rfl | exact Nat.lt_of_lt_of_le (by assumption) (by decide) | exact size2 (by assumption) (by assumption) (by decide) | omega | ((simp only [List.length_cons, List.length_append, List.length_nil]); omega))
  (k_with "call builtin:list.append" => (k_here; (with_reducible show wpAny _ _ (call (Value.builtin "list.append") [Value.ref _, _]) _ _ _); k_dflt (refine' my_append (by k_asm) (by k_asm) (by k_upd) (by walk_at "c size") ?_; k_whole); intro _ _ _; (try k_sweep)))
  (k_with "binaryOp Add ref ref" => (k_here; (with_reducible show wpAny _ _ (binaryOp Operator.Add (Value.ref _) (Value.ref _)) _ _ _); k_dflt (refine' my_addL (by k_asm) (by k_asm) (by is_list) (by is_list) (by walk_at "c size") ?_; k_whole); intro _ _ _ _ _; (try k_sweep)))
  (k_with "c tail" => (intro _ zzhp; repeat (first | exact zzhp | refine List.mem_cons_of_mem _ ?_)))
  (k_with "c rest" => (intro _ zzq1 zzq2 zzq3; (repeat (first | refine upd_ne zzq1 ?_ | refine upd_ne (ne_stored zzq3 (by decide +kernel)) ?_ | refine upd_ne (zzq2 (_, _) (by k_mem)) ?_ | exact kst_end zzq3 | refine kst_mid (not_in_cons (ne_stored zzq3 (by decide +kernel)) not_in_nil) ?_ | refine kst_ne (ne_stored zzq3 (by decide +kernel)) ?_ | refine kst_ne (zzq2 (_, _) (by k_mem)) ?_))))
  (k_with "c restW" => (intro _ zzq2 zzq3; (repeat (first | refine upd_ne (ne_stored zzq3 (by decide +kernel)) ?_ | refine upd_ne (zzq2 (_, _) (by k_mem)) ?_ | exact kst_end zzq3 | refine kst_mid (not_in_cons (ne_stored zzq3 (by decide +kernel)) not_in_nil) ?_ | refine kst_ne (ne_stored zzq3 (by decide +kernel)) ?_ | refine kst_ne (zzq2 (_, _) (by k_mem)) ?_))))
  (k_with "c ps" => first | exact List.forall_mem_nil _ | exact List.forall_mem_cons.mpr ⟨rfl, by walk_at "c ps"⟩)
  (k_with "c itemI" => (k_here; (with_reducible show wpAny _ _ (subscriptTail _ _ (Value.ref _) (Value.int _ _)) _ _ _); (with_unfolding_all refine' my_itemI (by is_list) (by with_reducible assumption) (by walk_at "c num") (by walk_at "c num") (by walk_at "c fit") ?_ (by with_unfolding_all rfl); k_whole); intro _))
  (k_with "exec Raise some none" => (k_here; k_dflt (refine' font_raise (by assumption) (by assumption) (by assumption) (by exact rfl) (by walk_at "c room") (by exact rfl) (by exact rfl) (by decide +kernel) ?_; intro _ _ _ _ _ _ _ _; (try k_unfold); (try dsimp only); refine' font_leave (by assumption) (by assumption) (by assumption) (by assumption) (by assumption) ?_ (by exact rfl); intro _ _ _; (try dsimp only))))
  (k_with "call type:bytes cons nil bytes" => (k_here; refine bb_call ?_))
  (k_with "call type:bytes" => (k_here; (with_reducible show wpAny _ _ (call (Value.type "bytes") [Value.bytes _ _]) _ _ _); refine bb_call ?_))
  (k_with "leaving ref" => (k_here; k_dflt (refine' leave_onSX (by assumption) (by assumption) (by assumption) (by assumption) ?_; k_whole); intro _ zzR zzU; (try dsimp only at zzR zzU ⊢)))
  (k_with "storeName" => (dsimp only; walk_at "storeName"))
  trivial
set_option maxHeartbeats 8000000 in
theorem word_spec {w : World} {dp un : Nat} {gd : Option (List Code)} {base : Heap} {envs : List Env} {s : Shared} {Q E : Value → Shared → Prop} {x : Int} {tx : Tok}
  (C : Cx w (Ar dp un gd envs) base envs [] s.heap) (hroom : dp + 1 < recursionLimit)
  (k : ∀ l t1 t2 h' tk', Same [] s.heap h' → Now [] s.heap h' [(l, listOf [Value.int ((x.fmod 65536).fdiv 256) t1, Value.int (x.fmod 256) t2].toArray 0)] → Q (.ref l) { s with heap := h', toks := tk' }) :
  wpAny (model PySem.Challenge.rw_xm0719_01.row.prog w) (Ar dp un gd envs) (call (.ref 232) [.int x tx]) Q E s := by
  walk_at "c enter"
  walk_at "c go"
  walk_at "c end"
  exact k _ _ _ _ _ (by walk_at "c same") (by walk_at "c now")
def Coord (step c g : Int) (ds : List Int) : Prop :=
  (c = 0 ∧ g = 1 ∧ ds = [] ∧ step = 0) ∨ (c = 1 ∧ g = 1 ∧ ∃ a, ds = [a] ∧ 0 ≤ a ∧ a < 256 ∧ step = a) ∨ (c = 1 ∧ g = 0 ∧ ∃ a, ds = [a] ∧ 0 ≤ a ∧ a < 256 ∧ step = -a) ∨
  (c = 0 ∧ g = 0 ∧ ds = [(step.fmod 65536).fdiv 256, step.fmod 256])
theorem coord_a {x : Int} (h : x = 0) : Coord x 0 1 [] := .inl ⟨rfl, rfl, rfl, h⟩
theorem coord_c {x : Int} : Coord x 0 0 [(x.fmod 65536).fdiv 256, x.fmod 256] := .inr (.inr (.inr ⟨rfl, rfl, rfl⟩))
theorem coord_b {x g : Int} (h0 : -256 < x) (h1 : x < 256) (hg : (g = 1 ∧ 0 ≤ x) ∨ (g = 0 ∧ x ≤ 0)) : Coord x 1 g [if x < 0 then -x else x] := by
  rcases hg with ⟨rfl, h⟩ | ⟨rfl, h⟩
  · refine .inr (.inl ⟨rfl, rfl, _, rfl, ?_, ?_, ?_⟩) <;> split <;> omega
  · refine .inr (.inr (.inl ⟨rfl, rfl, _, rfl, ?_, ?_, ?_⟩)) <;> split <;> omega
abbrev tupOf (vs : List Value) (n : Nat := 0) : Obj := { cls := .type "tuple", data := .seq vs.toArray n }
theorem lnXLaw2_2 : True := by
  (k_with "call ref" => (k_here; (with_reducible show wpAny _ _ (call (Value.ref 232) [Value.int _ _]) _ _ _); walk_at "c via0"; intro cC cK; k_dflt (refine' word_spec cC (by walk_at "c room") ?_); clear cC; intro _ _ _ _ _ zzS zzW; (have zzhnew := now_new zzW); (refine And.elim (fun _ zzN => ?_) (cK _ _ zzS zzW)); clear cK zzS zzW; (try dsimp only [List.cons_append, List.nil_append] at zzN); (try dsimp only); (try k_sweep)))
  trivial
local macro_rules | `(tactic| walk_at "coord end") => `(tactic| (walk_at "c end"; rename (∀ (p l : Addr) (c g : Int) (tc tg : Tok) (vs : List Value) (ds : List Int) (h' : Heap) (tk' : Nat), _) => kk; refine' kk _ _ _ _ _ _ _ _ _ _ ?ia ?co ?sm ?nw ?ne; (case nw => walk_at "c now"); (case sm => walk_at "c same"); (case ia => walk_at "c ints"); (case ne => k_ne)))
set_option maxHeartbeats 8000000 in
theorem coord_spec {w : World} {dp un : Nat} {gd : Option (List Code)} {base : Heap} {envs : List Env} {s : Shared} {Q E : Value → Shared → Prop} {x f : Int} {tx tf : Tok}
  (C : Cx w (Ar dp un gd envs) base envs [] s.heap) (hroom : dp + 2 < recursionLimit) (hx0 : -32768 ≤ x) (hx1 : x ≤ 32767) (hf0 : 0 ≤ f) (hf1 : f < 5)
  (k : ∀ p l c g tc tg vs ds h' tk', IntsAre vs ds → Coord x c g ds → Same [] s.heap h' → Now [] s.heap h' [(p, tupOf [Value.int c tc, Value.int g tg, Value.ref l] 0), (l, listOf vs.toArray 0)] → p ≠ l → Q (.ref p) { s with heap := h', toks := tk' }) :
  wpAny (model PySem.Challenge.rw_xm0719_01.row.prog w) (Ar dp un gd envs) (call (.ref 239) [.int x tx, .int f tf]) Q E s := by
  walk_at "c enter"
  walk_at "c go"
  all_goals walk_at "coord end"
  all_goals first
    | exact coord_c
    | exact coord_a (by assumption)
    | exact coord_b (by omega) (by omega) (by split <;> simp_all <;> omega)
end
section
open PySem PySem.W PySem.Calls PyProof.Rows
-- XLaw3
set_option maxRecDepth 100000
theorem lnXLaw3_1 : True := by
  w_top off
  k_with_none
  (k_with "c enter" => (refine wpAny_call ?_; k_dflt (refine' enter (by assumption) (by first | assumption | exact use_nil) (by k_is) (by k_is) (by walk_at "c room") (by exact BindsTo.of_eq rfl) (by exact locs rfl) ?_ (by exact rfl) (by exact rfl) (by exact rfl) (by decide); k_whole; intro _ _ _ _ _ _ _ _ _ _ _ _ _ _; (try dsimp only); (try k_fold))))
  (k_with "c room" => first | assumption | decide | ((try simp only [depth_under_make, depth_under_kw, depth_in1, depth_deeper, depth_caller]); (try dsimp only [Ar]); first | exact room2 (by assumption) (by decide) | exact room1 (by assumption) (by decide) | exact room0 (by assumption) | omega))
  (k_with "c pick" => first | exact Pick.head | exact Pick.tail (by walk_at "c pick"))
  (k_with "c go" => repeat' (first | ((fail_if_success (with_reducible show wpAny _ _ (pyIter (Value.ref _)) _ _ _)); (fail_if_success (with_reducible show wpAny _ _ (exec (Stmt.While _ _ _ _) _) _ _ _)); first | (k_unfold; (try dsimp only)) | walk1 | (dsimp only; walk1))))
  (k_with "subscriptTail Name Constant ref int" => (k_here; (with_reducible show wpAny _ _ (subscriptTail _ _ (Value.ref _) (Value.int _ _)) _ _ _); (with_unfolding_all refine' my_item (by is_list) (by decide) (by decide) (by rfl) ?_ (by with_unfolding_all rfl); k_whole)))
  (k_with "call builtin:len" => (k_here; (with_reducible show wpAny _ _ (call (Value.builtin "len") [Value.ref _]) _ _ _); k_dflt (refine' my_len (by is_list) (by walk_at "c fit") ?_; k_whole)))
  (k_with "c via1" => (k_dflt (refine' via1 (by assumption) (by assumption) (by assumption) (by assumption) (by walk_at "c pick") (by k_all) (by first | exact rfl | assumption) ?_)))
  (k_with "c via0" => (k_dflt (refine' via0 (by assumption) (by assumption) (by assumption) (by assumption) (by first | exact rfl | assumption) ?_)))
  (k_with "c num" => first | assumption | decide | exact Int.natCast_nonneg _ | exact Nat.lt_of_lt_of_le (by assumption) (by decide) | exact size2 (by assumption) (by assumption) (by decide) | omega)
  (k_with "call ref" => (k_here; (with_reducible show wpAny _ _ (call (Value.ref 218) [Value.ref _, Value.int _ _]) _ _ _); walk_at "c via1"; intro cC cS cK; k_dflt (refine' take_spec cC cS (by walk_at "c num") (by walk_at "c num") (by walk_at "c num") (by walk_at "c num") (by walk_at "c room") ?_); clear cC cS; intro _ _ _ _ _ _ _ _ _ _ _ _ zzS zzW; (refine And.elim (fun _ zzN => ?_) (cK _ _ zzS zzW)); clear cK zzS zzW; (try dsimp only [List.cons_append, List.nil_append] at zzN); (try dsimp only); (try k_sweep)))
  (k_with "c fit" => first | assumption | exact Nat.le_of_ble_eq_true rfl | exact Nat.lt_of_lt_of_le (by assumption) (by decide) | exact size2 (by assumption) (by assumption) (by decide) | omega | ((simp only [List.length_cons, List.length_append, List.length_nil]); omega))
  (k_with "c itemN" => (k_here; (with_reducible show wpAny _ _ (subscriptTail _ _ (Value.ref _) (Value.int _ _)) _ _ _); (with_unfolding_all refine' my_itemN (by is_list) (by walk_at "c num") (by walk_at "c num") (by walk_at "c fit") ?_ (by with_unfolding_all rfl); k_whole)))
  (k_with "c end" => ((try k_unfold); (try dsimp only)))
  (k_with "c same" => exact same_of (by assumption) (by assumption))
  (k_with "c sub" => first | exact List.forall_mem_nil _ | exact fun _ h => h | exact List.forall_mem_cons.mpr ⟨by k_mem, by walk_at "c sub"⟩)
  (k_with "c now" => first | exact now_of (by assumption) (by assumption) | exact now_sub (by assumption) (by assumption) (by walk_at "c sub"))
  (k_with "c ints" => first | assumption | exact IntsAre.nil | exact IntsAre.cons _ _ IntsAre.nil | exact IntsAre.cons _ _ (IntsAre.cons _ _ IntsAre.nil) | exact IntsAre.cons _ _ (IntsAre.cons _ _ (IntsAre.cons _ _ IntsAre.nil)))
  (k_with "k_all" => first | exact all_ltS (by assumption) (by walk_at "c tail") | fail)
  (k_with "k_all" => first | exact List.forall_mem_nil _ | (refine' List.forall_mem_cons.mpr ⟨(by k_ne), (by k_all)⟩))
  (k_with "k_all" => first | (with_reducible assumption) | exact all_lt (by with_reducible assumption) | fail)
  (k_with "c lt" => first | assumption | exact lt_mem (by assumption) (by k_mem) | exact lt_mem2 (by assumption) (by assumption) (by k_mem) | exact Nat.lt_succ_self _ | exact Nat.lt_succ_of_lt (by walk_at "c lt"))
  (k_with "k_ne" => first | exact Apt.ne (by assumption) | exact (Apt.ne (by assumption)).symm | exact NewAt.ne (by assumption) (by k_mem) | exact (NewAt.ne (by assumption) (by k_mem)).symm | exact ne_gt (by assumption) (by k_mem) | exact ne_lt (by assumption) (by k_mem) | exact Nat.ne_of_gt (by walk_at "c lt") | exact Nat.ne_of_lt (by walk_at "c lt") | (refine neN ?_; (try dsimp only); omega))
  (k_with "k_mem" => first | exact lm0 | exact lm1 | exact lm2 | exact lm3 | (refine' lm4 ?_; k_mem))
  (k_with "le" => k_dflt (exact Nat.le_of_ble_eq_true rfl))
  (k_with "lt" => k_dflt (exact Nat.le_of_ble_eq_true rfl))
  (k_with "c size" => first | assumption | exact Nat.le_of_ble_eq_true rfl | exact Nat.lt_of_lt_of_le (by assumption) (by decide) | exact size2 (by assumption) (by assumption) (by decide) | omega | ((simp only [List.length_cons, List.length_append, List.length_nil]); omega))
  (k_with "call builtin:list.append" => (k_here; (with_reducible show wpAny _ _ (call (Value.builtin "list.append") [Value.ref _, _]) _ _ _); k_dflt (refine' my_append (by k_asm) (by k_asm) (by k_upd) (by walk_at "c size") ?_; k_whole); intro _ _ _; (try k_sweep)))
  (k_with "binaryOp Add ref ref" => (k_here; (with_reducible show wpAny _ _ (binaryOp Operator.Add (Value.ref _) (Value.ref _)) _ _ _); k_dflt (refine' my_addL (by k_asm) (by k_asm) (by is_list) (by is_list) (by walk_at "c size") ?_; k_whole); intro _ _ _ _ _; (try k_sweep)))
  (k_with "c tail" => (intro _ zzhp; repeat (first | exact zzhp | refine List.mem_cons_of_mem _ ?_)))
  (k_with "c rest" => (intro _ zzq1 zzq2 zzq3; (repeat (first | refine upd_ne zzq1 ?_ | refine upd_ne (ne_stored zzq3 (by decide +kernel)) ?_ | refine upd_ne (zzq2 (_, _) (by k_mem)) ?_ | exact kst_end zzq3 | refine kst_mid (not_in_cons (ne_stored zzq3 (by decide +kernel)) not_in_nil) ?_ | refine kst_ne (ne_stored zzq3 (by decide +kernel)) ?_ | refine kst_ne (zzq2 (_, _) (by k_mem)) ?_))))
  (k_with "c restW" => (intro _ zzq2 zzq3; (repeat (first | refine upd_ne (ne_stored zzq3 (by decide +kernel)) ?_ | refine upd_ne (zzq2 (_, _) (by k_mem)) ?_ | exact kst_end zzq3 | refine kst_mid (not_in_cons (ne_stored zzq3 (by decide +kernel)) not_in_nil) ?_ | refine kst_ne (ne_stored zzq3 (by decide +kernel)) ?_ | refine kst_ne (zzq2 (_, _) (by k_mem)) ?_))))
  (k_with "c ps" => first | exact List.forall_mem_nil _ | exact List.forall_mem_cons.mpr ⟨rfl, by walk_at "c ps"⟩)
  (k_with "c itemI" => (k_here; (with_reducible show wpAny _ _ (subscriptTail _ _ (Value.ref _) (Value.int _ _)) _ _ _); (with_unfolding_all refine' my_itemI (by is_list) (by with_reducible assumption) (by walk_at "c num") (by walk_at "c num") (by walk_at "c fit") ?_ (by with_unfolding_all rfl); k_whole); intro _))
  (k_with "exec Raise some none" => (k_here; k_dflt (refine' font_raise (by assumption) (by assumption) (by assumption) (by exact rfl) (by walk_at "c room") (by exact rfl) (by exact rfl) (by decide +kernel) ?_; intro _ _ _ _ _ _ _ _; (try k_unfold); (try dsimp only); refine' font_leave (by assumption) (by assumption) (by assumption) (by assumption) (by assumption) ?_ (by exact rfl); intro _ _ _; (try dsimp only))))
  (k_with "call type:bytes cons nil bytes" => (k_here; refine bb_call ?_))
  (k_with "call type:bytes" => (k_here; (with_reducible show wpAny _ _ (call (Value.type "bytes") [Value.bytes _ _]) _ _ _); refine bb_call ?_))
  (k_with "leaving ref" => (k_here; k_dflt (refine' leave_onSX (by assumption) (by assumption) (by assumption) (by assumption) ?_; k_whole); intro _ zzR zzU; (try dsimp only at zzR zzU ⊢)))
  (k_with "storeName" => (dsimp only; walk_at "storeName"))
  trivial
theorem coord_len {x c g : Int} {vs : List Value} {ds : List Int} (I : IntsAre vs ds) (h : Coord x c g ds) : vs.length ≤ 2 := by
  rw [I.length]
  rcases h with ⟨_, _, rfl, _⟩ | ⟨_, _, a, rfl, _⟩ | ⟨_, _, a, rfl, _⟩ | ⟨_, _, rfl⟩ <;> simp
def intOf? : Value → Option Int
  | .int i _ => some i
  | _ => none
theorem intOf_mem {vs : List Value} (ha : vs.all (fun v => (intOf? v).isSome) = true) {v : Value} (hm : v ∈ vs) : ∃ z t, v = .int z t ∧ z ∈ vs.filterMap intOf? := by
  have h := List.all_eq_true.mp ha v hm
  cases v <;> simp [intOf?] at h
  rename_i z t
  exact ⟨z, t, rfl, List.mem_filterMap.mpr ⟨_, hm, rfl⟩⟩
theorem one_specI {w : World} {dp un : Nat} {gd : Option (List Code)} {base : Heap} {envs : List Env} {s : Shared} {Q E : Value → Shared → Prop} {S T : Addr} {x y : Int} {tx ty : Tok} {n : Nat} {vs : List Value}
  (C : Cx w (Ar dp un gd envs) base envs [S] s.heap) (hS : s.heap.get? S = some (listOf #[Value.int x tx, Value.int y ty] n)) (hT : s.heap.IsList T vs.toArray) (hTS : T ≠ S) (hv : 0 < vs.length) (hv1 : vs.length < 1000)
  (ha : vs.all (fun v => (intOf? v).isSome) = true)
  (hy0 : 0 ≤ y) (hy1 : y < 2147483647) (hroom : dp + 2 < recursionLimit)
  (k : ∀ z t x' y' tx' ty' h' tk', z ∈ vs.filterMap intOf? → 0 ≤ y' → y' < 2147483647 → Same [S] s.heap h' → Now [S] s.heap h' [(S, listOf #[Value.int x' tx', Value.int y' ty'] n)] → Q (.int z t) { s with heap := h', toks := tk' }) :
  wpAny (model PySem.Challenge.rw_xm0719_01.row.prog w) (Ar dp un gd envs) (call (.ref 225) [.ref S, .ref T]) Q E s :=
  one_spec C hS hT hTS hv hv1 hy0 hy1 hroom fun r v x' y' tx' ty' h' tk' hx h0 h1 hs hn => by
    obtain ⟨z, t, rfl, hz⟩ := intOf_mem ha (List.mem_of_getElem? hx)
    exact k z t x' y' tx' ty' h' tk' hz h0 h1 hs hn
theorem lnXLaw3_2 : True := by
  (k_with "call ref" => (k_here; (with_reducible show wpAny _ _ (call (Value.ref 225) [Value.ref _, Value.ref _]) _ _ _); walk_at "c via1"; intro cC cS cK; k_dflt (refine' one_specI cC cS (by is_list) (by k_ne) (by walk_at "c fit") (by walk_at "c fit") (by rfl) (by walk_at "c num") (by walk_at "c num") (by walk_at "c room") ?_); clear cC cS; intro _ _ _ _ _ _ _ _ zzzm _ _ zzS zzW; (refine And.elim (fun _ zzN => ?_) (cK _ _ zzS zzW)); clear cK zzS zzW; (try simp only [List.filterMap_cons, List.filterMap_nil, intOf?, List.mem_cons, List.not_mem_nil, or_false] at zzzm); (try dsimp only [List.cons_append, List.nil_append] at zzN); (try dsimp only); (try k_sweep)))
  trivial
set_option maxHeartbeats 8000000 in
theorem step_spec {w : World} {dp un : Nat} {gd : Option (List Code)} {base : Heap} {envs : List Env} {s : Shared} {Q E : Value → Shared → Prop} {S : Addr} {x y : Int} {tx ty : Tok} {n : Nat}
  (C : Cx w (Ar dp un gd envs) base envs [S] s.heap) (hS : s.heap.get? S = some (listOf #[Value.int x tx, Value.int y ty] n))
  (hy0 : 0 ≤ y) (hy1 : y < 2147483647) (hroom : dp + 3 < recursionLimit)
  (k : ∀ z t x' y' tx' ty' h' tk', -32768 ≤ z → z ≤ 32767 → 0 ≤ y' → y' < 2147483647 → Same [S] s.heap h' → Now [S] s.heap h' [(S, listOf #[Value.int x' tx', Value.int y' ty'] n)] → Q (.int z t) { s with heap := h', toks := tk' }) :
  wpAny (model PySem.Challenge.rw_xm0719_01.row.prog w) (Ar dp un gd envs) (call (.ref 246) [.ref S]) Q E s := by
  have hu := use_one hS
  walk_at "c enter"
  walk_at "c go"
  exact k _ _ _ _ _ _ _ _ (by omega) (by omega) (by assumption) (by assumption) (by walk_at "c same") (by walk_at "c now")
end
section
open PySem PySem.W PySem.Calls PyProof.Rows
-- XLaw4
set_option maxRecDepth 100000
theorem lnXLaw4_1 : True := by
  w_top off
  k_with_none
  (k_with "c enter" => (refine wpAny_call ?_; k_dflt (refine' enter (by assumption) (by first | assumption | exact use_nil) (by k_is) (by k_is) (by walk_at "c room") (by exact BindsTo.of_eq rfl) (by exact locs rfl) ?_ (by exact rfl) (by exact rfl) (by exact rfl) (by decide); k_whole; intro _ _ _ _ _ _ _ _ _ _ _ _ _ _; (try dsimp only); (try k_fold))))
  (k_with "c room" => first | assumption | decide | ((try simp only [depth_under_make, depth_under_kw, depth_in1, depth_deeper, depth_caller]); (try dsimp only [Ar]); first | exact room2 (by assumption) (by decide) | exact room1 (by assumption) (by decide) | exact room0 (by assumption) | omega))
  (k_with "c pick" => first | exact Pick.head | exact Pick.tail (by walk_at "c pick"))
  (k_with "c go" => repeat' (first | ((fail_if_success (with_reducible show wpAny _ _ (pyIter (Value.ref _)) _ _ _)); (fail_if_success (with_reducible show wpAny _ _ (exec (Stmt.While _ _ _ _) _) _ _ _)); first | (k_unfold; (try dsimp only)) | walk1 | (dsimp only; walk1))))
  (k_with "subscriptTail Name Constant ref int" => (k_here; (with_reducible show wpAny _ _ (subscriptTail _ _ (Value.ref _) (Value.int _ _)) _ _ _); (with_unfolding_all refine' my_item (by is_list) (by decide) (by decide) (by rfl) ?_ (by with_unfolding_all rfl); k_whole)))
  (k_with "call builtin:len" => (k_here; (with_reducible show wpAny _ _ (call (Value.builtin "len") [Value.ref _]) _ _ _); k_dflt (refine' my_len (by is_list) (by walk_at "c fit") ?_; k_whole)))
  (k_with "c via1" => (k_dflt (refine' via1 (by assumption) (by assumption) (by assumption) (by assumption) (by walk_at "c pick") (by k_all) (by first | exact rfl | assumption) ?_)))
  (k_with "c via0" => (k_dflt (refine' via0 (by assumption) (by assumption) (by assumption) (by assumption) (by first | exact rfl | assumption) ?_)))
  (k_with "c num" => first | assumption | decide | exact Int.natCast_nonneg _ | exact Nat.lt_of_lt_of_le (by assumption) (by decide) | exact size2 (by assumption) (by assumption) (by decide) | omega)
  (k_with "call ref" => (k_here; (with_reducible show wpAny _ _ (call (Value.ref 218) [Value.ref _, Value.int _ _]) _ _ _); walk_at "c via1"; intro cC cS cK; k_dflt (refine' take_spec cC cS (by walk_at "c num") (by walk_at "c num") (by walk_at "c num") (by walk_at "c num") (by walk_at "c room") ?_); clear cC cS; intro _ _ _ _ _ _ _ _ _ _ _ _ zzS zzW; (refine And.elim (fun _ zzN => ?_) (cK _ _ zzS zzW)); clear cK zzS zzW; (try dsimp only [List.cons_append, List.nil_append] at zzN); (try dsimp only); (try k_sweep)))
  (k_with "c fit" => first | assumption | exact Nat.le_of_ble_eq_true rfl | exact Nat.lt_of_lt_of_le (by assumption) (by decide) | exact size2 (by assumption) (by assumption) (by decide) | omega | ((simp only [List.length_cons, List.length_append, List.length_nil]); omega))
  (k_with "c itemN" => (k_here; (with_reducible show wpAny _ _ (subscriptTail _ _ (Value.ref _) (Value.int _ _)) _ _ _); (with_unfolding_all refine' my_itemN (by is_list) (by walk_at "c num") (by walk_at "c num") (by walk_at "c fit") ?_ (by with_unfolding_all rfl); k_whole)))
  (k_with "c end" => ((try k_unfold); (try dsimp only)))
  (k_with "c same" => exact same_of (by assumption) (by assumption))
  (k_with "c sub" => first | exact List.forall_mem_nil _ | exact fun _ h => h | exact List.forall_mem_cons.mpr ⟨by k_mem, by walk_at "c sub"⟩)
  (k_with "c now" => first | exact now_of (by assumption) (by assumption) | exact now_sub (by assumption) (by assumption) (by walk_at "c sub"))
  (k_with "c ints" => first | assumption | exact IntsAre.nil | exact IntsAre.cons _ _ IntsAre.nil | exact IntsAre.cons _ _ (IntsAre.cons _ _ IntsAre.nil) | exact IntsAre.cons _ _ (IntsAre.cons _ _ (IntsAre.cons _ _ IntsAre.nil)))
  (k_with "k_all" => first | exact all_ltS (by assumption) (by walk_at "c tail") | fail)
  (k_with "k_all" => first | exact List.forall_mem_nil _ | (refine' List.forall_mem_cons.mpr ⟨(by k_ne), (by k_all)⟩))
  (k_with "k_all" => first | (with_reducible assumption) | exact all_lt (by with_reducible assumption) | fail)
  (k_with "c lt" => first | assumption | exact lt_mem (by assumption) (by k_mem) | exact lt_mem2 (by assumption) (by assumption) (by k_mem) | exact Nat.lt_succ_self _ | exact Nat.lt_succ_of_lt (by walk_at "c lt"))
  (k_with "k_ne" => first | exact Apt.ne (by assumption) | exact (Apt.ne (by assumption)).symm | exact NewAt.ne (by assumption) (by k_mem) | exact (NewAt.ne (by assumption) (by k_mem)).symm | exact ne_gt (by assumption) (by k_mem) | exact ne_lt (by assumption) (by k_mem) | exact Nat.ne_of_gt (by walk_at "c lt") | exact Nat.ne_of_lt (by walk_at "c lt") | (refine neN ?_; (try dsimp only); omega))
  (k_with "k_mem" => first | exact lm0 | exact lm1 | exact lm2 | exact lm3 | (refine' lm4 ?_; k_mem))
  (k_with "le" => k_dflt (exact Nat.le_of_ble_eq_true rfl))
  (k_with "lt" => k_dflt (exact Nat.le_of_ble_eq_true rfl))
  (k_with "c size" => first | assumption | exact Nat.le_of_ble_eq_true rfl | exact Nat.lt_of_lt_of_le (by assumption) (by decide) | exact size2 (by assumption) (by assumption) (by decide) | omega | ((simp only [List.length_cons, List.length_append, List.length_nil]); omega))
  (k_with "call builtin:list.append" => (k_here; (with_reducible show wpAny _ _ (call (Value.builtin "list.append") [Value.ref _, _]) _ _ _); k_dflt (refine' my_append (by k_asm) (by k_asm) (by k_upd) (by walk_at "c size") ?_; k_whole); intro _ _ _; (try k_sweep)))
  (k_with "binaryOp Add ref ref" => (k_here; (with_reducible show wpAny _ _ (binaryOp Operator.Add (Value.ref _) (Value.ref _)) _ _ _); k_dflt (refine' my_addL (by k_asm) (by k_asm) (by is_list) (by is_list) (by walk_at "c size") ?_; k_whole); intro _ _ _ _ _; (try k_sweep)))
  (k_with "c tail" => (intro _ zzhp; repeat (first | exact zzhp | refine List.mem_cons_of_mem _ ?_)))
  (k_with "c rest" => (intro _ zzq1 zzq2 zzq3; (repeat (first | refine upd_ne zzq1 ?_ | refine upd_ne (ne_stored zzq3 (by decide +kernel)) ?_ | refine upd_ne (zzq2 (_, _) (by k_mem)) ?_ | exact kst_end zzq3 | refine kst_mid (not_in_cons (ne_stored zzq3 (by decide +kernel)) not_in_nil) ?_ | refine kst_ne (ne_stored zzq3 (by decide +kernel)) ?_ | refine kst_ne (zzq2 (_, _) (by k_mem)) ?_))))
  (k_with "c restW" => (intro _ zzq2 zzq3; (repeat (first | refine upd_ne (ne_stored zzq3 (by decide +kernel)) ?_ | refine upd_ne (zzq2 (_, _) (by k_mem)) ?_ | exact kst_end zzq3 | refine kst_mid (not_in_cons (ne_stored zzq3 (by decide +kernel)) not_in_nil) ?_ | refine kst_ne (ne_stored zzq3 (by decide +kernel)) ?_ | refine kst_ne (zzq2 (_, _) (by k_mem)) ?_))))
  (k_with "c ps" => first | exact List.forall_mem_nil _ | exact List.forall_mem_cons.mpr ⟨rfl, by walk_at "c ps"⟩)
  (k_with "c itemI" => (k_here; (with_reducible show wpAny _ _ (subscriptTail _ _ (Value.ref _) (Value.int _ _)) _ _ _); (with_unfolding_all refine' my_itemI (by is_list) (by with_reducible assumption) (by walk_at "c num") (by walk_at "c num") (by walk_at "c fit") ?_ (by with_unfolding_all rfl); k_whole); intro _))
  (k_with "exec Raise some none" => (k_here; k_dflt (refine' font_raise (by assumption) (by assumption) (by assumption) (by exact rfl) (by walk_at "c room") (by exact rfl) (by exact rfl) (by decide +kernel) ?_; intro _ _ _ _ _ _ _ _; (try k_unfold); (try dsimp only); refine' font_leave (by assumption) (by assumption) (by assumption) (by assumption) (by assumption) ?_ (by exact rfl); intro _ _ _; (try dsimp only))))
  (k_with "call type:bytes cons nil bytes" => (k_here; refine bb_call ?_))
  (k_with "call type:bytes" => (k_here; (with_reducible show wpAny _ _ (call (Value.type "bytes") [Value.bytes _ _]) _ _ _); refine bb_call ?_))
  (k_with "leaving ref" => (k_here; k_dflt (refine' leave_onSX (by assumption) (by assumption) (by assumption) (by assumption) ?_; k_whole); intro _ zzR zzU; (try dsimp only at zzR zzU ⊢)))
  (k_with "storeName" => (dsimp only; walk_at "storeName"))
  (k_with "execs cons" => (k_here; k_fold))
  (k_with "exec Assign" => (k_here; k_fold))
  (k_with "call ref" => (k_here; (with_reducible show wpAny _ _ (call (Value.ref 225) [Value.ref _, Value.ref _]) _ _ _); walk_at "c via1"; intro cC cS cK; k_dflt (refine' one_specI cC cS (by is_list) (by k_ne) (by walk_at "c fit") (by walk_at "c fit") (by rfl) (by walk_at "c num") (by walk_at "c num") (by walk_at "c room") ?_); clear cC cS; intro _ _ _ _ _ _ _ _ zzzm _ _ zzS zzW; (refine And.elim (fun _ zzN => ?_) (cK _ _ zzS zzW)); clear cK zzS zzW; (try simp only [List.filterMap_cons, List.filterMap_nil, intOf?, List.mem_cons, List.not_mem_nil, or_false] at zzzm); (try dsimp only [List.cons_append, List.nil_append] at zzN); (try dsimp only); (try k_sweep)))
  (k_with "call ref" => (k_here; (with_reducible show wpAny _ _ (call (Value.ref 246) [Value.ref _]) _ _ _); walk_at "c via1"; intro cC cS cK; k_dflt (refine' step_spec cC cS (by walk_at "c num") (by walk_at "c num") (by walk_at "c room") ?_); clear cC cS; intro _ _ _ _ _ _ _ _ _ _ _ _ zzS zzW; (refine And.elim (fun _ zzN => ?_) (cK _ _ zzS zzW)); clear cK zzS zzW; (try dsimp only [List.cons_append, List.nil_append] at zzN); (try dsimp only); (try k_sweep)))
  (k_with "call ref" => (k_here; (with_reducible show wpAny _ _ (call (Value.ref 239) [Value.int _ _, Value.int _ _]) _ _ _); walk_at "c via0"; intro cC cK; k_dflt (refine' coord_spec cC (by walk_at "c room") (by walk_at "c num") (by walk_at "c num") (by walk_at "c num") (by walk_at "c num") ?_); clear cC; intro _ _ _ _ _ _ _ _ _ _ zzI zzO zzS zzW zzne; (replace zzne := Apt.mk zzne); (have zzhcl := coord_len zzI zzO); (have zzhq1 := now_at zzW (.head _)); (have zzhq2 := now_at zzW (.tail _ (.head _))); (with_reducible rename News _ _ _ _ => zznO); (have zzhn1 := NewAt.mk (apart_new zznO zzhq1)); (have zzhn2 := NewAt.mk (apart_new zznO zzhq2)); clear zzhq1 zzhq2; (refine And.elim (fun _ zzN => ?_) (cK _ _ zzS zzW)); clear cK zzS zzW zznO; (try dsimp only [List.cons_append, List.nil_append] at zzN); (try dsimp only); (try k_sweep)))
  trivial
structure Pt where
  first : Int
  second : Int
  on : Int
  c : Int
  g : Int
  ds : List Int
  c2 : Int
  g2 : Int
  es : List Int
  hi : Int
def Pt.Ok (p : Pt) : Prop := Coord p.first p.c p.g p.ds ∧ Coord p.second p.c2 p.g2 p.es ∧ (0 ≤ p.on ∧ p.on < 2) ∧ (p.hi = 0 ∨ p.hi = 1 ∨ p.hi = 3) ∧ (-32768 ≤ p.first ∧ p.first ≤ 32767) ∧ (-32768 ≤ p.second ∧ p.second ≤ 32767)
def Pt.mark (p : Pt) : Int := p.on + 2 * p.c + 4 * p.c2 + 16 * p.g + 32 * p.g2 + 64 * p.hi
def Pt.X (pts : List Pt) : Int := (pts.map Pt.first).sum
def Pt.Y (pts : List Pt) : Int := (pts.map Pt.second).sum
/-- the rows told: the points so far from a place on -/
def rowsFrom : Int → Int → List Pt → List (Int × Int × Bool)
  | _, _, [] => []
  | x, y, p :: r => (x + p.first, y + p.second, p.on == 1) :: rowsFrom (x + p.first) (y + p.second) r
def rows (pts : List Pt) : List (Int × Int × Bool) := rowsFrom 0 0 pts
theorem rowsFrom_snoc (p : Pt) : ∀ (pts : List Pt) (x y : Int), rowsFrom x y (pts ++ [p]) = rowsFrom x y pts ++ [(x + Pt.X pts + p.first, y + Pt.Y pts + p.second, p.on == 1)]
  | [], x, y => by simp [rowsFrom, Pt.X, Pt.Y]
  | q :: r, x, y => by
    simp only [List.cons_append, rowsFrom, rowsFrom_snoc p r, Pt.X, Pt.Y, List.map_cons, List.sum_cons]
    rw [Int.add_assoc x, Int.add_assoc y]
theorem rows_snoc (pts : List Pt) (p : Pt) : rows (pts ++ [p]) = rows pts ++ [(Pt.X pts + p.first, Pt.Y pts + p.second, p.on == 1)] := by
  unfold rows
  rw [rowsFrom_snoc]
  simp
theorem rowsFrom_length : ∀ (pts : List Pt) (x y : Int), (rowsFrom x y pts).length = pts.length
  | [], _, _ => rfl
  | p :: r, x, y => by simp [rowsFrom, rowsFrom_length r]
theorem rows_length (pts : List Pt) : (rows pts).length = pts.length := rowsFrom_length pts 0 0
theorem Coord.len {x c g : Int} {ds : List Int} (h : Coord x c g ds) : ds.length ≤ 2 := by
  rcases h with ⟨_, _, rfl, _⟩ | ⟨_, _, a, rfl, _⟩ | ⟨_, _, a, rfl, _⟩ | ⟨_, _, rfl⟩ <;> simp
theorem ds_length : ∀ {pts : List Pt}, (∀ p ∈ pts, p.Ok) → (pts.flatMap Pt.ds).length ≤ 2 * pts.length
  | [], _ => by simp
  | p :: r, h => by
    have h1 := (h p (.head _)).1.len
    have h2 := ds_length (pts := r) fun q hq => h q (.tail _ hq)
    simp only [List.flatMap_cons, List.length_append, List.length_cons]
    omega
theorem es_length : ∀ {pts : List Pt}, (∀ p ∈ pts, p.Ok) → (pts.flatMap Pt.es).length ≤ 2 * pts.length
  | [], _ => by simp
  | p :: r, h => by
    have h1 := (h p (.head _)).2.1.len
    have h2 := es_length (pts := r) fun q hq => h q (.tail _ hq)
    simp only [List.flatMap_cons, List.length_append, List.length_cons]
    omega
inductive TupsIn (tl : List (Addr × Obj)) : List Value → List (Int × Int × Bool) → Prop
  | nil : TupsIn tl [] []
  | snoc {vs : List Value} {rs : List (Int × Int × Bool)} {a : Addr} {x y : Int} {b : Bool} {t u : Tok} : TupsIn tl vs rs → (a, tupOf [Value.int x t, Value.int y u, Value.bool b] 0) ∈ tl → TupsIn tl (vs ++ [Value.ref a]) (rs ++ [(x, y, b)])
theorem TupsIn.mono {tl tl' : List (Addr × Obj)} (hs : ∀ p ∈ tl, p ∈ tl') {vs : List Value} {rs : List (Int × Int × Bool)} (h : TupsIn tl vs rs) : TupsIn tl' vs rs := by
  induction h with
  | nil => exact .nil
  | snoc _ hm ih => exact .snoc ih (hs _ hm)
theorem TupsIn.length {tl : List (Addr × Obj)} {vs : List Value} {rs : List (Int × Int × Bool)} (h : TupsIn tl vs rs) : vs.length = rs.length := by
  induction h with
  | nil => rfl
  | snoc _ _ ih => simp [ih]
def PG (S fnd l0 l1 : Addr) (n : Nat) (i : Nat) (c : Int × Int × Tok × Tok) (nx : List (Addr × Obj)) : Prop :=
  ∃ (pts : List Pt) (vs0 vs1 vs2 vs3 : List Value) (n0 n1 n2 n3 nf : Nat) (a b : Int) (ta tb : Tok) (l2 l3 : Addr) (tl : List (Addr × Obj)),
    nx = (S, listOf #[Value.int a ta, Value.int b tb] n) :: (fnd, listOf #[Value.ref l0, Value.ref l1, Value.ref l2, Value.ref l3] nf) :: (l0, listOf vs0.toArray n0) :: (l1, listOf vs1.toArray n1) :: (l2, listOf vs2.toArray n2) :: (l3, listOf vs3.toArray n3) :: tl ∧
    (0 ≤ b ∧ b < 2147483647) ∧ pts.length = i ∧ (∀ p ∈ pts, p.Ok) ∧ (c.1 = Pt.X pts ∧ c.2.1 = Pt.Y pts) ∧ TupsIn tl vs0 (rows pts) ∧ IntsAre vs1 (pts.map Pt.mark) ∧ IntsAre vs2 (pts.flatMap Pt.ds) ∧ IntsAre vs3 (pts.flatMap Pt.es) ∧
    (Apt l2 S ∧ Apt l2 fnd ∧ Apt l2 l0 ∧ Apt l2 l1 ∧ Apt l3 S ∧ Apt l3 fnd ∧ Apt l3 l0 ∧ Apt l3 l1 ∧ Apt fnd S ∧ Apt l0 S ∧ Apt l1 S ∧ Apt l0 fnd ∧ Apt l1 fnd ∧ Apt l1 l0) ∧ (∀ p ∈ tl, p.1 ≠ S) ∧ (∀ p ∈ tl, p.1 ≠ fnd) ∧ (∀ p ∈ tl, p.1 ≠ l0) ∧ (∀ p ∈ tl, p.1 ≠ l1)
theorem PG.elim {S fnd l0 l1 : Addr} {n i : Nat} {c : Int × Int × Tok × Tok} {nx : List (Addr × Obj)} {P : Prop} (h : PG S fnd l0 l1 n i c nx)
    (k : ∀ (pts : List Pt) (vs0 vs1 vs2 vs3 : List Value) (n0 n1 n2 n3 nf : Nat) (a b : Int) (ta tb : Tok) (l2 l3 : Addr) (tl : List (Addr × Obj)) (X Y : Int) (tX tY : Tok), c = (X, Y, tX, tY) →
      nx = (S, listOf #[Value.int a ta, Value.int b tb] n) :: (fnd, listOf #[Value.ref l0, Value.ref l1, Value.ref l2, Value.ref l3] nf) :: (l0, listOf vs0.toArray n0) :: (l1, listOf vs1.toArray n1) :: (l2, listOf vs2.toArray n2) :: (l3, listOf vs3.toArray n3) :: tl →
      0 ≤ b → b < 2147483647 → pts.length = i → (∀ p ∈ pts, p.Ok) → X = Pt.X pts → Y = Pt.Y pts → TupsIn tl vs0 (rows pts) → IntsAre vs1 (pts.map Pt.mark) → IntsAre vs2 (pts.flatMap Pt.ds) → IntsAre vs3 (pts.flatMap Pt.es) →
      Apt l2 S → Apt l2 fnd → Apt l2 l0 → Apt l2 l1 → Apt l3 S → Apt l3 fnd → Apt l3 l0 → Apt l3 l1 → Apt fnd S → Apt l0 S → Apt l1 S → Apt l0 fnd → Apt l1 fnd → Apt l1 l0 → (∀ p ∈ tl, p.1 ≠ S) → (∀ p ∈ tl, p.1 ≠ fnd) → (∀ p ∈ tl, p.1 ≠ l0) → (∀ p ∈ tl, p.1 ≠ l1) → P) : P := by
  obtain ⟨X, Y, tX, tY⟩ := c
  obtain ⟨pts, vs0, vs1, vs2, vs3, n0, n1, n2, n3, nf, a, b, ta, tb, l2, l3, tl, e, ⟨hb0, hb1⟩, hlen, hok, ⟨eX, eY⟩, T0, I1, I2, I3, ⟨d1, d2, d3, d4, d5, d6, d7, d8, d9, d10, d11, d12, d13, d14⟩, tS, tf, t0, t1⟩ := h
  exact k pts vs0 vs1 vs2 vs3 n0 n1 n2 n3 nf a b ta tb l2 l3 tl X Y tX tY rfl e hb0 hb1 hlen hok eX eY T0 I1 I2 I3 d1 d2 d3 d4 d5 d6 d7 d8 d9 d10 d11 d12 d13 d14 tS tf t0 t1
theorem points_end {h₀ h' : Heap} {L S fnd l0 l1 q2 q3 tp I : Addr} {oI : Obj} {pts : List Pt} {vs0 vs1 vs2 vs3 w2 w3 : List Value} {n n0 n1 n2 n3 nf i tk : Nat} {a b X Y z1 z2 on c g c2 g2 hi mk : Int} {bb : Bool} {ta tb tX tY tX' tY' tm : Tok} {ds es : List Int} {m m₀ : Str → Option Value} {stored : List Str} {tl big : List (Addr × Obj)} {s₁ : Shared}
    (F : Fr h₀ L h' m) (N : News h₀ L h' big)
    (m1 : (S, listOf #[Value.int a ta, Value.int b tb] n) ∈ big) (m2 : (fnd, listOf #[Value.ref l0, Value.ref l1, Value.ref q2, Value.ref q3] nf) ∈ big)
    (m3 : (l0, listOf (vs0 ++ [Value.ref tp]).toArray n0) ∈ big) (m4 : (l1, listOf (vs1 ++ [Value.int mk tm]).toArray n1) ∈ big) (m5 : (q2, listOf (vs2 ++ w2).toArray n2) ∈ big) (m6 : (q3, listOf (vs3 ++ w3).toArray n3) ∈ big)
    (m7 : (tp, tupOf [Value.int X tX, Value.int Y tY, Value.bool bb] 0) ∈ big) (mI : (I, oI) ∈ big) (htl : ∀ p ∈ tl, p ∈ big)
    (hx : m (Str.ofString "x") = some (.int X tX')) (hy : m (Str.ofString "y") = some (.int Y tY'))
    (hr : ∀ z, z ≠ Str.ofString "turn" → (∀ p ∈ ([(Str.ofString "x", .int X tX'), (Str.ofString "y", .int Y tY')] : List (Str × Value)), z ≠ p.1) → stored.contains z = false → m z = m₀ z)
    (hb : 0 ≤ b ∧ b < 2147483647) (hlen : pts.length = i) (hok : ∀ p ∈ pts, p.Ok) (T0 : TupsIn tl vs0 (rows pts)) (I1 : IntsAre vs1 (pts.map Pt.mark)) (I2 : IntsAre vs2 (pts.flatMap Pt.ds)) (I3 : IntsAre vs3 (pts.flatMap Pt.es))
    (eX : X = Pt.X pts + z1) (eY : Y = Pt.Y pts + z2) (eb : bb = (on == 1)) (em : mk = on + 2 * c + 4 * c2 + 16 * g + 32 * g2 + 64 * hi)
    (J2 : IntsAre w2 ds) (J3 : IntsAre w3 es) (O1 : Coord z1 c g ds) (O2 : Coord z2 c2 g2 es) (hon : 0 ≤ on ∧ on < 2) (hhi : hi = 0 ∨ hi = 1 ∨ hi = 3) (r1 : -32768 ≤ z1 ∧ z1 ≤ 32767) (r2 : -32768 ≤ z2 ∧ z2 ≤ 32767)
    (dd : Apt fnd S ∧ Apt l0 S ∧ Apt l1 S ∧ Apt l0 fnd ∧ Apt l1 fnd ∧ Apt l1 l0) (tS : ∀ p ∈ tl, p.1 ≠ S) (tf : ∀ p ∈ tl, p.1 ≠ fnd) (t0 : ∀ p ∈ tl, p.1 ≠ l0) (t1 : ∀ p ∈ tl, p.1 ≠ l1)
    (ee : (q2 ≠ S ∧ q2 ≠ fnd ∧ q2 ≠ l0 ∧ q2 ≠ l1) ∧ (q3 ≠ S ∧ q3 ≠ fnd ∧ q3 ≠ l0 ∧ q3 ≠ l1) ∧ (tp ≠ S ∧ tp ≠ fnd ∧ tp ≠ l0 ∧ tp ≠ l1))
    (hI : ∀ p ∈ tl, p.1 ≠ I) (fI : S ≠ I ∧ fnd ≠ I ∧ l0 ≠ I ∧ l1 ≠ I ∧ q2 ≠ I ∧ q3 ≠ I ∧ tp ≠ I) :
    SEnd (fun c : Int × Int × Tok × Tok => [(Str.ofString "x", .int c.1 c.2.2.1), (Str.ofString "y", .int c.2.1 c.2.2.2)]) stored m₀ (Str.ofString "turn") (PG S fnd l0 l1 n (i + 1)) h₀ L I oI s₁ { s₁ with heap := h', toks := tk } := by
  obtain ⟨⟨e1, e2, e3, e4⟩, ⟨e5, e6, e7, e8⟩, ⟨e9, e10, e11, e12⟩⟩ := ee
  obtain ⟨f1, f2, f3, f4, f5, f6, f7⟩ := fI
  refine SEnd.intro (X, Y, tX', tY') ((S, listOf #[Value.int a ta, Value.int b tb] n) :: (fnd, listOf #[Value.ref l0, Value.ref l1, Value.ref q2, Value.ref q3] nf) :: (l0, listOf (vs0 ++ [Value.ref tp]).toArray n0) :: (l1, listOf (vs1 ++ [Value.int mk tm]).toArray n1) :: (q2, listOf (vs2 ++ w2).toArray n2) :: (q3, listOf (vs3 ++ w3).toArray n3) :: (tp, tupOf [Value.int X tX, Value.int Y tY, Value.bool bb] 0) :: tl) F N ?_ ?_ ?_ hr ?_
  · simp only [List.forall_mem_cons]
    exact ⟨mI, m1, m2, m3, m4, m5, m6, m7, htl⟩
  · simp only [List.forall_mem_cons]
    exact ⟨f1, f2, f3, f4, f5, f6, f7, hI⟩
  · simp only [List.forall_mem_cons]
    exact ⟨hx, hy, List.forall_mem_nil _⟩
  · let p : Pt := ⟨z1, z2, on, c, g, ds, c2, g2, es, hi⟩
    refine ⟨pts ++ [p], _, _, _, _, _, _, _, _, _, a, b, ta, tb, q2, q3, (tp, tupOf [Value.int X tX, Value.int Y tY, Value.bool bb] 0) :: tl, rfl, hb, by simp [hlen], ?_, ⟨?_, ?_⟩, ?_, ?_, ?_, ?_, ⟨⟨e1⟩, ⟨e2⟩, ⟨e3⟩, ⟨e4⟩, ⟨e5⟩, ⟨e6⟩, ⟨e7⟩, ⟨e8⟩, dd⟩, ?_, ?_, ?_, ?_⟩
    · intro q hq
      rcases List.mem_append.mp hq with hq | hq
      · exact hok q hq
      · rw [List.mem_singleton.mp hq]
        exact ⟨O1, O2, hon, hhi, r1, r2⟩
    · simp [Pt.X, eX, p]
    · simp [Pt.Y, eY, p]
    · rw [rows_snoc]
      subst eX eY eb
      exact .snoc (T0.mono fun p hp => .tail _ hp) (.head _)
    · rw [List.map_append]
      subst em
      exact I1.append (.cons _ _ .nil)
    · rw [List.flatMap_append]
      simpa [p] using I2.append J2
    · rw [List.flatMap_append]
      simpa [p] using I3.append J3
    · exact List.forall_mem_cons.mpr ⟨e9, tS⟩
    · exact List.forall_mem_cons.mpr ⟨e10, tf⟩
    · exact List.forall_mem_cons.mpr ⟨e11, t0⟩
    · exact List.forall_mem_cons.mpr ⟨e12, t1⟩
set_option maxHeartbeats 8000000 in
theorem points_spec {w : World} {dp un : Nat} {gd : Option (List Code)} {base : Heap} {envs : List Env} {s : Shared} {Q E : Value → Shared → Prop} {S : Addr} {x y : Int} {tx ty : Tok} {n : Nat} {many : Int} {tm : Tok}
  (C : Cx w (Ar dp un gd envs) base envs [S] s.heap) (hS : s.heap.get? S = some (listOf #[Value.int x tx, Value.int y ty] n))
  (hy0 : 0 ≤ y) (hy1 : y < 2147483647) (hm0 : 0 ≤ many) (hm1 : many < 1000) (hroom : dp + 5 < recursionLimit)
  (k : ∀ f l0 l1 l2 l3 vs0 vs1 vs2 vs3 n0 n1 n2 n3 nf pts tl a b ta tb h' tk', 0 ≤ b ∧ b < 2147483647 → pts.length = many.toNat → (∀ p ∈ pts, p.Ok) → TupsIn tl vs0 (rows pts) → IntsAre vs1 (pts.map Pt.mark) → IntsAre vs2 (pts.flatMap Pt.ds) → IntsAre vs3 (pts.flatMap Pt.es) →
    Same [S] s.heap h' → Now [S] s.heap h' ((S, listOf #[Value.int a ta, Value.int b tb] n) :: (f, listOf #[Value.ref l0, Value.ref l1, Value.ref l2, Value.ref l3] nf) :: (l0, listOf vs0.toArray n0) :: (l1, listOf vs1.toArray n1) :: (l2, listOf vs2.toArray n2) :: (l3, listOf vs3.toArray n3) :: tl) →
    (∀ p ∈ (f, listOf #[Value.ref l0, Value.ref l1, Value.ref l2, Value.ref l3] nf) :: (l0, listOf vs0.toArray n0) :: (l1, listOf vs1.toArray n1) :: (l2, listOf vs2.toArray n2) :: (l3, listOf vs3.toArray n3) :: tl, p.1 ≠ S) → Q (.ref f) { s with heap := h', toks := tk' }) :
  wpAny (model PySem.Challenge.rw_xm0719_01.row.prog w) (Ar dp un gd envs) (call (.ref 253) [.ref S, .int many tm]) Q E s := by
  have hu := use_one hS
  walk_at "c enter"
  walk_at "c go"
  rename_i tk0 a0 h0 _ a1 h1 q1 a2 h2 q2 a3 h3 q3 af hf qf D hD qD h4 h5 h6 h7 F1 N1 tk1 h8 tk2 t1 u1 v1 hr F2 N2 K2
  have N3 := news_sub (led := [(S, listOf #[Value.int x tx, Value.int y ty] n), (hf, listOf #[Value.ref h0, Value.ref h1, Value.ref h2, Value.ref h3] 0), (h0, listOf #[] 0), (h1, listOf #[] 0), (h2, listOf #[] 0), (h3, listOf #[] 0)]) N2 (by walk_at "c sub")
  refine my_rangeS (n := many.toNat) (σ := Int × Int × Tok × Tok) (fun c => [(Str.ofString "x", .int c.1 c.2.2.1), (Str.ofString "y", .int c.2.1 c.2.2.2)]) [Str.ofString "first", Str.ofString "second", Str.ofString "x", Str.ofString "y", Str.ofString "is_on", Str.ofString "one", Str.ofString "other", Str.ofString "mark"] (PG S hf h0 h1 n) (0, 0, a0, a0 + 1) rfl hr (by omega) (by omega) F2 N3 ?hk ?hG ?turn ?done
  case hk => exact List.forall_mem_cons.mpr ⟨rfl, List.forall_mem_cons.mpr ⟨rfl, List.forall_mem_nil _⟩⟩
  case hG =>
    refine ⟨[], [], [], [], [], 0, 0, 0, 0, 0, x, y, tx, ty, h2, h3, [], rfl, ⟨hy0, hy1⟩, rfl, (fun p hp => nomatch hp), ⟨rfl, rfl⟩, .nil, .nil, .nil, .nil, ?_, (fun p hp => nomatch hp), (fun p hp => nomatch hp), (fun p hp => nomatch hp), (fun p hp => nomatch hp)⟩
    refine ⟨⟨?_⟩, ⟨?_⟩, ⟨?_⟩, ⟨?_⟩, ⟨?_⟩, ⟨?_⟩, ⟨?_⟩, ⟨?_⟩, ⟨?_⟩, ⟨?_⟩, ⟨?_⟩, ⟨?_⟩, ⟨?_⟩, ⟨?_⟩⟩ <;> k_ne
  case turn =>
    intro i t c u nx h tk' I oI hi hI hG F9 N9
    refine PG.elim hG fun pts vs0 vs1 vs2 vs3 n0 n1 n2 n3 nf a b ta tb l2 l3 tl X Y tX tY ec en hb0 hb1 hlen hok eX eY T0 I1 I2 I3 d1 d2 d3 d4 d5 d6 d7 d8 d9 d10 d11 d12 d13 d14 tS tf t0 t1' => ?_
    clear hG
    subst ec en
    clear N1 N2 N3 F2 K2 hr hu
    replace hI := NewAt.mk hI
    dsimp only at F9
    subst eX eY
    have hl0 : vs0.length < 1000 := by rw [T0.length, rows_length]; omega
    have hl1 : vs1.length < 1000 := by rw [I1.length, List.length_map]; omega
    have hl2 : vs2.length < 2000 := by rw [I2.length]; have := ds_length hok; omega
    have hl3 : vs3.length < 2000 := by rw [I3.length]; have := es_length hok; omega
    walk_at "c go"
    dsimp only [SPost]
    refine points_end (by assumption) (by assumption) (by k_mem) (by k_mem) (by k_mem) (by k_mem) (by k_mem) (by k_mem) (by k_mem) (by k_mem) (by walk_at "c tail") (by exact rfl) (by exact rfl) (by walk_at "c rest") ?pb hlen hok T0 I1 I2 I3 rfl rfl rfl rfl (by assumption) (by assumption) (by assumption) (by assumption) ?pon ?phi ?pr1 ?pr2 ⟨d9, d10, d11, d12, d13, d14⟩ tS tf t0 t1' ?pee (hI.sub (by walk_at "c tail")) ?pfI
    case pb => exact ⟨by assumption, by assumption⟩
    case pon => exact ⟨by assumption, by assumption⟩
    case phi => exact hi_of (by assumption)
    case pr1 => exact ⟨by assumption, by assumption⟩
    case pr2 => exact ⟨by assumption, by assumption⟩
    case pee => refine ⟨⟨?_, ?_, ?_, ?_⟩, ⟨?_, ?_, ?_, ?_⟩, ?_, ?_, ?_, ?_⟩ <;> k_ne
    case pfI => refine ⟨?_, ?_, ?_, ?_, ?_, ?_, ?_⟩ <;> k_ne
  case done =>
    intro c u nx h tk' hG F9 N9
    refine PG.elim hG fun pts vs0 vs1 vs2 vs3 n0 n1 n2 n3 nf a b ta tb l2 l3 tl X Y tX tY ec en hb0 hb1 hlen hok eX eY T0 I1 I2 I3 d1 d2 d3 d4 d5 d6 d7 d8 d9 d10 d11 d12 d13 d14 tS tf t0 t1' => ?_
    clear hG
    subst ec en
    clear N1 N2 N3 F2 K2 hr hu
    dsimp only
    walk_at "c go"
    walk_at "c end"
    exact k _ _ _ _ _ _ _ _ _ _ _ _ _ _ _ _ _ _ _ _ _ _ ⟨hb0, hb1⟩ hlen hok T0 I1 I2 I3 (by walk_at "c same") (by walk_at "c now") (by simp only [List.forall_mem_cons]; exact ⟨d9.ne, d10.ne, d11.ne, d1.ne, d5.ne, tS⟩)
end
section
open PySem PySem.W PySem.Calls PyProof.Rows
-- XLaw5
set_option maxRecDepth 100000
theorem lnXLaw5_1 : True := by
  w_top off
  k_with_none
  (k_with "c enter" => (refine wpAny_call ?_; k_dflt (refine' enter (by assumption) (by first | assumption | exact use_nil) (by k_is) (by k_is) (by walk_at "c room") (by exact BindsTo.of_eq rfl) (by exact locs rfl) ?_ (by exact rfl) (by exact rfl) (by exact rfl) (by decide); k_whole; intro _ _ _ _ _ _ _ _ _ _ _ _ _ _; (try dsimp only); (try k_fold))))
  (k_with "c room" => first | assumption | decide | ((try simp only [depth_under_make, depth_under_kw, depth_in1, depth_deeper, depth_caller]); (try dsimp only [Ar]); first | exact room2 (by assumption) (by decide) | exact room1 (by assumption) (by decide) | exact room0 (by assumption) | omega))
  (k_with "c pick" => first | exact Pick.head | exact Pick.tail (by walk_at "c pick"))
  (k_with "c go" => repeat' (first | ((fail_if_success (with_reducible show wpAny _ _ (pyIter (Value.ref _)) _ _ _)); (fail_if_success (with_reducible show wpAny _ _ (exec (Stmt.While _ _ _ _) _) _ _ _)); first | (k_unfold; (try dsimp only)) | walk1 | (dsimp only; walk1))))
  (k_with "subscriptTail Name Constant ref int" => (k_here; (with_reducible show wpAny _ _ (subscriptTail _ _ (Value.ref _) (Value.int _ _)) _ _ _); (with_unfolding_all refine' my_item (by is_list) (by decide) (by decide) (by rfl) ?_ (by with_unfolding_all rfl); k_whole)))
  (k_with "call builtin:len" => (k_here; (with_reducible show wpAny _ _ (call (Value.builtin "len") [Value.ref _]) _ _ _); k_dflt (refine' my_len (by is_list) (by walk_at "c fit") ?_; k_whole)))
  (k_with "c via1" => (k_dflt (refine' via1 (by assumption) (by assumption) (by assumption) (by assumption) (by walk_at "c pick") (by k_all) (by first | exact rfl | assumption) ?_)))
  (k_with "c via0" => (k_dflt (refine' via0 (by assumption) (by assumption) (by assumption) (by assumption) (by first | exact rfl | assumption) ?_)))
  (k_with "c num" => first | assumption | decide | exact Int.natCast_nonneg _ | exact Nat.lt_of_lt_of_le (by assumption) (by decide) | exact size2 (by assumption) (by assumption) (by decide) | omega)
  (k_with "call ref" => (k_here; (with_reducible show wpAny _ _ (call (Value.ref 218) [Value.ref _, Value.int _ _]) _ _ _); walk_at "c via1"; intro cC cS cK; k_dflt (refine' take_spec cC cS (by walk_at "c num") (by walk_at "c num") (by walk_at "c num") (by walk_at "c num") (by walk_at "c room") ?_); clear cC cS; intro _ _ _ _ _ _ _ _ _ _ _ _ zzS zzW; (refine And.elim (fun _ zzN => ?_) (cK _ _ zzS zzW)); clear cK zzS zzW; (try dsimp only [List.cons_append, List.nil_append] at zzN); (try dsimp only); (try k_sweep)))
  (k_with "c fit" => first | assumption | exact Nat.le_of_ble_eq_true rfl | exact Nat.lt_of_lt_of_le (by assumption) (by decide) | exact size2 (by assumption) (by assumption) (by decide) | omega | ((simp only [List.length_cons, List.length_append, List.length_nil]); omega))
  (k_with "c itemN" => (k_here; (with_reducible show wpAny _ _ (subscriptTail _ _ (Value.ref _) (Value.int _ _)) _ _ _); (with_unfolding_all refine' my_itemN (by is_list) (by walk_at "c num") (by walk_at "c num") (by walk_at "c fit") ?_ (by with_unfolding_all rfl); k_whole)))
  (k_with "c end" => ((try k_unfold); (try dsimp only)))
  (k_with "c same" => exact same_of (by assumption) (by assumption))
  (k_with "c sub" => first | exact List.forall_mem_nil _ | exact fun _ h => h | exact List.forall_mem_cons.mpr ⟨by k_mem, by walk_at "c sub"⟩)
  (k_with "c now" => first | exact now_of (by assumption) (by assumption) | exact now_sub (by assumption) (by assumption) (by walk_at "c sub"))
  (k_with "c ints" => first | assumption | exact IntsAre.nil | exact IntsAre.cons _ _ IntsAre.nil | exact IntsAre.cons _ _ (IntsAre.cons _ _ IntsAre.nil) | exact IntsAre.cons _ _ (IntsAre.cons _ _ (IntsAre.cons _ _ IntsAre.nil)))
  (k_with "k_all" => first | exact all_ltS (by assumption) (by walk_at "c tail") | fail)
  (k_with "k_all" => first | exact List.forall_mem_nil _ | (refine' List.forall_mem_cons.mpr ⟨(by k_ne), (by k_all)⟩))
  (k_with "k_all" => first | (with_reducible assumption) | exact all_lt (by with_reducible assumption) | fail)
  (k_with "c lt" => first | assumption | exact lt_mem (by assumption) (by k_mem) | exact lt_mem2 (by assumption) (by assumption) (by k_mem) | exact Nat.lt_succ_self _ | exact Nat.lt_succ_of_lt (by walk_at "c lt"))
  (k_with "k_ne" => first | exact Apt.ne (by assumption) | exact (Apt.ne (by assumption)).symm | exact NewAt.ne (by assumption) (by k_mem) | exact (NewAt.ne (by assumption) (by k_mem)).symm | exact ne_gt (by assumption) (by k_mem) | exact ne_lt (by assumption) (by k_mem) | exact Nat.ne_of_gt (by walk_at "c lt") | exact Nat.ne_of_lt (by walk_at "c lt") | (refine neN ?_; (try dsimp only); omega))
  (k_with "k_mem" => first | exact lm0 | exact lm1 | exact lm2 | exact lm3 | (refine' lm4 ?_; k_mem))
  (k_with "le" => k_dflt (exact Nat.le_of_ble_eq_true rfl))
  (k_with "lt" => k_dflt (exact Nat.le_of_ble_eq_true rfl))
  (k_with "c size" => first | assumption | exact Nat.le_of_ble_eq_true rfl | exact Nat.lt_of_lt_of_le (by assumption) (by decide) | exact size2 (by assumption) (by assumption) (by decide) | omega | ((simp only [List.length_cons, List.length_append, List.length_nil]); omega))
  (k_with "call builtin:list.append" => (k_here; (with_reducible show wpAny _ _ (call (Value.builtin "list.append") [Value.ref _, _]) _ _ _); k_dflt (refine' my_append (by k_asm) (by k_asm) (by k_upd) (by walk_at "c size") ?_; k_whole); intro _ _ _; (try k_sweep)))
  (k_with "binaryOp Add ref ref" => (k_here; (with_reducible show wpAny _ _ (binaryOp Operator.Add (Value.ref _) (Value.ref _)) _ _ _); k_dflt (refine' my_addL (by k_asm) (by k_asm) (by is_list) (by is_list) (by walk_at "c size") ?_; k_whole); intro _ _ _ _ _; (try k_sweep)))
  (k_with "c tail" => (intro _ zzhp; repeat (first | exact zzhp | refine List.mem_cons_of_mem _ ?_)))
  (k_with "c rest" => (intro _ zzq1 zzq2 zzq3; (repeat (first | refine upd_ne zzq1 ?_ | refine upd_ne (ne_stored zzq3 (by decide +kernel)) ?_ | refine upd_ne (zzq2 (_, _) (by k_mem)) ?_ | exact kst_end zzq3 | refine kst_mid (not_in_cons (ne_stored zzq3 (by decide +kernel)) not_in_nil) ?_ | refine kst_ne (ne_stored zzq3 (by decide +kernel)) ?_ | refine kst_ne (zzq2 (_, _) (by k_mem)) ?_))))
  (k_with "c restW" => (intro _ zzq2 zzq3; (repeat (first | refine upd_ne (ne_stored zzq3 (by decide +kernel)) ?_ | refine upd_ne (zzq2 (_, _) (by k_mem)) ?_ | exact kst_end zzq3 | refine kst_mid (not_in_cons (ne_stored zzq3 (by decide +kernel)) not_in_nil) ?_ | refine kst_ne (ne_stored zzq3 (by decide +kernel)) ?_ | refine kst_ne (zzq2 (_, _) (by k_mem)) ?_))))
  (k_with "c ps" => first | exact List.forall_mem_nil _ | exact List.forall_mem_cons.mpr ⟨rfl, by walk_at "c ps"⟩)
  (k_with "c itemI" => (k_here; (with_reducible show wpAny _ _ (subscriptTail _ _ (Value.ref _) (Value.int _ _)) _ _ _); (with_unfolding_all refine' my_itemI (by is_list) (by with_reducible assumption) (by walk_at "c num") (by walk_at "c num") (by walk_at "c fit") ?_ (by with_unfolding_all rfl); k_whole); intro _))
  (k_with "exec Raise some none" => (k_here; k_dflt (refine' font_raise (by assumption) (by assumption) (by assumption) (by exact rfl) (by walk_at "c room") (by exact rfl) (by exact rfl) (by decide +kernel) ?_; intro _ _ _ _ _ _ _ _; (try k_unfold); (try dsimp only); refine' font_leave (by assumption) (by assumption) (by assumption) (by assumption) (by assumption) ?_ (by exact rfl); intro _ _ _; (try dsimp only))))
  (k_with "call type:bytes cons nil bytes" => (k_here; refine bb_call ?_))
  (k_with "call type:bytes" => (k_here; (with_reducible show wpAny _ _ (call (Value.type "bytes") [Value.bytes _ _]) _ _ _); refine bb_call ?_))
  (k_with "leaving ref" => (k_here; k_dflt (refine' leave_onSX (by assumption) (by assumption) (by assumption) (by assumption) ?_; k_whole); intro _ zzR zzU; (try dsimp only at zzR zzU ⊢)))
  (k_with "storeName" => (dsimp only; walk_at "storeName"))
  (k_with "execs cons" => (k_here; k_fold))
  (k_with "exec Assign" => (k_here; k_fold))
  trivial
/-- marks told: one by one, or a run as the mark with the repeat bit and the count less one -/
inductive Told : List Int → List Int → Prop
  | nil : Told [] []
  | one {ms ts : List Int} {m : Int} : Told ms ts → Told (ms ++ [m]) (ts ++ [m])
  | run {ms ts : List Int} {m : Int} {k : Nat} : Told ms ts → 1 ≤ k → Told (ms ++ List.replicate k m) (ts ++ [m + 8, (k : Int) - 1])
theorem Told.length {ms ts : List Int} (h : Told ms ts) : ts.length ≤ 2 * ms.length := by
  induction h with
  | nil => simp
  | one _ ih => simp only [List.length_append, List.length_cons, List.length_nil]; omega
  | run _ hk ih => simp only [List.length_append, List.length_cons, List.length_nil, List.length_replicate]; omega
theorem take_run {ms : List Int} {p k : Nat} {m : Int} (hk : p + k ≤ ms.length) (h : ∀ j, j < k → ms[p + j]? = some m) : ms.take (p + k) = ms.take p ++ List.replicate k m := by
  induction k with
  | zero => simp
  | succ k ih =>
    have h1 := h k (Nat.lt_succ_self k)
    have e : p + (k + 1) = p + k + 1 := by omega
    rw [e, List.take_add_one, h1, ih (by omega) fun j hj => h j (by omega), List.replicate_succ']
    simp
def MG (S : Addr) (n : Nat) (ms : List Int) (c : Addr × Nat × Tok) (nx : List (Addr × Obj)) : Prop :=
  ∃ (a b : Int) (ta tb : Tok) (ws : List Value) (ts : List Int), nx = [(S, listOf #[Value.int a ta, Value.int b tb] n), (c.1, listOf ws.toArray 0)] ∧ (0 ≤ b ∧ b < 2147483647) ∧ c.2.1 ≤ ms.length ∧ Told (ms.take c.2.1) ts ∧ IntsAre ws ts ∧ Apt c.1 S
theorem MG.elim {S : Addr} {n : Nat} {ms : List Int} {c : Addr × Nat × Tok} {nx : List (Addr × Obj)} {P : Prop} (h : MG S n ms c nx)
    (k : ∀ (a b : Int) (ta tb : Tok) (ws : List Value) (ts : List Int) (q : Addr) (p : Nat) (tp : Tok), c = (q, p, tp) → nx = [(S, listOf #[Value.int a ta, Value.int b tb] n), (q, listOf ws.toArray 0)] → 0 ≤ b → b < 2147483647 → p ≤ ms.length → Told (ms.take p) ts → IntsAre ws ts → Apt q S → P) : P := by
  obtain ⟨q, p, tp⟩ := c
  obtain ⟨a, b, ta, tb, ws, ts, e, ⟨hb0, hb1⟩, hp, hT, hW, hq⟩ := h
  exact k a b ta tb ws ts q p tp rfl e hb0 hb1 hp hT hW hq
abbrev mps (c : Addr × Nat × Tok) : List (Str × Value) := [(Str.ofString "told", .ref c.1), (Str.ofString "place", .int (c.2.1 : Int) c.2.2)]
theorem marks_end {h₀ h' : Heap} {L S q2 : Addr} {p k n tk : Nat} {a b P : Int} {ms ts ad : List Int} {ws wd : List Value} {ta tb tP : Tok} {m m₀ : Str → Option Value} {stored : List Str} {big : List (Addr × Obj)} {s₁ : Shared}
    (F : Fr h₀ L h' m) (N : News h₀ L h' big) (m1 : (S, listOf #[Value.int a ta, Value.int b tb] n) ∈ big) (m2 : (q2, listOf (ws ++ wd).toArray 0) ∈ big)
    (ht : m (Str.ofString "told") = some (.ref q2)) (hp : m (Str.ofString "place") = some (.int P tP))
    (hr : ∀ z, (∀ p ∈ ([(Str.ofString "told", .ref q2), (Str.ofString "place", .int P tP)] : List (Str × Value)), z ≠ p.1) → stored.contains z = false → m z = m₀ z)
    (hb : 0 ≤ b ∧ b < 2147483647) (hT : Told (ms.take p) ts) (hW : IntsAre ws ts) (hk : 1 ≤ k) (hpk : p + k ≤ ms.length) (eP : P = (p : Int) + (k : Int)) (hne : q2 ≠ S)
    (hD : IntsAre wd ad) (hTd : Told (ms.take (p + k)) (ts ++ ad)) :
    WEnd (σ := Addr × Nat × Tok) (fun c => [(Str.ofString "told", .ref c.1), (Str.ofString "place", .int (c.2.1 : Int) c.2.2)]) stored m₀ (MG S n ms) (fun c => ms.length - c.2.1) (ms.length - p) h₀ L s₁ { s₁ with heap := h', toks := tk } := by
  have eP' : P = ((p + k : Nat) : Int) := by omega
  subst eP'
  refine WEnd.intro (q2, p + k, tP) [(S, listOf #[Value.int a ta, Value.int b tb] n), (q2, listOf (ws ++ wd).toArray 0)] F N ?_ ?_ hr ?_ ?_
  · simp only [List.forall_mem_cons]
    exact ⟨m1, m2, List.forall_mem_nil _⟩
  · simp only [List.forall_mem_cons]
    exact ⟨ht, hp, List.forall_mem_nil _⟩
  · exact ⟨a, b, ta, tb, _, _, rfl, hb, hpk, hTd, hW.append hD, ⟨hne⟩⟩
  · show ms.length - (p + k) < ms.length - p
    omega
theorem told_run {ms ts : List Int} {p k : Nat} {z x : Int} (hT : Told (ms.take p) ts) (hk : 1 ≤ k) (hpk : p + k ≤ ms.length) (hrun : ∀ j, j < k → ms[p + j]? = some (ms.getD p 0)) (ez : z = ms.getD (p : Int).toNat 0 + 8) (ex : x = (k : Int) - 1) :
    Told (ms.take (p + k)) (ts ++ [z, x]) := by
  rw [take_run hpk hrun, ez, ex, Int.toNat_natCast]
  exact .run hT hk
theorem told_one {ms ts : List Int} {p k : Nat} {z : Int} (hT : Told (ms.take p) ts) (hk : k = 1) (hpk : p + k ≤ ms.length) (hrun : ∀ j, j < k → ms[p + j]? = some (ms.getD p 0)) (ez : z = ms.getD (p : Int).toNat 0) :
    Told (ms.take (p + k)) (ts ++ [z]) := by
  subst hk
  rw [take_run hpk hrun, ez, Int.toNat_natCast]
  exact .one hT
theorem lnXLaw5_2 : True := by
  (k_with "subscriptTail" => walk_at "c itemI")
  trivial
set_option maxHeartbeats 8000000 in
theorem marks_spec {w : World} {dp un : Nat} {gd : Option (List Code)} {base : Heap} {envs : List Env} {s : Shared} {Q E : Value → Shared → Prop} {S M : Addr} {x y : Int} {tx ty : Tok} {n : Nat} {vs : List Value} {ms : List Int}
  (C : Cx w (Ar dp un gd envs) base envs [S] s.heap) (hS : s.heap.get? S = some (listOf #[Value.int x tx, Value.int y ty] n)) (hM : s.heap.IsList M vs.toArray) (hMS : M ≠ S) (hI : IntsAre vs ms) (hlen : ms.length < 1000)
  (hy0 : 0 ≤ y) (hy1 : y < 2147483647) (hroom : dp + 3 < recursionLimit)
  (k : ∀ q ws ts a b ta tb h' tk', 0 ≤ b ∧ b < 2147483647 → Told ms ts → IntsAre ws ts → Same [S] s.heap h' → Now [S] s.heap h' [(S, listOf #[Value.int a ta, Value.int b tb] n), (q, listOf ws.toArray 0)] → q ≠ S → Q (.ref q) { s with heap := h', toks := tk' }) :
  wpAny (model PySem.Challenge.rw_xm0719_01.row.prog w) (Ar dp un gd envs) (call (.ref 260) [.ref S, .ref M]) Q E s := by
  have hu := use_one hS
  have hM' := list_hide hM (U := [S]) (fun h => hMS (List.mem_singleton.mp h))
  have hvl : vs.length = ms.length := hI.length
  walk_at "c enter"
  rename _ = hideAll _ _ => eg
  rw [← eg] at hM'
  walk_at "c go"
  rename_i tkA l0 hA qA D hB qB h1 h2 h3 F1 N1
  have N3 := news_sub (led := [(S, listOf #[Value.int x tx, Value.int y ty] n), (l0, listOf [].toArray 0)]) N1 (by walk_at "c sub")
  refine my_whileS (σ := Addr × Nat × Tok) (fun c => [(Str.ofString "told", .ref c.1), (Str.ofString "place", .int (c.2.1 : Int) c.2.2)]) [Str.ofString "many", Str.ofString "told", Str.ofString "place"] (MG S n ms) (fun c => ms.length - c.2.1) (l0, 0, tkA) F1 N3 ?hk ?hG ?turn
  case hk => walk_at "c ps"
  case hG => exact ⟨x, y, tx, ty, [], [], rfl, ⟨hy0, hy1⟩, Nat.zero_le _, .nil, .nil, ⟨by k_ne⟩⟩
  intro c u nx h tk hG F9 N9
  refine MG.elim hG fun a b ta tb ws ts q p tp ec en hb0 hb1 hp hT hW hq => ?_
  clear hG N1 N3 F1 hu
  subst ec en
  dsimp only at F9
  walk_at "c go"
  · rename_i tkq a0 qk0 ek0 hhq Fq Nq
    (try dsimp only at Nq)
    refine my_whileS (σ := Nat × Tok) (fun c => [(Str.ofString "many", .int (c.1 : Int) c.2)]) [Str.ofString "many"] (fun c nx => nx = [(S, listOf #[Value.int a ta, Value.int b tb] n), (q, listOf ws.toArray 0)] ∧ 1 ≤ c.1 ∧ p + c.1 ≤ ms.length ∧ ∀ j, j < c.1 → ms[p + j]? = some (ms.getD p 0)) (fun c => ms.length - c.1) (1, tkq) Fq Nq ?hk2 ?hG2 ?turn2
    case hk2 => walk_at "c ps"
    case hG2 =>
      refine ⟨rfl, Nat.le_refl _, ?_, fun j hj => ?_⟩
      · show p + 1 ≤ _
        omega
      · have e : j = 0 := by
          have : j < 1 := hj
          omega
        subst e
        have hlt : p < ms.length := by omega
        simp [List.getD_eq_getElem?_getD, hlt]
    have hwl : ws.length < 3000 := by
      rw [hW.length]
      have := hT.length
      simp only [List.length_take] at this
      omega
    rintro ⟨r, tr⟩ u2 nx2 h' tk2 ⟨rfl, hr1, hr2, hrun⟩ F9 N9
    dsimp only at F9 hr1 hr2 hrun
    have hrun1 : ∀ j, j < 1 → ms[p + j]? = some (ms.getD p 0) := fun j hj => hrun j (by omega)
    walk_at "c go"
    · dsimp only [WPost]
      refine WEnd.intro (r + 1, _) [(S, listOf #[Value.int a ta, Value.int b tb] n), (q, listOf ws.toArray 0)] (by assumption) (by assumption) (fun _ h => h) (by walk_at "c ps") (by walk_at "c restW") ⟨rfl, ?_, ?_, ?_⟩ ?_
      · omega
      · show p + (r + 1) ≤ ms.length
        omega
      · intro j hj
        by_cases e : j < r
        · exact hrun j e
        · have hj' : j < r + 1 := hj
          have e' : j = r := by omega
          subst e'
          rename ms.getD _ 0 = ms.getD _ 0 => hd
          have hlt : p + j < ms.length := by omega
          have e1 : ((p : Int) + (j : Int)).toNat = p + j := by omega
          rw [e1, Int.toNat_natCast] at hd
          rw [← hd]
          simp [List.getD_eq_getElem?_getD, hlt]
      · show ms.length - (r + 1) < ms.length - r
        omega
    all_goals (dsimp only [WPost]; first
      | exact marks_end (k := r) (by assumption) (by assumption) (by k_mem) (by k_mem) (by exact rfl) (by exact rfl) (by walk_at "c restW") ⟨by assumption, by assumption⟩ hT hW hr1 hr2 (by omega) (by k_ne) (by walk_at "c ints") (told_run hT hr1 hr2 hrun rfl (by omega))
      | exact marks_end (k := 1) (by assumption) (by assumption) (by k_mem) (by k_mem) (by exact rfl) (by exact rfl) (by walk_at "c restW") ⟨by assumption, by assumption⟩ hT hW (Nat.le_refl 1) (by omega) (by omega) (by k_ne) (by walk_at "c ints") (told_run hT (Nat.le_refl 1) (by omega) hrun1 rfl (by omega))
      | exact marks_end (k := 1) (by assumption) (by assumption) (by k_mem) (by k_mem) (by exact rfl) (by exact rfl) (by walk_at "c restW") ⟨by assumption, by assumption⟩ hT hW (Nat.le_refl 1) (by omega) (by omega) (by k_ne) (by walk_at "c ints") (told_one hT rfl (by omega) hrun1 rfl)
      | exact marks_end (k := r) (by assumption) (by assumption) (by k_mem) (by k_mem) (by exact rfl) (by exact rfl) (by walk_at "c restW") ⟨by assumption, by assumption⟩ hT hW hr1 hr2 (by omega) (by k_ne) (by walk_at "c ints") (told_one hT (by omega) hr2 hrun rfl))
  · have e : p = ms.length := by omega
    subst e
    rw [List.take_length] at hT
    walk_at "c end"
    walk_at "c end"
    exact k _ _ _ _ _ _ _ _ _ ⟨hb0, hb1⟩ hT hW (by walk_at "c same") (by walk_at "c now") hq.ne
end
section
open PySem PySem.W PySem.Calls PyProof.Rows
-- XBytes
theorem lnXBytes_0 : True := by
  w_top off
  k_with_none
  trivial
set_option maxRecDepth 100000
theorem bb_has : typeLookup (.type "bytes") "__bytes__" = pure (some (.builtin "bytes.__bytes__")) := by rw [typeLookup_type, builtinLookup_eq_fast]; kernel_rfl
theorem bb_new {prog : Program} {w : World} {A : Around} {E Q : Value → Shared → Prop} {s : Shared} {b : Array UInt8} {t : Tok} (hQ : Q (.bytes b t) s) :
    codeAny (model prog w) A (.call (.builtin "bytes.__new__") ⟨[.type "bytes", .bytes b t], []⟩) (wants Q E) s := by
  refine codeAny_of_tree ?_
  show wpAny _ A.in1 (do checkBuiltinCall "bytes.__new__" ⟨[.type "bytes", .bytes b t], []⟩; again (.builtin "bytes.__new__" ⟨[.type "bytes", .bytes b t], []⟩)) _ _ s
  refine wpAny_bind (wpAny_of_eq (PySem.F.bm_newCall _) (wpAny_pure ⟨plainId_quiet PySem.F.bm_plain _, codeAny_builtin PySem.F.bm_entry ?_⟩))
  rw [Around.under_plainId PySem.F.bm_plain _]
  have hT : s.TypeIs (.bytes b t) "bytes" := PySem.W.typeIs_bytes _ _ _
  unfold Builtin.«bytes.__new__»
  refine wpAny_bind (wpAny_of_eq (a := true) rfl ?_)
  refine bm_if_false rfl ?_
  refine wpAny_bind (wpAny_of_eq PySem.F.bm_sub ?_)
  refine bm_if_false rfl ?_
  refine wpAny_bind (wpAny_of_eq (PySem.F.bm_bind _) ?_)
  refine wpAny_bind (wpAny_of_eq (a := ()) rfl ?_)
  refine wpAny_bind (wpAny_of_eq (a := ()) rfl ?_)
  refine bm_if_false rfl ?_
  refine wpAny_bind (wpAny_specialOf hT bb_has ?_)
  dsimp only
  refine wpAny_bind (wpAny_rule ?_)
  refine wpAny_bind (wpAny_of_eq (a := .type "bytes") rfl ?_)
  refine bm_if_true (by decide) ?_
  show wpAny _ _ (if (Value.type "bytes" == Value.type "bytes") = true then _ else _) _ _ _
  refine bm_if_true (by decide) ?_
  first
    | exact wpAny_pure hQ
    | exact wpAny_bind (wpAny_pure (wpAny_pure hQ))
theorem bb_call {prog : Program} {w : World} {A : Around} {E Q : Value → Shared → Prop} {s : Shared} {b : Array UInt8} {t : Tok} (hQ : Q (.bytes b t) s) : wpAny (model prog w) A (call (.type "bytes") [.bytes b t]) Q E s := by
  refine callType_codes (Q₁ := fun obj s₁ => s₁.TypeIs obj "bytes" ∧ Q obj s₁) PySem.F.bm_called (PySem.F.bm_typeCall _) PySem.F.entry_object_init
    (bb_new ⟨PySem.W.typeIs_bytes _ _ _, hQ⟩) fun obj s₁ h₁ => ?_
  exact ⟨h₁.1, PySem.F.args_object_init_2 obj _, object_init_meets PySem.F.bm_called.init.lookup PySem.F.bm_called.made (by decide) prog w A.in1 _ s₁ ⟨h₁.1, rfl, h₁.2⟩⟩
end
section
open PySem PySem.W PySem.Calls PyProof.Rows
-- XRead1
set_option maxRecDepth 100000
theorem lnXRead1_1 : True := by
  w_top off
  k_with_none
  (k_with "c enter" => (refine wpAny_call ?_; k_dflt (refine' enter (by assumption) (by first | assumption | exact use_nil) (by k_is) (by k_is) (by walk_at "c room") (by exact BindsTo.of_eq rfl) (by exact locs rfl) ?_ (by exact rfl) (by exact rfl) (by exact rfl) (by decide); k_whole; intro _ _ _ _ _ _ _ _ _ _ _ _ _ _; (try dsimp only); (try k_fold))))
  (k_with "c room" => first | assumption | decide | ((try simp only [depth_under_make, depth_under_kw, depth_in1, depth_deeper, depth_caller]); (try dsimp only [Ar]); first | exact room2 (by assumption) (by decide) | exact room1 (by assumption) (by decide) | exact room0 (by assumption) | omega))
  (k_with "c pick" => first | exact Pick.head | exact Pick.tail (by walk_at "c pick"))
  (k_with "c go" => repeat' (first | ((fail_if_success (with_reducible show wpAny _ _ (pyIter (Value.ref _)) _ _ _)); (fail_if_success (with_reducible show wpAny _ _ (exec (Stmt.While _ _ _ _) _) _ _ _)); first | (k_unfold; (try dsimp only)) | walk1 | (dsimp only; walk1))))
  (k_with "subscriptTail Name Constant ref int" => (k_here; (with_reducible show wpAny _ _ (subscriptTail _ _ (Value.ref _) (Value.int _ _)) _ _ _); (with_unfolding_all refine' my_item (by is_list) (by decide) (by decide) (by rfl) ?_ (by with_unfolding_all rfl); k_whole)))
  (k_with "call builtin:len" => (k_here; (with_reducible show wpAny _ _ (call (Value.builtin "len") [Value.ref _]) _ _ _); k_dflt (refine' my_len (by is_list) (by walk_at "c fit") ?_; k_whole)))
  (k_with "c via1" => (k_dflt (refine' via1 (by assumption) (by assumption) (by assumption) (by assumption) (by walk_at "c pick") (by k_all) (by first | exact rfl | assumption) ?_)))
  (k_with "c via0" => (k_dflt (refine' via0 (by assumption) (by assumption) (by assumption) (by assumption) (by first | exact rfl | assumption) ?_)))
  (k_with "c num" => first | assumption | decide | exact Int.natCast_nonneg _ | exact Nat.lt_of_lt_of_le (by assumption) (by decide) | exact size2 (by assumption) (by assumption) (by decide) | omega)
  (k_with "call ref" => (k_here; (with_reducible show wpAny _ _ (call (Value.ref 218) [Value.ref _, Value.int _ _]) _ _ _); walk_at "c via1"; intro cC cS cK; k_dflt (refine' take_spec cC cS (by walk_at "c num") (by walk_at "c num") (by walk_at "c num") (by walk_at "c num") (by walk_at "c room") ?_); clear cC cS; intro _ _ _ _ _ _ _ _ _ _ _ _ zzS zzW; (refine And.elim (fun _ zzN => ?_) (cK _ _ zzS zzW)); clear cK zzS zzW; (try dsimp only [List.cons_append, List.nil_append] at zzN); (try dsimp only); (try k_sweep)))
  (k_with "c fit" => first | assumption | exact Nat.le_of_ble_eq_true rfl | exact Nat.lt_of_lt_of_le (by assumption) (by decide) | exact size2 (by assumption) (by assumption) (by decide) | omega | ((simp only [List.length_cons, List.length_append, List.length_nil]); omega))
  (k_with "c itemN" => (k_here; (with_reducible show wpAny _ _ (subscriptTail _ _ (Value.ref _) (Value.int _ _)) _ _ _); (with_unfolding_all refine' my_itemN (by is_list) (by walk_at "c num") (by walk_at "c num") (by walk_at "c fit") ?_ (by with_unfolding_all rfl); k_whole)))
  (k_with "c end" => ((try k_unfold); (try dsimp only)))
  (k_with "c same" => exact same_of (by assumption) (by assumption))
  (k_with "c sub" => first | exact List.forall_mem_nil _ | exact fun _ h => h | exact List.forall_mem_cons.mpr ⟨by k_mem, by walk_at "c sub"⟩)
  (k_with "c now" => first | exact now_of (by assumption) (by assumption) | exact now_sub (by assumption) (by assumption) (by walk_at "c sub"))
  (k_with "c ints" => first | assumption | exact IntsAre.nil | exact IntsAre.cons _ _ IntsAre.nil | exact IntsAre.cons _ _ (IntsAre.cons _ _ IntsAre.nil) | exact IntsAre.cons _ _ (IntsAre.cons _ _ (IntsAre.cons _ _ IntsAre.nil)))
  (k_with "k_all" => first | exact all_ltS (by assumption) (by walk_at "c tail") | fail)
  (k_with "k_all" => first | exact List.forall_mem_nil _ | (refine' List.forall_mem_cons.mpr ⟨(by k_ne), (by k_all)⟩))
  (k_with "k_all" => first | (with_reducible assumption) | exact all_lt (by with_reducible assumption) | fail)
  (k_with "c lt" => first | assumption | exact lt_mem (by assumption) (by k_mem) | exact lt_mem2 (by assumption) (by assumption) (by k_mem) | exact Nat.lt_succ_self _ | exact Nat.lt_succ_of_lt (by walk_at "c lt"))
  (k_with "k_ne" => first | exact Apt.ne (by assumption) | exact (Apt.ne (by assumption)).symm | exact NewAt.ne (by assumption) (by k_mem) | exact (NewAt.ne (by assumption) (by k_mem)).symm | exact ne_gt (by assumption) (by k_mem) | exact ne_lt (by assumption) (by k_mem) | exact Nat.ne_of_gt (by walk_at "c lt") | exact Nat.ne_of_lt (by walk_at "c lt") | (refine neN ?_; (try dsimp only); omega))
  (k_with "k_mem" => first | exact lm0 | exact lm1 | exact lm2 | exact lm3 | (refine' lm4 ?_; k_mem))
  (k_with "le" => k_dflt (exact Nat.le_of_ble_eq_true rfl))
  (k_with "lt" => k_dflt (exact Nat.le_of_ble_eq_true rfl))
  (k_with "c size" => first | assumption | exact Nat.le_of_ble_eq_true rfl | exact Nat.lt_of_lt_of_le (by assumption) (by decide) | exact size2 (by assumption) (by assumption) (by decide) | omega | ((simp only [List.length_cons, List.length_append, List.length_nil]); omega))
  (k_with "call builtin:list.append" => (k_here; (with_reducible show wpAny _ _ (call (Value.builtin "list.append") [Value.ref _, _]) _ _ _); k_dflt (refine' my_append (by k_asm) (by k_asm) (by k_upd) (by walk_at "c size") ?_; k_whole); intro _ _ _; (try k_sweep)))
  (k_with "binaryOp Add ref ref" => (k_here; (with_reducible show wpAny _ _ (binaryOp Operator.Add (Value.ref _) (Value.ref _)) _ _ _); k_dflt (refine' my_addL (by k_asm) (by k_asm) (by is_list) (by is_list) (by walk_at "c size") ?_; k_whole); intro _ _ _ _ _; (try k_sweep)))
  (k_with "c tail" => (intro _ zzhp; repeat (first | exact zzhp | refine List.mem_cons_of_mem _ ?_)))
  (k_with "c rest" => (intro _ zzq1 zzq2 zzq3; (repeat (first | refine upd_ne zzq1 ?_ | refine upd_ne (ne_stored zzq3 (by decide +kernel)) ?_ | refine upd_ne (zzq2 (_, _) (by k_mem)) ?_ | exact kst_end zzq3 | refine kst_mid (not_in_cons (ne_stored zzq3 (by decide +kernel)) not_in_nil) ?_ | refine kst_ne (ne_stored zzq3 (by decide +kernel)) ?_ | refine kst_ne (zzq2 (_, _) (by k_mem)) ?_))))
  (k_with "c restW" => (intro _ zzq2 zzq3; (repeat (first | refine upd_ne (ne_stored zzq3 (by decide +kernel)) ?_ | refine upd_ne (zzq2 (_, _) (by k_mem)) ?_ | exact kst_end zzq3 | refine kst_mid (not_in_cons (ne_stored zzq3 (by decide +kernel)) not_in_nil) ?_ | refine kst_ne (ne_stored zzq3 (by decide +kernel)) ?_ | refine kst_ne (zzq2 (_, _) (by k_mem)) ?_))))
  (k_with "c ps" => first | exact List.forall_mem_nil _ | exact List.forall_mem_cons.mpr ⟨rfl, by walk_at "c ps"⟩)
  (k_with "c itemI" => (k_here; (with_reducible show wpAny _ _ (subscriptTail _ _ (Value.ref _) (Value.int _ _)) _ _ _); (with_unfolding_all refine' my_itemI (by is_list) (by with_reducible assumption) (by walk_at "c num") (by walk_at "c num") (by walk_at "c fit") ?_ (by with_unfolding_all rfl); k_whole); intro _))
  (k_with "exec Raise some none" => (k_here; k_dflt (refine' font_raise (by assumption) (by assumption) (by assumption) (by exact rfl) (by walk_at "c room") (by exact rfl) (by exact rfl) (by decide +kernel) ?_; intro _ _ _ _ _ _ _ _; (try k_unfold); (try dsimp only); refine' font_leave (by assumption) (by assumption) (by assumption) (by assumption) (by assumption) ?_ (by exact rfl); intro _ _ _; (try dsimp only))))
  (k_with "call type:bytes cons nil bytes" => (k_here; refine bb_call ?_))
  (k_with "call type:bytes" => (k_here; (with_reducible show wpAny _ _ (call (Value.type "bytes") [Value.bytes _ _]) _ _ _); refine bb_call ?_))
  (k_with "leaving ref" => (k_here; k_dflt (refine' leave_onSX (by assumption) (by assumption) (by assumption) (by assumption) ?_; k_whole); intro _ zzR zzU; (try dsimp only at zzR zzU ⊢)))
  (k_with "storeName" => (dsimp only; walk_at "storeName"))
  trivial
abbrev Fault (base : Heap) (envs : List Env) (U : List Addr) (s : Shared) (E : Value → Shared → Prop) : Prop :=
  ∀ e h' tk', RaisedSN base (hideAll s.heap U) envs e (.ref 51) [] h' → (hideAll s.heap U).UpToSlots h' → E (.ref e) { s with heap := h', toks := tk' }
theorem clip_in {n : Nat} {i : Int} (h0 : 0 ≤ i) (h1 : i ≤ n) : clipAt n i = i.toNat := by
  unfold clipAt
  rw [if_neg (by omega)]
  omega
set_option maxHeartbeats 8000000 in
theorem part_of_spec {w : World} {dp un : Nat} {gd : Option (List Code)} {base : Heap} {envs : List Env} {s : Shared} {Q E : Value → Shared → Prop} {b : Array UInt8} {bs : List Int} {a z : Int} {tb ta tz : Tok}
  (C : Cx w (Ar dp un gd envs) base envs [] s.heap) (hb : KBw.bInts b = bs) (hlen : bs.length < 2 ^ 20) (hroom : dp + 10 < recursionLimit)
  (k : 0 ≤ a → 0 ≤ z → a + z ≤ bs.length → ∀ c t h' tk', KBw.bInts c = (bs.drop a.toNat).take z.toNat → Same [] s.heap h' → Q (.bytes c t) { s with heap := h', toks := tk' })
  (kE : (a < 0 ∨ z < 0 ∨ a + z > bs.length) → Fault base envs [] s E) :
  wpAny (model PySem.Challenge.rw_xm0719_01.row.prog w) (Ar dp un gd envs) (call (.ref 129) [.bytes b tb, .int a ta, .int z tz]) Q E s := by
  walk_at "c enter"
  have hbl : b.size = bs.length := by rw [← hb, KBw.ints_length]
  walk_at "c go"
  rename _ = hideAll _ _ => eg
  all_goals first
    | exact kE (by omega) _ _ _ (by rename _ = hideAll _ _ => eg; rw [← eg]; assumption) (by rename _ = hideAll _ _ => eg; rw [← eg]; assumption)
    | (rename KBw.bInts (KBy.picked _ _ _) = _ => hk'; refine k (by omega) (by omega) (by omega) _ _ _ _ ?_ (by walk_at "c same"); rw [hk', clip_in (by omega) (by omega), clip_in (by omega) (by omega)]; congr 1; omega)
end
section
open PySem PySem.W PySem.Calls PyProof.Rows
-- XRead2
set_option maxRecDepth 100000
theorem lnXRead2_1 : True := by
  w_top off
  k_with_none
  (k_with "c enter" => (refine wpAny_call ?_; k_dflt (refine' enter (by assumption) (by first | assumption | exact use_nil) (by k_is) (by k_is) (by walk_at "c room") (by exact BindsTo.of_eq rfl) (by exact locs rfl) ?_ (by exact rfl) (by exact rfl) (by exact rfl) (by decide); k_whole; intro _ _ _ _ _ _ _ _ _ _ _ _ _ _; (try dsimp only); (try k_fold))))
  (k_with "c room" => first | assumption | decide | ((try simp only [depth_under_make, depth_under_kw, depth_in1, depth_deeper, depth_caller]); (try dsimp only [Ar]); first | exact room2 (by assumption) (by decide) | exact room1 (by assumption) (by decide) | exact room0 (by assumption) | omega))
  (k_with "c pick" => first | exact Pick.head | exact Pick.tail (by walk_at "c pick"))
  (k_with "c go" => repeat' (first | ((fail_if_success (with_reducible show wpAny _ _ (pyIter (Value.ref _)) _ _ _)); (fail_if_success (with_reducible show wpAny _ _ (exec (Stmt.While _ _ _ _) _) _ _ _)); first | (k_unfold; (try dsimp only)) | walk1 | (dsimp only; walk1))))
  (k_with "subscriptTail Name Constant ref int" => (k_here; (with_reducible show wpAny _ _ (subscriptTail _ _ (Value.ref _) (Value.int _ _)) _ _ _); (with_unfolding_all refine' my_item (by is_list) (by decide) (by decide) (by rfl) ?_ (by with_unfolding_all rfl); k_whole)))
  (k_with "call builtin:len" => (k_here; (with_reducible show wpAny _ _ (call (Value.builtin "len") [Value.ref _]) _ _ _); k_dflt (refine' my_len (by is_list) (by walk_at "c fit") ?_; k_whole)))
  (k_with "c via1" => (k_dflt (refine' via1 (by assumption) (by assumption) (by assumption) (by assumption) (by walk_at "c pick") (by k_all) (by first | exact rfl | assumption) ?_)))
  (k_with "c via0" => (k_dflt (refine' via0 (by assumption) (by assumption) (by assumption) (by assumption) (by first | exact rfl | assumption) ?_)))
  (k_with "c num" => first | assumption | decide | exact Int.natCast_nonneg _ | exact Nat.lt_of_lt_of_le (by assumption) (by decide) | exact size2 (by assumption) (by assumption) (by decide) | omega)
  (k_with "call ref" => (k_here; (with_reducible show wpAny _ _ (call (Value.ref 218) [Value.ref _, Value.int _ _]) _ _ _); walk_at "c via1"; intro cC cS cK; k_dflt (refine' take_spec cC cS (by walk_at "c num") (by walk_at "c num") (by walk_at "c num") (by walk_at "c num") (by walk_at "c room") ?_); clear cC cS; intro _ _ _ _ _ _ _ _ _ _ _ _ zzS zzW; (refine And.elim (fun _ zzN => ?_) (cK _ _ zzS zzW)); clear cK zzS zzW; (try dsimp only [List.cons_append, List.nil_append] at zzN); (try dsimp only); (try k_sweep)))
  (k_with "c fit" => first | assumption | exact Nat.le_of_ble_eq_true rfl | exact Nat.lt_of_lt_of_le (by assumption) (by decide) | exact size2 (by assumption) (by assumption) (by decide) | omega | ((simp only [List.length_cons, List.length_append, List.length_nil]); omega))
  (k_with "c itemN" => (k_here; (with_reducible show wpAny _ _ (subscriptTail _ _ (Value.ref _) (Value.int _ _)) _ _ _); (with_unfolding_all refine' my_itemN (by is_list) (by walk_at "c num") (by walk_at "c num") (by walk_at "c fit") ?_ (by with_unfolding_all rfl); k_whole)))
  (k_with "c end" => ((try k_unfold); (try dsimp only)))
  (k_with "c same" => exact same_of (by assumption) (by assumption))
  (k_with "c sub" => first | exact List.forall_mem_nil _ | exact fun _ h => h | exact List.forall_mem_cons.mpr ⟨by k_mem, by walk_at "c sub"⟩)
  (k_with "c now" => first | exact now_of (by assumption) (by assumption) | exact now_sub (by assumption) (by assumption) (by walk_at "c sub"))
  (k_with "c ints" => first | assumption | exact IntsAre.nil | exact IntsAre.cons _ _ IntsAre.nil | exact IntsAre.cons _ _ (IntsAre.cons _ _ IntsAre.nil) | exact IntsAre.cons _ _ (IntsAre.cons _ _ (IntsAre.cons _ _ IntsAre.nil)))
  (k_with "k_all" => first | exact all_ltS (by assumption) (by walk_at "c tail") | fail)
  (k_with "k_all" => first | exact List.forall_mem_nil _ | (refine' List.forall_mem_cons.mpr ⟨(by k_ne), (by k_all)⟩))
  (k_with "k_all" => first | (with_reducible assumption) | exact all_lt (by with_reducible assumption) | fail)
  (k_with "c lt" => first | assumption | exact lt_mem (by assumption) (by k_mem) | exact lt_mem2 (by assumption) (by assumption) (by k_mem) | exact Nat.lt_succ_self _ | exact Nat.lt_succ_of_lt (by walk_at "c lt"))
  (k_with "k_ne" => first | exact Apt.ne (by assumption) | exact (Apt.ne (by assumption)).symm | exact NewAt.ne (by assumption) (by k_mem) | exact (NewAt.ne (by assumption) (by k_mem)).symm | exact ne_gt (by assumption) (by k_mem) | exact ne_lt (by assumption) (by k_mem) | exact Nat.ne_of_gt (by walk_at "c lt") | exact Nat.ne_of_lt (by walk_at "c lt") | (refine neN ?_; (try dsimp only); omega))
  (k_with "k_mem" => first | exact lm0 | exact lm1 | exact lm2 | exact lm3 | (refine' lm4 ?_; k_mem))
  (k_with "le" => k_dflt (exact Nat.le_of_ble_eq_true rfl))
  (k_with "lt" => k_dflt (exact Nat.le_of_ble_eq_true rfl))
  (k_with "c size" => first | assumption | exact Nat.le_of_ble_eq_true rfl | exact Nat.lt_of_lt_of_le (by assumption) (by decide) | exact size2 (by assumption) (by assumption) (by decide) | omega | ((simp only [List.length_cons, List.length_append, List.length_nil]); omega))
  (k_with "call builtin:list.append" => (k_here; (with_reducible show wpAny _ _ (call (Value.builtin "list.append") [Value.ref _, _]) _ _ _); k_dflt (refine' my_append (by k_asm) (by k_asm) (by k_upd) (by walk_at "c size") ?_; k_whole); intro _ _ _; (try k_sweep)))
  (k_with "binaryOp Add ref ref" => (k_here; (with_reducible show wpAny _ _ (binaryOp Operator.Add (Value.ref _) (Value.ref _)) _ _ _); k_dflt (refine' my_addL (by k_asm) (by k_asm) (by is_list) (by is_list) (by walk_at "c size") ?_; k_whole); intro _ _ _ _ _; (try k_sweep)))
  (k_with "c tail" => (intro _ zzhp; repeat (first | exact zzhp | refine List.mem_cons_of_mem _ ?_)))
  (k_with "c rest" => (intro _ zzq1 zzq2 zzq3; (repeat (first | refine upd_ne zzq1 ?_ | refine upd_ne (ne_stored zzq3 (by decide +kernel)) ?_ | refine upd_ne (zzq2 (_, _) (by k_mem)) ?_ | exact kst_end zzq3 | refine kst_mid (not_in_cons (ne_stored zzq3 (by decide +kernel)) not_in_nil) ?_ | refine kst_ne (ne_stored zzq3 (by decide +kernel)) ?_ | refine kst_ne (zzq2 (_, _) (by k_mem)) ?_))))
  (k_with "c restW" => (intro _ zzq2 zzq3; (repeat (first | refine upd_ne (ne_stored zzq3 (by decide +kernel)) ?_ | refine upd_ne (zzq2 (_, _) (by k_mem)) ?_ | exact kst_end zzq3 | refine kst_mid (not_in_cons (ne_stored zzq3 (by decide +kernel)) not_in_nil) ?_ | refine kst_ne (ne_stored zzq3 (by decide +kernel)) ?_ | refine kst_ne (zzq2 (_, _) (by k_mem)) ?_))))
  (k_with "c ps" => first | exact List.forall_mem_nil _ | exact List.forall_mem_cons.mpr ⟨rfl, by walk_at "c ps"⟩)
  (k_with "c itemI" => (k_here; (with_reducible show wpAny _ _ (subscriptTail _ _ (Value.ref _) (Value.int _ _)) _ _ _); (with_unfolding_all refine' my_itemI (by is_list) (by with_reducible assumption) (by walk_at "c num") (by walk_at "c num") (by walk_at "c fit") ?_ (by with_unfolding_all rfl); k_whole); intro _))
  (k_with "exec Raise some none" => (k_here; k_dflt (refine' font_raise (by assumption) (by assumption) (by assumption) (by exact rfl) (by walk_at "c room") (by exact rfl) (by exact rfl) (by decide +kernel) ?_; intro _ _ _ _ _ _ _ _; (try k_unfold); (try dsimp only); refine' font_leave (by assumption) (by assumption) (by assumption) (by assumption) (by assumption) ?_ (by exact rfl); intro _ _ _; (try dsimp only))))
  (k_with "call type:bytes cons nil bytes" => (k_here; refine bb_call ?_))
  (k_with "call type:bytes" => (k_here; (with_reducible show wpAny _ _ (call (Value.type "bytes") [Value.bytes _ _]) _ _ _); refine bb_call ?_))
  (k_with "leaving ref" => (k_here; k_dflt (refine' leave_onSX (by assumption) (by assumption) (by assumption) (by assumption) ?_; k_whole); intro _ zzR zzU; (try dsimp only at zzR zzU ⊢)))
  (k_with "storeName" => (dsimp only; walk_at "storeName"))
  trivial
set_option maxHeartbeats 8000000 in
theorem u16_spec {w : World} {dp un : Nat} {gd : Option (List Code)} {base : Heap} {envs : List Env} {s : Shared} {Q E : Value → Shared → Prop} {b : Array UInt8} {bs : List Int} {a : Int} {tb ta : Tok}
  (C : Cx w (Ar dp un gd envs) base envs [] s.heap) (hb : KBw.bInts b = bs) (hlen : bs.length < 2 ^ 20) (hroom : dp + 10 < recursionLimit)
  (k : 0 ≤ a → a + 2 ≤ bs.length → ∀ t h' tk', Same [] s.heap h' → Q (.int (bs.getD a.toNat 0 * 256 + bs.getD (a + 1).toNat 0) t) { s with heap := h', toks := tk' })
  (kE : (a < 0 ∨ a + 2 > bs.length) → Fault base envs [] s E) :
  wpAny (model PySem.Challenge.rw_xm0719_01.row.prog w) (Ar dp un gd envs) (call (.ref 115) [.bytes b tb, .int a ta]) Q E s := by
  walk_at "c enter"
  have hbl : b.size = bs.length := by rw [← hb, KBw.ints_length]
  walk_at "c go"
  all_goals first
    | exact kE (by omega) _ _ _ (by rename _ = hideAll _ _ => eg; rw [← eg]; assumption) (by rename _ = hideAll _ _ => eg; rw [← eg]; assumption)
    | (dsimp only; exact k (by omega) (by omega) _ _ _ (by walk_at "c same"))
section
variable {w : World} {A : Around} {base h₀ h : Heap} {outer : List Env} {L a S S₂ : Addr} {o o₂ : Obj} {m mg mb : Str → Option Value} {mean : ExcName → Option Value} {cn : Str} {cs : Scope} {ccd : Value} {cl : List (Str × Addr)} {news rest r₁ : List (Addr × Obj)}
theorem fr_hide {U : List Addr} (F : Fr h₀ L h m) (N : News h₀ L h news) (hU : ∀ u ∈ U, ∃ o, (u, o) ∈ news) : Fr h₀ L (hideAll h U) m := by
  have nu : ∀ u ∈ U, h₀.get? u = none ∧ u ≠ L := fun u hu => by
    obtain ⟨o, ho⟩ := hU u hu
    exact ⟨(N _ ho).2.2, (N _ ho).2.1⟩
  obtain ⟨oL, es, ep, hL, r⟩ := F.ns
  refine ⟨⟨oL, es, ep, hideAll_get _ hL (fun hm => (nu L hm).2 rfl), r⟩, fun b o e => hideAll_get _ (F.keep b o e) (fun hm => ?_), F.above⟩
  rw [(nu b hm).1] at e
  cases e
theorem via0E {M : Model} {s : Shared} {t : Sem Value} {Q E : Value → Shared → Prop} (hB : Bs w mean mg mb base) (B : Below A base outer h₀) (F : Fr h₀ L s.heap m) (N : News h₀ L s.heap news) (hk : cs.kind = .function)
    (k : Cx w (A.deeper (envX cn cs L a ccd cl)) base (envX cn cs L a ccd cl :: outer) [] s.heap → Fr h₀ L (hideAll s.heap []) m → (∀ h' led, Same [] s.heap h' → Now [] s.heap h' led → Fr h₀ L h' m ∧ News h₀ L h' (led ++ news)) →
      wpAny M (A.deeper (envX cn cs L a ccd cl)) t Q E s) : wpAny M (A.deeper (envX cn cs L a ccd cl)) t Q E s :=
  let ⟨a, b⟩ := use_spec0 hB B F N hk
  k a F b
theorem via2E {M : Model} {s : Shared} {f : Value} {C : Addr} {vs : List Value} {Q E : Value → Shared → Prop} (hB : Bs w mean mg mb base) (B : Below A base outer h₀) (F : Fr h₀ L s.heap m) (N : News h₀ L s.heap news) (P : Pick S (instObj C S₂) news r₁) (P₂ : Pick S₂ o₂ r₁ rest) (D : ∀ p ∈ r₁, p.1 ≠ S) (D₂ : ∀ p ∈ rest, p.1 ≠ S₂) (hk : cs.kind = .function)
    (k : Cx w (A.deeper (envX cn cs L a ccd cl)) base (envX cn cs L a ccd cl :: outer) [S, S₂] s.heap → s.heap.get? S = some (instObj C S₂) → s.heap.get? S₂ = some o₂ → S ≠ S₂ → Fr h₀ L (hideAll s.heap [S, S₂]) m →
      (∀ h' led, Same [S, S₂] s.heap h' → Now [S, S₂] s.heap h' led → Fr h₀ L h' m ∧ News h₀ L h' (led ++ rest)) →
      wpAny M (A.deeper (envX cn cs L a ccd cl)) (call f (.ref S :: vs)) Q E s) : wpAny M (A.deeper (envX cn cs L a ccd cl)) (call f (.ref S :: vs)) Q E s :=
  let ⟨a, b, c, d⟩ := use_spec2 hB B F N P P₂ D D₂ hk
  k a b c (fun e => D _ P₂.mem e.symm) (fr_hide F N fun u hu => by
    rcases List.mem_cons.mp hu with rfl | hu
    · exact ⟨_, P.mem⟩
    · rw [List.mem_singleton.mp hu]; exact ⟨_, P.rest _ P₂.mem⟩) d
theorem now_nil {U : List Addr} {h h' : Heap} : Now U h h' [] := fun _ hp => nomatch hp
end
end
section
open PySem PySem.W PySem.Calls PyProof.Rows
-- XRead3
set_option maxRecDepth 100000
theorem lnXRead3_1 : True := by
  w_top off
  k_with_none
  (k_with "c enter" => (refine wpAny_call ?_; k_dflt (refine' enter (by assumption) (by first | assumption | exact use_nil) (by k_is) (by k_is) (by walk_at "c room") (by exact BindsTo.of_eq rfl) (by exact locs rfl) ?_ (by exact rfl) (by exact rfl) (by exact rfl) (by decide); k_whole; intro _ _ _ _ _ _ _ _ _ _ _ _ _ _; (try dsimp only); (try k_fold))))
  (k_with "c room" => first | assumption | decide | ((try simp only [depth_under_make, depth_under_kw, depth_in1, depth_deeper, depth_caller]); (try dsimp only [Ar]); first | exact room2 (by assumption) (by decide) | exact room1 (by assumption) (by decide) | exact room0 (by assumption) | omega))
  (k_with "c pick" => first | exact Pick.head | exact Pick.tail (by walk_at "c pick"))
  (k_with "c go" => repeat' (first | ((fail_if_success (with_reducible show wpAny _ _ (pyIter (Value.ref _)) _ _ _)); (fail_if_success (with_reducible show wpAny _ _ (exec (Stmt.While _ _ _ _) _) _ _ _)); first | (k_unfold; (try dsimp only)) | walk1 | (dsimp only; walk1))))
  (k_with "subscriptTail Name Constant ref int" => (k_here; (with_reducible show wpAny _ _ (subscriptTail _ _ (Value.ref _) (Value.int _ _)) _ _ _); (with_unfolding_all refine' my_item (by is_list) (by decide) (by decide) (by rfl) ?_ (by with_unfolding_all rfl); k_whole)))
  (k_with "call builtin:len" => (k_here; (with_reducible show wpAny _ _ (call (Value.builtin "len") [Value.ref _]) _ _ _); k_dflt (refine' my_len (by is_list) (by walk_at "c fit") ?_; k_whole)))
  (k_with "c via1" => (k_dflt (refine' via1 (by assumption) (by assumption) (by assumption) (by assumption) (by walk_at "c pick") (by k_all) (by first | exact rfl | assumption) ?_)))
  (k_with "c via0" => (k_dflt (refine' via0 (by assumption) (by assumption) (by assumption) (by assumption) (by first | exact rfl | assumption) ?_)))
  (k_with "c num" => first | assumption | decide | exact Int.natCast_nonneg _ | exact Nat.lt_of_lt_of_le (by assumption) (by decide) | exact size2 (by assumption) (by assumption) (by decide) | omega)
  (k_with "call ref" => (k_here; (with_reducible show wpAny _ _ (call (Value.ref 218) [Value.ref _, Value.int _ _]) _ _ _); walk_at "c via1"; intro cC cS cK; k_dflt (refine' take_spec cC cS (by walk_at "c num") (by walk_at "c num") (by walk_at "c num") (by walk_at "c num") (by walk_at "c room") ?_); clear cC cS; intro _ _ _ _ _ _ _ _ _ _ _ _ zzS zzW; (refine And.elim (fun _ zzN => ?_) (cK _ _ zzS zzW)); clear cK zzS zzW; (try dsimp only [List.cons_append, List.nil_append] at zzN); (try dsimp only); (try k_sweep)))
  (k_with "c fit" => first | assumption | exact Nat.le_of_ble_eq_true rfl | exact Nat.lt_of_lt_of_le (by assumption) (by decide) | exact size2 (by assumption) (by assumption) (by decide) | omega | ((simp only [List.length_cons, List.length_append, List.length_nil]); omega))
  (k_with "c itemN" => (k_here; (with_reducible show wpAny _ _ (subscriptTail _ _ (Value.ref _) (Value.int _ _)) _ _ _); (with_unfolding_all refine' my_itemN (by is_list) (by walk_at "c num") (by walk_at "c num") (by walk_at "c fit") ?_ (by with_unfolding_all rfl); k_whole)))
  (k_with "c end" => ((try k_unfold); (try dsimp only)))
  (k_with "c same" => exact same_of (by assumption) (by assumption))
  (k_with "c sub" => first | exact List.forall_mem_nil _ | exact fun _ h => h | exact List.forall_mem_cons.mpr ⟨by k_mem, by walk_at "c sub"⟩)
  (k_with "c now" => first | exact now_of (by assumption) (by assumption) | exact now_sub (by assumption) (by assumption) (by walk_at "c sub"))
  (k_with "c ints" => first | assumption | exact IntsAre.nil | exact IntsAre.cons _ _ IntsAre.nil | exact IntsAre.cons _ _ (IntsAre.cons _ _ IntsAre.nil) | exact IntsAre.cons _ _ (IntsAre.cons _ _ (IntsAre.cons _ _ IntsAre.nil)))
  (k_with "k_all" => first | exact all_ltS (by assumption) (by walk_at "c tail") | fail)
  (k_with "k_all" => first | exact List.forall_mem_nil _ | (refine' List.forall_mem_cons.mpr ⟨(by k_ne), (by k_all)⟩))
  (k_with "k_all" => first | (with_reducible assumption) | exact all_lt (by with_reducible assumption) | fail)
  (k_with "c lt" => first | assumption | exact lt_mem (by assumption) (by k_mem) | exact lt_mem2 (by assumption) (by assumption) (by k_mem) | exact Nat.lt_succ_self _ | exact Nat.lt_succ_of_lt (by walk_at "c lt"))
  (k_with "k_ne" => first | exact Apt.ne (by assumption) | exact (Apt.ne (by assumption)).symm | exact NewAt.ne (by assumption) (by k_mem) | exact (NewAt.ne (by assumption) (by k_mem)).symm | exact ne_gt (by assumption) (by k_mem) | exact ne_lt (by assumption) (by k_mem) | exact Nat.ne_of_gt (by walk_at "c lt") | exact Nat.ne_of_lt (by walk_at "c lt") | (refine neN ?_; (try dsimp only); omega))
  (k_with "k_mem" => first | exact lm0 | exact lm1 | exact lm2 | exact lm3 | (refine' lm4 ?_; k_mem))
  (k_with "le" => k_dflt (exact Nat.le_of_ble_eq_true rfl))
  (k_with "lt" => k_dflt (exact Nat.le_of_ble_eq_true rfl))
  (k_with "c size" => first | assumption | exact Nat.le_of_ble_eq_true rfl | exact Nat.lt_of_lt_of_le (by assumption) (by decide) | exact size2 (by assumption) (by assumption) (by decide) | omega | ((simp only [List.length_cons, List.length_append, List.length_nil]); omega))
  (k_with "call builtin:list.append" => (k_here; (with_reducible show wpAny _ _ (call (Value.builtin "list.append") [Value.ref _, _]) _ _ _); k_dflt (refine' my_append (by k_asm) (by k_asm) (by k_upd) (by walk_at "c size") ?_; k_whole); intro _ _ _; (try k_sweep)))
  (k_with "binaryOp Add ref ref" => (k_here; (with_reducible show wpAny _ _ (binaryOp Operator.Add (Value.ref _) (Value.ref _)) _ _ _); k_dflt (refine' my_addL (by k_asm) (by k_asm) (by is_list) (by is_list) (by walk_at "c size") ?_; k_whole); intro _ _ _ _ _; (try k_sweep)))
  (k_with "c tail" => (intro _ zzhp; repeat (first | exact zzhp | refine List.mem_cons_of_mem _ ?_)))
  (k_with "c rest" => (intro _ zzq1 zzq2 zzq3; (repeat (first | refine upd_ne zzq1 ?_ | refine upd_ne (ne_stored zzq3 (by decide +kernel)) ?_ | refine upd_ne (zzq2 (_, _) (by k_mem)) ?_ | exact kst_end zzq3 | refine kst_mid (not_in_cons (ne_stored zzq3 (by decide +kernel)) not_in_nil) ?_ | refine kst_ne (ne_stored zzq3 (by decide +kernel)) ?_ | refine kst_ne (zzq2 (_, _) (by k_mem)) ?_))))
  (k_with "c restW" => (intro _ zzq2 zzq3; (repeat (first | refine upd_ne (ne_stored zzq3 (by decide +kernel)) ?_ | refine upd_ne (zzq2 (_, _) (by k_mem)) ?_ | exact kst_end zzq3 | refine kst_mid (not_in_cons (ne_stored zzq3 (by decide +kernel)) not_in_nil) ?_ | refine kst_ne (ne_stored zzq3 (by decide +kernel)) ?_ | refine kst_ne (zzq2 (_, _) (by k_mem)) ?_))))
  (k_with "c ps" => first | exact List.forall_mem_nil _ | exact List.forall_mem_cons.mpr ⟨rfl, by walk_at "c ps"⟩)
  (k_with "c itemI" => (k_here; (with_reducible show wpAny _ _ (subscriptTail _ _ (Value.ref _) (Value.int _ _)) _ _ _); (with_unfolding_all refine' my_itemI (by is_list) (by with_reducible assumption) (by walk_at "c num") (by walk_at "c num") (by walk_at "c fit") ?_ (by with_unfolding_all rfl); k_whole); intro _))
  (k_with "exec Raise some none" => (k_here; k_dflt (refine' font_raise (by assumption) (by assumption) (by assumption) (by exact rfl) (by walk_at "c room") (by exact rfl) (by exact rfl) (by decide +kernel) ?_; intro _ _ _ _ _ _ _ _; (try k_unfold); (try dsimp only); refine' font_leave (by assumption) (by assumption) (by assumption) (by assumption) (by assumption) ?_ (by exact rfl); intro _ _ _; (try dsimp only))))
  (k_with "call type:bytes cons nil bytes" => (k_here; refine bb_call ?_))
  (k_with "call type:bytes" => (k_here; (with_reducible show wpAny _ _ (call (Value.type "bytes") [Value.bytes _ _]) _ _ _); refine bb_call ?_))
  (k_with "leaving ref" => (k_here; k_dflt (refine' leave_onSX (by assumption) (by assumption) (by assumption) (by assumption) ?_; k_whole); intro _ zzR zzU; (try dsimp only at zzR zzU ⊢)))
  (k_with "storeName" => (dsimp only; walk_at "storeName"))
  (k_with "c via0E" => (k_dflt (refine' via0E (by assumption) (by assumption) (by assumption) (by assumption) (by first | exact rfl | assumption) ?_)))
  (k_with "c via2E" => (k_dflt (refine' via2E (by assumption) (by assumption) (by assumption) (by assumption) (by walk_at "c pick") (by walk_at "c pick") (by k_all) (by k_all) (by first | exact rfl | assumption) ?_)))
  (k_with "c fault" => (intro _ _ _ _ _ _; (try dsimp only)))
  (k_with "call ref" => (k_here; (with_reducible show wpAny _ _ (call (Value.ref 115) [Value.bytes _ _, Value.int _ _]) _ _ _); walk_at "c via0E"; intro cC cF cK; (refine' u16_spec cC (by assumption) (by walk_at "c num") (by walk_at "c room") ?_ ?_); (all_goals first | (intro _ _ _ _ _ zzS; (refine And.elim (fun _ zzN => ?_) (cK _ [] zzS now_nil)); clear cK cC cF zzS; (try dsimp only [List.cons_append, List.nil_append] at zzN); (try dsimp only); (try k_sweep)) | (clear cC cK; walk_at "c fault"))))
  trivial
set_option maxHeartbeats 8000000 in
theorem s16_spec {w : World} {dp un : Nat} {gd : Option (List Code)} {base : Heap} {envs : List Env} {s : Shared} {Q E : Value → Shared → Prop} {b : Array UInt8} {bs : List Int} {a : Int} {tb ta : Tok}
  (C : Cx w (Ar dp un gd envs) base envs [] s.heap) (hb : KBw.bInts b = bs) (hlen : bs.length < 2 ^ 20) (hroom : dp + 11 < recursionLimit)
  (k : 0 ≤ a → a + 2 ≤ bs.length → ∀ z t h' tk', z = (if bs.getD a.toNat 0 * 256 + bs.getD (a + 1).toNat 0 ≥ 32768 then bs.getD a.toNat 0 * 256 + bs.getD (a + 1).toNat 0 - 65536 else bs.getD a.toNat 0 * 256 + bs.getD (a + 1).toNat 0) → Same [] s.heap h' → Q (.int z t) { s with heap := h', toks := tk' })
  (kE : (a < 0 ∨ a + 2 > bs.length) → Fault base envs [] s E) :
  wpAny (model PySem.Challenge.rw_xm0719_01.row.prog w) (Ar dp un gd envs) (call (.ref 122) [.bytes b tb, .int a ta]) Q E s := by
  walk_at "c enter"
  walk_at "c go"
  all_goals first
    | exact kE (by assumption) _ _ _ (by rename _ = hideAll _ _ => eg; rw [← eg]; assumption) (by rename _ = hideAll _ _ => eg; rw [← eg]; assumption)
    | (dsimp only; exact k (by assumption) (by assumption) _ _ _ _ (by split <;> omega) (by walk_at "c same"))
theorem lnXRead3_2 : True := by
  (k_with "call ref" => (k_here; (with_reducible show wpAny _ _ (call (Value.ref 122) [Value.bytes _ _, Value.int _ _]) _ _ _); walk_at "c via0E"; intro cC cF cK; (refine' s16_spec cC (by assumption) (by walk_at "c num") (by walk_at "c room") ?_ ?_); (all_goals first | (intro _ _ _ _ _ _ _ zzS; (refine And.elim (fun _ zzN => ?_) (cK _ [] zzS now_nil)); clear cK cC cF zzS; (try dsimp only [List.cons_append, List.nil_append] at zzN); (try dsimp only); (try k_sweep)) | (clear cC cK; walk_at "c fault"))))
  (k_with "call ref" => (k_here; (with_reducible show wpAny _ _ (call (Value.ref 129) [Value.bytes _ _, Value.int _ _, Value.int _ _]) _ _ _); walk_at "c via0E"; intro cC cF cK; (refine' part_of_spec cC (by assumption) (by walk_at "c num") (by walk_at "c room") ?_ ?_); (all_goals first | (intro _ _ _ _ _ _ _ _ zzS; (refine And.elim (fun _ zzN => ?_) (cK _ [] zzS now_nil)); clear cK cC cF zzS; (try dsimp only [List.cons_append, List.nil_append] at zzN); (try dsimp only); (try k_sweep)) | (clear cC cK; walk_at "c fault"))))
  trivial
theorem use_two {h : Heap} {S T : Addr} {o o' : Obj} (hS : h.get? S = some o) (hT : h.get? T = some o') : ∀ p ∈ [(S, o), (T, o')], h.get? p.1 = some p.2 ∧ p.1 ∈ [S, T] := fun p hp => by
  rcases List.mem_cons.mp hp with rfl | hp
  · exact ⟨hS, .head _⟩
  · rw [List.mem_singleton.mp hp]
    exact ⟨hT, .tail _ (.head _)⟩
structure OK where
  h1 : Int
  h2 : Int
  t1 : Tok
  t2 : Tok
  tb : Tok
abbrev octD (q : OK) (b : Array UInt8) (p : Int) (tp : Tok) : Obj := dictOf [⟨q.h1, .str (Str.ofString "octets") q.t1, .bytes b q.tb⟩, ⟨q.h2, .str (Str.ofString "at") q.t2, .int p tp⟩] 2
theorem octs_of {b : Array UInt8} {bs : List Int} (hb : KBw.bInts b = bs) (i : Nat) : 0 ≤ bs.getD i 0 ∧ bs.getD i 0 < 256 := by
  have h : ∀ v ∈ bs, 0 ≤ v ∧ v < 256 := by
    intro v hv
    rw [← hb] at hv
    unfold KBw.bInts at hv
    obtain ⟨u, _, rfl⟩ := List.mem_map.mp hv
    have := u.toNat_lt
    exact ⟨by omega, by omega⟩
  rw [List.getD_eq_getElem?_getD]
  cases e : bs[i]? with
  | none => exact ⟨by decide, by decide⟩
  | some v => exact h v (List.mem_of_getElem? e)
set_option maxHeartbeats 8000000 in
theorem byte_spec {w : World} {dp un : Nat} {gd : Option (List Code)} {base : Heap} {envs : List Env} {s : Shared} {Q E : Value → Shared → Prop} {b : Array UInt8} {bs : List Int} {O dx : Addr} {q : OK} {p : Int} {tp : Tok}
  (C : Cx w (Ar dp un gd envs) base envs [O, dx] s.heap) (hO : s.heap.get? O = some (instObj 174 dx)) (hd : s.heap.get? dx = some (octD q b p tp)) (hne : O ≠ dx) (hb : KBw.bInts b = bs) (hlen : bs.length < 2 ^ 20) (hp : 0 ≤ p) (hp1 : p < 2 ^ 30) (hroom : dp + 13 < recursionLimit)
  (k : p + 1 ≤ bs.length → ∀ z t tp' h' tk', z = bs.getD p.toNat 0 → 0 ≤ z ∧ z < 256 → Same [O, dx] s.heap h' → Now [O, dx] s.heap h' [(O, instObj 174 dx), (dx, octD q b (p + 1) tp')] → Q (.int z t) { s with heap := h', toks := tk' })
  (kE : p + 1 > bs.length → Fault base envs [O, dx] s E) :
  wpAny (model PySem.Challenge.rw_xm0719_01.row.prog w) (Ar dp un gd envs) (call (.ref 150) [.ref O]) Q E s := by
  have hu := use_two hO hd
  have ho := octs_of hb
  walk_at "c enter"
  walk_at "c go"
  all_goals (try walk_at "c end")
  all_goals first
    | exact kE (by omega) _ _ _ (by rename _ = hideAll _ _ => eg; rw [← eg]; assumption) (by rename _ = hideAll _ _ => eg; rw [← eg]; assumption)
    | skip
  have e : (p + 1 - 1).toNat = p.toNat := by omega
  have e0 : (List.take (Int.toNat 1) (List.drop (p + 1 - 1).toNat bs)).getD (Int.toNat 0) 0 = bs.getD p.toNat 0 := by
    rw [e]
    simp [List.getD_eq_getElem?_getD, List.getElem?_take, List.getElem?_drop]
  rw [e0]
  exact k (by omega) _ _ _ _ _ rfl (ho _) (by walk_at "c same") (by walk_at "c now")
set_option maxHeartbeats 8000000 in
theorem oword_spec {w : World} {dp un : Nat} {gd : Option (List Code)} {base : Heap} {envs : List Env} {s : Shared} {Q E : Value → Shared → Prop} {b : Array UInt8} {bs : List Int} {O dx : Addr} {q : OK} {p : Int} {tp : Tok}
  (C : Cx w (Ar dp un gd envs) base envs [O, dx] s.heap) (hO : s.heap.get? O = some (instObj 174 dx)) (hd : s.heap.get? dx = some (octD q b p tp)) (hne : O ≠ dx) (hb : KBw.bInts b = bs) (hlen : bs.length < 2 ^ 20) (hp : 0 ≤ p) (hp1 : p < 2 ^ 30) (hroom : dp + 13 < recursionLimit)
  (k : p + 2 ≤ bs.length → ∀ z t tp' h' tk', z = bs.getD p.toNat 0 * 256 + bs.getD (p + 1).toNat 0 → 0 ≤ z ∧ z < 65536 → Same [O, dx] s.heap h' → Now [O, dx] s.heap h' [(O, instObj 174 dx), (dx, octD q b (p + 2) tp')] → Q (.int z t) { s with heap := h', toks := tk' })
  (kE : p + 2 > bs.length → Fault base envs [O, dx] s E) :
  wpAny (model PySem.Challenge.rw_xm0719_01.row.prog w) (Ar dp un gd envs) (call (.ref 157) [.ref O]) Q E s := by
  have hu := use_two hO hd
  have ho := octs_of hb
  walk_at "c enter"
  walk_at "c go"
  all_goals (try walk_at "c end")
  all_goals first
    | exact kE (by omega) _ _ _ (by rename _ = hideAll _ _ => eg; rw [← eg]; assumption) (by rename _ = hideAll _ _ => eg; rw [← eg]; assumption)
    | skip
  have e : (p + 2 - 2).toNat = p.toNat := by omega
  have e1 : (p + 2 - 2 + 1).toNat = (p + 1).toNat := by omega
  rw [e, e1]
  have o1 := ho p.toNat
  have o2 := ho (p + 1).toNat
  exact k (by omega) _ _ _ _ _ rfl ⟨by omega, by omega⟩ (by walk_at "c same") (by walk_at "c now")
set_option maxHeartbeats 8000000 in
theorem signed_spec {w : World} {dp un : Nat} {gd : Option (List Code)} {base : Heap} {envs : List Env} {s : Shared} {Q E : Value → Shared → Prop} {b : Array UInt8} {bs : List Int} {O dx : Addr} {q : OK} {p : Int} {tp : Tok}
  (C : Cx w (Ar dp un gd envs) base envs [O, dx] s.heap) (hO : s.heap.get? O = some (instObj 174 dx)) (hd : s.heap.get? dx = some (octD q b p tp)) (hne : O ≠ dx) (hb : KBw.bInts b = bs) (hlen : bs.length < 2 ^ 20) (hp : 0 ≤ p) (hp1 : p < 2 ^ 30) (hroom : dp + 13 < recursionLimit)
  (k : p + 2 ≤ bs.length → ∀ z t tp' h' tk', z = (if bs.getD p.toNat 0 * 256 + bs.getD (p + 1).toNat 0 ≥ 32768 then bs.getD p.toNat 0 * 256 + bs.getD (p + 1).toNat 0 - 65536 else bs.getD p.toNat 0 * 256 + bs.getD (p + 1).toNat 0) → -32768 ≤ z ∧ z < 32768 → Same [O, dx] s.heap h' → Now [O, dx] s.heap h' [(O, instObj 174 dx), (dx, octD q b (p + 2) tp')] → Q (.int z t) { s with heap := h', toks := tk' })
  (kE : p + 2 > bs.length → Fault base envs [O, dx] s E) :
  wpAny (model PySem.Challenge.rw_xm0719_01.row.prog w) (Ar dp un gd envs) (call (.ref 164) [.ref O]) Q E s := by
  have hu := use_two hO hd
  have ho := octs_of hb
  walk_at "c enter"
  walk_at "c go"
  all_goals (try walk_at "c end")
  all_goals first
    | exact kE (by omega) _ _ _ (by rename _ = hideAll _ _ => eg; rw [← eg]; assumption) (by rename _ = hideAll _ _ => eg; rw [← eg]; assumption)
    | skip
  have e : (p + 2 - 2).toNat = p.toNat := by omega
  have e1 : (p + 2 - 2 + 1).toNat = (p + 1).toNat := by omega
  rename _ = ite _ _ _ => hz
  rw [e, e1] at hz
  have o1 := ho p.toNat
  have o2 := ho (p + 1).toNat
  exact k (by omega) _ _ _ _ _ hz (by rw [hz]; split <;> constructor <;> omega) (by walk_at "c same") (by walk_at "c now")
set_option maxHeartbeats 8000000 in
theorem part_spec {w : World} {dp un : Nat} {gd : Option (List Code)} {base : Heap} {envs : List Env} {s : Shared} {Q E : Value → Shared → Prop} {b : Array UInt8} {bs : List Int} {O dx : Addr} {q : OK} {p : Int} {tp : Tok} {z : Int} {tz : Tok}
  (C : Cx w (Ar dp un gd envs) base envs [O, dx] s.heap) (hO : s.heap.get? O = some (instObj 174 dx)) (hd : s.heap.get? dx = some (octD q b p tp)) (hne : O ≠ dx) (hb : KBw.bInts b = bs) (hlen : bs.length < 2 ^ 20) (hp : 0 ≤ p) (hp1 : p < 2 ^ 30) (hz : 0 ≤ z) (hz1 : z < 2 ^ 30) (hroom : dp + 13 < recursionLimit)
  (k : p + z ≤ bs.length → ∀ c t tp' h' tk', KBw.bInts c = (bs.drop p.toNat).take z.toNat → Same [O, dx] s.heap h' → Now [O, dx] s.heap h' [(O, instObj 174 dx), (dx, octD q b (p + z) tp')] → Q (.bytes c t) { s with heap := h', toks := tk' })
  (kE : p + z > bs.length → Fault base envs [O, dx] s E) :
  wpAny (model PySem.Challenge.rw_xm0719_01.row.prog w) (Ar dp un gd envs) (call (.ref 171) [.ref O, .int z tz]) Q E s := by
  have hu := use_two hO hd
  have ho := octs_of hb
  walk_at "c enter"
  walk_at "c go"
  all_goals (try walk_at "c end")
  all_goals first
    | exact kE (by omega) _ _ _ (by rename _ = hideAll _ _ => eg; rw [← eg]; assumption) (by rename _ = hideAll _ _ => eg; rw [← eg]; assumption)
    | skip
  refine k (by omega) _ _ _ _ _ ?_ (by walk_at "c same") (by walk_at "c now")
  have e : (p + z - z).toNat = p.toNat := by omega
  rename KBw.bInts _ = List.take _ _ => hk
  rw [hk, e]
end
section
open PySem PySem.W PySem.Calls PyProof.Rows
-- XPure
theorem lnXPure_0 : True := by
  w_top off
  k_with_none
  trivial
/-- what is read in front of what is read after -/
def pre (a : List Int) (o : Option (List Int × List Int)) : Option (List Int × List Int) := o.map fun r => (a ++ r.1, r.2)
theorem pre_none (a : List Int) : pre a none = none := rfl
theorem pre_some (a b r : List Int) : pre a (some (b, r)) = some (a ++ b, r) := rfl
theorem pre_nil (o : Option (List Int × List Int)) : pre [] o = o := by cases o <;> rfl
theorem pre_pre (a b : List Int) (o : Option (List Int × List Int)) : pre a (pre b o) = pre (a ++ b) o := by
  cases o with
  | none => rfl
  | some r => simp [pre]
/-- the marks of n points, read off octets -/
def RF : Int → List Int → Option (List Int × List Int)
  | n, [] => if n = 0 then some ([], []) else none
  | n, [f] => if n < 0 then none else if n = 0 then some ([], [f]) else if Builtin.bitAnd f 8 ≠ 0 then none else pre [f] (RF (n - 1) [])
  | n, f :: c :: r => if n < 0 then none else if n = 0 then some ([], f :: c :: r) else if Builtin.bitAnd f 8 ≠ 0 then pre (List.replicate (1 + c).toNat f) (RF (n - (1 + c)) r) else pre [f] (RF (n - 1) (c :: r))
theorem RF_neg {n : Int} (h : n < 0) (l : List Int) : RF n l = none := by
  match l with
  | [] => rw [RF, if_neg (by omega)]
  | [f] => rw [RF, if_pos h]
  | f :: c :: r => rw [RF, if_pos h]
theorem RF_zero (l : List Int) : RF 0 l = some ([], l) := by
  match l with
  | [] => rfl
  | [f] => rw [RF, if_neg (by omega), if_pos rfl]
  | f :: c :: r => rw [RF, if_neg (by omega), if_pos rfl]
theorem RF_nil {n : Int} (h : 0 < n) : RF n [] = none := by rw [RF, if_neg (by omega)]
theorem RF_cut {n f : Int} (h : 0 < n) (hf : Builtin.bitAnd f 8 ≠ 0) : RF n [f] = none := by rw [RF, if_neg (by omega), if_neg (by omega), if_pos hf]
theorem RF_one {n f : Int} {l : List Int} (h : 0 < n) (hf : Builtin.bitAnd f 8 = 0) : RF n (f :: l) = pre [f] (RF (n - 1) l) := by
  match l with
  | [] => rw [RF.eq_2, if_neg (by omega), if_neg (by omega), if_neg (fun q => q hf)]
  | c :: r => rw [RF, if_neg (by omega), if_neg (by omega), if_neg (fun q => q hf)]
theorem RF_run {n f c : Int} {l : List Int} (h : 0 < n) (hf : Builtin.bitAnd f 8 ≠ 0) : RF n (f :: c :: l) = pre (List.replicate (1 + c).toNat f) (RF (n - (1 + c)) l) := by
  rw [RF, if_neg (by omega), if_neg (by omega), if_pos hf]
theorem drop_at {bs : List Int} {p : Int} (h0 : 0 ≤ p) (h : p + 1 ≤ bs.length) : bs.drop p.toNat = bs.getD p.toNat 0 :: bs.drop (p + 1).toNat := by
  have e : (p + 1).toNat = p.toNat + 1 := by omega
  have hlt : p.toNat < bs.length := by omega
  rw [e, List.drop_eq_getElem_cons hlt]
  simp [List.getD_eq_getElem?_getD, hlt]
theorem drop_end {bs : List Int} {p : Int} (h : (bs.length : Int) ≤ p) : bs.drop p.toNat = [] := List.drop_eq_nil_of_le (by omega)
/-- deltas: one octet and a sign, or the same as before, or two octets -/
def S16 (a b : Int) : Int := if a * 256 + b ≥ 32768 then a * 256 + b - 65536 else a * 256 + b
def RD (short same : Int) : List Int → Int → List Int → Option (List Int × List Int)
  | [], _, l => some ([], l)
  | f :: fs, at', l =>
    if Builtin.bitAnd f short ≠ 0 then
      match l with
      | [] => none
      | x :: r => if Builtin.bitAnd f same ≠ 0 then pre [at' + x] (RD short same fs (at' + x) r) else pre [at' - x] (RD short same fs (at' - x) r)
    else if Builtin.bitAnd f same = 0 then
      match l with
      | x :: y :: r => pre [at' + S16 x y] (RD short same fs (at' + S16 x y) r)
      | _ => none
    else pre [at'] (RD short same fs at' l)
/-- ends, each above the one before -/
def RE : Nat → Int → List Int → Option (List Int × List Int)
  | 0, _, l => some ([], l)
  | n + 1, last, l => match l with
    | x :: y :: r => if x * 256 + y ≤ last then none else pre [x * 256 + y] (RE n (x * 256 + y) r)
    | _ => none
section
variable {bs fs : List Int} {N n p z c : Int}
theorem flat_one (k : Nat) (z : Int) : (List.replicate k [z]).flatten = List.replicate k z := by simp
theorem RF_stepOne (hn : 0 < N - fs.length) (h0 : 0 ≤ p) (h1 : p + 1 ≤ bs.length) (hz : z = bs.getD p.toNat 0) (hf : Builtin.bitAnd z 8 = 0) :
    RF (N - fs.length) (bs.drop p.toNat) = pre (List.replicate (Int.toNat 1) [z]).flatten (RF (N - (fs ++ (List.replicate (Int.toNat 1) [z]).flatten).length) (bs.drop (p + 1).toNat)) := by
  rw [drop_at h0 h1, ← hz, RF_one hn hf, flat_one]
  have e : N - ((fs ++ List.replicate (Int.toNat 1) z).length : Int) = N - fs.length - 1 := by
    simp only [List.length_append, List.length_replicate]
    omega
  rw [e]
  rfl
theorem RF_stepRun (hn : 0 < N - fs.length) (h0 : 0 ≤ p) (h1 : p + 1 + 1 ≤ bs.length) (hz : z = bs.getD p.toNat 0) (hf : Builtin.bitAnd z 8 ≠ 0) (hc : c = bs.getD (p + 1).toNat 0) (hc0 : 0 ≤ c) :
    RF (N - fs.length) (bs.drop p.toNat) = pre (List.replicate (1 + c).toNat [z]).flatten (RF (N - (fs ++ (List.replicate (1 + c).toNat [z]).flatten).length) (bs.drop (p + 1 + 1).toNat)) := by
  rw [drop_at h0 (by omega), drop_at (p := p + 1) (by omega) h1, ← hz, ← hc, RF_run hn hf, flat_one]
  have e : N - ((fs ++ List.replicate (1 + c).toNat z).length : Int) = N - fs.length - (1 + c) := by
    simp only [List.length_append, List.length_replicate]
    omega
  rw [e]
theorem RF_fail1 (hn : 0 < n) (h1 : p + 1 > bs.length) : RF n (bs.drop p.toNat) = none := by
  rw [drop_end (by omega), RF_nil hn]
theorem RF_fail2 (hn : 0 < n) (h0 : 0 ≤ p) (h1 : p + 1 ≤ bs.length) (h2 : p + 1 + 1 > bs.length) (hz : z = bs.getD p.toNat 0) (hf : Builtin.bitAnd z 8 ≠ 0) : RF n (bs.drop p.toNat) = none := by
  rw [drop_at h0 h1, drop_end (p := p + 1) (by omega), ← hz, RF_cut hn hf]
end
end
section
open PySem PySem.W PySem.Calls PyProof.Rows
-- XRead4
set_option maxRecDepth 100000
theorem lnXRead4_1 : True := by
  w_top off
  k_with_none
  (k_with "c enter" => (refine wpAny_call ?_; k_dflt (refine' enter (by assumption) (by first | assumption | exact use_nil) (by k_is) (by k_is) (by walk_at "c room") (by exact BindsTo.of_eq rfl) (by exact locs rfl) ?_ (by exact rfl) (by exact rfl) (by exact rfl) (by decide); k_whole; intro _ _ _ _ _ _ _ _ _ _ _ _ _ _; (try dsimp only); (try k_fold))))
  (k_with "c room" => first | assumption | decide | ((try simp only [depth_under_make, depth_under_kw, depth_in1, depth_deeper, depth_caller]); (try dsimp only [Ar]); first | exact room2 (by assumption) (by decide) | exact room1 (by assumption) (by decide) | exact room0 (by assumption) | omega))
  (k_with "c pick" => first | exact Pick.head | exact Pick.tail (by walk_at "c pick"))
  (k_with "c go" => repeat' (first | ((fail_if_success (with_reducible show wpAny _ _ (pyIter (Value.ref _)) _ _ _)); (fail_if_success (with_reducible show wpAny _ _ (exec (Stmt.While _ _ _ _) _) _ _ _)); first | (k_unfold; (try dsimp only)) | walk1 | (dsimp only; walk1))))
  (k_with "subscriptTail Name Constant ref int" => (k_here; (with_reducible show wpAny _ _ (subscriptTail _ _ (Value.ref _) (Value.int _ _)) _ _ _); (with_unfolding_all refine' my_item (by is_list) (by decide) (by decide) (by rfl) ?_ (by with_unfolding_all rfl); k_whole)))
  (k_with "call builtin:len" => (k_here; (with_reducible show wpAny _ _ (call (Value.builtin "len") [Value.ref _]) _ _ _); k_dflt (refine' my_len (by is_list) (by walk_at "c fit") ?_; k_whole)))
  (k_with "c via1" => (k_dflt (refine' via1 (by assumption) (by assumption) (by assumption) (by assumption) (by walk_at "c pick") (by k_all) (by first | exact rfl | assumption) ?_)))
  (k_with "c via0" => (k_dflt (refine' via0 (by assumption) (by assumption) (by assumption) (by assumption) (by first | exact rfl | assumption) ?_)))
  (k_with "c num" => first | assumption | decide | exact Int.natCast_nonneg _ | exact Nat.lt_of_lt_of_le (by assumption) (by decide) | exact size2 (by assumption) (by assumption) (by decide) | omega)
  (k_with "call ref" => (k_here; (with_reducible show wpAny _ _ (call (Value.ref 218) [Value.ref _, Value.int _ _]) _ _ _); walk_at "c via1"; intro cC cS cK; k_dflt (refine' take_spec cC cS (by walk_at "c num") (by walk_at "c num") (by walk_at "c num") (by walk_at "c num") (by walk_at "c room") ?_); clear cC cS; intro _ _ _ _ _ _ _ _ _ _ _ _ zzS zzW; (refine And.elim (fun _ zzN => ?_) (cK _ _ zzS zzW)); clear cK zzS zzW; (try dsimp only [List.cons_append, List.nil_append] at zzN); (try dsimp only); (try k_sweep)))
  (k_with "c fit" => first | assumption | exact Nat.le_of_ble_eq_true rfl | exact Nat.lt_of_lt_of_le (by assumption) (by decide) | exact size2 (by assumption) (by assumption) (by decide) | omega | ((simp only [List.length_cons, List.length_append, List.length_nil]); omega))
  (k_with "c itemN" => (k_here; (with_reducible show wpAny _ _ (subscriptTail _ _ (Value.ref _) (Value.int _ _)) _ _ _); (with_unfolding_all refine' my_itemN (by is_list) (by walk_at "c num") (by walk_at "c num") (by walk_at "c fit") ?_ (by with_unfolding_all rfl); k_whole)))
  (k_with "c end" => ((try k_unfold); (try dsimp only)))
  (k_with "c same" => exact same_of (by assumption) (by assumption))
  (k_with "c sub" => first | exact List.forall_mem_nil _ | exact fun _ h => h | exact List.forall_mem_cons.mpr ⟨by k_mem, by walk_at "c sub"⟩)
  (k_with "c now" => first | exact now_of (by assumption) (by assumption) | exact now_sub (by assumption) (by assumption) (by walk_at "c sub"))
  (k_with "c ints" => first | assumption | exact IntsAre.nil | exact IntsAre.cons _ _ IntsAre.nil | exact IntsAre.cons _ _ (IntsAre.cons _ _ IntsAre.nil) | exact IntsAre.cons _ _ (IntsAre.cons _ _ (IntsAre.cons _ _ IntsAre.nil)))
  (k_with "k_all" => first | exact all_ltS (by assumption) (by walk_at "c tail") | fail)
  (k_with "k_all" => first | exact List.forall_mem_nil _ | (refine' List.forall_mem_cons.mpr ⟨(by k_ne), (by k_all)⟩))
  (k_with "k_all" => first | (with_reducible assumption) | exact all_lt (by with_reducible assumption) | fail)
  (k_with "c lt" => first | assumption | exact lt_mem (by assumption) (by k_mem) | exact lt_mem2 (by assumption) (by assumption) (by k_mem) | exact Nat.lt_succ_self _ | exact Nat.lt_succ_of_lt (by walk_at "c lt"))
  (k_with "k_ne" => first | exact Apt.ne (by assumption) | exact (Apt.ne (by assumption)).symm | exact NewAt.ne (by assumption) (by k_mem) | exact (NewAt.ne (by assumption) (by k_mem)).symm | exact ne_gt (by assumption) (by k_mem) | exact ne_lt (by assumption) (by k_mem) | exact Nat.ne_of_gt (by walk_at "c lt") | exact Nat.ne_of_lt (by walk_at "c lt") | (refine neN ?_; (try dsimp only); omega))
  (k_with "k_mem" => first | exact lm0 | exact lm1 | exact lm2 | exact lm3 | (refine' lm4 ?_; k_mem))
  (k_with "le" => k_dflt (exact Nat.le_of_ble_eq_true rfl))
  (k_with "lt" => k_dflt (exact Nat.le_of_ble_eq_true rfl))
  (k_with "c size" => first | assumption | exact Nat.le_of_ble_eq_true rfl | exact Nat.lt_of_lt_of_le (by assumption) (by decide) | exact size2 (by assumption) (by assumption) (by decide) | omega | ((simp only [List.length_cons, List.length_append, List.length_nil]); omega))
  (k_with "call builtin:list.append" => (k_here; (with_reducible show wpAny _ _ (call (Value.builtin "list.append") [Value.ref _, _]) _ _ _); k_dflt (refine' my_append (by k_asm) (by k_asm) (by k_upd) (by walk_at "c size") ?_; k_whole); intro _ _ _; (try k_sweep)))
  (k_with "binaryOp Add ref ref" => (k_here; (with_reducible show wpAny _ _ (binaryOp Operator.Add (Value.ref _) (Value.ref _)) _ _ _); k_dflt (refine' my_addL (by k_asm) (by k_asm) (by is_list) (by is_list) (by walk_at "c size") ?_; k_whole); intro _ _ _ _ _; (try k_sweep)))
  (k_with "c tail" => (intro _ zzhp; repeat (first | exact zzhp | refine List.mem_cons_of_mem _ ?_)))
  (k_with "c rest" => (intro _ zzq1 zzq2 zzq3; (repeat (first | refine upd_ne zzq1 ?_ | refine upd_ne (ne_stored zzq3 (by decide +kernel)) ?_ | refine upd_ne (zzq2 (_, _) (by k_mem)) ?_ | exact kst_end zzq3 | refine kst_mid (not_in_cons (ne_stored zzq3 (by decide +kernel)) not_in_nil) ?_ | refine kst_ne (ne_stored zzq3 (by decide +kernel)) ?_ | refine kst_ne (zzq2 (_, _) (by k_mem)) ?_))))
  (k_with "c restW" => (intro _ zzq2 zzq3; (repeat (first | refine upd_ne (ne_stored zzq3 (by decide +kernel)) ?_ | refine upd_ne (zzq2 (_, _) (by k_mem)) ?_ | exact kst_end zzq3 | refine kst_mid (not_in_cons (ne_stored zzq3 (by decide +kernel)) not_in_nil) ?_ | refine kst_ne (ne_stored zzq3 (by decide +kernel)) ?_ | refine kst_ne (zzq2 (_, _) (by k_mem)) ?_))))
  (k_with "c ps" => first | exact List.forall_mem_nil _ | exact List.forall_mem_cons.mpr ⟨rfl, by walk_at "c ps"⟩)
  (k_with "c itemI" => (k_here; (with_reducible show wpAny _ _ (subscriptTail _ _ (Value.ref _) (Value.int _ _)) _ _ _); (with_unfolding_all refine' my_itemI (by is_list) (by with_reducible assumption) (by walk_at "c num") (by walk_at "c num") (by walk_at "c fit") ?_ (by with_unfolding_all rfl); k_whole); intro _))
  (k_with "exec Raise some none" => (k_here; k_dflt (refine' font_raise (by assumption) (by assumption) (by assumption) (by exact rfl) (by walk_at "c room") (by exact rfl) (by exact rfl) (by decide +kernel) ?_; intro _ _ _ _ _ _ _ _; (try k_unfold); (try dsimp only); refine' font_leave (by assumption) (by assumption) (by assumption) (by assumption) (by assumption) ?_ (by exact rfl); intro _ _ _; (try dsimp only))))
  (k_with "call type:bytes cons nil bytes" => (k_here; refine bb_call ?_))
  (k_with "call type:bytes" => (k_here; (with_reducible show wpAny _ _ (call (Value.type "bytes") [Value.bytes _ _]) _ _ _); refine bb_call ?_))
  (k_with "leaving ref" => (k_here; k_dflt (refine' leave_onSX (by assumption) (by assumption) (by assumption) (by assumption) ?_; k_whole); intro _ zzR zzU; (try dsimp only at zzR zzU ⊢)))
  (k_with "storeName" => (dsimp only; walk_at "storeName"))
  (k_with "c via0E" => (k_dflt (refine' via0E (by assumption) (by assumption) (by assumption) (by assumption) (by first | exact rfl | assumption) ?_)))
  (k_with "c via2E" => (k_dflt (refine' via2E (by assumption) (by assumption) (by assumption) (by assumption) (by walk_at "c pick") (by walk_at "c pick") (by k_all) (by k_all) (by first | exact rfl | assumption) ?_)))
  (k_with "c fault" => (intro _ _ _ _ _ _; (try dsimp only)))
  (k_with "call ref" => (k_here; (try dsimp only [List.cons_append, List.nil_append]); (with_reducible show wpAny _ _ (call (Value.ref 150) [Value.ref _]) _ _ _); walk_at "c via2E"; intro cC cO cD cn cF cK; (refine' byte_spec cC cO cD cn (by assumption) (by walk_at "c num") (by walk_at "c num") (by walk_at "c num") (by walk_at "c room") ?_ ?_); (all_goals first | (intro _ _ _ _ _ _ _ _ zzS zzW; (refine And.elim (fun _ zzN => ?_) (cK _ _ zzS zzW)); clear cK cC cO cD cn cF zzS zzW; (try dsimp only [List.cons_append, List.nil_append] at zzN); (try dsimp only); (try k_sweep)) | (clear cC cO cD cn cK; walk_at "c fault"))))
  (k_with "call ref" => (k_here; (try dsimp only [List.cons_append, List.nil_append]); (with_reducible show wpAny _ _ (call (Value.ref 157) [Value.ref _]) _ _ _); walk_at "c via2E"; intro cC cO cD cn cF cK; (refine' oword_spec cC cO cD cn (by assumption) (by walk_at "c num") (by walk_at "c num") (by walk_at "c num") (by walk_at "c room") ?_ ?_); (all_goals first | (intro _ _ _ _ _ _ _ _ zzS zzW; (refine And.elim (fun _ zzN => ?_) (cK _ _ zzS zzW)); clear cK cC cO cD cn cF zzS zzW; (try dsimp only [List.cons_append, List.nil_append] at zzN); (try dsimp only); (try k_sweep)) | (clear cC cO cD cn cK; walk_at "c fault"))))
  (k_with "call ref" => (k_here; (try dsimp only [List.cons_append, List.nil_append]); (with_reducible show wpAny _ _ (call (Value.ref 164) [Value.ref _]) _ _ _); walk_at "c via2E"; intro cC cO cD cn cF cK; (refine' signed_spec cC cO cD cn (by assumption) (by walk_at "c num") (by walk_at "c num") (by walk_at "c num") (by walk_at "c room") ?_ ?_); (all_goals first | (intro _ _ _ _ _ _ _ _ zzS zzW; (refine And.elim (fun _ zzN => ?_) (cK _ _ zzS zzW)); clear cK cC cO cD cn cF zzS zzW; (try dsimp only [List.cons_append, List.nil_append] at zzN); (try dsimp only); (try k_sweep)) | (clear cC cO cD cn cK; walk_at "c fault"))))
  (k_with "call ref" => (k_here; (try dsimp only [List.cons_append, List.nil_append]); (with_reducible show wpAny _ _ (call (Value.ref 171) [Value.ref _, Value.int _ _]) _ _ _); walk_at "c via2E"; intro cC cO cD cn cF cK; (refine' part_spec cC cO cD cn (by assumption) (by walk_at "c num") (by walk_at "c num") (by walk_at "c num") (by walk_at "c num") (by walk_at "c num") (by walk_at "c room") ?_ ?_); (all_goals first | (intro _ _ _ _ _ _ _ zzS zzW; (refine And.elim (fun _ zzN => ?_) (cK _ _ zzS zzW)); clear cK cC cO cD cn cF zzS zzW; (try dsimp only [List.cons_append, List.nil_append] at zzN); (try dsimp only); (try k_sweep)) | (clear cC cO cD cn cK; walk_at "c fault"))))
  trivial
theorem my_extend {prog : Program} {w : World} {A : Around} {E : Value → Shared → Prop} {s : Shared} {h₀ : Heap} {L D b : Addr} {m : Str → Option Value} {news news' : List (Addr × Obj)} {Q : Value → Shared → Prop} {vs ws : List Value} {n n2 : Nat} (F : Fr h₀ L s.heap m) (N : News h₀ L s.heap news) (hb : (b, listOf ws.toArray n2) ∈ news)
    (U : Upd D (listOf vs.toArray n) (listOf (vs ++ ws).toArray (n + 1)) news news') (hne : 0 < ws.toArray.size) (hsz : vs.length + ws.toArray.size < 2 ^ 20)
    (h : ∀ h', Fr h₀ L h' m → News h₀ L h' news' → Q .none { s with heap := h' }) : wpAny (model prog w) A (call (.builtin "list.extend") [.ref D, .ref b]) Q E s := by
  have hs := sizeLine_eq
  simp only [List.size_toArray] at hne hsz
  refine kl_extend F N hb rfl (by simpa using Nat.ne_of_gt hne) (by simpa using U) ?_ (by simp only [List.toList_toArray]; omega) (by simp only [List.size_toArray]; omega) h
  unfold Builtin.List.listTooLong
  simp only [List.size_toArray, Bool.and_eq_true, Bool.not_eq_true', decide_eq_true_eq, not_and]
  intro _
  omega
theorem lnXRead4_2 : True := by
  (k_with "call builtin:list.extend" => (k_here; (with_reducible show wpAny _ _ (call (Value.builtin "list.extend") [Value.ref _, Value.ref _]) _ _ _); k_dflt (refine' my_extend (by k_asm) (by k_asm) (by k_mem) (by k_upd) (by omega) (by omega) ?_; k_whole); intro _ _ _; (try k_sweep)))
  trivial
def RG (O dx fnd : Addr) (q : OK) (b : Array UInt8) (bs : List Int) (N : Int) (l₀ : List Int) (c : Int × List Int) (nx : List (Addr × Obj)) : Prop :=
  ∃ (tp : Tok) (vs : List Value) (n : Nat), nx = [(O, instObj 174 dx), (dx, octD q b c.1 tp), (fnd, listOf vs.toArray n)] ∧ 0 ≤ c.1 ∧ c.1 ≤ bs.length ∧ IntsAre vs c.2 ∧ c.2.length < 70000 ∧ RF N l₀ = pre c.2 (RF (N - c.2.length) (bs.drop c.1.toNat))
theorem RG.elim {O dx fnd : Addr} {q : OK} {b : Array UInt8} {bs : List Int} {N : Int} {l₀ : List Int} {c : Int × List Int} {nx : List (Addr × Obj)} {P : Prop} (h : RG O dx fnd q b bs N l₀ c nx)
    (k : ∀ (tp : Tok) (vs : List Value) (n : Nat) (p : Int) (fs : List Int), c = (p, fs) → nx = [(O, instObj 174 dx), (dx, octD q b p tp), (fnd, listOf vs.toArray n)] → 0 ≤ p → p ≤ bs.length → IntsAre vs fs → fs.length < 70000 → RF N l₀ = pre fs (RF (N - fs.length) (bs.drop p.toNat)) → P) : P := by
  obtain ⟨p, fs⟩ := c
  obtain ⟨tp, vs, n, e, h0, h1, hI, hfl, hinv⟩ := h
  exact k tp vs n p fs rfl e h0 h1 hI hfl hinv
theorem flags_end {h₀ h' : Heap} {L O dx fnd : Addr} {q : OK} {b : Array UInt8} {bs l₀ fs gs : List Int} {N P : Int} {p' : Int} {tp : Tok} {vs ws : List Value} {n tk : Nat} {m m₀ : Str → Option Value} {stored : List Str} {big : List (Addr × Obj)} {s₁ : Shared}
    (F : Fr h₀ L h' m) (N' : News h₀ L h' big) (m1 : (O, instObj 174 dx) ∈ big) (m2 : (dx, octD q b P tp) ∈ big) (m3 : (fnd, listOf (vs ++ ws).toArray n) ∈ big)
    (hr : ∀ z, (∀ p ∈ ([] : List (Str × Value)), z ≠ p.1) → stored.contains z = false → m z = m₀ z) (h0 : 0 ≤ P) (h1 : P ≤ bs.length) (hI : IntsAre vs fs) (hJ : IntsAre ws gs) (hl : (fs ++ gs).length < 70000)
    (hinv : RF N l₀ = pre fs (RF (N - fs.length) (bs.drop p'.toNat))) (hstep : RF (N - fs.length) (bs.drop p'.toNat) = pre gs (RF (N - (fs ++ gs).length) (bs.drop P.toNat))) (hlt : p' < P) :
    WEnd (σ := Int × List Int) (fun c => []) stored m₀ (RG O dx fnd q b bs N l₀) (fun c => ((bs.length : Int) - c.1).toNat) (((bs.length : Int) - p').toNat) h₀ L s₁ { s₁ with heap := h', toks := tk } := by
  refine WEnd.intro (P, fs ++ gs) [(O, instObj 174 dx), (dx, octD q b P tp), (fnd, listOf (vs ++ ws).toArray n)] F N' ?_ (fun _ hp => nomatch hp) hr ⟨tp, _, n, rfl, h0, h1, hI.append hJ, hl, ?_⟩ ?_
  · simp only [List.forall_mem_cons]
    exact ⟨m1, m2, m3, List.forall_mem_nil _⟩
  · rw [hinv, hstep, pre_pre]
  · show ((bs.length : Int) - P).toNat < ((bs.length : Int) - p').toNat
    omega
set_option maxHeartbeats 8000000 in
theorem flags_spec {w : World} {dp un : Nat} {gd : Option (List Code)} {base : Heap} {envs : List Env} {s : Shared} {Q E : Value → Shared → Prop} {b : Array UInt8} {bs : List Int} {O dx : Addr} {q : OK} {p : Int} {tp : Tok} {N : Int} {tN : Tok}
  (C : Cx w (Ar dp un gd envs) base envs [O, dx] s.heap) (hO : s.heap.get? O = some (instObj 174 dx)) (hd : s.heap.get? dx = some (octD q b p tp)) (hne : O ≠ dx) (hb : KBw.bInts b = bs) (hlen : bs.length < 2 ^ 20) (hp : 0 ≤ p) (hp1 : p ≤ bs.length) (hN : 0 ≤ N) (hN1 : N < 65537) (hroom : dp + 15 < recursionLimit)
  (k : ∀ f vs fs (p' : Int) tp' n' h' tk', RF N (bs.drop p.toNat) = some (fs, bs.drop p'.toNat) → 0 ≤ p' → p' ≤ bs.length → IntsAre vs fs → (fs.length : Int) = N → Same [O, dx] s.heap h' → Now [O, dx] s.heap h' [(O, instObj 174 dx), (dx, octD q b p' tp'), (f, listOf vs.toArray n')] → f ≠ O → f ≠ dx → Q (.ref f) { s with heap := h', toks := tk' })
  (kE : RF N (bs.drop p.toNat) = none → Fault base envs [O, dx] s E) :
  wpAny (model PySem.Challenge.rw_xm0719_01.row.prog w) (Ar dp un gd envs) (call (.ref 185) [.ref O, .int N tN]) Q E s := by
  have hu := use_two hO hd
  have hA : Apt O dx := ⟨hne⟩
  walk_at "c enter"
  walk_at "c go"
  rename_i fnd h1 ll h2 F1 N1
  have N3 := news_sub (led := [(O, instObj 174 dx), (dx, octD q b p tp), (fnd, listOf [].toArray 0)]) N1 (by walk_at "c sub")
  refine my_whileS (σ := Int × List Int) (fun c => []) [Str.ofString "flag", Str.ofString "many"] (RG O dx fnd q b bs N (bs.drop p.toNat)) (fun c => ((bs.length : Int) - c.1).toNat) (p, []) F1 N3 ?hk ?hG ?turn
  case hk => walk_at "c ps"
  case hG => exact ⟨tp, [], 0, rfl, hp, hp1, .nil, Nat.zero_lt_succ _, by simp [pre_nil]⟩
  intro c u nx h tk hG F9 N9
  refine RG.elim hG fun tp' vs n p' fs ec en h0 h1 hI hfl hinv => ?_
  clear hG N1 N3 F1 hu
  subst ec en
  have hvl := hI.length
  dsimp only at F9 h0 h1 hI N9 hvl hfl hinv
  walk_at "c go"
  all_goals first
    | (refine kE ?_ _ _ _ (by rename _ = hideAll _ _ => eg; rw [← eg]; assumption) (by rename _ = hideAll _ _ => eg; rw [← eg]; assumption)
       rw [hinv]
       first
         | rw [RF_fail1 (by omega) (by assumption), pre_none]
         | rw [RF_fail2 (by omega) h0 (by assumption) (by assumption) (by assumption) (by assumption), pre_none]
         | rw [RF_neg (by omega), pre_none])
    | (dsimp only [WPost]
       first
         | exact flags_end (by assumption) (by assumption) (by k_mem) (by k_mem) (by k_mem) (by walk_at "c restW") (by omega) (by omega) hI (by assumption) (by simp only [List.length_append]; omega) hinv (RF_stepOne (by omega) h0 (by assumption) (by assumption) (by assumption)) (by omega)
         | exact flags_end (by assumption) (by assumption) (by k_mem) (by k_mem) (by k_mem) (by walk_at "c restW") (by omega) (by omega) hI (by assumption) (by simp only [List.length_append]; omega) hinv (RF_stepRun (by omega) h0 (by assumption) (by assumption) (by assumption) (by assumption) (by omega)) (by omega))
    | skip
  walk_at "c end"
  walk_at "c end"
  have e : N - (fs.length : Int) = 0 := by omega
  rw [e, RF_zero, pre_some, List.append_nil] at hinv
  exact k _ _ _ _ _ _ _ _ hinv h0 h1 hI (by omega) (by walk_at "c same") (by walk_at "c now") (by k_ne) (by k_ne)
end
section
open PySem PySem.W PySem.Calls PyProof.Rows
-- XRead5
set_option maxRecDepth 100000
theorem lnXRead5_1 : True := by
  w_top off
  k_with_none
  (k_with "c enter" => (refine wpAny_call ?_; k_dflt (refine' enter (by assumption) (by first | assumption | exact use_nil) (by k_is) (by k_is) (by walk_at "c room") (by exact BindsTo.of_eq rfl) (by exact locs rfl) ?_ (by exact rfl) (by exact rfl) (by exact rfl) (by decide); k_whole; intro _ _ _ _ _ _ _ _ _ _ _ _ _ _; (try dsimp only); (try k_fold))))
  (k_with "c room" => first | assumption | decide | ((try simp only [depth_under_make, depth_under_kw, depth_in1, depth_deeper, depth_caller]); (try dsimp only [Ar]); first | exact room2 (by assumption) (by decide) | exact room1 (by assumption) (by decide) | exact room0 (by assumption) | omega))
  (k_with "c pick" => first | exact Pick.head | exact Pick.tail (by walk_at "c pick"))
  (k_with "c go" => repeat' (first | ((fail_if_success (with_reducible show wpAny _ _ (pyIter (Value.ref _)) _ _ _)); (fail_if_success (with_reducible show wpAny _ _ (exec (Stmt.While _ _ _ _) _) _ _ _)); first | (k_unfold; (try dsimp only)) | walk1 | (dsimp only; walk1))))
  (k_with "subscriptTail Name Constant ref int" => (k_here; (with_reducible show wpAny _ _ (subscriptTail _ _ (Value.ref _) (Value.int _ _)) _ _ _); (with_unfolding_all refine' my_item (by is_list) (by decide) (by decide) (by rfl) ?_ (by with_unfolding_all rfl); k_whole)))
  (k_with "call builtin:len" => (k_here; (with_reducible show wpAny _ _ (call (Value.builtin "len") [Value.ref _]) _ _ _); k_dflt (refine' my_len (by is_list) (by walk_at "c fit") ?_; k_whole)))
  (k_with "c via1" => (k_dflt (refine' via1 (by assumption) (by assumption) (by assumption) (by assumption) (by walk_at "c pick") (by k_all) (by first | exact rfl | assumption) ?_)))
  (k_with "c via0" => (k_dflt (refine' via0 (by assumption) (by assumption) (by assumption) (by assumption) (by first | exact rfl | assumption) ?_)))
  (k_with "c num" => first | assumption | decide | exact Int.natCast_nonneg _ | exact Nat.lt_of_lt_of_le (by assumption) (by decide) | exact size2 (by assumption) (by assumption) (by decide) | omega)
  (k_with "call ref" => (k_here; (with_reducible show wpAny _ _ (call (Value.ref 218) [Value.ref _, Value.int _ _]) _ _ _); walk_at "c via1"; intro cC cS cK; k_dflt (refine' take_spec cC cS (by walk_at "c num") (by walk_at "c num") (by walk_at "c num") (by walk_at "c num") (by walk_at "c room") ?_); clear cC cS; intro _ _ _ _ _ _ _ _ _ _ _ _ zzS zzW; (refine And.elim (fun _ zzN => ?_) (cK _ _ zzS zzW)); clear cK zzS zzW; (try dsimp only [List.cons_append, List.nil_append] at zzN); (try dsimp only); (try k_sweep)))
  (k_with "c fit" => first | assumption | exact Nat.le_of_ble_eq_true rfl | exact Nat.lt_of_lt_of_le (by assumption) (by decide) | exact size2 (by assumption) (by assumption) (by decide) | omega | ((simp only [List.length_cons, List.length_append, List.length_nil]); omega))
  (k_with "c itemN" => (k_here; (with_reducible show wpAny _ _ (subscriptTail _ _ (Value.ref _) (Value.int _ _)) _ _ _); (with_unfolding_all refine' my_itemN (by is_list) (by walk_at "c num") (by walk_at "c num") (by walk_at "c fit") ?_ (by with_unfolding_all rfl); k_whole)))
  (k_with "c end" => ((try k_unfold); (try dsimp only)))
  (k_with "c same" => exact same_of (by assumption) (by assumption))
  (k_with "c sub" => first | exact List.forall_mem_nil _ | exact fun _ h => h | exact List.forall_mem_cons.mpr ⟨by k_mem, by walk_at "c sub"⟩)
  (k_with "c now" => first | exact now_of (by assumption) (by assumption) | exact now_sub (by assumption) (by assumption) (by walk_at "c sub"))
  (k_with "c ints" => first | assumption | exact IntsAre.nil | exact IntsAre.cons _ _ IntsAre.nil | exact IntsAre.cons _ _ (IntsAre.cons _ _ IntsAre.nil) | exact IntsAre.cons _ _ (IntsAre.cons _ _ (IntsAre.cons _ _ IntsAre.nil)))
  (k_with "k_all" => first | exact all_ltS (by assumption) (by walk_at "c tail") | fail)
  (k_with "k_all" => first | exact List.forall_mem_nil _ | (refine' List.forall_mem_cons.mpr ⟨(by k_ne), (by k_all)⟩))
  (k_with "k_all" => first | (with_reducible assumption) | exact all_lt (by with_reducible assumption) | fail)
  (k_with "c lt" => first | assumption | exact lt_mem (by assumption) (by k_mem) | exact lt_mem2 (by assumption) (by assumption) (by k_mem) | exact Nat.lt_succ_self _ | exact Nat.lt_succ_of_lt (by walk_at "c lt"))
  (k_with "k_ne" => first | exact Apt.ne (by assumption) | exact (Apt.ne (by assumption)).symm | exact NewAt.ne (by assumption) (by k_mem) | exact (NewAt.ne (by assumption) (by k_mem)).symm | exact ne_gt (by assumption) (by k_mem) | exact ne_lt (by assumption) (by k_mem) | exact Nat.ne_of_gt (by walk_at "c lt") | exact Nat.ne_of_lt (by walk_at "c lt") | (refine neN ?_; (try dsimp only); omega))
  (k_with "k_mem" => first | exact lm0 | exact lm1 | exact lm2 | exact lm3 | (refine' lm4 ?_; k_mem))
  (k_with "le" => k_dflt (exact Nat.le_of_ble_eq_true rfl))
  (k_with "lt" => k_dflt (exact Nat.le_of_ble_eq_true rfl))
  (k_with "c size" => first | assumption | exact Nat.le_of_ble_eq_true rfl | exact Nat.lt_of_lt_of_le (by assumption) (by decide) | exact size2 (by assumption) (by assumption) (by decide) | omega | ((simp only [List.length_cons, List.length_append, List.length_nil]); omega))
  (k_with "call builtin:list.append" => (k_here; (with_reducible show wpAny _ _ (call (Value.builtin "list.append") [Value.ref _, _]) _ _ _); k_dflt (refine' my_append (by k_asm) (by k_asm) (by k_upd) (by walk_at "c size") ?_; k_whole); intro _ _ _; (try k_sweep)))
  (k_with "binaryOp Add ref ref" => (k_here; (with_reducible show wpAny _ _ (binaryOp Operator.Add (Value.ref _) (Value.ref _)) _ _ _); k_dflt (refine' my_addL (by k_asm) (by k_asm) (by is_list) (by is_list) (by walk_at "c size") ?_; k_whole); intro _ _ _ _ _; (try k_sweep)))
  (k_with "c tail" => (intro _ zzhp; repeat (first | exact zzhp | refine List.mem_cons_of_mem _ ?_)))
  (k_with "c rest" => (intro _ zzq1 zzq2 zzq3; (repeat (first | refine upd_ne zzq1 ?_ | refine upd_ne (ne_stored zzq3 (by decide +kernel)) ?_ | refine upd_ne (zzq2 (_, _) (by k_mem)) ?_ | exact kst_end zzq3 | refine kst_mid (not_in_cons (ne_stored zzq3 (by decide +kernel)) not_in_nil) ?_ | refine kst_ne (ne_stored zzq3 (by decide +kernel)) ?_ | refine kst_ne (zzq2 (_, _) (by k_mem)) ?_))))
  (k_with "c restW" => (intro _ zzq2 zzq3; (repeat (first | refine upd_ne (ne_stored zzq3 (by decide +kernel)) ?_ | refine upd_ne (zzq2 (_, _) (by k_mem)) ?_ | exact kst_end zzq3 | refine kst_mid (not_in_cons (ne_stored zzq3 (by decide +kernel)) not_in_nil) ?_ | refine kst_ne (ne_stored zzq3 (by decide +kernel)) ?_ | refine kst_ne (zzq2 (_, _) (by k_mem)) ?_))))
  (k_with "c ps" => first | exact List.forall_mem_nil _ | exact List.forall_mem_cons.mpr ⟨rfl, by walk_at "c ps"⟩)
  (k_with "c itemI" => (k_here; (with_reducible show wpAny _ _ (subscriptTail _ _ (Value.ref _) (Value.int _ _)) _ _ _); (with_unfolding_all refine' my_itemI (by is_list) (by with_reducible assumption) (by walk_at "c num") (by walk_at "c num") (by walk_at "c fit") ?_ (by with_unfolding_all rfl); k_whole); intro _))
  (k_with "exec Raise some none" => (k_here; k_dflt (refine' font_raise (by assumption) (by assumption) (by assumption) (by exact rfl) (by walk_at "c room") (by exact rfl) (by exact rfl) (by decide +kernel) ?_; intro _ _ _ _ _ _ _ _; (try k_unfold); (try dsimp only); refine' font_leave (by assumption) (by assumption) (by assumption) (by assumption) (by assumption) ?_ (by exact rfl); intro _ _ _; (try dsimp only))))
  (k_with "call type:bytes cons nil bytes" => (k_here; refine bb_call ?_))
  (k_with "call type:bytes" => (k_here; (with_reducible show wpAny _ _ (call (Value.type "bytes") [Value.bytes _ _]) _ _ _); refine bb_call ?_))
  (k_with "leaving ref" => (k_here; k_dflt (refine' leave_onSX (by assumption) (by assumption) (by assumption) (by assumption) ?_; k_whole); intro _ zzR zzU; (try dsimp only at zzR zzU ⊢)))
  (k_with "storeName" => (dsimp only; walk_at "storeName"))
  (k_with "c via0E" => (k_dflt (refine' via0E (by assumption) (by assumption) (by assumption) (by assumption) (by first | exact rfl | assumption) ?_)))
  (k_with "c via2E" => (k_dflt (refine' via2E (by assumption) (by assumption) (by assumption) (by assumption) (by walk_at "c pick") (by walk_at "c pick") (by k_all) (by k_all) (by first | exact rfl | assumption) ?_)))
  (k_with "c fault" => (intro _ _ _ _ _ _; (try dsimp only)))
  (k_with "call ref" => (k_here; (try dsimp only [List.cons_append, List.nil_append]); (with_reducible show wpAny _ _ (call (Value.ref 150) [Value.ref _]) _ _ _); walk_at "c via2E"; intro cC cO cD cn cF cK; (refine' byte_spec cC cO cD cn (by assumption) (by walk_at "c num") (by walk_at "c num") (by walk_at "c num") (by walk_at "c room") ?_ ?_); (all_goals first | (intro _ _ _ _ _ _ _ _ zzS zzW; (refine And.elim (fun _ zzN => ?_) (cK _ _ zzS zzW)); clear cK cC cO cD cn cF zzS zzW; (try dsimp only [List.cons_append, List.nil_append] at zzN); (try dsimp only); (try k_sweep)) | (clear cC cO cD cn cK; walk_at "c fault"))))
  (k_with "call ref" => (k_here; (try dsimp only [List.cons_append, List.nil_append]); (with_reducible show wpAny _ _ (call (Value.ref 157) [Value.ref _]) _ _ _); walk_at "c via2E"; intro cC cO cD cn cF cK; (refine' oword_spec cC cO cD cn (by assumption) (by walk_at "c num") (by walk_at "c num") (by walk_at "c num") (by walk_at "c room") ?_ ?_); (all_goals first | (intro _ _ _ _ _ _ _ _ zzS zzW; (refine And.elim (fun _ zzN => ?_) (cK _ _ zzS zzW)); clear cK cC cO cD cn cF zzS zzW; (try dsimp only [List.cons_append, List.nil_append] at zzN); (try dsimp only); (try k_sweep)) | (clear cC cO cD cn cK; walk_at "c fault"))))
  (k_with "call ref" => (k_here; (try dsimp only [List.cons_append, List.nil_append]); (with_reducible show wpAny _ _ (call (Value.ref 164) [Value.ref _]) _ _ _); walk_at "c via2E"; intro cC cO cD cn cF cK; (refine' signed_spec cC cO cD cn (by assumption) (by walk_at "c num") (by walk_at "c num") (by walk_at "c num") (by walk_at "c room") ?_ ?_); (all_goals first | (intro _ _ _ _ _ _ _ _ zzS zzW; (refine And.elim (fun _ zzN => ?_) (cK _ _ zzS zzW)); clear cK cC cO cD cn cF zzS zzW; (try dsimp only [List.cons_append, List.nil_append] at zzN); (try dsimp only); (try k_sweep)) | (clear cC cO cD cn cK; walk_at "c fault"))))
  (k_with "call ref" => (k_here; (try dsimp only [List.cons_append, List.nil_append]); (with_reducible show wpAny _ _ (call (Value.ref 171) [Value.ref _, Value.int _ _]) _ _ _); walk_at "c via2E"; intro cC cO cD cn cF cK; (refine' part_spec cC cO cD cn (by assumption) (by walk_at "c num") (by walk_at "c num") (by walk_at "c num") (by walk_at "c num") (by walk_at "c num") (by walk_at "c room") ?_ ?_); (all_goals first | (intro _ _ _ _ _ _ _ zzS zzW; (refine And.elim (fun _ zzN => ?_) (cK _ _ zzS zzW)); clear cK cC cO cD cn cF zzS zzW; (try dsimp only [List.cons_append, List.nil_append] at zzN); (try dsimp only); (try k_sweep)) | (clear cC cO cD cn cK; walk_at "c fault"))))
  trivial
theorem my_lastI {prog : Program} {w : World} {A : Around} {E : Value → Shared → Prop} {s : Shared} {value slice : PySem.Expr} {l : Addr} {vs : List Value} {ns : List Int} {u : Tok} {Q : Value → Shared → Prop}
    (hl : s.heap.IsList l vs.toArray) (hi : IntsAre vs ns) (h1 : 0 < ns.length) (hfit : ns.length < 2 ^ 62) (h : ∀ t, Q (.int (ns.getLastD (-1)) t) s)
    (hs : subscripted slice false (.ref l) (.int (-1) u) = operate [.ref l, .int (-1) u] (getItem (.ref l) (.int (-1) u)) := by with_unfolding_all rfl) :
    wpAny (model prog w) A (subscriptTail value slice (.ref l) (.int (-1) u)) Q E s := by
  have hlt : ns.length - 1 < ns.length := by omega
  obtain ⟨t, hx⟩ := hi.get (ns.length - 1) (ns[ns.length - 1]'hlt) (List.getElem?_eq_getElem hlt)
  have hv := hi.length
  have e : ns.getLastD (-1) = ns[ns.length - 1]'hlt := by
    rw [List.getLastD_eq_getLast?, List.getLast?_eq_getElem?, List.getElem?_eq_getElem hlt]
    rfl
  have h' := h t
  rw [e] at h'
  refine tail_any hl.typeIs slot_list_getitem.lookup (wpAny_getItem_list_neg hl (by decide) ?_ ?_ ?_ h') hs
  · simp only [List.size_toArray]
    omega
  · decide
  · have e2 : ((-1 : Int) + (vs.toArray.size : Int)).toNat = ns.length - 1 := by simp only [List.size_toArray]; omega
    rw [e2]
    simpa using hx
theorem lnXRead5_2 : True := by
  (k_with "compareOp NotEq ref ref" => (k_here; (with_reducible show wpAny _ _ (compareOp CmpOp.NotEq (Value.ref _) (Value.ref _)) _ _ _); (with_unfolding_all refine' ne_intsK (by is_list) (by with_reducible assumption) (by is_list) (by exact IntsAre.nil) (by dsimp only [Around.deeper, Ar]; first | exact room2 (by assumption) (by decide) | exact room1 (by assumption) (by decide) | omega) ?_; k_whole)))
  (k_with "subscriptTail" => (k_here; (with_reducible show wpAny _ _ (subscriptTail _ _ (Value.ref _) (Value.int _ _)) _ _ _); (with_unfolding_all refine' my_lastI (by is_list) (by with_reducible assumption) (by refine List.length_pos_iff.mpr ?_; simp_all only [Bool.not_eq_true', decide_eq_false_iff_not, ne_eq, not_false_eq_true]) (by omega) ?_ (by with_unfolding_all rfl); k_whole); intro _))
  trivial
def EG (O dx fnd : Addr) (q : OK) (b : Array UInt8) (bs : List Int) (N : Nat) (l₀ : List Int) (i : Nat) (c : Int × List Int) (nx : List (Addr × Obj)) : Prop :=
  ∃ (tp : Tok) (vs : List Value) (n : Nat), nx = [(O, instObj 174 dx), (dx, octD q b c.1 tp), (fnd, listOf vs.toArray n)] ∧ 0 ≤ c.1 ∧ c.1 ≤ bs.length ∧ IntsAre vs c.2 ∧ c.2.length = i ∧ (∀ v ∈ c.2, 0 ≤ v ∧ v < 65536) ∧ RE N (-1) l₀ = pre c.2 (RE (N - i) (c.2.getLastD (-1)) (bs.drop c.1.toNat))
theorem EG.elim {O dx fnd : Addr} {q : OK} {b : Array UInt8} {bs : List Int} {N : Nat} {l₀ : List Int} {i : Nat} {c : Int × List Int} {nx : List (Addr × Obj)} {P : Prop} (h : EG O dx fnd q b bs N l₀ i c nx)
    (k : ∀ (tp : Tok) (vs : List Value) (n : Nat) (p : Int) (es : List Int), c = (p, es) → nx = [(O, instObj 174 dx), (dx, octD q b p tp), (fnd, listOf vs.toArray n)] → 0 ≤ p → p ≤ bs.length → IntsAre vs es → es.length = i → (∀ v ∈ es, 0 ≤ v ∧ v < 65536) → RE N (-1) l₀ = pre es (RE (N - i) (es.getLastD (-1)) (bs.drop p.toNat)) → P) : P := by
  obtain ⟨p, es⟩ := c
  obtain ⟨tp, vs, n, e, h0, h1, hV, hel, heb, hinv⟩ := h
  exact k tp vs n p es rfl e h0 h1 hV hel heb hinv
theorem drop_two {bs : List Int} {p : Int} (h0 : 0 ≤ p) (h : p + 2 ≤ bs.length) : bs.drop p.toNat = bs.getD p.toNat 0 :: bs.getD (p + 1).toNat 0 :: bs.drop (p + 2).toNat := by
  rw [drop_at h0 (by omega), drop_at (p := p + 1) (by omega) (by omega)]
  have e : (p + 1 + 1).toNat = (p + 2).toNat := by omega
  rw [e]
theorem drop_short {bs : List Int} {p : Int} (h0 : 0 ≤ p) (h : p + 2 > bs.length) : (bs.drop p.toNat).length < 2 := by
  rw [List.length_drop]
  omega
theorem RE_step {bs : List Int} {N i : Nat} {p z last : Int} (hi : i < N) (h0 : 0 ≤ p) (h1 : p + 2 ≤ bs.length) (hz : z = bs.getD p.toNat 0 * 256 + bs.getD (p + 1).toNat 0) (hn : ¬z ≤ last) :
    RE (N - i) last (bs.drop p.toNat) = pre [z] (RE (N - (i + 1)) z (bs.drop (p + 2).toNat)) := by
  have e : N - i = (N - (i + 1)) + 1 := by omega
  rw [e, drop_two h0 h1, RE, ← hz, if_neg hn]
theorem RE_fail1 {bs : List Int} {N i : Nat} {p last : Int} (hi : i < N) (h0 : 0 ≤ p) (h1 : p + 2 > bs.length) : RE (N - i) last (bs.drop p.toNat) = none := by
  have e : N - i = (N - (i + 1)) + 1 := by omega
  have hs := drop_short h0 h1
  rw [e]
  generalize bs.drop p.toNat = l at hs ⊢
  match l, hs with
  | [], _ => rfl
  | [x], _ => rfl
  | x :: y :: r, hs => exact absurd hs (by simp only [List.length_cons]; omega)
theorem RE_fail2 {bs : List Int} {N i : Nat} {p z last : Int} (hi : i < N) (h0 : 0 ≤ p) (h1 : p + 2 ≤ bs.length) (hz : z = bs.getD p.toNat 0 * 256 + bs.getD (p + 1).toNat 0) (hn : z ≤ last) : RE (N - i) last (bs.drop p.toNat) = none := by
  have e : N - i = (N - (i + 1)) + 1 := by omega
  rw [e, drop_two h0 h1, RE, ← hz, if_pos hn]
theorem ends_end {h₀ h' : Heap} {L O dx fnd I : Addr} {oI : Obj} {q : OK} {b : Array UInt8} {bs l₀ es : List Int} {N i : Nat} {p' z : Int} {tp t : Tok} {vs : List Value} {n tk : Nat} {m m₀ : Str → Option Value} {stored : List Str} {big : List (Addr × Obj)} {s₁ : Shared}
    (F : Fr h₀ L h' m) (N' : News h₀ L h' big) (m1 : (O, instObj 174 dx) ∈ big) (m2 : (dx, octD q b (p' + 2) tp) ∈ big) (m3 : (fnd, listOf (vs ++ [Value.int z t]).toArray n) ∈ big) (mI : (I, oI) ∈ big)
    (hr : ∀ z, z ≠ Str.ofString "number" → (∀ p ∈ ([] : List (Str × Value)), z ≠ p.1) → stored.contains z = false → m z = m₀ z) (h0 : 0 ≤ p') (h1 : p' + 2 ≤ bs.length) (hV : IntsAre vs es) (hel : es.length = i) (heb : ∀ v ∈ es, 0 ≤ v ∧ v < 65536) (hb : 0 ≤ z ∧ z < 65536)
    (hinv : RE N (-1) l₀ = pre es (RE (N - i) (es.getLastD (-1)) (bs.drop p'.toNat))) (hi : i < N) (hz : z = bs.getD p'.toNat 0 * 256 + bs.getD (p' + 1).toNat 0) (hn : ¬z ≤ es.getLastD (-1)) (fI : O ≠ I ∧ dx ≠ I ∧ fnd ≠ I) :
    SEnd (σ := Int × List Int) (fun c => []) stored m₀ (Str.ofString "number") (EG O dx fnd q b bs N l₀ (i + 1)) h₀ L I oI s₁ { s₁ with heap := h', toks := tk } := by
  refine SEnd.intro (p' + 2, es ++ [z]) [(O, instObj 174 dx), (dx, octD q b (p' + 2) tp), (fnd, listOf (vs ++ [Value.int z t]).toArray n)] F N' ?_ ?_ (fun _ hp => nomatch hp) hr ⟨tp, _, n, rfl, ?_, h1, hV.append (.cons _ _ .nil), by simp [hel], ?_, ?_⟩
  · simp only [List.forall_mem_cons]
    exact ⟨mI, m1, m2, m3, List.forall_mem_nil _⟩
  · simp only [List.forall_mem_cons]
    exact ⟨fI.1, fI.2.1, fI.2.2, List.forall_mem_nil _⟩
  · show 0 ≤ p' + 2
    omega
  · intro v hv
    rcases List.mem_append.mp hv with hv | hv
    · exact heb v hv
    · rw [List.mem_singleton.mp hv]; exact hb
  · rw [hinv, RE_step hi h0 h1 hz hn, pre_pre]
    simp
set_option maxHeartbeats 8000000 in
theorem ends_spec {w : World} {dp un : Nat} {gd : Option (List Code)} {base : Heap} {envs : List Env} {s : Shared} {Q E : Value → Shared → Prop} {b : Array UInt8} {bs : List Int} {O dx : Addr} {q : OK} {p : Int} {tp : Tok} {N : Nat} {many : Int} {tN : Tok}
  (C : Cx w (Ar dp un gd envs) base envs [O, dx] s.heap) (hO : s.heap.get? O = some (instObj 174 dx)) (hd : s.heap.get? dx = some (octD q b p tp)) (hne : O ≠ dx) (hb : KBw.bInts b = bs) (hlen : bs.length < 2 ^ 20) (hp : 0 ≤ p) (hp1 : p ≤ bs.length) (hN : many = (N : Int)) (hN1 : N < 1000) (hroom : dp + 15 < recursionLimit) (hun : un + 200 < cLine)
  (k : ∀ f vs es (p' : Int) tp' n' h' tk', RE N (-1) (bs.drop p.toNat) = some (es, bs.drop p'.toNat) → 0 ≤ p' → p' ≤ bs.length → IntsAre vs es → es.length = N → (∀ v ∈ es, 0 ≤ v ∧ v < 65536) → Same [O, dx] s.heap h' → Now [O, dx] s.heap h' [(O, instObj 174 dx), (dx, octD q b p' tp'), (f, listOf vs.toArray n')] → f ≠ O → f ≠ dx → Q (.ref f) { s with heap := h', toks := tk' })
  (kE : RE N (-1) (bs.drop p.toNat) = none → Fault base envs [O, dx] s E) :
  wpAny (model PySem.Challenge.rw_xm0719_01.row.prog w) (Ar dp un gd envs) (call (.ref 199) [.ref O, .int many tN]) Q E s := by
  have hu := use_two hO hd
  have hA : Apt O dx := ⟨hne⟩
  walk_at "c enter"
  walk_at "c go"
  rename_i fnd h1 ll h2 F1 N1 h3 tk1 t1 u1 v1 hr F2 N2 K2
  have N3 := news_sub (led := [(O, instObj 174 dx), (dx, octD q b p tp), (fnd, listOf [].toArray 0)]) N2 (by walk_at "c sub")
  refine my_rangeS (n := N) (σ := Int × List Int) (fun c => []) [Str.ofString "end"] (EG O dx fnd q b bs N (bs.drop p.toNat)) (p, []) rfl hr (by omega) hN F2 N3 ?hk ?hG ?turn ?done
  case hk => walk_at "c ps"
  case hG => exact ⟨tp, [], 0, rfl, hp, hp1, .nil, rfl, (fun v hv => nomatch hv), by simp [pre_nil]⟩
  case turn =>
    intro i t c u nx h tk' I oI hi hI hG F9 N9
    refine EG.elim hG fun tp' vs n p' es ec en h0 h1 hV hel heb hinv => ?_
    clear hG
    subst ec en
    clear N1 N2 N3 F1 F2 K2 hr hu
    replace hI := NewAt.mk hI
    have hvl := hV.length
    dsimp only at F9 h0 h1 hV N9 hvl hel hinv heb
    walk_at "c go"
    all_goals first
      | (refine kE ?_ _ _ _ (by rename _ = hideAll _ _ => eg; rw [← eg]; assumption) (by rename _ = hideAll _ _ => eg; rw [← eg]; assumption)
         rw [hinv]
         first
           | rw [RE_fail1 hi h0 (by assumption), pre_none]
           | rw [RE_fail2 hi h0 (by assumption) (by assumption) (by assumption), pre_none])
      | (dsimp only [SPost]
         refine ends_end (by assumption) (by assumption) (by k_mem) (by k_mem) (by k_mem) (by k_mem) (by walk_at "c rest") h0 (by assumption) hV hel heb (by assumption) hinv hi (by assumption) ?_ ⟨by k_ne, by k_ne, by k_ne⟩
         first
           | assumption
           | (rename decide (es = []) = true => he
              rw [of_decide_eq_true he]
              show ¬_ ≤ (-1 : Int)
              omega))
  case done =>
    intro c u nx h tk' hG F9 N9
    refine EG.elim hG fun tp' vs n p' es ec en h0 h1 hV hel heb hinv => ?_
    clear hG
    subst ec en
    clear N1 N2 N3 F1 F2 K2 hr hu
    dsimp only
    walk_at "c go"
    walk_at "c end"
    (try dsimp only at h0 h1 hV hel hinv heb)
    rw [Nat.sub_self, RE, pre_some, List.append_nil] at hinv
    exact k _ _ _ _ _ _ _ _ hinv h0 h1 hV hel heb (by walk_at "c same") (by walk_at "c now") (by k_ne) (by k_ne)
end
section
open PySem PySem.W PySem.Calls PyProof.Rows
-- XRead6
set_option maxRecDepth 100000
theorem lnXRead6_1 : True := by
  w_top off
  k_with_none
  (k_with "c enter" => (refine wpAny_call ?_; k_dflt (refine' enter (by assumption) (by first | assumption | exact use_nil) (by k_is) (by k_is) (by walk_at "c room") (by exact BindsTo.of_eq rfl) (by exact locs rfl) ?_ (by exact rfl) (by exact rfl) (by exact rfl) (by decide); k_whole; intro _ _ _ _ _ _ _ _ _ _ _ _ _ _; (try dsimp only); (try k_fold))))
  (k_with "c room" => first | assumption | decide | ((try simp only [depth_under_make, depth_under_kw, depth_in1, depth_deeper, depth_caller]); (try dsimp only [Ar]); first | exact room2 (by assumption) (by decide) | exact room1 (by assumption) (by decide) | exact room0 (by assumption) | omega))
  (k_with "c pick" => first | exact Pick.head | exact Pick.tail (by walk_at "c pick"))
  (k_with "c go" => repeat' (first | ((fail_if_success (with_reducible show wpAny _ _ (pyIter (Value.ref _)) _ _ _)); (fail_if_success (with_reducible show wpAny _ _ (exec (Stmt.While _ _ _ _) _) _ _ _)); first | (k_unfold; (try dsimp only)) | walk1 | (dsimp only; walk1))))
  (k_with "subscriptTail Name Constant ref int" => (k_here; (with_reducible show wpAny _ _ (subscriptTail _ _ (Value.ref _) (Value.int _ _)) _ _ _); (with_unfolding_all refine' my_item (by is_list) (by decide) (by decide) (by rfl) ?_ (by with_unfolding_all rfl); k_whole)))
  (k_with "call builtin:len" => (k_here; (with_reducible show wpAny _ _ (call (Value.builtin "len") [Value.ref _]) _ _ _); k_dflt (refine' my_len (by is_list) (by walk_at "c fit") ?_; k_whole)))
  (k_with "c via1" => (k_dflt (refine' via1 (by assumption) (by assumption) (by assumption) (by assumption) (by walk_at "c pick") (by k_all) (by first | exact rfl | assumption) ?_)))
  (k_with "c via0" => (k_dflt (refine' via0 (by assumption) (by assumption) (by assumption) (by assumption) (by first | exact rfl | assumption) ?_)))
  (k_with "c num" => first | assumption | decide | exact Int.natCast_nonneg _ | exact Nat.lt_of_lt_of_le (by assumption) (by decide) | exact size2 (by assumption) (by assumption) (by decide) | omega)
  (k_with "call ref" => (k_here; (with_reducible show wpAny _ _ (call (Value.ref 218) [Value.ref _, Value.int _ _]) _ _ _); walk_at "c via1"; intro cC cS cK; k_dflt (refine' take_spec cC cS (by walk_at "c num") (by walk_at "c num") (by walk_at "c num") (by walk_at "c num") (by walk_at "c room") ?_); clear cC cS; intro _ _ _ _ _ _ _ _ _ _ _ _ zzS zzW; (refine And.elim (fun _ zzN => ?_) (cK _ _ zzS zzW)); clear cK zzS zzW; (try dsimp only [List.cons_append, List.nil_append] at zzN); (try dsimp only); (try k_sweep)))
  (k_with "c fit" => first | assumption | exact Nat.le_of_ble_eq_true rfl | exact Nat.lt_of_lt_of_le (by assumption) (by decide) | exact size2 (by assumption) (by assumption) (by decide) | omega | ((simp only [List.length_cons, List.length_append, List.length_nil]); omega))
  (k_with "c itemN" => (k_here; (with_reducible show wpAny _ _ (subscriptTail _ _ (Value.ref _) (Value.int _ _)) _ _ _); (with_unfolding_all refine' my_itemN (by is_list) (by walk_at "c num") (by walk_at "c num") (by walk_at "c fit") ?_ (by with_unfolding_all rfl); k_whole)))
  (k_with "c end" => ((try k_unfold); (try dsimp only)))
  (k_with "c same" => exact same_of (by assumption) (by assumption))
  (k_with "c sub" => first | exact List.forall_mem_nil _ | exact fun _ h => h | exact List.forall_mem_cons.mpr ⟨by k_mem, by walk_at "c sub"⟩)
  (k_with "c now" => first | exact now_of (by assumption) (by assumption) | exact now_sub (by assumption) (by assumption) (by walk_at "c sub"))
  (k_with "c ints" => first | assumption | exact IntsAre.nil | exact IntsAre.cons _ _ IntsAre.nil | exact IntsAre.cons _ _ (IntsAre.cons _ _ IntsAre.nil) | exact IntsAre.cons _ _ (IntsAre.cons _ _ (IntsAre.cons _ _ IntsAre.nil)))
  (k_with "k_all" => first | exact all_ltS (by assumption) (by walk_at "c tail") | fail)
  (k_with "k_all" => first | exact List.forall_mem_nil _ | (refine' List.forall_mem_cons.mpr ⟨(by k_ne), (by k_all)⟩))
  (k_with "k_all" => first | (with_reducible assumption) | exact all_lt (by with_reducible assumption) | fail)
  (k_with "c lt" => first | assumption | exact lt_mem (by assumption) (by k_mem) | exact lt_mem2 (by assumption) (by assumption) (by k_mem) | exact Nat.lt_succ_self _ | exact Nat.lt_succ_of_lt (by walk_at "c lt"))
  (k_with "k_ne" => first | exact Apt.ne (by assumption) | exact (Apt.ne (by assumption)).symm | exact NewAt.ne (by assumption) (by k_mem) | exact (NewAt.ne (by assumption) (by k_mem)).symm | exact ne_gt (by assumption) (by k_mem) | exact ne_lt (by assumption) (by k_mem) | exact Nat.ne_of_gt (by walk_at "c lt") | exact Nat.ne_of_lt (by walk_at "c lt") | (refine neN ?_; (try dsimp only); omega))
  (k_with "k_mem" => first | exact lm0 | exact lm1 | exact lm2 | exact lm3 | (refine' lm4 ?_; k_mem))
  (k_with "le" => k_dflt (exact Nat.le_of_ble_eq_true rfl))
  (k_with "lt" => k_dflt (exact Nat.le_of_ble_eq_true rfl))
  (k_with "c size" => first | assumption | exact Nat.le_of_ble_eq_true rfl | exact Nat.lt_of_lt_of_le (by assumption) (by decide) | exact size2 (by assumption) (by assumption) (by decide) | omega | ((simp only [List.length_cons, List.length_append, List.length_nil]); omega))
  (k_with "call builtin:list.append" => (k_here; (with_reducible show wpAny _ _ (call (Value.builtin "list.append") [Value.ref _, _]) _ _ _); k_dflt (refine' my_append (by k_asm) (by k_asm) (by k_upd) (by walk_at "c size") ?_; k_whole); intro _ _ _; (try k_sweep)))
  (k_with "binaryOp Add ref ref" => (k_here; (with_reducible show wpAny _ _ (binaryOp Operator.Add (Value.ref _) (Value.ref _)) _ _ _); k_dflt (refine' my_addL (by k_asm) (by k_asm) (by is_list) (by is_list) (by walk_at "c size") ?_; k_whole); intro _ _ _ _ _; (try k_sweep)))
  (k_with "c tail" => (intro _ zzhp; repeat (first | exact zzhp | refine List.mem_cons_of_mem _ ?_)))
  (k_with "c rest" => (intro _ zzq1 zzq2 zzq3; (repeat (first | refine upd_ne zzq1 ?_ | refine upd_ne (ne_stored zzq3 (by decide +kernel)) ?_ | refine upd_ne (zzq2 (_, _) (by k_mem)) ?_ | exact kst_end zzq3 | refine kst_mid (not_in_cons (ne_stored zzq3 (by decide +kernel)) not_in_nil) ?_ | refine kst_ne (ne_stored zzq3 (by decide +kernel)) ?_ | refine kst_ne (zzq2 (_, _) (by k_mem)) ?_))))
  (k_with "c restW" => (intro _ zzq2 zzq3; (repeat (first | refine upd_ne (ne_stored zzq3 (by decide +kernel)) ?_ | refine upd_ne (zzq2 (_, _) (by k_mem)) ?_ | exact kst_end zzq3 | refine kst_mid (not_in_cons (ne_stored zzq3 (by decide +kernel)) not_in_nil) ?_ | refine kst_ne (ne_stored zzq3 (by decide +kernel)) ?_ | refine kst_ne (zzq2 (_, _) (by k_mem)) ?_))))
  (k_with "c ps" => first | exact List.forall_mem_nil _ | exact List.forall_mem_cons.mpr ⟨rfl, by walk_at "c ps"⟩)
  (k_with "c itemI" => (k_here; (with_reducible show wpAny _ _ (subscriptTail _ _ (Value.ref _) (Value.int _ _)) _ _ _); (with_unfolding_all refine' my_itemI (by is_list) (by with_reducible assumption) (by walk_at "c num") (by walk_at "c num") (by walk_at "c fit") ?_ (by with_unfolding_all rfl); k_whole); intro _))
  (k_with "exec Raise some none" => (k_here; k_dflt (refine' font_raise (by assumption) (by assumption) (by assumption) (by exact rfl) (by walk_at "c room") (by exact rfl) (by exact rfl) (by decide +kernel) ?_; intro _ _ _ _ _ _ _ _; (try k_unfold); (try dsimp only); refine' font_leave (by assumption) (by assumption) (by assumption) (by assumption) (by assumption) ?_ (by exact rfl); intro _ _ _; (try dsimp only))))
  (k_with "call type:bytes cons nil bytes" => (k_here; refine bb_call ?_))
  (k_with "call type:bytes" => (k_here; (with_reducible show wpAny _ _ (call (Value.type "bytes") [Value.bytes _ _]) _ _ _); refine bb_call ?_))
  (k_with "leaving ref" => (k_here; k_dflt (refine' leave_onSX (by assumption) (by assumption) (by assumption) (by assumption) ?_; k_whole); intro _ zzR zzU; (try dsimp only at zzR zzU ⊢)))
  (k_with "storeName" => (dsimp only; walk_at "storeName"))
  (k_with "c via0E" => (k_dflt (refine' via0E (by assumption) (by assumption) (by assumption) (by assumption) (by first | exact rfl | assumption) ?_)))
  (k_with "c via2E" => (k_dflt (refine' via2E (by assumption) (by assumption) (by assumption) (by assumption) (by walk_at "c pick") (by walk_at "c pick") (by k_all) (by k_all) (by first | exact rfl | assumption) ?_)))
  (k_with "c fault" => (intro _ _ _ _ _ _; (try dsimp only)))
  (k_with "call ref" => (k_here; (try dsimp only [List.cons_append, List.nil_append]); (with_reducible show wpAny _ _ (call (Value.ref 150) [Value.ref _]) _ _ _); walk_at "c via2E"; intro cC cO cD cn cF cK; (refine' byte_spec cC cO cD cn (by assumption) (by walk_at "c num") (by walk_at "c num") (by walk_at "c num") (by walk_at "c room") ?_ ?_); (all_goals first | (intro _ _ _ _ _ _ _ _ zzS zzW; (refine And.elim (fun _ zzN => ?_) (cK _ _ zzS zzW)); clear cK cC cO cD cn cF zzS zzW; (try dsimp only [List.cons_append, List.nil_append] at zzN); (try dsimp only); (try k_sweep)) | (clear cC cO cD cn cK; walk_at "c fault"))))
  (k_with "call ref" => (k_here; (try dsimp only [List.cons_append, List.nil_append]); (with_reducible show wpAny _ _ (call (Value.ref 157) [Value.ref _]) _ _ _); walk_at "c via2E"; intro cC cO cD cn cF cK; (refine' oword_spec cC cO cD cn (by assumption) (by walk_at "c num") (by walk_at "c num") (by walk_at "c num") (by walk_at "c room") ?_ ?_); (all_goals first | (intro _ _ _ _ _ _ _ _ zzS zzW; (refine And.elim (fun _ zzN => ?_) (cK _ _ zzS zzW)); clear cK cC cO cD cn cF zzS zzW; (try dsimp only [List.cons_append, List.nil_append] at zzN); (try dsimp only); (try k_sweep)) | (clear cC cO cD cn cK; walk_at "c fault"))))
  (k_with "call ref" => (k_here; (try dsimp only [List.cons_append, List.nil_append]); (with_reducible show wpAny _ _ (call (Value.ref 164) [Value.ref _]) _ _ _); walk_at "c via2E"; intro cC cO cD cn cF cK; (refine' signed_spec cC cO cD cn (by assumption) (by walk_at "c num") (by walk_at "c num") (by walk_at "c num") (by walk_at "c room") ?_ ?_); (all_goals first | (intro _ _ _ _ _ _ _ _ zzS zzW; (refine And.elim (fun _ zzN => ?_) (cK _ _ zzS zzW)); clear cK cC cO cD cn cF zzS zzW; (try dsimp only [List.cons_append, List.nil_append] at zzN); (try dsimp only); (try k_sweep)) | (clear cC cO cD cn cK; walk_at "c fault"))))
  (k_with "call ref" => (k_here; (try dsimp only [List.cons_append, List.nil_append]); (with_reducible show wpAny _ _ (call (Value.ref 171) [Value.ref _, Value.int _ _]) _ _ _); walk_at "c via2E"; intro cC cO cD cn cF cK; (refine' part_spec cC cO cD cn (by assumption) (by walk_at "c num") (by walk_at "c num") (by walk_at "c num") (by walk_at "c num") (by walk_at "c num") (by walk_at "c room") ?_ ?_); (all_goals first | (intro _ _ _ _ _ _ _ zzS zzW; (refine And.elim (fun _ zzN => ?_) (cK _ _ zzS zzW)); clear cK cC cO cD cn cF zzS zzW; (try dsimp only [List.cons_append, List.nil_append] at zzN); (try dsimp only); (try k_sweep)) | (clear cC cO cD cn cK; walk_at "c fault"))))
  trivial
section
variable {bs fs gs : List Int} {sh sa f p at' z : Int} {l₀ : List Int}
theorem RD_same (hf : Builtin.bitAnd f sh = 0) (hg : Builtin.bitAnd f sa ≠ 0) : RD sh sa (f :: gs) at' (bs.drop p.toNat) = pre [at'] (RD sh sa gs at' (bs.drop p.toNat)) := by
  rw [RD.eq_def]
  dsimp only
  rw [if_neg (fun q => q hf), if_neg hg]
theorem RD_up (h0 : 0 ≤ p) (h1 : p + 1 ≤ bs.length) (hz : z = bs.getD p.toNat 0) (hf : Builtin.bitAnd f sh ≠ 0) (hg : Builtin.bitAnd f sa ≠ 0) : RD sh sa (f :: gs) at' (bs.drop p.toNat) = pre [at' + z] (RD sh sa gs (at' + z) (bs.drop (p + 1).toNat)) := by
  rw [drop_at h0 h1, ← hz, RD.eq_def]
  dsimp only
  rw [if_pos hf, if_pos hg]
theorem RD_down (h0 : 0 ≤ p) (h1 : p + 1 ≤ bs.length) (hz : z = bs.getD p.toNat 0) (hf : Builtin.bitAnd f sh ≠ 0) (hg : Builtin.bitAnd f sa = 0) : RD sh sa (f :: gs) at' (bs.drop p.toNat) = pre [at' - z] (RD sh sa gs (at' - z) (bs.drop (p + 1).toNat)) := by
  rw [drop_at h0 h1, ← hz, RD.eq_def]
  dsimp only
  rw [if_pos hf, if_neg (fun q => q hg)]
theorem RD_two (h0 : 0 ≤ p) (h1 : p + 2 ≤ bs.length) (hz : z = (if bs.getD p.toNat 0 * 256 + bs.getD (p + 1).toNat 0 ≥ 32768 then bs.getD p.toNat 0 * 256 + bs.getD (p + 1).toNat 0 - 65536 else bs.getD p.toNat 0 * 256 + bs.getD (p + 1).toNat 0)) (hf : Builtin.bitAnd f sh = 0) (hg : Builtin.bitAnd f sa = 0) :
    RD sh sa (f :: gs) at' (bs.drop p.toNat) = pre [at' + z] (RD sh sa gs (at' + z) (bs.drop (p + 2).toNat)) := by
  have e : z = S16 (bs.getD p.toNat 0) (bs.getD (p + 1).toNat 0) := hz
  rw [drop_two h0 h1, RD.eq_def]
  dsimp only
  rw [if_neg (fun q => q hf), if_pos hg, ← e]
theorem RD_fail1 (h1 : p + 1 > bs.length) (hf : Builtin.bitAnd f sh ≠ 0) : RD sh sa (f :: gs) at' (bs.drop p.toNat) = none := by
  rw [drop_end (by omega), RD.eq_def]
  dsimp only
  rw [if_pos hf]
theorem RD_fail2 (h0 : 0 ≤ p) (h1 : p + 2 > bs.length) (hf : Builtin.bitAnd f sh = 0) (hg : Builtin.bitAnd f sa = 0) : RD sh sa (f :: gs) at' (bs.drop p.toNat) = none := by
  have hs := drop_short h0 h1
  generalize bs.drop p.toNat = l at hs ⊢
  rw [RD.eq_def]
  dsimp only
  rw [if_neg (fun q => q hf), if_pos hg]
  match l, hs with
  | [], _ => rfl
  | [x], _ => rfl
  | x :: y :: r, hs => exact absurd hs (by simp only [List.length_cons]; omega)
end
def DG (O dx fnd : Addr) (q : OK) (b : Array UInt8) (bs : List Int) (sh sa : Int) (fs l₀ : List Int) (i : Nat) (c : Int × Int × Tok × List Int) (nx : List (Addr × Obj)) : Prop :=
  ∃ (tp : Tok) (vs : List Value) (n : Nat), nx = [(O, instObj 174 dx), (dx, octD q b c.1 tp), (fnd, listOf vs.toArray n)] ∧ 0 ≤ c.1 ∧ c.1 ≤ bs.length ∧ IntsAre vs c.2.2.2 ∧ c.2.2.2.length = i ∧ RD sh sa fs 0 l₀ = pre c.2.2.2 (RD sh sa (fs.drop i) c.2.1 (bs.drop c.1.toNat))
theorem DG.elim {O dx fnd : Addr} {q : OK} {b : Array UInt8} {bs : List Int} {sh sa : Int} {fs l₀ : List Int} {i : Nat} {c : Int × Int × Tok × List Int} {nx : List (Addr × Obj)} {P : Prop} (h : DG O dx fnd q b bs sh sa fs l₀ i c nx)
    (k : ∀ (tp : Tok) (vs : List Value) (n : Nat) (p X : Int) (tX : Tok) (ds : List Int), c = (p, X, tX, ds) → nx = [(O, instObj 174 dx), (dx, octD q b p tp), (fnd, listOf vs.toArray n)] → 0 ≤ p → p ≤ bs.length → IntsAre vs ds → ds.length = i → RD sh sa fs 0 l₀ = pre ds (RD sh sa (fs.drop i) X (bs.drop p.toNat)) → P) : P := by
  obtain ⟨p, X, tX, ds⟩ := c
  obtain ⟨tp, vs, n, e, h0, h1, hV, hel, hinv⟩ := h
  exact k tp vs n p X tX ds rfl e h0 h1 hV hel hinv
theorem deltas_end {h₀ h' : Heap} {L O dx fnd I : Addr} {oI : Obj} {q : OK} {b : Array UInt8} {bs l₀ ds fs : List Int} {sh sa P X z at' : Int} {p' : Int} {i : Nat} {tp t tX : Tok} {vs : List Value} {n tk : Nat} {m m₀ : Str → Option Value} {stored : List Str} {big : List (Addr × Obj)} {s₁ : Shared}
    (F : Fr h₀ L h' m) (N' : News h₀ L h' big) (m1 : (O, instObj 174 dx) ∈ big) (m2 : (dx, octD q b P tp) ∈ big) (m3 : (fnd, listOf (vs ++ [Value.int X t]).toArray n) ∈ big) (mI : (I, oI) ∈ big)
    (hx : m (Str.ofString "at") = some (.int X tX))
    (hr : ∀ z, z ≠ Str.ofString "flag" → (∀ p ∈ ([(Str.ofString "at", .int X tX)] : List (Str × Value)), z ≠ p.1) → stored.contains z = false → m z = m₀ z) (h0 : 0 ≤ P) (h1 : P ≤ bs.length) (hV : IntsAre vs ds) (hel : ds.length = i)
    (hinv : RD sh sa fs 0 l₀ = pre ds (RD sh sa (fs.drop i) at' (bs.drop p'.toNat))) (hf : fs[i]? = some z) (hstep : RD sh sa (z :: fs.drop (i + 1)) at' (bs.drop p'.toNat) = pre [X] (RD sh sa (fs.drop (i + 1)) X (bs.drop P.toNat))) (fI : O ≠ I ∧ dx ≠ I ∧ fnd ≠ I) :
    SEnd (σ := Int × Int × Tok × List Int) (fun c => [(Str.ofString "at", .int c.2.1 c.2.2.1)]) stored m₀ (Str.ofString "flag") (DG O dx fnd q b bs sh sa fs l₀ (i + 1)) h₀ L I oI s₁ { s₁ with heap := h', toks := tk } := by
  refine SEnd.intro (P, X, tX, ds ++ [X]) [(O, instObj 174 dx), (dx, octD q b P tp), (fnd, listOf (vs ++ [Value.int X t]).toArray n)] F N' ?_ ?_ ?_ hr ⟨tp, _, n, rfl, h0, h1, hV.append (.cons _ _ .nil), by simp [hel], ?_⟩
  · simp only [List.forall_mem_cons]
    exact ⟨mI, m1, m2, m3, List.forall_mem_nil _⟩
  · simp only [List.forall_mem_cons]
    exact ⟨fI.1, fI.2.1, fI.2.2, List.forall_mem_nil _⟩
  · simp only [List.forall_mem_cons]
    exact ⟨hx, List.forall_mem_nil _⟩
  · have hlt : i < fs.length := by
      rcases Nat.lt_or_ge i fs.length with h | h
      · exact h
      · rw [List.getElem?_eq_none h] at hf; cases hf
    have e : fs.drop i = z :: fs.drop (i + 1) := by
      rw [List.drop_eq_getElem_cons hlt]
      rw [List.getElem?_eq_getElem hlt] at hf
      rw [Option.some.inj hf]
    rw [hinv, e, hstep, pre_pre]
set_option maxHeartbeats 8000000 in
theorem deltas_spec {w : World} {dp un : Nat} {gd : Option (List Code)} {base : Heap} {envs : List Env} {s : Shared} {Q E : Value → Shared → Prop} {b : Array UInt8} {bs : List Int} {O dx Fl : Addr} {q : OK} {p : Int} {tp : Tok} {fv : List Value} {fs : List Int} {sh sa : Int} {th ta : Tok}
  (C : Cx w (Ar dp un gd envs) base envs [O, dx] s.heap) (hO : s.heap.get? O = some (instObj 174 dx)) (hd : s.heap.get? dx = some (octD q b p tp)) (hne : O ≠ dx) (hb : KBw.bInts b = bs) (hlen : bs.length < 2 ^ 20) (hp : 0 ≤ p) (hp1 : p ≤ bs.length)
  (hF : s.heap.IsList Fl fv.toArray) (hFO : Fl ≠ O ∧ Fl ≠ dx) (hI : IntsAre fv fs) (hfl : fs.length < 70000) (hroom : dp + 15 < recursionLimit)
  (k : ∀ f vs ds (p' : Int) tp' n' h' tk', RD sh sa fs 0 (bs.drop p.toNat) = some (ds, bs.drop p'.toNat) → 0 ≤ p' → p' ≤ bs.length → IntsAre vs ds → ds.length = fs.length → Same [O, dx] s.heap h' → Now [O, dx] s.heap h' [(O, instObj 174 dx), (dx, octD q b p' tp'), (f, listOf vs.toArray n')] → f ≠ O → f ≠ dx → Q (.ref f) { s with heap := h', toks := tk' })
  (kE : RD sh sa fs 0 (bs.drop p.toNat) = none → Fault base envs [O, dx] s E) :
  wpAny (model PySem.Challenge.rw_xm0719_01.row.prog w) (Ar dp un gd envs) (call (.ref 192) [.ref O, .ref Fl, .int sh th, .int sa ta]) Q E s := by
  have hu := use_two hO hd
  have hA : Apt O dx := ⟨hne⟩
  have hF' := list_hide hF (U := [O, dx]) (fun h => by
    rcases List.mem_cons.mp h with q | h
    · exact hFO.1 q
    · exact hFO.2 (List.mem_singleton.mp h))
  have hvl' : fv.length = fs.length := hI.length
  walk_at "c enter"
  rename _ = hideAll _ _ => eg
  rw [← eg] at hF'
  walk_at "c go"
  rename_i fnd h1 ll h2 tkA h3 F1 N1
  rename IntsAre fv fs => hI
  have N3 := news_sub (led := [(O, instObj 174 dx), (dx, octD q b p tp), (fnd, listOf [].toArray 0)]) N1 (by walk_at "c sub")
  refine my_listS (σ := Int × Int × Tok × List Int) (fun c => [(Str.ofString "at", .int c.2.1 c.2.2.1)]) [Str.ofString "at", Str.ofString "step"] (DG O dx fnd q b bs sh sa fs (bs.drop p.toNat)) (p, 0, tkA, []) rfl hF' F1 N3 ?hk ?hG ?turn ?done
  case hk => walk_at "c ps"
  case hG => exact ⟨tp, [], 0, rfl, hp, hp1, .nil, rfl, by simp [pre_nil]⟩
  case turn =>
    intro i v c u nx h tk' I oI hi hI' hG F9 N9
    refine DG.elim hG fun tp' vs n p' X tX ds ec en h0 h1 hV hel hinv => ?_
    clear hG
    subst ec en
    clear N1 N3 F1 hu
    replace hI' := NewAt.mk hI'
    have hvl := hV.length
    have hlt : i < fs.length := by
      rw [← hvl']
      rcases Nat.lt_or_ge i fv.length with h | h
      · exact h
      · rw [List.getElem?_eq_none h] at hi; cases hi
    obtain ⟨tf, hx⟩ := hI.get i (fs[i]'hlt) (List.getElem?_eq_getElem hlt)
    have hff : fs[i]? = some (fs[i]'hlt) := List.getElem?_eq_getElem hlt
    rw [hi] at hx
    obtain rfl := Option.some.inj hx
    generalize fs[i]'hlt = ff at hff F9
    dsimp only at F9 h0 h1 hV N9 hvl hel hinv
    walk_at "c go"
    all_goals have hcons : fs.drop i = ff :: fs.drop (i + 1) := (by
      rw [List.drop_eq_getElem_cons hlt]
      rw [List.getElem?_eq_getElem hlt] at hff
      rw [Option.some.inj hff])
    all_goals first
      | (refine kE ?_ _ _ _ (by rename _ = hideAll _ _ => eg; rw [← eg]; assumption) (by rename _ = hideAll _ _ => eg; rw [← eg]; assumption)
         rw [hinv, hcons]
         first
           | rw [RD_fail1 (by assumption) (by assumption), pre_none]
           | rw [RD_fail2 h0 (by assumption) (by assumption) (by assumption), pre_none])
      | (dsimp only [SPost]
         first
           | exact deltas_end (by assumption) (by assumption) (by k_mem) (by k_mem) (by k_mem) (by k_mem) (by exact rfl) (by walk_at "c rest") (by omega) (by omega) hV hel hinv hff (RD_same (by assumption) (by assumption)) ⟨by k_ne, by k_ne, by k_ne⟩
           | exact deltas_end (by assumption) (by assumption) (by k_mem) (by k_mem) (by k_mem) (by k_mem) (by exact rfl) (by walk_at "c rest") (by omega) (by omega) hV hel hinv hff (RD_up h0 (by assumption) (by assumption) (by assumption) (by assumption)) ⟨by k_ne, by k_ne, by k_ne⟩
           | exact deltas_end (by assumption) (by assumption) (by k_mem) (by k_mem) (by k_mem) (by k_mem) (by exact rfl) (by walk_at "c rest") (by omega) (by omega) hV hel hinv hff (RD_down h0 (by assumption) (by assumption) (by assumption) (by assumption)) ⟨by k_ne, by k_ne, by k_ne⟩
           | exact deltas_end (by assumption) (by assumption) (by k_mem) (by k_mem) (by k_mem) (by k_mem) (by exact rfl) (by walk_at "c rest") (by omega) (by omega) hV hel hinv hff (RD_two h0 (by assumption) (by assumption) (by assumption) (by assumption)) ⟨by k_ne, by k_ne, by k_ne⟩)
  case done =>
    intro c u nx h tk' hG F9 N9
    refine DG.elim hG fun tp' vs n p' X tX ds ec en h0 h1 hV hel hinv => ?_
    clear hG
    subst ec en
    clear N1 N3 F1 hu
    dsimp only
    walk_at "c go"
    walk_at "c end"
    (try dsimp only at h0 h1 hV hel hinv)
    rw [hvl', List.drop_length, RD, pre_some, List.append_nil] at hinv
    exact k _ _ _ _ _ _ _ _ hinv h0 h1 hV (by rw [hel, hvl']) (by walk_at "c same") (by walk_at "c now") (by k_ne) (by k_ne)
end
section
open PySem PySem.W PySem.Calls PyProof.Rows
-- XRead7
set_option maxRecDepth 100000
theorem lnXRead7_1 : True := by
  w_top off
  k_with_none
  (k_with "c enter" => (refine wpAny_call ?_; k_dflt (refine' enter (by assumption) (by first | assumption | exact use_nil) (by k_is) (by k_is) (by walk_at "c room") (by exact BindsTo.of_eq rfl) (by exact locs rfl) ?_ (by exact rfl) (by exact rfl) (by exact rfl) (by decide); k_whole; intro _ _ _ _ _ _ _ _ _ _ _ _ _ _; (try dsimp only); (try k_fold))))
  (k_with "c room" => first | assumption | decide | ((try simp only [depth_under_make, depth_under_kw, depth_in1, depth_deeper, depth_caller]); (try dsimp only [Ar]); first | exact room2 (by assumption) (by decide) | exact room1 (by assumption) (by decide) | exact room0 (by assumption) | omega))
  (k_with "c pick" => first | exact Pick.head | exact Pick.tail (by walk_at "c pick"))
  (k_with "c go" => repeat' (first | ((fail_if_success (with_reducible show wpAny _ _ (pyIter (Value.ref _)) _ _ _)); (fail_if_success (with_reducible show wpAny _ _ (exec (Stmt.While _ _ _ _) _) _ _ _)); first | (k_unfold; (try dsimp only)) | walk1 | (dsimp only; walk1))))
  (k_with "subscriptTail Name Constant ref int" => (k_here; (with_reducible show wpAny _ _ (subscriptTail _ _ (Value.ref _) (Value.int _ _)) _ _ _); (with_unfolding_all refine' my_item (by is_list) (by decide) (by decide) (by rfl) ?_ (by with_unfolding_all rfl); k_whole)))
  (k_with "call builtin:len" => (k_here; (with_reducible show wpAny _ _ (call (Value.builtin "len") [Value.ref _]) _ _ _); k_dflt (refine' my_len (by is_list) (by walk_at "c fit") ?_; k_whole)))
  (k_with "c via1" => (k_dflt (refine' via1 (by assumption) (by assumption) (by assumption) (by assumption) (by walk_at "c pick") (by k_all) (by first | exact rfl | assumption) ?_)))
  (k_with "c via0" => (k_dflt (refine' via0 (by assumption) (by assumption) (by assumption) (by assumption) (by first | exact rfl | assumption) ?_)))
  (k_with "c num" => first | assumption | decide | exact Int.natCast_nonneg _ | exact Nat.lt_of_lt_of_le (by assumption) (by decide) | exact size2 (by assumption) (by assumption) (by decide) | omega)
  (k_with "call ref" => (k_here; (with_reducible show wpAny _ _ (call (Value.ref 218) [Value.ref _, Value.int _ _]) _ _ _); walk_at "c via1"; intro cC cS cK; k_dflt (refine' take_spec cC cS (by walk_at "c num") (by walk_at "c num") (by walk_at "c num") (by walk_at "c num") (by walk_at "c room") ?_); clear cC cS; intro _ _ _ _ _ _ _ _ _ _ _ _ zzS zzW; (refine And.elim (fun _ zzN => ?_) (cK _ _ zzS zzW)); clear cK zzS zzW; (try dsimp only [List.cons_append, List.nil_append] at zzN); (try dsimp only); (try k_sweep)))
  (k_with "c fit" => first | assumption | exact Nat.le_of_ble_eq_true rfl | exact Nat.lt_of_lt_of_le (by assumption) (by decide) | exact size2 (by assumption) (by assumption) (by decide) | omega | ((simp only [List.length_cons, List.length_append, List.length_nil]); omega))
  (k_with "c itemN" => (k_here; (with_reducible show wpAny _ _ (subscriptTail _ _ (Value.ref _) (Value.int _ _)) _ _ _); (with_unfolding_all refine' my_itemN (by is_list) (by walk_at "c num") (by walk_at "c num") (by walk_at "c fit") ?_ (by with_unfolding_all rfl); k_whole)))
  (k_with "c end" => ((try k_unfold); (try dsimp only)))
  (k_with "c same" => exact same_of (by assumption) (by assumption))
  (k_with "c sub" => first | exact List.forall_mem_nil _ | exact fun _ h => h | exact List.forall_mem_cons.mpr ⟨by k_mem, by walk_at "c sub"⟩)
  (k_with "c now" => first | exact now_of (by assumption) (by assumption) | exact now_sub (by assumption) (by assumption) (by walk_at "c sub"))
  (k_with "c ints" => first | assumption | exact IntsAre.nil | exact IntsAre.cons _ _ IntsAre.nil | exact IntsAre.cons _ _ (IntsAre.cons _ _ IntsAre.nil) | exact IntsAre.cons _ _ (IntsAre.cons _ _ (IntsAre.cons _ _ IntsAre.nil)))
  (k_with "k_all" => first | exact all_ltS (by assumption) (by walk_at "c tail") | fail)
  (k_with "k_all" => first | exact List.forall_mem_nil _ | (refine' List.forall_mem_cons.mpr ⟨(by k_ne), (by k_all)⟩))
  (k_with "k_all" => first | (with_reducible assumption) | exact all_lt (by with_reducible assumption) | fail)
  (k_with "c lt" => first | assumption | exact lt_mem (by assumption) (by k_mem) | exact lt_mem2 (by assumption) (by assumption) (by k_mem) | exact Nat.lt_succ_self _ | exact Nat.lt_succ_of_lt (by walk_at "c lt"))
  (k_with "k_ne" => first | exact Apt.ne (by assumption) | exact (Apt.ne (by assumption)).symm | exact NewAt.ne (by assumption) (by k_mem) | exact (NewAt.ne (by assumption) (by k_mem)).symm | exact ne_gt (by assumption) (by k_mem) | exact ne_lt (by assumption) (by k_mem) | exact Nat.ne_of_gt (by walk_at "c lt") | exact Nat.ne_of_lt (by walk_at "c lt") | (refine neN ?_; (try dsimp only); omega))
  (k_with "k_mem" => first | exact lm0 | exact lm1 | exact lm2 | exact lm3 | (refine' lm4 ?_; k_mem))
  (k_with "le" => k_dflt (exact Nat.le_of_ble_eq_true rfl))
  (k_with "lt" => k_dflt (exact Nat.le_of_ble_eq_true rfl))
  (k_with "c size" => first | assumption | exact Nat.le_of_ble_eq_true rfl | exact Nat.lt_of_lt_of_le (by assumption) (by decide) | exact size2 (by assumption) (by assumption) (by decide) | omega | ((simp only [List.length_cons, List.length_append, List.length_nil]); omega))
  (k_with "call builtin:list.append" => (k_here; (with_reducible show wpAny _ _ (call (Value.builtin "list.append") [Value.ref _, _]) _ _ _); k_dflt (refine' my_append (by k_asm) (by k_asm) (by k_upd) (by walk_at "c size") ?_; k_whole); intro _ _ _; (try k_sweep)))
  (k_with "binaryOp Add ref ref" => (k_here; (with_reducible show wpAny _ _ (binaryOp Operator.Add (Value.ref _) (Value.ref _)) _ _ _); k_dflt (refine' my_addL (by k_asm) (by k_asm) (by is_list) (by is_list) (by walk_at "c size") ?_; k_whole); intro _ _ _ _ _; (try k_sweep)))
  (k_with "c tail" => (intro _ zzhp; repeat (first | exact zzhp | refine List.mem_cons_of_mem _ ?_)))
  (k_with "c rest" => (intro _ zzq1 zzq2 zzq3; (repeat (first | refine upd_ne zzq1 ?_ | refine upd_ne (ne_stored zzq3 (by decide +kernel)) ?_ | refine upd_ne (zzq2 (_, _) (by k_mem)) ?_ | exact kst_end zzq3 | refine kst_mid (not_in_cons (ne_stored zzq3 (by decide +kernel)) not_in_nil) ?_ | refine kst_ne (ne_stored zzq3 (by decide +kernel)) ?_ | refine kst_ne (zzq2 (_, _) (by k_mem)) ?_))))
  (k_with "c restW" => (intro _ zzq2 zzq3; (repeat (first | refine upd_ne (ne_stored zzq3 (by decide +kernel)) ?_ | refine upd_ne (zzq2 (_, _) (by k_mem)) ?_ | exact kst_end zzq3 | refine kst_mid (not_in_cons (ne_stored zzq3 (by decide +kernel)) not_in_nil) ?_ | refine kst_ne (ne_stored zzq3 (by decide +kernel)) ?_ | refine kst_ne (zzq2 (_, _) (by k_mem)) ?_))))
  (k_with "c ps" => first | exact List.forall_mem_nil _ | exact List.forall_mem_cons.mpr ⟨rfl, by walk_at "c ps"⟩)
  (k_with "c itemI" => (k_here; (with_reducible show wpAny _ _ (subscriptTail _ _ (Value.ref _) (Value.int _ _)) _ _ _); (with_unfolding_all refine' my_itemI (by is_list) (by with_reducible assumption) (by walk_at "c num") (by walk_at "c num") (by walk_at "c fit") ?_ (by with_unfolding_all rfl); k_whole); intro _))
  (k_with "exec Raise some none" => (k_here; k_dflt (refine' font_raise (by assumption) (by assumption) (by assumption) (by exact rfl) (by walk_at "c room") (by exact rfl) (by exact rfl) (by decide +kernel) ?_; intro _ _ _ _ _ _ _ _; (try k_unfold); (try dsimp only); refine' font_leave (by assumption) (by assumption) (by assumption) (by assumption) (by assumption) ?_ (by exact rfl); intro _ _ _; (try dsimp only))))
  (k_with "call type:bytes cons nil bytes" => (k_here; refine bb_call ?_))
  (k_with "call type:bytes" => (k_here; (with_reducible show wpAny _ _ (call (Value.type "bytes") [Value.bytes _ _]) _ _ _); refine bb_call ?_))
  (k_with "leaving ref" => (k_here; k_dflt (refine' leave_onSX (by assumption) (by assumption) (by assumption) (by assumption) ?_; k_whole); intro _ zzR zzU; (try dsimp only at zzR zzU ⊢)))
  (k_with "storeName" => (dsimp only; walk_at "storeName"))
  (k_with "c via0E" => (k_dflt (refine' via0E (by assumption) (by assumption) (by assumption) (by assumption) (by first | exact rfl | assumption) ?_)))
  (k_with "c via2E" => (k_dflt (refine' via2E (by assumption) (by assumption) (by assumption) (by assumption) (by walk_at "c pick") (by walk_at "c pick") (by k_all) (by k_all) (by first | exact rfl | assumption) ?_)))
  (k_with "c fault" => (intro _ _ _ _ _ _; (try dsimp only)))
  (k_with "call ref" => (k_here; (try dsimp only [List.cons_append, List.nil_append]); (with_reducible show wpAny _ _ (call (Value.ref 150) [Value.ref _]) _ _ _); walk_at "c via2E"; intro cC cO cD cn cF cK; (refine' byte_spec cC cO cD cn (by assumption) (by walk_at "c num") (by walk_at "c num") (by walk_at "c num") (by walk_at "c room") ?_ ?_); (all_goals first | (intro _ _ _ _ _ _ _ _ zzS zzW; (refine And.elim (fun _ zzN => ?_) (cK _ _ zzS zzW)); clear cK cC cO cD cn cF zzS zzW; (try dsimp only [List.cons_append, List.nil_append] at zzN); (try dsimp only); (try k_sweep)) | (clear cC cO cD cn cK; walk_at "c fault"))))
  (k_with "call ref" => (k_here; (try dsimp only [List.cons_append, List.nil_append]); (with_reducible show wpAny _ _ (call (Value.ref 157) [Value.ref _]) _ _ _); walk_at "c via2E"; intro cC cO cD cn cF cK; (refine' oword_spec cC cO cD cn (by assumption) (by walk_at "c num") (by walk_at "c num") (by walk_at "c num") (by walk_at "c room") ?_ ?_); (all_goals first | (intro _ _ _ _ _ _ _ _ zzS zzW; (refine And.elim (fun _ zzN => ?_) (cK _ _ zzS zzW)); clear cK cC cO cD cn cF zzS zzW; (try dsimp only [List.cons_append, List.nil_append] at zzN); (try dsimp only); (try k_sweep)) | (clear cC cO cD cn cK; walk_at "c fault"))))
  (k_with "call ref" => (k_here; (try dsimp only [List.cons_append, List.nil_append]); (with_reducible show wpAny _ _ (call (Value.ref 164) [Value.ref _]) _ _ _); walk_at "c via2E"; intro cC cO cD cn cF cK; (refine' signed_spec cC cO cD cn (by assumption) (by walk_at "c num") (by walk_at "c num") (by walk_at "c num") (by walk_at "c room") ?_ ?_); (all_goals first | (intro _ _ _ _ _ _ _ _ zzS zzW; (refine And.elim (fun _ zzN => ?_) (cK _ _ zzS zzW)); clear cK cC cO cD cn cF zzS zzW; (try dsimp only [List.cons_append, List.nil_append] at zzN); (try dsimp only); (try k_sweep)) | (clear cC cO cD cn cK; walk_at "c fault"))))
  (k_with "call ref" => (k_here; (try dsimp only [List.cons_append, List.nil_append]); (with_reducible show wpAny _ _ (call (Value.ref 171) [Value.ref _, Value.int _ _]) _ _ _); walk_at "c via2E"; intro cC cO cD cn cF cK; (refine' part_spec cC cO cD cn (by assumption) (by walk_at "c num") (by walk_at "c num") (by walk_at "c num") (by walk_at "c num") (by walk_at "c num") (by walk_at "c room") ?_ ?_); (all_goals first | (intro _ _ _ _ _ _ _ zzS zzW; (refine And.elim (fun _ zzN => ?_) (cK _ _ zzS zzW)); clear cK cC cO cD cn cF zzS zzW; (try dsimp only [List.cons_append, List.nil_append] at zzN); (try dsimp only); (try k_sweep)) | (clear cC cO cD cn cK; walk_at "c fault"))))
  trivial
inductive ListsIn (tl : List (Addr × Obj)) : List Value → List (List Value) → Prop
  | nil : ListsIn tl [] []
  | snoc {vs : List Value} {cs : List (List Value)} {a : Addr} {c : List Value} {n : Nat} : ListsIn tl vs cs → (a, listOf c.toArray n) ∈ tl → ListsIn tl (vs ++ [Value.ref a]) (cs ++ [c])
theorem ListsIn.mono {tl tl' : List (Addr × Obj)} (hs : ∀ p ∈ tl, p ∈ tl') {vs : List Value} {rs : List (List Value)} (h : ListsIn tl vs rs) : ListsIn tl' vs rs := by
  induction h with
  | nil => exact .nil
  | snoc _ hm ih => exact .snoc ih (hs _ hm)
theorem ListsIn.length {tl : List (Addr × Obj)} {vs : List Value} {rs : List (List Value)} (h : ListsIn tl vs rs) : vs.length = rs.length := by
  induction h with
  | nil => rfl
  | snoc _ _ ih => simp [ih]
theorem pick_le (vs : List Value) (lo hi : Option Int) : (slicePick vs.toArray lo hi none).size ≤ vs.length := by
  rw [kms_pick_eq]
  simp only [List.size_toArray, kms_pick, List.length_take, List.length_drop]
  omega
theorem lnXRead7_2 : True := by
  (k_with "call type:list" => (k_here; (with_reducible show wpAny _ _ (call (Value.type "list") [Value.ref _]) _ _ _); k_dflt (refine' list_copyK (by k_asm) (by k_asm) (by is_list) ?_ (by refine Nat.le_trans (pick_le _ _ _) ?_; rw [sizeLine_eq]; omega); k_whole); intro _ _ _ _ _ _; (try k_sweep)))
  trivial
structure Hid (p : Prop) : Prop where
  get : p
def cuts (pv : List Value) : Int → List Int → List (List Value)
  | _, [] => []
  | b, e :: r => (slicePick pv.toArray (some b) (some (e + 1)) none).toList :: cuts pv (e + 1) r
def CG (fnd : Addr) (pv : List Value) (es : List Int) (i : Nat) (c : Int × Tok × List (List Value)) (nx : List (Addr × Obj)) : Prop :=
  ∃ (vs : List Value) (n : Nat) (tl : List (Addr × Obj)), nx = (fnd, listOf vs.toArray n) :: tl ∧ (∀ p ∈ tl, p.1 ≠ fnd) ∧ ListsIn tl vs c.2.2 ∧ c.2.2.length = i ∧ 0 ≤ c.1 ∧ cuts pv 0 es = c.2.2 ++ cuts pv c.1 (es.drop i)
theorem CG.elim {fnd : Addr} {pv : List Value} {es : List Int} {i : Nat} {c : Int × Tok × List (List Value)} {nx : List (Addr × Obj)} {P : Prop} (h : CG fnd pv es i c nx)
    (k : ∀ (vs : List Value) (n : Nat) (tl : List (Addr × Obj)) (bg : Int) (tb : Tok) (cs : List (List Value)), c = (bg, tb, cs) → nx = (fnd, listOf vs.toArray n) :: tl → (∀ p ∈ tl, p.1 ≠ fnd) → ListsIn tl vs cs → cs.length = i → 0 ≤ bg → cuts pv 0 es = cs ++ cuts pv bg (es.drop i) → P) : P := by
  obtain ⟨bg, tb, cs⟩ := c
  obtain ⟨vs, n, tl, e, htl, hL, hcl, hb0, hinv⟩ := h
  exact k vs n tl bg tb cs rfl e htl hL hcl hb0 hinv
theorem contours_end {h₀ h' : Heap} {L fnd D I : Addr} {oI : Obj} {pv vs : List Value} {es : List Int} {cs : List (List Value)} {i n nD tk : Nat} {bg ff X : Int} {tX : Tok} {tl big : List (Addr × Obj)} {m m₀ : Str → Option Value} {stored : List Str} {s₁ : Shared}
    (F : Fr h₀ L h' m) (N' : News h₀ L h' big) (m1 : (fnd, listOf (vs ++ [Value.ref D]).toArray n) ∈ big) (m2 : (D, listOf (slicePick pv.toArray (some bg) (some (ff + 1)) none) nD) ∈ big) (mI : (I, oI) ∈ big) (mt : ∀ p ∈ tl, p ∈ big)
    (hx : m (Str.ofString "begin") = some (.int X tX))
    (hr : ∀ z, z ≠ Str.ofString "end" → (∀ p ∈ ([(Str.ofString "begin", .int X tX)] : List (Str × Value)), z ≠ p.1) → stored.contains z = false → m z = m₀ z)
    (htl : ∀ p ∈ tl, p.1 ≠ fnd) (hL : ListsIn tl vs cs) (hcl : cs.length = i) (hinv : cuts pv 0 es = cs ++ cuts pv bg (es.drop i)) (hf : es[i]? = some ff) (eX : X = ff + 1) (hf0 : 0 ≤ ff) (hDf : D ≠ fnd) (hI : ∀ p ∈ tl, p.1 ≠ I) (fI : fnd ≠ I ∧ D ≠ I) :
    SEnd (σ := Int × Tok × List (List Value)) (fun c => [(Str.ofString "begin", .int c.1 c.2.1)]) stored m₀ (Str.ofString "end") (CG fnd pv es (i + 1)) h₀ L I oI s₁ { s₁ with heap := h', toks := tk } := by
  subst eX
  refine SEnd.intro (ff + 1, tX, cs ++ [(slicePick pv.toArray (some bg) (some (ff + 1)) none).toList]) ((fnd, listOf (vs ++ [Value.ref D]).toArray n) :: (D, listOf (slicePick pv.toArray (some bg) (some (ff + 1)) none) nD) :: tl) F N' ?_ ?_ ?_ hr ⟨_, n, _, rfl, ?_, ?_, by simp [hcl], ?_, ?_⟩
  · simp only [List.forall_mem_cons]
    exact ⟨mI, m1, m2, mt⟩
  · simp only [List.forall_mem_cons]
    exact ⟨fI.1, fI.2, hI⟩
  · simp only [List.forall_mem_cons]
    exact ⟨hx, List.forall_mem_nil _⟩
  · exact List.forall_mem_cons.mpr ⟨hDf, htl⟩
  · refine .snoc (n := nD) (hL.mono fun p hp => .tail _ hp) ?_
    rw [Array.toArray_toList]
    exact .head _
  · show 0 ≤ ff + 1
    omega
  · have hlt : i < es.length := by
      rcases Nat.lt_or_ge i es.length with h | h
      · exact h
      · rw [List.getElem?_eq_none h] at hf; cases hf
    have e : es.drop i = ff :: es.drop (i + 1) := by
      rw [List.drop_eq_getElem_cons hlt]
      rw [List.getElem?_eq_getElem hlt] at hf
      rw [Option.some.inj hf]
    rw [hinv, e, cuts]
    simp
set_option maxHeartbeats 8000000 in
theorem contours_spec {w : World} {dp un : Nat} {gd : Option (List Code)} {base : Heap} {envs : List Env} {s : Shared} {Q E : Value → Shared → Prop} {P Es : Addr} {pv ev : List Value} {es : List Int}
  (C : Cx w (Ar dp un gd envs) base envs [] s.heap) (hP : s.heap.IsList P pv.toArray) (hE : s.heap.IsList Es ev.toArray) (hI : IntsAre ev es) (heb : ∀ v ∈ es, 0 ≤ v ∧ v < 65536) (hpl : pv.length < 70000) (hel : es.length < 1000) (hroom : dp + 10 < recursionLimit)
  (k : ∀ f vs n tl h' tk', ListsIn tl vs (cuts pv 0 es) → (∀ p ∈ tl, p.1 ≠ f) → Same [] s.heap h' → Now [] s.heap h' ((f, listOf vs.toArray n) :: tl) → Q (.ref f) { s with heap := h', toks := tk' }) :
  wpAny (model PySem.Challenge.rw_xm0719_01.row.prog w) (Ar dp un gd envs) (call (.ref 108) [.ref P, .ref Es]) Q E s := by
  have hP' := list_hide hP (U := []) (fun h => nomatch h)
  have hE' := list_hide hE (U := []) (fun h => nomatch h)
  have hvl' : ev.length = es.length := hI.length
  walk_at "c enter"
  rename _ = hideAll _ _ => eg
  rw [← eg] at hP' hE'
  walk_at "c go"
  rename_i fnd h1 ll h2 tkA h3 F1 N1
  rename IntsAre ev es => hI
  have N3 := news_sub (led := [(fnd, listOf [].toArray 0)]) N1 (by walk_at "c sub")
  refine my_listS (σ := Int × Tok × List (List Value)) (fun c => [(Str.ofString "begin", .int c.1 c.2.1)]) [Str.ofString "begin"] (CG fnd pv es) (0, tkA, []) rfl hE' F1 N3 ?hk ?hG ?turn ?done
  case hk => walk_at "c ps"
  case hG => exact ⟨[], 0, [], rfl, (fun p hp => nomatch hp), .nil, rfl, Int.le_refl 0, rfl⟩
  case turn =>
    intro i v c u nx h tk' I oI hi hI' hG F9 N9
    refine CG.elim hG fun vs n tl bg tb cs ec en htl hL hcl hb0 hinv => ?_
    clear hG
    subst ec en
    clear N1 N3 F1
    replace hI' := NewAt.mk hI'
    have hlt : i < es.length := by
      rw [← hvl']
      rcases Nat.lt_or_ge i ev.length with h | h
      · exact h
      · rw [List.getElem?_eq_none h] at hi; cases hi
    obtain ⟨tf, hx⟩ := hI.get i (es[i]'hlt) (List.getElem?_eq_getElem hlt)
    have hff : es[i]? = some (es[i]'hlt) := List.getElem?_eq_getElem hlt
    have hfb := heb _ (List.getElem_mem hlt)
    rw [hi] at hx
    obtain rfl := Option.some.inj hx
    generalize es[i]'hlt = ff at hff F9 hfb
    dsimp only at F9 N9 hL hcl hb0 hinv
    have hvl := hL.length
    replace hinv := Hid.mk hinv
    have hfs : @LT.lt Nat _ fnd h.objs.size := Heap.lt_size (N9 _ (.tail _ (.head _))).1
    have hIs : @LT.lt Nat _ I h.objs.size := Heap.lt_size (N9 _ (.head _)).1
    walk_at "c go"
    dsimp only [SPost]
    exact contours_end (by assumption) (by assumption) (by k_mem) (by k_mem) (by k_mem) (by walk_at "c tail") (by exact rfl) (by walk_at "c rest") htl hL hcl hinv.get hff rfl hfb.1 (by k_ne) (hI'.sub (by walk_at "c tail")) ⟨by k_ne, by k_ne⟩
  case done =>
    intro c u nx h tk' hG F9 N9
    refine CG.elim hG fun vs n tl bg tb cs ec en htl hL hcl hb0 hinv => ?_
    clear hG
    subst ec en
    clear N1 N3 F1
    (try dsimp only)
    (try dsimp only at hL hcl hb0 hinv)
    walk_at "c go"
    walk_at "c end"
    rw [hvl', List.drop_length, cuts, List.append_nil] at hinv
    rw [← hinv] at hL
    exact k _ _ _ _ _ _ hL htl (by walk_at "c same") (by walk_at "c now")
end
section
open PySem PySem.W PySem.Calls PyProof.Rows
-- XEnterC
theorem lnXEnterC_0 : True := by
  w_top off
  k_with_none
  trivial
set_option maxRecDepth 100000
section
variable {w : World} {A : Around} {s : Shared} {base : Heap} {envs : List Env} {U : List Addr} {use : List (Addr × Obj)}
  {R : Result → Shared → Prop} {name qual : Str} {params : Arguments} {body : List Stmt} {scope : Scope} {dV kV doc pm cdv ct oc : Value} {an od : Option Addr} {osl : Array (Option Value)} {f : Addr} {args : Args} {binds : List (Str × Value)}
theorem enterC (C : Cx w A base envs U s.heap) (hu : ∀ p ∈ use, s.heap.get? p.1 = some p.2 ∧ p.1 ∈ U)
    (ho : (hd.heap_1 w.params).lookup f = some ⟨oc, od, .func (fnOf name qual params body scope dV kV doc pm an cdv ct), osl⟩) (hcd : codeIn (hd.heap_1 w.params) cdv qual = true) (hroom : A.depth < recursionLimit)
    (hbind : BindsTo s (fnOf name qual params body scope dV kV doc pm an cdv ct) args binds) (hkind : (binds.all fun y => scope.names.lookup y.1 == some .local || scope.names.lookup y.1 == some .cell) = true)
    (hnd : ((cellsFrom 0 scope.names []).map (·.1)).Nodup)
    (h : ∀ g L h₁ tk cells mean mg mb, L = s.heap.objs.size → g = hideAll s.heap U → Bs w mean mg mb base → Fr g L h₁ (bindL (envOfC qual scope L f cdv).kindOf binds fun _ => none) → News g L h₁ (cells ++ use) →
      CellsAre (bindC (envOfC qual scope L f cdv).kindOf binds fun _ => none) (cellsFrom (L + 1) scope.names []) cells → Below A base envs g → (hd.heap_1 w.params).In g → Top hd.view_39 (looseW hd.view_39 [Str.ofString "Outline"]) mean mg mb g → (∀ p ∈ use, p.1 < L) →
      wpAny (model PySem.Challenge.rw_xm0719_01.row.prog w) (A.deeper (envOfC qual scope L f cdv)) (execs body (envOfC qual scope L f cdv))
        (fun fl s' => R (.ok (.ret (match fl with | .ret v => v | _ => .none))) s')
        (fun e s' => wpAny (model PySem.Challenge.rw_xm0719_01.row.prog w) (A.deeper (envOfC qual scope L f cdv)) (leaving (envOfC qual scope L f cdv) e) (fun _ s'' => R (.error e) s'') (fun e' s'' => R (.error e') s'') s')
        { s with heap := h₁, toks := tk })
    (hco : scope.isCoroutine = false) (hgen : scope.isGenerator = false) (hk : scope.kind = .function) : codeAny (model PySem.Challenge.rw_xm0719_01.row.prog w) A (.call (.ref f) args) R s := by
  obtain ⟨⟨mean, mg, mb, bs⟩, frames, stays, ff, fresh, off⟩ := C
  have X : (hd.heap_1 w.params).In s.heap := bs.X.keeps stays
  refine codeAny_call_function (fd := fnOf name qual params body scope dV kV doc pm an cdv ct) hroom (X _ _ ho) rfl hco hgen rfl (codeRec_of X hcd) (hbind _ _ _ _ ?_)
  refine wpAny_newFunctionEnv_cells hk (kindsX hkind _) fun env' he s' x => ?_
  subst he
  refine ⟨(bs.T.nolimit.keeps stays).keeps x.toInCall.keep, codeAny_func ?_⟩
  obtain ⟨h₁, tk, rfl, _⟩ := x.done
  have hk₁ := x.toInCall.keep
  obtain ⟨cells, NC, Y⟩ := Cl.news (h₀ := s.heap) (Nat.le_refl _) fun n c hm => ⟨x.cell n c (lookup_of_mem_nodup (cellsFrom_names scope.names 0 (s.heap.objs.size + 1) [] [] rfl ▸ hnd) hm), x.above n c hm⟩
  have stg : base.StaysIn (hideAll s.heap U) := fun b o e => hideAll_get _ (stays b o e) fun hm => by rw [fresh b hm] at e; cases e
  refine h _ s.heap.objs.size h₁ tk cells mean mg mb rfl rfl bs ⟨x.toInCall.ns, fun b o e => hk₁ b o (of_hideAll _ e), Nat.le_of_eq (hideAll_size _ _)⟩ (fun p hp => ?_) Y ⟨frames, stg, funFrames_hideAll ff fun env he b hb => off env he b hb⟩ (bs.X.keeps stg) (bs.T.keeps stg) (fun p hp => Heap.lt_size (hu p hp).1)
  rcases List.mem_append.mp hp with hp | hp
  · refine ⟨(NC p hp).1, (NC p hp).2.1, ?_⟩
    cases q : (hideAll s.heap U).get? p.1 with
    | none => rfl
    | some o => have := of_hideAll _ q; rw [(NC p hp).2.2] at this; cases this
  · exact ⟨hk₁ _ _ (hu p hp).1, Nat.ne_of_lt (Heap.lt_size (hu p hp).1), hideAll_none _ (hu p hp).2⟩
end
end
section
open PySem PySem.W PySem.Calls PyProof.Rows
-- XComp
theorem lnXComp_0 : True := by
  w_top off
  k_with_none
  trivial
set_option maxRecDepth 100000
/-- a block's own names, told by its object alone -/
def NsOf (o : Obj) (m : Str → Option Value) : Prop := ∃ es ep, o.data = .dict es ep ∧ StrKeys es ∧ ∀ name, nsFind es name = m name
theorem NsOf.ns {o : Obj} {m : Str → Option Value} (n : NsOf o m) {h : Heap} {C : Addr} (hC : h.get? C = some o) : h.Ns C m :=
  let ⟨es, ep, r⟩ := n; ⟨o, es, ep, hC, r⟩
theorem nsOf {h : Heap} {C : Addr} {m : Str → Option Value} (n : h.Ns C m) : ∃ o, h.get? C = some o ∧ NsOf o m :=
  let ⟨o, es, ep, hC, r⟩ := n; ⟨o, hC, es, ep, r⟩
theorem fr_at {g h h' : Heap} {L : Addr} {m : Str → Option Value} (F : Fr g L h m) (hk : ∀ b o, (b = L ∨ ∃ o', g.get? b = some o') → h.get? b = some o → h'.get? b = some o) : Fr g L h' m := by
  obtain ⟨oL, es, ep, hL, r⟩ := F.ns
  exact ⟨⟨oL, es, ep, hk L oL (.inl rfl) hL, r⟩, fun b o e => hk b o (.inr ⟨o, e⟩) (F.keep b o e), F.above⟩
/-- an element's end: the block's own objects stand, the element is told -/
def BPost (s : Shared) (h₀ : Heap) (L : Addr) (m₀ : Str → Option Value) (I : Addr) (oI : Obj) (C : Addr) (oC : Obj) (D : Addr) (ys : List Value) (k : Nat) (J : List Value → List (Addr × Obj) → Prop) (y : Value) (s' : Shared) : Prop :=
  ∃ h' tk' nx', s' = { s with heap := h', toks := tk' } ∧ Fr h₀ L h' m₀ ∧ News h₀ L h' ((I, oI) :: (C, oC) :: (D, listOf ys.toArray k) :: nx') ∧
    (∀ p ∈ nx', p.1 ≠ I) ∧ (∀ p ∈ nx', p.1 ≠ C) ∧ (∀ p ∈ nx', p.1 ≠ D) ∧ J (ys ++ [y]) nx'
theorem BPost.intro {s : Shared} {h₀ h' : Heap} {L : Addr} {m₀ : Str → Option Value} {I : Addr} {oI : Obj} {C : Addr} {oC : Obj} {D : Addr} {ys : List Value} {k tk : Nat} {J : List Value → List (Addr × Obj) → Prop} {y : Value} {big : List (Addr × Obj)} (nx : List (Addr × Obj))
    (F : Fr h₀ L h' m₀) (N : News h₀ L h' big) (hs : ∀ p ∈ (I, oI) :: (C, oC) :: (D, listOf ys.toArray k) :: nx, p ∈ big) (aI : ∀ p ∈ nx, p.1 ≠ I) (aC : ∀ p ∈ nx, p.1 ≠ C) (aD : ∀ p ∈ nx, p.1 ≠ D) (hJ : J (ys ++ [y]) nx) :
    BPost s h₀ L m₀ I oI C oC D ys k J y { s with heap := h', toks := tk } := ⟨h', tk, nx, rfl, F, news_sub N hs, aI, aC, aD, hJ⟩
/-- where a block starts: the list's iterator is made -/
def BlockAt (prog : Program) (w : World) (A : Around) (env : Env) (scope : Scope) (cl : List (Str × Addr)) (elt : Expr) (x : Str) (px : Pos) (iter : Expr) (pos : Pos) (RR : Value → Addr → Result → Shared → Prop) (E : Value → Shared → Prop) (it : Value) (s₂ : Shared) : Prop :=
  wpAny (model prog w) A (newList []) (fun acc s₃ => wpAny (model prog w) A (newFunctionEnv scope env.globals cl [] env.qual none .none (some env)) (fun cenv s₄ =>
    codeAny (model prog w) A (.compStart (.ListComp elt [⟨.Name x px, iter, [], 0⟩] scope pos) 0 it acc { cenv with scope := relabel scope env }) (RR acc cenv.locals) s₄) E s₃) E s₂
section
variable {prog : Program} {w : World} {A : Around} {E : Value → Shared → Prop} {s : Shared} {env : Env} {h₀ : Heap} {L : Addr}
theorem block_core {elt iter : Expr} {x : Str} {px pos : Pos} {scope : Scope} {cl : List (Str × Addr)} {RR : Value → Addr → Result → Shared → Prop} {I : Addr} {fp : List Addr} {n : Nat} {P : Nat → Value → Prop} {St : Nat → Heap → Prop} {m₀ : Str → Option Value} {news : List (Addr × Obj)}
    (J : Nat → List Value → List (Addr × Obj) → Prop)
    (W : Walks prog w A I fp [I] n P St) (hIf : I ∈ fp) (hfp : ∀ b ∈ fp, b ≠ I → ∃ o, h₀.get? b = some o) (hLf : L ∉ fp) (hI₀ : h₀.get? I = none) (hnw : ∀ p ∈ news, p.1 ≠ I) (hSt : ∀ i h, St i h → ∃ o, h.get? I = some o) (hst : St 0 s.heap)
    (hcell : ∀ y ∈ scope.names, y.2 ≠ .cell) (hkind : scope.kind = .function) (hx : scope.names.lookup x = some .local)
    (F : Fr h₀ L s.heap m₀) (N : News h₀ L s.heap news) (hn : n < 2 ^ 20) (hj : J 0 [] news) (hJl : ∀ i ys nx, J i ys nx → ys.length = i)
    (turn : ∀ i v ys k nx h tk oI C oC D (mC : Str → Option Value), i < n → P i v → NsOf oC (fun y => if y = x then some v else mC y) → C ≠ I → D ≠ I → C ≠ D → (∀ p ∈ nx, p.1 ≠ I) → (∀ p ∈ nx, p.1 ≠ C) → (∀ p ∈ nx, p.1 ≠ D) → J i ys nx →
      Fr h₀ L h m₀ → News h₀ L h ((I, oI) :: (C, oC) :: (D, listOf ys.toArray k) :: nx) → ∀ E',
      wpAny (model prog w) A (eval elt (compEnvC scope cl C env)) (BPost s h₀ L m₀ I oI C oC D ys k (J (i + 1))) E' { s with heap := h, toks := tk })
    (done : ∀ ys k nx h tk D C oC (mC : Str → Option Value), J n ys nx → NsOf oC mC → C ≠ D → (∀ p ∈ nx, p.1 ≠ C) → (∀ p ∈ nx, p.1 ≠ D) → Fr h₀ L h m₀ → News h₀ L h ((C, oC) :: (D, listOf ys.toArray k) :: nx) → RR (.ref D) C (.ok .next) { s with heap := h, toks := tk }) :
    BlockAt prog w A env scope cl elt x px iter pos RR E (.ref I) s := by
  unfold BlockAt
  refine wpAny_newObj_type (wpAny_newFunctionEnv hcell (by intro y hy; simp at hy) (fun h₁ hns₁ hsb₁ => ?_) hkind)
  dsimp only at hns₁ hsb₁ ⊢
  generalize hH2 : s.heap.push { cls := .type "list", dict := none, data := .seq ([] : List Value).toArray } = H2 at hns₁ hsb₁ ⊢
  have hC : H2.objs.size = s.heap.objs.size + 1 := by rw [← hH2, Heap.size_push]
  have below : ∀ b, b < s.heap.objs.size → b ≠ H2.objs.size ∧ b ≠ s.heap.objs.size := fun b hb => ⟨by rw [hC]; exact Nat.ne_of_lt (Nat.lt_succ_of_lt hb), Nat.ne_of_lt hb⟩
  have hCD : H2.objs.size ≠ s.heap.objs.size := by rw [hC]; exact Nat.ne_of_gt (Nat.lt_succ_self _)
  have old : ∀ b o, s.heap.get? b = some o → h₁.get? b = some o := fun b o e => hsb₁.extBut b o (below b (Heap.lt_size e)).1 (Heap.get?_push_of_some _ (hH2 ▸ Heap.get?_push_of_some _ e))
  have hD : h₁.get? s.heap.objs.size = some (listOf ([] : List Value).toArray 0) := hsb₁.extBut _ _ (Ne.symm hCD) (Heap.get?_push_of_some _ (hH2 ▸ Heap.get?_push_size _ rfl))
  have fresh : ∀ a, s.heap.objs.size ≤ a → h₀.get? a = none := fun a ha => by
    cases e : h₀.get? a with
    | none => rfl
    | some o' => exact absurd (Heap.lt_size (F.keep a o' e)) (Nat.not_lt.mpr ha)
  obtain ⟨oI, hoI⟩ := hSt _ _ hst
  have hIs : @LT.lt Nat _ I s.heap.objs.size := Heap.lt_size hoI
  have hIL : I ≠ L := fun q => hLf (q ▸ hIf)
  have hLs : @LT.lt Nat _ L s.heap.objs.size := F.ns.lt
  obtain ⟨oC, hoC, nC⟩ := nsOf hns₁
  generalize hCe : H2.objs.size = C at *
  generalize hDe : s.heap.objs.size = D at *
  have hCDl : @LT.lt Nat _ D C := by omega
  have hCDn : C ≠ D := Nat.ne_of_gt hCDl
  have hICn : I ≠ C := Nat.ne_of_lt (Nat.lt_trans hIs hCDl)
  have hIDn : I ≠ D := Nat.ne_of_lt hIs
  have keepN : ∀ {h h' : Heap} {nx : List (Addr × Obj)}, News h₀ L h nx → (∀ p ∈ nx, h.get? p.1 = some p.2 → h'.get? p.1 = some p.2) → News h₀ L h' nx := fun N' hk p hp => ⟨hk p hp (N' p hp).1, (N' p hp).2⟩
  have hst₁ : St 0 h₁ := W.frame _ _ _ hst fun b _ o e => old b o e
  have F₁ : Fr h₀ L h₁ m₀ := fr_at F fun b o _ e => old b o e
  have N₁ : News h₀ L h₁ ((I, oI) :: (C, oC) :: (D, listOf ([] : List Value).toArray 0) :: news) := fun p hp => by
    rcases List.mem_cons.mp hp with rfl | hp
    · exact ⟨old _ _ hoI, hIL, hI₀⟩
    rcases List.mem_cons.mp hp with rfl | hp
    · exact ⟨hoC, Nat.ne_of_gt (Nat.lt_trans hLs hCDl), fresh C (Nat.le_of_lt hCDl)⟩
    rcases List.mem_cons.mp hp with rfl | hp
    · exact ⟨hD, Nat.ne_of_gt hLs, fresh D (Nat.le_refl _)⟩
    · exact ⟨old _ _ (N p hp).1, (N p hp).2⟩
  have loop : ∀ s₃ : Shared, s₃ = { s with heap := h₁, toks := s.toks + ([] : List (Str × Value)).length } →
      codeAny (model prog w) A (.compLoop (.ListComp elt [⟨.Name x px, iter, [], 0⟩] scope pos) 0 (.ref I) (.ref D) (compEnvC scope cl C env)) (RR (.ref D) C) s₃ := by
    rintro s₃ rfl
    refine codeAny_compLoop_tests (fun k s' => ∃ i h tk ys kk nx oI oC mC, i ≤ n ∧ k = n + 1 - i ∧ s' = { s with heap := h, toks := tk } ∧ St i h ∧ NsOf oC mC ∧ Fr h₀ L h m₀ ∧ News h₀ L h ((I, oI) :: (C, oC) :: (D, listOf ys.toArray kk) :: nx) ∧ (∀ p ∈ nx, p.1 ≠ I) ∧ (∀ p ∈ nx, p.1 ≠ C) ∧ (∀ p ∈ nx, p.1 ≠ D) ∧ J i ys nx) ?_ (n + 1)
      ⟨0, h₁, _, [], 0, news, oI, oC, _, Nat.zero_le _, rfl, rfl, hst₁, nC, F₁, N₁, hnw, (fun p hp => ?_), (fun p hp => ?_), hj⟩
    · rintro k s' ⟨i, h, tk, ys, kk, nx, oI, oC, mC, hi, rfl, rfl, st, nC, Fh, Nh, aI, aC, aD, hJ⟩
      have gI := Nh _ (.head _)
      have gC := Nh _ (.tail _ (.head _))
      have gD := Nh _ (.tail _ (.tail _ (.head _)))
      have gx : ∀ p ∈ nx, _ := fun p hp => Nh p (.tail _ (.tail _ (.tail _ hp)))
      have nI : ∀ b, b ≠ I → b ∉ [I] := fun b hb q => hb (List.mem_singleton.mp q)
      have h0I : ∀ b o', h₀.get? b = some o' → b ≠ I := fun b o' e q => by rw [q, hI₀] at e; cases e
      have h0C : ∀ b o', h₀.get? b = some o' → b ≠ C := fun b o' e q => by rw [q, gC.2.2] at e; cases e
      by_cases hlt : i < n
      · refine W.item i _ _ _ hlt st fun v h₂ tk₂ hPv st₂ hk₂ => ?_
        have hIC := hICn
        have hID := hIDn
        have nsC₂ : h₂.Ns C mC := nC.ns (hk₂ C oC (nI C (Ne.symm hIC)) gC.1)
        refine wpAny_assign_Name (wpAny_storeName_local (lookup_relabel_local hx) nsC₂ (fun h₃ hn₃ hs₃ => ?_) (by simp [compEnvC, relabel, hkind]))
        have hs₃' : Heap.SameBut C h₂ h₃ := hs₃
        refine wpAny_tests_nil ?_
        rw [if_pos rfl]
        have up : ∀ b o, b ≠ I → b ≠ C → h.get? b = some o → h₃.get? b = some o := fun b o hb hc e => hs₃'.extBut b o hc (hk₂ b o (nI b hb) e)
        obtain ⟨oI₂, hoI₂⟩ := hSt _ _ st₂
        have hoI₃ : h₃.get? I = some oI₂ := hs₃'.extBut I _ hIC hoI₂
        obtain ⟨oC₃, hoC₃, nC₃⟩ := nsOf hn₃
        have F₃ : Fr h₀ L h₃ m₀ := fr_at Fh fun b o hb e => up b o (by
          rcases hb with rfl | ⟨o', ho'⟩
          · exact Ne.symm hIL
          · exact h0I b o' ho') (by
          rcases hb with rfl | ⟨o', ho'⟩
          · exact fun q => gC.2.1 q.symm
          · exact h0C b o' ho') e
        have N₃ : News h₀ L h₃ ((I, oI₂) :: (C, oC₃) :: (D, listOf ys.toArray kk) :: nx) := fun p hp => by
          rcases List.mem_cons.mp hp with rfl | hp
          · exact ⟨hoI₃, gI.2⟩
          rcases List.mem_cons.mp hp with rfl | hp
          · exact ⟨hoC₃, gC.2⟩
          rcases List.mem_cons.mp hp with rfl | hp
          · exact ⟨up _ _ (Ne.symm hID) (Ne.symm hCDn) gD.1, gD.2⟩
          · exact ⟨up _ _ (aI p hp) (aC p hp) (gx p hp).1, (gx p hp).2⟩
        have st₃ : St (i + 1) h₃ := W.frame _ _ _ st₂ fun b hb o e => by
          by_cases q : b = I
          · subst q
            rw [hoI₂] at e
            rw [hoI₃]
            exact e
          · obtain ⟨o', ho'⟩ := hfp b hb q
            exact hs₃'.extBut b o (h0C b o' ho') e
        refine wpAny_mono (turn i v ys kk nx h₃ _ oI₂ C oC₃ D mC hlt hPv nC₃ (Ne.symm hIC) (Ne.symm hID) hCDn aI aC aD hJ F₃ N₃ _) (fun y s₄ h₄ => ?_) fun _ _ e => e
        obtain ⟨h', tk', nx', rfl, F₄, N₄, bI, bC, bD, hJ'⟩ := h₄
        have hlen := hJl _ _ _ hJ
        have g4 := N₄ _ (.head _)
        refine my_append F₄ N₄ (.tail (fun q => hID q) (.tail hCDn (.head bD))) (by omega) fun h₅ F₅ N₅ => ?_
        refine ⟨n + 1 - (i + 1), by omega, i + 1, h₅, tk', ys ++ [y], kk + 1, nx', oI₂, oC₃, _, hlt, rfl, rfl, ?_, nC₃, F₅, N₅, bI, bC, bD, hJ'⟩
        refine W.frame _ _ _ st₃ fun b hb o e => ?_
        by_cases q : b = I
        · subst q
          rw [hoI₃] at e
          rw [(N₅ _ (.head _)).1]
          exact e
        · obtain ⟨o', ho'⟩ := hfp b hb q
          rw [F₃.keep b o' ho'] at e
          rw [F₅.keep b o' ho']
          exact e
      · have e : i = n := by omega
        subst e
        refine W.done _ _ _ st fun h₂ tk₂ hk₂ => ?_
        have up : ∀ b o, b ≠ I → h.get? b = some o → h₂.get? b = some o := fun b o hb e => hk₂ b o (nI b hb) e
        have hIC := Ne.symm hICn
        have hID := Ne.symm hIDn
        refine done ys kk nx h₂ tk₂ D C oC mC hJ nC hCDn aC aD (fr_at Fh fun b o hb e => up b o (by
          rcases hb with rfl | ⟨o', ho'⟩
          · exact Ne.symm hIL
          · exact h0I b o' ho') e) fun p hp => ?_
        rcases List.mem_cons.mp hp with rfl | hp
        · exact ⟨up _ _ hIC gC.1, gC.2⟩
        rcases List.mem_cons.mp hp with rfl | hp
        · exact ⟨up _ _ hID gD.1, gD.2⟩
        · exact ⟨up _ _ (aI p hp) (gx p hp).1, (gx p hp).2⟩
    · have := Heap.lt_size (N p hp).1
      rw [hDe] at this
      exact Nat.ne_of_lt (Nat.lt_trans this hCDl)
    · have := Heap.lt_size (N p hp).1
      rw [hDe] at this
      exact Nat.ne_of_lt this
  exact codeAny_compStart_list (loop _ rfl) (W.self 0 _ _ _ hst₁ (loop _ rfl))
end
end
section
open PySem PySem.W PySem.Calls PyProof.Rows
-- XComp2
theorem lnXComp2_0 : True := by
  w_top off
  k_with_none
  trivial
set_option maxRecDepth 100000
section
variable {prog : Program} {w : World} {A : Around} {E : Value → Shared → Prop} {s : Shared} {env : Env} {h₀ : Heap} {L : Addr}
theorem comp_open {elt iter : Expr} {x : Str} {px pos : Pos} {scope : Scope} {cl : List (Str × Addr)} {Q : Value → Shared → Prop}
    (hclos : closureFor scope env = pure cl) (hkind : scope.kind = .function) (hnames : ∀ y ∈ scope.names, y.2 = .local → scope.names.lookup y.1 = some .local)
    (h : wpAny (model prog w) A (eval iter env) (fun xv s₁ => wpAny (model prog w) A (pyIter xv) (fun it s₂ => BlockAt prog w A env scope cl elt x px iter pos (fun acc C => compPost (model prog w) A E none Q acc C) E it s₂) E s₁) E s)
    (hs : ∀ x, foldedSetIterable iter env x = pure x := by intro _; rfl) :
    wpAny (model prog w) A (eval (.ListComp elt [⟨.Name x px, iter, [], 0⟩] scope pos) env) Q E s := by
  rw [eval_ListComp]
  exact wpAny_comprehension_free (use := none) rfl hs hclos hkind hnames h
theorem comp_assign {elt iter : Expr} {x y : Str} {px py pos spos : Pos} {scope : Scope} {cl : List (Str × Addr)} {Q : Flow → Shared → Prop}
    (hsw : swapsWith (.ListComp elt [⟨.Name x px, iter, [], 0⟩] scope pos) (some (.Name y py)) spos.line env = pure true)
    (hclos : closureFor scope env = pure cl) (hkind : scope.kind = .function) (hnames : ∀ y ∈ scope.names, y.2 = .local → scope.names.lookup y.1 = some .local)
    (h : wpAny (model prog w) A (eval iter env) (fun xv s₁ => wpAny (model prog w) A (pyIter xv) (fun it s₂ => BlockAt prog w A env scope cl elt x px iter pos (fun acc C => compPost (model prog w) A E (some (assign (.Name y py) env)) (fun _ s' => Q .next s') acc C) E it s₂) E s₁) E s)
    (hs : ∀ x, foldedSetIterable iter env x = pure x := by intro _; rfl) :
    wpAny (model prog w) A (exec (.Assign [.Name y py] (.ListComp elt [⟨.Name x px, iter, [], 0⟩] scope pos) spos) env) Q E s := by
  rw [exec_Assign_Name_used _ _ _ _ hsw]
  refine wpAny_bind (wpAny_standAt (wpAny_bind ?_))
  show wpAny _ A (do let _ ← comprehension (.ListComp elt [⟨.Name x px, iter, [], 0⟩] scope pos) scope env _ (newList []) false (eval iter env) (some (assign (.Name y py) env))) _ _ s
  exact wpAny_bind (wpAny_mono (wpAny_comprehension_free (use := some (assign (.Name y py) env)) (Q := fun _ s' => Q .next s') rfl hs hclos hkind hnames h) (fun _ s' hq => wpAny_pure (wpAny_pure hq)) fun _ _ e => e)
variable {scope : Scope} {cl : List (Str × Addr)} {elt : Expr} {x : Str} {px : Pos} {iter : Expr} {pos : Pos} {RR : Value → Addr → Result → Shared → Prop}
theorem blk_range {r : Addr} {b₀ : Int} {t₀ u₀ v₀ : Tok} {n : Nat} {m₀ : Str → Option Value} {news : List (Addr × Obj)} (J : Nat → List Value → List (Addr × Obj) → Prop)
    (hh : A.handled = none) (hr : IsRange s.heap r 0 b₀ 1 t₀ u₀ v₀) (hb : b₀ = (n : Int)) (hn : n < 2 ^ 20)
    (hcell : ∀ y ∈ scope.names, y.2 ≠ .cell) (hkind : scope.kind = .function) (hx : scope.names.lookup x = some .local)
    (F : Fr h₀ L s.heap m₀) (N : News h₀ L s.heap news) (hj : J 0 [] news) (hJl : ∀ i ys nx, J i ys nx → ys.length = i)
    (turn : ∀ i t ys k nx h tk I oI C oC D (mC : Str → Option Value), i < n → NsOf oC (fun y => if y = x then some (.int (i : Int) t) else mC y) → C ≠ I → D ≠ I → C ≠ D → (∀ p ∈ nx, p.1 ≠ I) → (∀ p ∈ nx, p.1 ≠ C) → (∀ p ∈ nx, p.1 ≠ D) → J i ys nx →
      Fr h₀ L h m₀ → News h₀ L h ((I, oI) :: (C, oC) :: (D, listOf ys.toArray k) :: nx) → ∀ E',
      wpAny (model prog w) A (eval elt (compEnvC scope cl C env)) (BPost s h₀ L m₀ I oI C oC D ys k (J (i + 1))) E' { s with heap := h, toks := tk })
    (done : ∀ ys k nx h tk D C oC (mC : Str → Option Value), J n ys nx → NsOf oC mC → C ≠ D → (∀ p ∈ nx, p.1 ≠ C) → (∀ p ∈ nx, p.1 ≠ D) → Fr h₀ L h m₀ → News h₀ L h ((C, oC) :: (D, listOf ys.toArray k) :: nx) → RR (.ref D) C (.ok .next) { s with heap := h, toks := tk }) :
    wpAny (model prog w) A (pyIter (.ref r)) (fun it s₂ => BlockAt prog w A env scope cl elt x px iter pos RR E it s₂) E s := by
  have hsz : Builtin.Range.rangeSize 0 b₀ 1 = (n : Int) := by
    subst hb
    unfold Builtin.Range.rangeSize
    rw [if_pos (by decide)]
    split <;> omega
  have hsm : Builtin.Range.small 0 b₀ 1 = true := by
    have fit : ∀ z : Int, -5 ≤ z → z < 2 ^ 60 + 5 → Builtin.Range.rangeFitsLong z = true := fun z h1 h2 => by
      unfold Builtin.Range.rangeFitsLong
      simp only [Bool.and_eq_true, decide_eq_true_eq]
      omega
    unfold Builtin.Range.small
    rw [hsz, if_pos (by decide), fit 0 (by omega) (by omega), fit b₀ (by omega) (by omega), fit 1 (by omega) (by omega), fit n (by omega) (by omega), fit (b₀ + (1 - 1)) (by omega) (by omega)]
    simp
  refine wpAny_pyIter_range hr hsm ?_
  have W : Walks prog w A s.heap.objs.size [s.heap.objs.size] [s.heap.objs.size] n (fun i v => i < n ∧ ∃ t, v = .int (0 + i * 1) t)
      (fun i h => IsRangeIter h s.heap.objs.size (0 + (i : Nat) * 1) ((n : Int) - (i : Nat)) 1) := (Walks.range hh _ 0 1 n).bound
  refine block_core J W (List.mem_singleton.mpr rfl) (fun b hb q => absurd (List.mem_singleton.mp hb) q) ?_ (next_is_new F) (fun p hp => Nat.ne_of_lt (Heap.lt_size (N p hp).1)) (fun i h st => ⟨_, st⟩) (by show IsRangeIter _ _ _ _ _; rw [hsz]; simpa using Heap.get?_push_size _ rfl) hcell hkind hx (F.push _) (fun p hp => ⟨Heap.get?_push_of_some _ (N p hp).1, (N p hp).2⟩) hn hj hJl ?_ ?_
  · intro hm
    exact absurd F.ns.lt ((List.mem_singleton.mp hm) ▸ Nat.lt_irrefl _)
  · rintro i v ys k nx h tk oI C oC D mC hi ⟨_, t, rfl⟩ nC h1 h2 h3 aI aC aD hJ F₁ N₁ E'
    have e1 : 0 + (i : Int) * 1 = (i : Int) := by omega
    rw [e1] at nC
    exact turn i t ys k nx h tk _ oI C oC D mC hi nC h1 h2 h3 aI aC aD hJ F₁ N₁ E'
  · exact done
theorem blk_list {l : Addr} {vs : List Value} {m₀ : Str → Option Value} {news : List (Addr × Obj)} (J : Nat → List Value → List (Addr × Obj) → Prop)
    (hh : A.handled = none) (hl : h₀.IsList l vs.toArray) (hn : vs.length < 2 ^ 20)
    (hcell : ∀ y ∈ scope.names, y.2 ≠ .cell) (hkind : scope.kind = .function) (hx : scope.names.lookup x = some .local)
    (F : Fr h₀ L s.heap m₀) (N : News h₀ L s.heap news) (hj : J 0 [] news) (hJl : ∀ i ys nx, J i ys nx → ys.length = i)
    (turn : ∀ i v ys k nx h tk I oI C oC D (mC : Str → Option Value), vs[i]? = some v → NsOf oC (fun y => if y = x then some v else mC y) → C ≠ I → D ≠ I → C ≠ D → (∀ p ∈ nx, p.1 ≠ I) → (∀ p ∈ nx, p.1 ≠ C) → (∀ p ∈ nx, p.1 ≠ D) → J i ys nx →
      Fr h₀ L h m₀ → News h₀ L h ((I, oI) :: (C, oC) :: (D, listOf ys.toArray k) :: nx) → ∀ E',
      wpAny (model prog w) A (eval elt (compEnvC scope cl C env)) (BPost s h₀ L m₀ I oI C oC D ys k (J (i + 1))) E' { s with heap := h, toks := tk })
    (done : ∀ ys k nx h tk D C oC (mC : Str → Option Value), J vs.length ys nx → NsOf oC mC → C ≠ D → (∀ p ∈ nx, p.1 ≠ C) → (∀ p ∈ nx, p.1 ≠ D) → Fr h₀ L h m₀ → News h₀ L h ((C, oC) :: (D, listOf ys.toArray k) :: nx) → RR (.ref D) C (.ok .next) { s with heap := h, toks := tk }) :
    wpAny (model prog w) A (pyIter (.ref l)) (fun it s₂ => BlockAt prog w A env scope cl elt x px iter pos RR E it s₂) E s := by
  have hls : s.heap.IsList l vs.toArray := hl.at fun o e => F.keep l o e
  obtain ⟨ol, hol, _⟩ := id hl
  have hlt : l < h₀.objs.size := Heap.lt_size hol
  have hne : l ≠ s.heap.objs.size := Nat.ne_of_lt (Nat.lt_trans (Nat.lt_of_lt_of_le hlt F.above) F.ns.lt)
  refine wpAny_pyIter_list hls ?_
  have W := Walks.list (prog := prog) (w := w) hh s.heap.objs.size l hne vs.toArray
  rw [List.size_toArray] at W
  refine block_core J W List.mem_cons_self (fun b hb q => ?_) ?_ (next_is_new F) (fun p hp => Nat.ne_of_lt (Heap.lt_size (N p hp).1)) (fun i h st => by obtain ⟨o, e, _⟩ := st.1; exact ⟨o, e⟩) ⟨⟨_, Heap.get?_push_size _ rfl, rfl, rfl⟩, hls.at fun o e => Heap.get?_push_of_some _ e⟩ hcell hkind hx (F.push _) (fun p hp => ⟨Heap.get?_push_of_some _ (N p hp).1, (N p hp).2⟩) hn hj hJl ?_ done
  · rcases List.mem_cons.mp hb with e | hb
    · exact absurd e q
    · rw [List.mem_singleton.mp hb]
      exact ⟨ol, hol⟩
  · intro hm
    rcases List.mem_cons.mp hm with e | hm
    · exact absurd F.ns.lt (e ▸ Nat.lt_irrefl _)
    · exact absurd (Nat.lt_of_lt_of_le hlt F.above) ((List.mem_singleton.mp hm) ▸ Nat.lt_irrefl _)
  · rintro i v ys k nx h tk oI C oC D mC hi hP nC h1 h2 h3 aI aC aD hJ F₁ N₁ E'
    exact turn i v ys k nx h tk _ oI C oC D mC (by simpa using hP) nC h1 h2 h3 aI aC aD hJ F₁ N₁ E'
end
section
variable {M : Model} {A : Around} {E : Value → Shared → Prop} {s : Shared} {h₀ h : Heap} {L D C : Addr} {m mC : Str → Option Value} {nx : List (Addr × Obj)} {o oC : Obj} {tk : Nat}
theorem drop_blk {h' : Heap} (hC : h₀.get? C = none ∧ C ≠ L) (hs : Heap.SameBut C h h') (F : Fr h₀ L h m) {nx : List (Addr × Obj)} (N : News h₀ L h nx) (a : ∀ p ∈ nx, p.1 ≠ C) : Fr h₀ L h' m ∧ News h₀ L h' nx := by
  refine ⟨fr_at F fun b o hb e => hs.extBut b o ?_ e, fun p hp => ⟨hs.extBut _ _ (a p hp) (N p hp).1, (N p hp).2⟩⟩
  rcases hb with rfl | ⟨o', ho'⟩
  · exact Ne.symm hC.2
  · exact fun q => by rw [q, hC.1] at ho'; cases ho'
theorem cp_none {Q : Value → Shared → Prop} (nC : NsOf oC mC) (hCD : C ≠ D) (aC : ∀ p ∈ nx, p.1 ≠ C) (F : Fr h₀ L h m) (N : News h₀ L h ((C, oC) :: (D, o) :: nx))
    (k : ∀ h', Fr h₀ L h' m → News h₀ L h' ((D, o) :: nx) → Q (.ref D) { s with heap := h', toks := tk }) :
    compPost M A E none Q (.ref D) C (.ok .next) { s with heap := h, toks := tk } := by
  have gC := N _ (.head _)
  refine ⟨_, nC.ns gC.1, fun h' hs => ?_⟩
  obtain ⟨F', N'⟩ := drop_blk ⟨gC.2.2, gC.2.1⟩ hs F (fun p hp => N p (.tail _ hp)) (List.forall_mem_cons.mpr ⟨Ne.symm hCD, aC⟩)
  exact k h' F' N'
variable {cn : Str} {cs : Scope} {a : Addr} {ccd : Value} {cl : List (Str × Addr)} {y : Str} {py : Pos} {Q : Shared → Prop}
theorem cp_local (nC : NsOf oC mC) (hCD : C ≠ D) (aC : ∀ p ∈ nx, p.1 ≠ C) (F : Fr h₀ L h m) (N : News h₀ L h ((C, oC) :: (D, o) :: nx))
    (k : ∀ h', Fr h₀ L h' (fun z => if z = y then some (.ref D) else m z) → News h₀ L h' ((D, o) :: nx) → Q { s with heap := h', toks := tk + 1 })
    (hk : cs.kind = .function := by rfl) (hx : (envX cn cs L a ccd cl).kindOf y = some .local := by rfl) :
    compPost M A E (some (assign (.Name y py) (envX cn cs L a ccd cl))) (fun _ s' => Q s') (.ref D) C (.ok .next) { s with heap := h, toks := tk } := by
  have gC := N _ (.head _)
  show wpAny M A (assign (.Name y py) (envX cn cs L a ccd cl) (.ref D)) _ E _
  refine wpAny_assign_Name (storeX_L (s := { s with heap := h, toks := tk }) F N (fun h₂ F₂ N₂ => ?_) hk hx)
  refine ⟨_, nC.ns (N₂ _ (.head _)).1, fun h' hs => ?_⟩
  obtain ⟨F', N'⟩ := drop_blk ⟨gC.2.2, gC.2.1⟩ hs F₂ (fun p hp => N₂ p (.tail _ hp)) (List.forall_mem_cons.mpr ⟨Ne.symm hCD, aC⟩)
  exact k h' F' N'
theorem cp_cell {c : Addr} {oc : Obj} {v₀ : Option Value} {g : Obj → List (Addr × Obj)} (nC : NsOf oC mC) (hCD : C ≠ D) (hCc : C ≠ c) (hDc : D ≠ c) (aC : ∀ p ∈ nx, p.1 ≠ C) (F : Fr h₀ L h m) (N : News h₀ L h ((C, oC) :: (D, o) :: nx)) (hc : cl.lookup y = some c) (U : UpdF c oc nx g) (hd : oc.data = .cell v₀) (ag : ∀ o', ∀ p ∈ g o', p.1 ≠ C)
    (k : ∀ h' o', Fr h₀ L h' m → News h₀ L h' ((D, o) :: g o') → o'.data = .cell (some (.ref D)) → Q { s with heap := h', toks := tk })
    (hk : cs.kind = .function := by rfl) (hx : (envX cn cs L a ccd cl).kindOf y = some .cell := by rfl) :
    compPost M A E (some (assign (.Name y py) (envX cn cs L a ccd cl))) (fun _ s' => Q s') (.ref D) C (.ok .next) { s with heap := h, toks := tk } := by
  have gC := N _ (.head _)
  show wpAny M A (assign (.Name y py) (envX cn cs L a ccd cl) (.ref D)) _ E _
  refine wpAny_assign_Name (storeX_C (s := { s with heap := h, toks := tk }) F N hc (.tail hCc (.tail hDc U)) hd (fun h₂ o' F₂ N₂ d₂ => ?_) hk hx)
  refine ⟨_, nC.ns (N₂ _ (.head _)).1, fun h' hs => ?_⟩
  obtain ⟨F', N'⟩ := drop_blk ⟨gC.2.2, gC.2.1⟩ hs F₂ (fun p hp => N₂ p (.tail _ hp)) (List.forall_mem_cons.mpr ⟨Ne.symm hCD, ag o'⟩)
  exact k h' o' F' N' d₂
end
end
section
open PySem PySem.W PySem.Calls PyProof.Rows
-- XBlk
theorem lnXBlk_0 : True := by
  w_top off
  k_with_none
  trivial
set_option maxRecDepth 100000
theorem now_atU {h h' : Heap} {U : List Addr} {led : List (Addr × Obj)} {p : Addr × Obj} (W : Now U h h' led) (hp : p ∈ led) (hU : p.1 ∉ U) : h.get? p.1 = none := (W p hp).2.elim (fun q => absurd q hU) id
theorem notin2 {a b c : Addr} (h1 : c ≠ a) (h2 : c ≠ b) : c ∉ [a, b] := fun h => by
  rcases List.mem_cons.mp h with q | h
  · exact h1 q
  · exact h2 (List.mem_singleton.mp h)
def JT (news : List (Addr × Obj)) (row : Nat → Int × Int × Bool) (i : Nat) (ys : List Value) (nx : List (Addr × Obj)) : Prop := ∃ tl, nx = news ++ tl ∧ TupsIn tl ys ((List.range i).map row)
theorem tup_end {s : Shared} {h₀ h' : Heap} {L tp : Addr} {m₀ : Str → Option Value} {I : Addr} {oI : Obj} {C : Addr} {oC : Obj} {D : Addr} {ys : List Value} {k tk i : Nat} {news tl big : List (Addr × Obj)} {row : Nat → Int × Int × Bool} {X Y : Int} {bb : Bool} {t u : Tok}
    (F : Fr h₀ L h' m₀) (N : News h₀ L h' big) (hs : ∀ p ∈ (I, oI) :: (C, oC) :: (D, listOf ys.toArray k) :: news, p ∈ big) (hm : (tp, tupOf [Value.int X t, Value.int Y u, Value.bool bb] 0) ∈ big) (htl : ∀ p ∈ tl, p ∈ big)
    (aI : ∀ p ∈ news ++ tl, p.1 ≠ I) (aC : ∀ p ∈ news ++ tl, p.1 ≠ C) (aD : ∀ p ∈ news ++ tl, p.1 ≠ D) (hT : TupsIn tl ys ((List.range i).map row)) (e : row i = (X, Y, bb)) (ne : tp ≠ I ∧ tp ≠ C ∧ tp ≠ D) :
    BPost s h₀ L m₀ I oI C oC D ys k (JT news row (i + 1)) (.ref tp) { s with heap := h', toks := tk } := by
  have up : ∀ {b : Addr}, (∀ p ∈ news ++ tl, p.1 ≠ b) → tp ≠ b → ∀ p ∈ news ++ (tp, tupOf [Value.int X t, Value.int Y u, Value.bool bb] 0) :: tl, p.1 ≠ b := fun a n p hp => by
    rcases List.mem_append.mp hp with hp | hp
    · exact a p (List.mem_append_left _ hp)
    · rcases List.mem_cons.mp hp with rfl | hp
      · exact n
      · exact a p (List.mem_append_right _ hp)
  refine BPost.intro (news ++ (tp, tupOf [Value.int X t, Value.int Y u, Value.bool bb] 0) :: tl) F N ?_ (up aI ne.1) (up aC ne.2.1) (up aD ne.2.2) ⟨_, rfl, ?_⟩
  · intro p hp
    simp only [List.mem_cons, List.mem_append] at hp hs
    rcases hp with rfl | rfl | rfl | hp | rfl | hp
    · exact hs _ (.inl rfl)
    · exact hs _ (.inr (.inl rfl))
    · exact hs _ (.inr (.inr (.inl rfl)))
    · exact hs _ (.inr (.inr (.inr hp)))
    · exact hm
    · exact htl _ hp
  · rw [List.range_succ, List.map_append, List.map_cons, List.map_nil, e]
    exact .snoc (hT.mono fun p hp => .tail _ hp) (.head _)
def rowAt (xs ys fs : List Int) (i : Nat) : Int × Int × Bool := (xs.getD i 0, ys.getD i 0, decide (Builtin.bitAnd (fs.getD i 0) 1 ≠ 0))
def JoinP (P : Value → Prop) (s : Shared) (h₀ : Heap) (L : Addr) (m : Str → Option Value) (news : List (Addr × Obj)) (v : Value) (s' : Shared) : Prop := P v ∧ ∃ h' tk, s' = { s with heap := h', toks := tk } ∧ Fr h₀ L h' m ∧ News h₀ L h' news
theorem JoinP.intro {P : Value → Prop} {s : Shared} {h₀ h' : Heap} {L : Addr} {m : Str → Option Value} {news big : List (Addr × Obj)} {v : Value} {tk : Nat} (hP : P v) (F : Fr h₀ L h' m) (N : News h₀ L h' big) (hs : ∀ p ∈ news, p ∈ big) : JoinP P s h₀ L m news v { s with heap := h', toks := tk } := ⟨hP, h', tk, rfl, F, news_sub N hs⟩
theorem join_eval {M : Model} {A : Around} {E : Value → Shared → Prop} {s : Shared} {h₀ : Heap} {L : Addr} {m : Str → Option Value} {news : List (Addr × Obj)} {t : Sem Value} {Q : Value → Shared → Prop} (P : Value → Prop) (F : Fr h₀ L s.heap m) (N : News h₀ L s.heap news)
    (h : wpAny M A t (JoinP P s h₀ L m news) E s) (k : ∀ v h' tk, P v → Fr h₀ L h' m → News h₀ L h' news → Q v { s with heap := h', toks := tk }) : wpAny M A t Q E s :=
  have _ := F
  have _ := N
  wpAny_mono h (fun v s' hp => by
    obtain ⟨hP, h', tk, rfl, F', N'⟩ := hp
    exact k v h' tk hP F' N') fun _ _ e => e
theorem lastD_ge {es : List Int} (h : ∀ v ∈ es, 0 ≤ v ∧ v < 65536) : -1 ≤ es.getLastD (-1) ∧ es.getLastD (-1) < 65536 := by
  rw [List.getLastD_eq_getLast?]
  cases e : es.getLast? with
  | none => exact ⟨by decide, by decide⟩
  | some v =>
    have := h v (List.mem_of_getLast? e)
    exact ⟨by simp only [Option.getD_some]; omega, by simp only [Option.getD_some]; omega⟩
section
variable {M : Model} {A : Around} {E : Value → Shared → Prop} {s : Shared} {K : Frag} {h₀ : Heap} {L C c : Addr} {m mC mg mb : Str → Option Value} {p : Program} {loose : List Str} {x : Str} {pos : Pos} {v : Value} {Q : Value → Shared → Prop} {news : List (Addr × Obj)} {o oC : Obj} {scope : Scope} {cl : List (Str × Addr)} {env : Env}
theorem blkL (hk : (compEnvC scope cl C env).scope.kind = .function) (hx : (compEnvC scope cl C env).kindOf x = some .local) (hd : (x == ("__debug__" : Str)) = false)
    (N : News h₀ L s.heap news) (n : NsOf oC m) (hm : (C, oC) ∈ news) (hv : m x = some v) (h : Q v s) :
    wpAny M A (eval (.Name x pos) (compEnvC scope cl C env)) Q E s := wpAny_Name (wpAny_loadName_local hk hx (n.ns (N _ hm).1) hv h) hd
theorem blkC (hk : (compEnvC scope cl C env).scope.kind = .function) (hx : (compEnvC scope cl C env).kindOf x = some .cell) (hb : (x == ("__debug__" : Str)) = false)
    (N : News h₀ L s.heap news) (hc : cl.lookup x = some c) (hm : (c, o) ∈ news) (hd : o.data = .cell (some v)) (h : Q v s) :
    wpAny M A (eval (.Name x pos) (compEnvC scope cl C env)) Q E s := wpAny_Name (wpAny_loadName_cell hk hx hc ⟨o, N.get hm, hd⟩ h) hb
theorem blkK (hg : (compEnvC scope cl C env).globals = mainGlobals) (hk : (compEnvC scope cl C env).scope.kind = .function) (hx : (compEnvC scope cl C env).kindOf x = some .globalImplicit) (hd : (x == ("__debug__" : Str)) = false)
    (F : Fr h₀ L s.heap m) (X : K.In h₀) (T : TopRead p loose mg mb h₀) (e : nsIn K mainGlobals x = some (some v)) (h : Q v s) :
    wpAny M A (eval (.Name x pos) (compEnvC scope cl C env)) Q E s := nameG_K F X T e h hg hk hx hd
theorem blkB (hg : (compEnvC scope cl C env).globals = mainGlobals) (hbi : (compEnvC scope cl C env).builtins = builtinsNs) (hk : (compEnvC scope cl C env).scope.kind = .function) (hx : (compEnvC scope cl C env).kindOf x = some .globalImplicit) (hd : (x == ("__debug__" : Str)) = false)
    (F : Fr h₀ L s.heap m) (X : K.In h₀) (T : TopRead p loose mg mb h₀) (e : nsIn K mainGlobals x = some none) (hv : bootBuiltins x = some v) (hn : x ≠ "__name__") (h : Q v s) :
    wpAny M A (eval (.Name x pos) (compEnvC scope cl C env)) Q E s :=
  Name_function_global hk hx (loadGlobal_builtin (env := compEnvC scope cl C env) (by rw [hg]; exact T.g.keeps F.keep) (mg_none_of X T.g e) (by rw [hbi]; exact T.b.keeps F.keep) ((T.builtins x hn).trans hv) h) hd
end
end
section
open PySem PySem.W PySem.Calls PyProof.Rows
-- XPure2
theorem lnXPure2_0 : True := by
  w_top off
  k_with_none
  trivial
/-- a word, a part, the whole reader -/
def RW : List Int → Option (Int × List Int)
  | a :: b :: r => some (a * 256 + b, r)
  | _ => none
def RP (z : Int) (l : List Int) : Option (List Int × List Int) := if z > l.length then none else some (l.take z.toNat, l.drop z.toNat)
structure Gl where
  es : List Int
  ins : List Int
  fs : List Int
  xs : List Int
  ys : List Int
def RS (N : Nat) (l : List Int) : Option (Gl × List Int) :=
  (RE N (-1) l).bind fun r1 => (RW r1.2).bind fun r2 => (RP r2.1 r2.2).bind fun r3 => (RF (r1.1.getLastD (-1) + 1) r3.2).bind fun r4 =>
    (RD 2 16 r4.1 0 r4.2).bind fun r5 => (RD 4 32 r4.1 0 r5.2).bind fun r6 => some (⟨r1.1, r3.1, r4.1, r5.1, r6.1⟩, r6.2)
/-- a reader sees no further than it reads -/
def Loc {α : Type} (R : List Int → Option (α × List Int)) : Prop := ∀ l v r e, R l = some (v, r) → R (l ++ e) = some (v, r ++ e)
theorem pre_eq {a v r : List Int} {o : Option (List Int × List Int)} (h : pre a o = some (v, r)) : ∃ v', o = some (v', r) ∧ v = a ++ v' := by
  cases o with
  | none => cases h
  | some p =>
    obtain ⟨v', r'⟩ := p
    simp only [pre, Option.map_some, Option.some.injEq, Prod.mk.injEq] at h
    exact ⟨v', by rw [h.2], h.1.symm⟩
theorem loc_pre {a l v r e : List Int} {o o' : Option (List Int × List Int)} (ih : ∀ v r, o = some (v, r) → o' = some (v, r ++ e)) (h : pre a o = some (v, r)) : pre a o' = some (v, r ++ e) := by
  obtain ⟨v', h1, rfl⟩ := pre_eq h
  rw [ih _ _ h1, pre_some]
theorem RE_loc : ∀ n last, Loc (RE n last)
  | 0, _ => fun l v r e h => by
    simp only [RE, Option.some.injEq, Prod.mk.injEq] at h ⊢
    exact ⟨h.1, by rw [h.2]⟩
  | n + 1, last => fun l v r e h => by
    match l with
    | [] => cases h
    | [x] => cases h
    | x :: y :: t =>
      simp only [List.cons_append, RE] at h ⊢
      split
      · rw [if_pos (by assumption)] at h; cases h
      · rw [if_neg (by assumption)] at h
        exact loc_pre (l := t) (fun v r q => RE_loc n _ t v r e q) h
theorem RF_loc : ∀ (l : List Int) (n : Int) (v r e : List Int), RF n l = some (v, r) → RF n (l ++ e) = some (v, r ++ e)
  | [], n, v, r, e, h => by
    by_cases h0 : n = 0
    · subst h0
      rw [RF_zero] at h ⊢
      simp only [Option.some.injEq, Prod.mk.injEq] at h ⊢
      exact ⟨h.1, by rw [h.2]⟩
    · rw [RF, if_neg h0] at h; cases h
  | [f], n, v, r, e, h => by
    by_cases hn : n < 0
    · rw [RF_neg hn] at h; cases h
    by_cases h0 : n = 0
    · subst h0
      rw [RF_zero] at h ⊢
      simp only [Option.some.injEq, Prod.mk.injEq] at h ⊢
      exact ⟨h.1, by rw [h.2]⟩
    have hp : 0 < n := by omega
    by_cases hf : Builtin.bitAnd f 8 = 0
    · rw [RF_one hp hf] at h
      rw [List.cons_append, RF_one hp hf]
      exact loc_pre (l := []) (fun v r q => RF_loc [] _ v r e q) h
    · rw [RF_cut hp hf] at h; cases h
  | f :: c :: t, n, v, r, e, h => by
    by_cases hn : n < 0
    · rw [RF_neg hn] at h; cases h
    by_cases h0 : n = 0
    · subst h0
      rw [RF_zero] at h ⊢
      simp only [Option.some.injEq, Prod.mk.injEq] at h ⊢
      exact ⟨h.1, by rw [h.2]⟩
    have hp : 0 < n := by omega
    by_cases hf : Builtin.bitAnd f 8 = 0
    · rw [RF_one hp hf] at h
      rw [List.cons_append, RF_one hp hf]
      exact loc_pre (l := []) (fun v r q => RF_loc (c :: t) _ v r e q) h
    · rw [RF_run hp hf] at h
      rw [List.cons_append, List.cons_append, RF_run hp hf]
      exact loc_pre (l := []) (fun v r q => RF_loc t _ v r e q) h
theorem RD_loc (sh sa : Int) : ∀ (fs : List Int) (at' : Int), Loc (RD sh sa fs at')
  | [], _ => fun l v r e h => by
    simp only [RD, Option.some.injEq, Prod.mk.injEq] at h ⊢
    exact ⟨h.1, by rw [h.2]⟩
  | f :: fs, at' => fun l v r e h => by
    rw [RD.eq_def] at h ⊢
    dsimp only at h ⊢
    split
    · rw [if_pos (by assumption)] at h
      match l, h with
      | x :: t, h =>
        dsimp only [List.cons_append] at h ⊢
        split
        · rw [if_pos (by assumption)] at h
          exact loc_pre (l := t) (fun v r q => RD_loc sh sa fs _ t v r e q) h
        · rw [if_neg (by assumption)] at h
          exact loc_pre (l := t) (fun v r q => RD_loc sh sa fs _ t v r e q) h
    · rw [if_neg (by assumption)] at h
      split
      · rw [if_pos (by assumption)] at h
        match l, h with
        | x :: y :: t, h =>
          dsimp only [List.cons_append] at h ⊢
          exact loc_pre (l := t) (fun v r q => RD_loc sh sa fs _ t v r e q) h
      · rw [if_neg (by assumption)] at h
        exact loc_pre (l := l) (fun v r q => RD_loc sh sa fs _ l v r e q) h
theorem RW_loc : Loc RW := fun l v r e h => by
  match l, h with
  | x :: y :: t, h =>
    simp only [RW, List.cons_append, Option.some.injEq, Prod.mk.injEq] at h ⊢
    exact ⟨h.1, by rw [h.2]⟩
theorem RP_loc (z : Int) (hz : 0 ≤ z) : Loc (RP z) := fun l v r e h => by
  unfold RP at h ⊢
  split at h
  · cases h
  · simp only [Option.some.injEq, Prod.mk.injEq] at h
    rw [if_neg (by rw [List.length_append]; omega), List.take_append_of_le_length (by omega), List.drop_append_of_le_length (by omega), h.1, h.2]
theorem RW_nonneg {l : List Int} {z : Int} {r : List Int} (hl : ∀ v ∈ l, 0 ≤ v) (h : RW l = some (z, r)) : 0 ≤ z := by
  match l, h with
  | x :: y :: t, h =>
    simp only [RW, Option.some.injEq, Prod.mk.injEq] at h
    have h1 := hl x (.head _)
    have h2 := hl y (.tail _ (.head _))
    omega
theorem RE_rest : ∀ (n : Nat) (last : Int) (l v r : List Int), RE n last l = some (v, r) → ∀ x ∈ r, x ∈ l
  | 0, _, l, v, r, h => by
    simp only [RE, Option.some.injEq, Prod.mk.injEq] at h
    rw [h.2]; exact fun _ q => q
  | n + 1, last, l, v, r, h => by
    match l, h with
    | x :: y :: t, h =>
      simp only [RE] at h
      split at h
      · cases h
      · obtain ⟨v', h1, _⟩ := pre_eq h
        exact fun z hz => .tail _ (.tail _ (RE_rest n _ t v' r h1 z hz))
theorem RS_loc (N : Nat) {l : List Int} {v : Gl} {r e : List Int} (hl : ∀ v ∈ l, 0 ≤ v) (h : RS N l = some (v, r)) : RS N (l ++ e) = some (v, r ++ e) := by
  unfold RS at h ⊢
  obtain ⟨⟨es, l1⟩, e1, h⟩ := Option.bind_eq_some_iff.mp h
  obtain ⟨⟨z, l2⟩, e2, h⟩ := Option.bind_eq_some_iff.mp h
  obtain ⟨⟨ins, l3⟩, e3, h⟩ := Option.bind_eq_some_iff.mp h
  obtain ⟨⟨fs, l4⟩, e4, h⟩ := Option.bind_eq_some_iff.mp h
  obtain ⟨⟨xs, l5⟩, e5, h⟩ := Option.bind_eq_some_iff.mp h
  obtain ⟨⟨ys, l6⟩, e6, h⟩ := Option.bind_eq_some_iff.mp h
  simp only [Option.some.injEq, Prod.mk.injEq] at h
  obtain ⟨rfl, rfl⟩ := h
  dsimp only at e2 e3 e4 e5 e6
  have hz : 0 ≤ z := RW_nonneg (fun v hv => hl v (RE_rest _ _ _ _ _ e1 v hv)) e2
  rw [RE_loc N _ l _ _ e e1]
  dsimp only [Option.bind_some]
  rw [RW_loc _ _ _ e e2]
  dsimp only [Option.bind_some]
  rw [RP_loc z hz _ _ _ e e3]
  dsimp only [Option.bind_some]
  rw [RF_loc _ _ _ _ e e4]
  dsimp only [Option.bind_some]
  rw [RD_loc _ _ _ _ _ _ _ e e5]
  dsimp only [Option.bind_some]
  rw [RD_loc _ _ _ _ _ _ _ e e6]
  rfl
/-- one that is too short -/
theorem RS_short (N : Nat) {l : List Int} {x : Int} {v : Gl} (hl : ∀ v ∈ l, 0 ≤ v) (h : RS N (l ++ [x]) = some (v, [])) : RS N l = none := by
  cases q : RS N l with
  | none => rfl
  | some p =>
    obtain ⟨v', r⟩ := p
    rw [RS_loc N hl q] at h
    simp at h
/-- the bits of a mark -/
def Bits (f : Int) : Int × Int × Int × Int × Int := (Builtin.bitAnd f 1, Builtin.bitAnd f 2, Builtin.bitAnd f 4, Builtin.bitAnd f 16, Builtin.bitAnd f 32)
def PB (p : Pt) : Int × Int × Int × Int × Int := (p.on, 2 * p.c, 4 * p.c2, 16 * p.g, 32 * p.g2)
theorem bits_all : ∀ (a b c d e : Fin 2) (h : Fin 4), Builtin.bitAnd ((a.val : Int) + 2 * (b.val : Int) + 4 * (c.val : Int) + 16 * (d.val : Int) + 32 * (e.val : Int) + 64 * (h.val : Int)) 8 = 0 ∧ Builtin.bitAnd (((a.val : Int) + 2 * (b.val : Int) + 4 * (c.val : Int) + 16 * (d.val : Int) + 32 * (e.val : Int) + 64 * (h.val : Int)) + 8) 8 ≠ 0 ∧
    Bits ((a.val : Int) + 2 * (b.val : Int) + 4 * (c.val : Int) + 16 * (d.val : Int) + 32 * (e.val : Int) + 64 * (h.val : Int)) = ((a.val : Int), 2 * (b.val : Int), 4 * (c.val : Int), 16 * (d.val : Int), 32 * (e.val : Int)) ∧
    Bits (((a.val : Int) + 2 * (b.val : Int) + 4 * (c.val : Int) + 16 * (d.val : Int) + 32 * (e.val : Int) + 64 * (h.val : Int)) + 8) = ((a.val : Int), 2 * (b.val : Int), 4 * (c.val : Int), 16 * (d.val : Int), 32 * (e.val : Int)) ∧
    0 ≤ (a.val : Int) + 2 * (b.val : Int) + 4 * (c.val : Int) + 16 * (d.val : Int) + 32 * (e.val : Int) + 64 * (h.val : Int) ∧ (a.val : Int) + 2 * (b.val : Int) + 4 * (c.val : Int) + 16 * (d.val : Int) + 32 * (e.val : Int) + 64 * (h.val : Int) < 248 := by decide +kernel
theorem fin_two {x : Int} (h : x = 0 ∨ x = 1) : ∃ a : Fin 2, (a.val : Int) = x := by
  rcases h with rfl | rfl
  · exact ⟨0, rfl⟩
  · exact ⟨1, rfl⟩
theorem fin_four {x : Int} (h : x = 0 ∨ x = 1 ∨ x = 3) : ∃ a : Fin 4, (a.val : Int) = x := by
  rcases h with rfl | rfl | rfl
  · exact ⟨0, rfl⟩
  · exact ⟨1, rfl⟩
  · exact ⟨3, rfl⟩
theorem low_two {x : Int} (h : 0 ≤ x ∧ x < 2) : x = 0 ∨ x = 1 := by omega
theorem Coord.bits {x c g : Int} {ds : List Int} (h : Coord x c g ds) : (c = 0 ∨ c = 1) ∧ (g = 0 ∨ g = 1) := by
  rcases h with ⟨rfl, rfl, _⟩ | ⟨rfl, rfl, _⟩ | ⟨rfl, rfl, _⟩ | ⟨rfl, rfl, _⟩ <;> simp
theorem mark_bits {p : Pt} (h : p.Ok) : Builtin.bitAnd p.mark 8 = 0 ∧ Builtin.bitAnd (p.mark + 8) 8 ≠ 0 ∧ Bits p.mark = PB p ∧ Bits (p.mark + 8) = PB p ∧ 0 ≤ p.mark ∧ p.mark < 248 := by
  obtain ⟨h1, h2, h3, h4, _⟩ := h
  obtain ⟨a, ha⟩ := fin_two (low_two h3)
  obtain ⟨b, hb⟩ := fin_two h1.bits.1
  obtain ⟨c, hc⟩ := fin_two h2.bits.1
  obtain ⟨d, hd⟩ := fin_two h1.bits.2
  obtain ⟨e, he⟩ := fin_two h2.bits.2
  obtain ⟨z, hz⟩ := fin_four h4
  have q := bits_all a b c d e z
  rw [ha, hb, hc, hd, he, hz] at q
  exact q
/-- told marks are read -/
theorem RF_told {ms ts : List Int} (T : Told ms ts) (hm : ∀ m ∈ ms, Builtin.bitAnd m 8 = 0 ∧ Builtin.bitAnd (m + 8) 8 ≠ 0 ∧ Bits (m + 8) = Bits m) :
    ∃ fs, fs.map Bits = ms.map Bits ∧ fs.length = ms.length ∧ ∀ (n : Int) (l : List Int), (ms.length : Int) ≤ n → RF n (ts ++ l) = pre fs (RF (n - ms.length) l) := by
  induction T with
  | nil => exact ⟨[], rfl, rfl, fun n l _ => by simp [pre_nil]⟩
  | @one ms ts m T ih =>
    obtain ⟨fs, e, el, h⟩ := ih fun m hm' => hm m (List.mem_append_left _ hm')
    have g := hm m (List.mem_append_right _ (.head _))
    refine ⟨fs ++ [m], by simp [e], by simp [el], fun n l hn => ?_⟩
    simp only [List.length_append, List.length_cons, List.length_nil] at hn ⊢
    rw [List.append_assoc, h n _ (by omega), List.cons_append, List.nil_append, RF_one (by omega) g.1, pre_pre]
    congr 2
    omega
  | @run ms ts m k T hk ih =>
    obtain ⟨fs, e, el, h⟩ := ih fun m hm' => hm m (List.mem_append_left _ hm')
    have g := hm m (List.mem_append_right _ (by rw [List.mem_replicate]; exact ⟨by omega, rfl⟩))
    refine ⟨fs ++ List.replicate k (m + 8), by simp [e, g.2.2], by simp [el], fun n l hn => ?_⟩
    simp only [List.length_append, List.length_replicate] at hn ⊢
    rw [List.append_assoc, h n _ (by omega), List.cons_append, List.cons_append, List.nil_append, RF_run (by omega) g.2.1, pre_pre]
    have e1 : (1 + ((k : Int) - 1)).toNat = k := by omega
    rw [e1]
    congr 2
    omega
/-- sums along the way -/
def sums (f : Pt → Int) : Int → List Pt → List Int
  | _, [] => []
  | x, p :: r => (x + f p) :: sums f (x + f p) r
theorem sums_length (f : Pt → Int) : ∀ (pts : List Pt) (x : Int), (sums f x pts).length = pts.length
  | [], _ => rfl
  | p :: r, x => by simp [sums, sums_length f r]
theorem s16_word {x : Int} (h0 : -32768 ≤ x) (h1 : x ≤ 32767) : S16 ((x.fmod 65536).fdiv 256) (x.fmod 256) = x := by
  rw [Int.fmod_eq_emod_of_nonneg _ (by decide), Int.fmod_eq_emod_of_nonneg _ (by decide), Int.fdiv_eq_ediv_of_nonneg _ (by decide)]
  unfold S16
  split <;> omega
theorem RD_coord {sh sa f fs' : Int} {fs l : List Int} {at' x c g : Int} {ds : List Int} (h : Coord x c g ds) (h0 : -32768 ≤ x) (h1 : x ≤ 32767) (hs : Builtin.bitAnd f sh = fs' * c) (hf : fs' ≠ 0) {gs : Int} (hg : Builtin.bitAnd f sa = gs * g) (hgs : gs ≠ 0) :
    RD sh sa (f :: fs) at' (ds ++ l) = pre [at' + x] (RD sh sa fs (at' + x) l) := by
  rw [RD.eq_def]
  dsimp only
  rcases h with ⟨rfl, rfl, rfl, rfl⟩ | ⟨rfl, rfl, a, rfl, _, _, rfl⟩ | ⟨rfl, rfl, a, rfl, _, _, rfl⟩ | ⟨rfl, rfl, rfl⟩
  · rw [if_neg (by rw [hs]; omega), if_neg (by rw [hg]; omega)]
    simp
  · rw [if_pos (by rw [hs]; omega)]
    dsimp only [List.cons_append, List.nil_append]
    rw [if_pos (by rw [hg]; omega)]
  · rw [if_pos (by rw [hs]; omega)]
    dsimp only [List.cons_append, List.nil_append]
    rw [if_neg (by rw [hg]; omega), Int.sub_eq_add_neg]
  · rw [if_neg (by rw [hs]; omega), if_pos (by rw [hg]; omega)]
    dsimp only [List.cons_append, List.nil_append]
    rw [s16_word h0 h1]
theorem RD_x : ∀ (pts : List Pt) (fs : List Int) (at' : Int) (l : List Int), fs.map Bits = pts.map PB → (∀ p ∈ pts, p.Ok) → RD 2 16 fs at' (pts.flatMap Pt.ds ++ l) = some (sums Pt.first at' pts, l)
  | [], fs, at', l, e, _ => by
    have : fs = [] := List.map_eq_nil_iff.mp e
    subst this
    rfl
  | p :: r, [], at', l, e, _ => by cases e
  | p :: r, f :: fs, at', l, e, ok => by
    simp only [List.map_cons, List.cons.injEq] at e
    have hb : Builtin.bitAnd f 2 = 2 * p.c ∧ Builtin.bitAnd f 16 = 16 * p.g := by
      have := e.1
      simp only [Bits, PB, Prod.mk.injEq] at this
      exact ⟨this.2.1, this.2.2.2.1⟩
    have o := ok p (.head _)
    rw [List.flatMap_cons, List.append_assoc, RD_coord o.1 o.2.2.2.2.1.1 o.2.2.2.2.1.2 hb.1 (by decide) hb.2 (by decide), RD_x r fs _ l e.2 fun q hq => ok q (.tail _ hq), pre_some]
    rfl
theorem RD_y : ∀ (pts : List Pt) (fs : List Int) (at' : Int) (l : List Int), fs.map Bits = pts.map PB → (∀ p ∈ pts, p.Ok) → RD 4 32 fs at' (pts.flatMap Pt.es ++ l) = some (sums Pt.second at' pts, l)
  | [], fs, at', l, e, _ => by
    have : fs = [] := List.map_eq_nil_iff.mp e
    subst this
    rfl
  | p :: r, [], at', l, e, _ => by cases e
  | p :: r, f :: fs, at', l, e, ok => by
    simp only [List.map_cons, List.cons.injEq] at e
    have hb : Builtin.bitAnd f 4 = 4 * p.c2 ∧ Builtin.bitAnd f 32 = 32 * p.g2 := by
      have := e.1
      simp only [Bits, PB, Prod.mk.injEq] at this
      exact ⟨this.2.2.1, this.2.2.2.2⟩
    have o := ok p (.head _)
    rw [List.flatMap_cons, List.append_assoc, RD_coord o.2.1 o.2.2.2.2.2.1 o.2.2.2.2.2.2 hb.1 (by decide) hb.2 (by decide), RD_y r fs _ l e.2 fun q hq => ok q (.tail _ hq), pre_some]
    rfl
theorem rows_of : ∀ (pts : List Pt) (fs : List Int) (x y : Int), fs.map Bits = pts.map PB → (∀ p ∈ pts, p.Ok) →
    (List.range pts.length).map (rowAt (sums Pt.first x pts) (sums Pt.second y pts) fs) = rowsFrom x y pts
  | [], _, _, _, _, _ => rfl
  | p :: r, [], _, _, e, _ => by cases e
  | p :: r, f :: fs, x, y, e, ok => by
    simp only [List.map_cons, List.cons.injEq] at e
    have hb : Builtin.bitAnd f 1 = p.on := by
      have := e.1
      simp only [Bits, PB, Prod.mk.injEq] at this
      exact this.1
    have o := (ok p (.head _)).2.2.1
    have ih := rows_of r fs (x + p.first) (y + p.second) e.2 fun q hq => ok q (.tail _ hq)
    rw [List.length_cons, List.range_succ_eq_map, List.map_cons, List.map_map, rowsFrom, ← ih]
    congr 1
    · simp only [rowAt, sums, List.getD_cons_zero, hb, Prod.mk.injEq, true_and]
      by_cases h : p.on = 1
      · simp [h]
      · have h0 : p.on = 0 := by omega
        simp [h0]
end
section
open PySem PySem.W PySem.Calls PyProof.Rows
-- XRS
theorem lnXRS_0 : True := by
  w_top off
  k_with_none
  trivial
section
variable {bs : List Int} {p z : Int}
theorem RW_at (h0 : 0 ≤ p) (h1 : p + 2 ≤ bs.length) (hz : z = bs.getD p.toNat 0 * 256 + bs.getD (p + 1).toNat 0) : RW (bs.drop p.toNat) = some (z, bs.drop (p + 2).toNat) := by
  rw [drop_two h0 h1, RW, hz]
theorem RW_fail (h0 : 0 ≤ p) (h1 : p + 2 > bs.length) : RW (bs.drop p.toNat) = none := by
  have hs := drop_short h0 h1
  generalize bs.drop p.toNat = l at hs ⊢
  match l, hs with
  | [], _ => rfl
  | [x], _ => rfl
  | x :: y :: r, hs => exact absurd hs (by simp only [List.length_cons]; omega)
theorem RP_at (h0 : 0 ≤ p) (hz : 0 ≤ z) (h1 : p + z ≤ bs.length) : RP z (bs.drop p.toNat) = some ((bs.drop p.toNat).take z.toNat, bs.drop (p + z).toNat) := by
  unfold RP
  rw [if_neg (by rw [List.length_drop]; omega), List.drop_drop]
  have e : p.toNat + z.toNat = (p + z).toNat := by omega
  rw [e]
theorem RP_fail (h0 : 0 ≤ p) (hp : p ≤ bs.length) (h1 : p + z > bs.length) : RP z (bs.drop p.toNat) = none := by
  unfold RP
  rw [if_pos (by rw [List.length_drop]; omega)]
end
section
variable {N : Nat} {l l1 l2 l3 l4 l5 l6 es ins fs xs ys : List Int} {z : Int}
theorem RS_1 (h1 : RE N (-1) l = none) : RS N l = none := by unfold RS; rw [h1]; rfl
theorem RS_2 (h1 : RE N (-1) l = some (es, l1)) (h2 : RW l1 = none) : RS N l = none := by unfold RS; rw [h1]; dsimp only [Option.bind_some]; rw [h2]; rfl
theorem RS_3 (h1 : RE N (-1) l = some (es, l1)) (h2 : RW l1 = some (z, l2)) (h3 : RP z l2 = none) : RS N l = none := by unfold RS; rw [h1]; dsimp only [Option.bind_some]; rw [h2]; dsimp only [Option.bind_some]; rw [h3]; rfl
theorem RS_4 (h1 : RE N (-1) l = some (es, l1)) (h2 : RW l1 = some (z, l2)) (h3 : RP z l2 = some (ins, l3)) (h4 : RF (es.getLastD (-1) + 1) l3 = none) : RS N l = none := by
  unfold RS; rw [h1]; dsimp only [Option.bind_some]; rw [h2]; dsimp only [Option.bind_some]; rw [h3]; dsimp only [Option.bind_some]; rw [h4]; rfl
theorem RS_5 (h1 : RE N (-1) l = some (es, l1)) (h2 : RW l1 = some (z, l2)) (h3 : RP z l2 = some (ins, l3)) (h4 : RF (es.getLastD (-1) + 1) l3 = some (fs, l4)) (h5 : RD 2 16 fs 0 l4 = none) : RS N l = none := by
  unfold RS; rw [h1]; dsimp only [Option.bind_some]; rw [h2]; dsimp only [Option.bind_some]; rw [h3]; dsimp only [Option.bind_some]; rw [h4]; dsimp only [Option.bind_some]; rw [h5]; rfl
theorem RS_6 (h1 : RE N (-1) l = some (es, l1)) (h2 : RW l1 = some (z, l2)) (h3 : RP z l2 = some (ins, l3)) (h4 : RF (es.getLastD (-1) + 1) l3 = some (fs, l4)) (h5 : RD 2 16 fs 0 l4 = some (xs, l5)) (h6 : RD 4 32 fs 0 l5 = none) : RS N l = none := by
  unfold RS; rw [h1]; dsimp only [Option.bind_some]; rw [h2]; dsimp only [Option.bind_some]; rw [h3]; dsimp only [Option.bind_some]; rw [h4]; dsimp only [Option.bind_some]; rw [h5]; dsimp only [Option.bind_some]; rw [h6]; rfl
theorem RS_7 (h1 : RE N (-1) l = some (es, l1)) (h2 : RW l1 = some (z, l2)) (h3 : RP z l2 = some (ins, l3)) (h4 : RF (es.getLastD (-1) + 1) l3 = some (fs, l4)) (h5 : RD 2 16 fs 0 l4 = some (xs, l5)) (h6 : RD 4 32 fs 0 l5 = some (ys, l6)) : RS N l = some (⟨es, ins, fs, xs, ys⟩, l6) := by
  unfold RS; rw [h1]; dsimp only [Option.bind_some]; rw [h2]; dsimp only [Option.bind_some]; rw [h3]; dsimp only [Option.bind_some]; rw [h4]; dsimp only [Option.bind_some]; rw [h5]; dsimp only [Option.bind_some]; rw [h6]; rfl
end
abbrev outD (q : OK) (cl : Addr) (ins : Array UInt8) : Obj := dictOf [⟨q.h1, .str (Str.ofString "contours") q.t1, .ref cl⟩, ⟨q.h2, .str (Str.ofString "instructions") q.t2, .bytes ins q.tb⟩] 2
/-- what read_simple tells -/
def Told9 (N : Nat) (bs : List Int) (p : Int) (p' : Int) (ins : Array UInt8) (pv : List Value) (cs : List (List Value)) (rr : List (Int × Int × Bool)) : Prop :=
  ((N = 0 ∧ p = bs.length) ∧ p' = p ∧ KBw.bInts ins = [] ∧ pv = [] ∧ cs = [] ∧ rr = []) ∨
  (¬(N = 0 ∧ p = bs.length) ∧ ∃ g, RS N (bs.drop p.toNat) = some (g, bs.drop p'.toNat) ∧ KBw.bInts ins = g.ins ∧ cs = cuts pv 0 g.es ∧ rr = (List.range (g.es.getLastD (-1) + 1).toNat).map (rowAt g.xs g.ys g.fs))
end
section
open PySem PySem.W PySem.Calls PyProof.Rows
-- XRead9
set_option maxRecDepth 100000
theorem lnXRead9_1 : True := by
  w_top off
  k_with_none
  (k_with "c enter" => (refine wpAny_call ?_; k_dflt (refine' enter (by assumption) (by first | assumption | exact use_nil) (by k_is) (by k_is) (by walk_at "c room") (by exact BindsTo.of_eq rfl) (by exact locs rfl) ?_ (by exact rfl) (by exact rfl) (by exact rfl) (by decide); k_whole; intro _ _ _ _ _ _ _ _ _ _ _ _ _ _; (try dsimp only); (try k_fold))))
  (k_with "c room" => first | assumption | decide | ((try simp only [depth_under_make, depth_under_kw, depth_in1, depth_deeper, depth_caller]); (try dsimp only [Ar]); first | exact room2 (by assumption) (by decide) | exact room1 (by assumption) (by decide) | exact room0 (by assumption) | omega))
  (k_with "c pick" => first | exact Pick.head | exact Pick.tail (by walk_at "c pick"))
  (k_with "c go" => repeat' (first | ((fail_if_success (with_reducible show wpAny _ _ (pyIter (Value.ref _)) _ _ _)); (fail_if_success (with_reducible show wpAny _ _ (exec (Stmt.While _ _ _ _) _) _ _ _)); first | (k_unfold; (try dsimp only)) | walk1 | (dsimp only; walk1))))
  (k_with "subscriptTail Name Constant ref int" => (k_here; (with_reducible show wpAny _ _ (subscriptTail _ _ (Value.ref _) (Value.int _ _)) _ _ _); (with_unfolding_all refine' my_item (by is_list) (by decide) (by decide) (by rfl) ?_ (by with_unfolding_all rfl); k_whole)))
  (k_with "call builtin:len" => (k_here; (with_reducible show wpAny _ _ (call (Value.builtin "len") [Value.ref _]) _ _ _); k_dflt (refine' my_len (by is_list) (by walk_at "c fit") ?_; k_whole)))
  (k_with "c via1" => (k_dflt (refine' via1 (by assumption) (by assumption) (by assumption) (by assumption) (by walk_at "c pick") (by k_all) (by first | exact rfl | assumption) ?_)))
  (k_with "c via0" => (k_dflt (refine' via0 (by assumption) (by assumption) (by assumption) (by assumption) (by first | exact rfl | assumption) ?_)))
  (k_with "c num" => first | assumption | decide | exact Int.natCast_nonneg _ | exact Nat.lt_of_lt_of_le (by assumption) (by decide) | exact size2 (by assumption) (by assumption) (by decide) | omega)
  (k_with "call ref" => (k_here; (with_reducible show wpAny _ _ (call (Value.ref 218) [Value.ref _, Value.int _ _]) _ _ _); walk_at "c via1"; intro cC cS cK; k_dflt (refine' take_spec cC cS (by walk_at "c num") (by walk_at "c num") (by walk_at "c num") (by walk_at "c num") (by walk_at "c room") ?_); clear cC cS; intro _ _ _ _ _ _ _ _ _ _ _ _ zzS zzW; (refine And.elim (fun _ zzN => ?_) (cK _ _ zzS zzW)); clear cK zzS zzW; (try dsimp only [List.cons_append, List.nil_append] at zzN); (try dsimp only); (try k_sweep)))
  (k_with "c fit" => first | assumption | exact Nat.le_of_ble_eq_true rfl | exact Nat.lt_of_lt_of_le (by assumption) (by decide) | exact size2 (by assumption) (by assumption) (by decide) | omega | ((simp only [List.length_cons, List.length_append, List.length_nil]); omega))
  (k_with "c itemN" => (k_here; (with_reducible show wpAny _ _ (subscriptTail _ _ (Value.ref _) (Value.int _ _)) _ _ _); (with_unfolding_all refine' my_itemN (by is_list) (by walk_at "c num") (by walk_at "c num") (by walk_at "c fit") ?_ (by with_unfolding_all rfl); k_whole)))
  (k_with "c end" => ((try k_unfold); (try dsimp only)))
  (k_with "c same" => exact same_of (by assumption) (by assumption))
  (k_with "c sub" => first | exact List.forall_mem_nil _ | exact fun _ h => h | exact List.forall_mem_cons.mpr ⟨by k_mem, by walk_at "c sub"⟩)
  (k_with "c now" => first | exact now_of (by assumption) (by assumption) | exact now_sub (by assumption) (by assumption) (by walk_at "c sub"))
  (k_with "c ints" => first | assumption | exact IntsAre.nil | exact IntsAre.cons _ _ IntsAre.nil | exact IntsAre.cons _ _ (IntsAre.cons _ _ IntsAre.nil) | exact IntsAre.cons _ _ (IntsAre.cons _ _ (IntsAre.cons _ _ IntsAre.nil)))
  (k_with "k_all" => first | exact all_ltS (by assumption) (by walk_at "c tail") | fail)
  (k_with "k_all" => first | exact List.forall_mem_nil _ | (refine' List.forall_mem_cons.mpr ⟨(by k_ne), (by k_all)⟩))
  (k_with "k_all" => first | (with_reducible assumption) | exact all_lt (by with_reducible assumption) | fail)
  (k_with "c lt" => first | assumption | exact lt_mem (by assumption) (by k_mem) | exact lt_mem2 (by assumption) (by assumption) (by k_mem) | exact Nat.lt_succ_self _ | exact Nat.lt_succ_of_lt (by walk_at "c lt"))
  (k_with "k_ne" => first | exact Apt.ne (by assumption) | exact (Apt.ne (by assumption)).symm | exact NewAt.ne (by assumption) (by k_mem) | exact (NewAt.ne (by assumption) (by k_mem)).symm | exact ne_gt (by assumption) (by k_mem) | exact ne_lt (by assumption) (by k_mem) | exact Nat.ne_of_gt (by walk_at "c lt") | exact Nat.ne_of_lt (by walk_at "c lt") | (refine neN ?_; (try dsimp only); omega))
  (k_with "k_mem" => first | exact lm0 | exact lm1 | exact lm2 | exact lm3 | (refine' lm4 ?_; k_mem))
  (k_with "le" => k_dflt (exact Nat.le_of_ble_eq_true rfl))
  (k_with "lt" => k_dflt (exact Nat.le_of_ble_eq_true rfl))
  (k_with "c size" => first | assumption | exact Nat.le_of_ble_eq_true rfl | exact Nat.lt_of_lt_of_le (by assumption) (by decide) | exact size2 (by assumption) (by assumption) (by decide) | omega | ((simp only [List.length_cons, List.length_append, List.length_nil]); omega))
  (k_with "call builtin:list.append" => (k_here; (with_reducible show wpAny _ _ (call (Value.builtin "list.append") [Value.ref _, _]) _ _ _); k_dflt (refine' my_append (by k_asm) (by k_asm) (by k_upd) (by walk_at "c size") ?_; k_whole); intro _ _ _; (try k_sweep)))
  (k_with "binaryOp Add ref ref" => (k_here; (with_reducible show wpAny _ _ (binaryOp Operator.Add (Value.ref _) (Value.ref _)) _ _ _); k_dflt (refine' my_addL (by k_asm) (by k_asm) (by is_list) (by is_list) (by walk_at "c size") ?_; k_whole); intro _ _ _ _ _; (try k_sweep)))
  (k_with "c tail" => (intro _ zzhp; repeat (first | exact zzhp | refine List.mem_cons_of_mem _ ?_)))
  (k_with "c rest" => (intro _ zzq1 zzq2 zzq3; (repeat (first | refine upd_ne zzq1 ?_ | refine upd_ne (ne_stored zzq3 (by decide +kernel)) ?_ | refine upd_ne (zzq2 (_, _) (by k_mem)) ?_ | exact kst_end zzq3 | refine kst_mid (not_in_cons (ne_stored zzq3 (by decide +kernel)) not_in_nil) ?_ | refine kst_ne (ne_stored zzq3 (by decide +kernel)) ?_ | refine kst_ne (zzq2 (_, _) (by k_mem)) ?_))))
  (k_with "c restW" => (intro _ zzq2 zzq3; (repeat (first | refine upd_ne (ne_stored zzq3 (by decide +kernel)) ?_ | refine upd_ne (zzq2 (_, _) (by k_mem)) ?_ | exact kst_end zzq3 | refine kst_mid (not_in_cons (ne_stored zzq3 (by decide +kernel)) not_in_nil) ?_ | refine kst_ne (ne_stored zzq3 (by decide +kernel)) ?_ | refine kst_ne (zzq2 (_, _) (by k_mem)) ?_))))
  (k_with "c ps" => first | exact List.forall_mem_nil _ | exact List.forall_mem_cons.mpr ⟨rfl, by walk_at "c ps"⟩)
  (k_with "c itemI" => (k_here; (with_reducible show wpAny _ _ (subscriptTail _ _ (Value.ref _) (Value.int _ _)) _ _ _); (with_unfolding_all refine' my_itemI (by is_list) (by with_reducible assumption) (by walk_at "c num") (by walk_at "c num") (by walk_at "c fit") ?_ (by with_unfolding_all rfl); k_whole); intro _))
  (k_with "exec Raise some none" => (k_here; k_dflt (refine' font_raise (by assumption) (by assumption) (by assumption) (by exact rfl) (by walk_at "c room") (by exact rfl) (by exact rfl) (by decide +kernel) ?_; intro _ _ _ _ _ _ _ _; (try k_unfold); (try dsimp only); refine' font_leave (by assumption) (by assumption) (by assumption) (by assumption) (by assumption) ?_ (by exact rfl); intro _ _ _; (try dsimp only))))
  (k_with "call type:bytes cons nil bytes" => (k_here; refine bb_call ?_))
  (k_with "call type:bytes" => (k_here; (with_reducible show wpAny _ _ (call (Value.type "bytes") [Value.bytes _ _]) _ _ _); refine bb_call ?_))
  (k_with "leaving ref" => (k_here; k_dflt (refine' leave_onSX (by assumption) (by assumption) (by assumption) (by assumption) ?_; k_whole); intro _ zzR zzU; (try dsimp only at zzR zzU ⊢)))
  (k_with "storeName" => (dsimp only; walk_at "storeName"))
  (k_with "c via0E" => (k_dflt (refine' via0E (by assumption) (by assumption) (by assumption) (by assumption) (by first | exact rfl | assumption) ?_)))
  (k_with "c via2E" => (k_dflt (refine' via2E (by assumption) (by assumption) (by assumption) (by assumption) (by walk_at "c pick") (by walk_at "c pick") (by k_all) (by k_all) (by first | exact rfl | assumption) ?_)))
  (k_with "c fault" => (intro _ _ _ _ _ _; (try dsimp only)))
  (k_with "call ref" => (k_here; (try dsimp only [List.cons_append, List.nil_append]); (with_reducible show wpAny _ _ (call (Value.ref 150) [Value.ref _]) _ _ _); walk_at "c via2E"; intro cC cO cD cn cF cK; (refine' byte_spec cC cO cD cn (by assumption) (by walk_at "c num") (by walk_at "c num") (by walk_at "c num") (by walk_at "c room") ?_ ?_); (all_goals first | (intro _ _ _ _ _ _ _ _ zzS zzW; (refine And.elim (fun _ zzN => ?_) (cK _ _ zzS zzW)); clear cK cC cO cD cn cF zzS zzW; (try dsimp only [List.cons_append, List.nil_append] at zzN); (try dsimp only); (try k_sweep)) | (clear cC cO cD cn cK; walk_at "c fault"))))
  (k_with "call ref" => (k_here; (try dsimp only [List.cons_append, List.nil_append]); (with_reducible show wpAny _ _ (call (Value.ref 157) [Value.ref _]) _ _ _); walk_at "c via2E"; intro cC cO cD cn cF cK; (refine' oword_spec cC cO cD cn (by assumption) (by walk_at "c num") (by walk_at "c num") (by walk_at "c num") (by walk_at "c room") ?_ ?_); (all_goals first | (intro _ _ _ _ _ _ _ _ zzS zzW; (refine And.elim (fun _ zzN => ?_) (cK _ _ zzS zzW)); clear cK cC cO cD cn cF zzS zzW; (try dsimp only [List.cons_append, List.nil_append] at zzN); (try dsimp only); (try k_sweep)) | (clear cC cO cD cn cK; walk_at "c fault"))))
  (k_with "call ref" => (k_here; (try dsimp only [List.cons_append, List.nil_append]); (with_reducible show wpAny _ _ (call (Value.ref 164) [Value.ref _]) _ _ _); walk_at "c via2E"; intro cC cO cD cn cF cK; (refine' signed_spec cC cO cD cn (by assumption) (by walk_at "c num") (by walk_at "c num") (by walk_at "c num") (by walk_at "c room") ?_ ?_); (all_goals first | (intro _ _ _ _ _ _ _ _ zzS zzW; (refine And.elim (fun _ zzN => ?_) (cK _ _ zzS zzW)); clear cK cC cO cD cn cF zzS zzW; (try dsimp only [List.cons_append, List.nil_append] at zzN); (try dsimp only); (try k_sweep)) | (clear cC cO cD cn cK; walk_at "c fault"))))
  (k_with "call ref" => (k_here; (try dsimp only [List.cons_append, List.nil_append]); (with_reducible show wpAny _ _ (call (Value.ref 171) [Value.ref _, Value.int _ _]) _ _ _); walk_at "c via2E"; intro cC cO cD cn cF cK; (refine' part_spec cC cO cD cn (by assumption) (by walk_at "c num") (by walk_at "c num") (by walk_at "c num") (by walk_at "c num") (by walk_at "c num") (by walk_at "c room") ?_ ?_); (all_goals first | (intro _ _ _ _ _ _ _ zzS zzW; (refine And.elim (fun _ zzN => ?_) (cK _ _ zzS zzW)); clear cK cC cO cD cn cF zzS zzW; (try dsimp only [List.cons_append, List.nil_append] at zzN); (try dsimp only); (try k_sweep)) | (clear cC cO cD cn cK; walk_at "c fault"))))
  (k_with "c enterC" => (refine wpAny_call ?_; k_dflt (refine' enterC (by assumption) (by first | assumption | exact use_nil) (by k_is) (by k_is) (by walk_at "c room") (by exact BindsTo.of_eq rfl) (by exact rfl) (by decide +kernel) ?_ (by exact rfl) (by exact rfl) (by exact rfl); k_whole; intro _ _ _ _ _ _ _ _ _ _ _ _ zzN zzY _ _ _ _; k_cells zzY; (try dsimp only [List.cons_append, List.nil_append] at zzN); (try dsimp only); (try k_fold))))
  (k_with "c init" => (refine' code_def (by k_asm) (by k_asm) (by k_asm) (by k_asm) (by k_asm) (by exact rfl) (by exact rfl) (by exact rfl) (by k_is) (by k_is) (by walk_at "c room") (by first | exact BindsTo.of_eq rfl | exact binds_K (by k_in) rfl (by k_is) rfl rfl rfl) (by exact locs rfl) ?_ (by exact rfl) (by exact rfl) (by exact rfl) (by decide); k_whole; intro _ _ _ _ _ _ zzB _ _; (try dsimp only); (try k_lift zzB); (try k_fold)))
  (k_with "call ref" => (k_here; k_dflt (refine' call_cls (by k_asm) (by k_asm) (by k_asm) (by k_is) (by k_is) (by k_is) ?_; k_whole; intro _ _ _ _ _ _ _; (try k_sweep); walk_at "c init")))
  (k_with "call ref" => (k_here; (with_reducible show wpAny _ _ (call (Value.ref 199) [Value.ref _, Value.int _ _]) _ _ _); walk_at "c via2E"; intro cC cO cD cn cF cK; (refine' ends_spec cC cO cD cn (by assumption) (by walk_at "c num") (by walk_at "c num") (by walk_at "c num") (by walk_at "c num") (by walk_at "c num") (by walk_at "c room") (by walk_at "c units") ?_ ?_); (all_goals first | (intro _ _ _ _ _ _ _ _ _ _ _ _ _ _ zzS zzW zzfO zzfd; (with_reducible rename News _ _ _ _ => zznO); (have zzhn1 := NewAt.mk (apart_new zznO (now_atU zzW (.tail _ (.tail _ (.head _))) (notin2 zzfO zzfd)))); (try dsimp only at zzhn1); (refine And.elim (fun _ zzN => ?_) (cK _ _ zzS zzW)); clear cK cC cO cD cn cF zzS zzW zznO; (try dsimp only [List.cons_append, List.nil_append] at zzN); (try dsimp only); (try k_sweep)) | (clear cC cO cD cn cK; walk_at "c fault"))))
  (k_with "call ref" => (k_here; (with_reducible show wpAny _ _ (call (Value.ref 185) [Value.ref _, Value.int _ _]) _ _ _); walk_at "c via2E"; intro cC cO cD cn cF cK; (refine' flags_spec cC cO cD cn (by assumption) (by walk_at "c num") (by walk_at "c num") (by walk_at "c num") (by walk_at "c num") (by walk_at "c num") (by walk_at "c room") ?_ ?_); (all_goals first | (intro _ _ _ _ _ _ _ _ _ _ _ _ _ zzS zzW zzfO zzfd; (with_reducible rename News _ _ _ _ => zznO); (have zzhn1 := NewAt.mk (apart_new zznO (now_atU zzW (.tail _ (.tail _ (.head _))) (notin2 zzfO zzfd)))); (try dsimp only at zzhn1); (refine And.elim (fun _ zzN => ?_) (cK _ _ zzS zzW)); clear cK cC cO cD cn cF zzS zzW zznO; (try dsimp only [List.cons_append, List.nil_append] at zzN); (try dsimp only); (try k_sweep)) | (clear cC cO cD cn cK; walk_at "c fault"))))
  (k_with "call ref" => (k_here; (with_reducible show wpAny _ _ (call (Value.ref 192) [Value.ref _, Value.ref _, Value.int _ _, Value.int _ _]) _ _ _); walk_at "c via2E"; intro cC cO cD cn cF cK; (refine' deltas_spec cC cO cD cn (by assumption) (by walk_at "c num") (by walk_at "c num") (by walk_at "c num") (by is_list) (by exact ⟨by k_ne, by k_ne⟩) (by with_reducible assumption) (by walk_at "c num") (by walk_at "c room") ?_ ?_); (all_goals first | (intro _ _ _ _ _ _ _ _ _ _ _ _ _ zzS zzW zzfO zzfd; (with_reducible rename News _ _ _ _ => zznO); (have zzhn1 := NewAt.mk (apart_new zznO (now_atU zzW (.tail _ (.tail _ (.head _))) (notin2 zzfO zzfd)))); (try dsimp only at zzhn1); (refine And.elim (fun _ zzN => ?_) (cK _ _ zzS zzW)); clear cK cC cO cD cn cF zzS zzW zznO; (try dsimp only [List.cons_append, List.nil_append] at zzN); (try dsimp only); (try k_sweep)) | (clear cC cO cD cn cK; walk_at "c fault"))))
  (k_with "c units" => (dsimp only [Around.deeper, Ar]; first | exact room2 (by assumption) (by decide) | exact room1 (by assumption) (by decide) | omega))
  (k_with "eval Name" => (k_here; (with_reducible show wpAny _ _ (eval (PySem.Expr.Name _ _) (compEnvC _ _ _ _)) _ _ _); k_dflt (refine' blkB (by rfl) (by rfl) (by rfl) (by rfl) (by decide) (by k_asm) (by k_asm) (by k_asm) (by k_is) (by boot_by_name) (by decide) ?_; k_whole)))
  (k_with "eval Name" => (k_here; (with_reducible show wpAny _ _ (eval (PySem.Expr.Name _ _) (compEnvC _ _ _ _)) _ _ _); k_dflt (refine' blkK (by rfl) (by rfl) (by rfl) (by decide) (by k_asm) (by k_asm) (by k_asm) (by k_is) ?_; k_whole)))
  (k_with "eval Name" => (k_here; (with_reducible show wpAny _ _ (eval (PySem.Expr.Name _ _) (compEnvC _ _ _ _)) _ _ _); k_dflt (refine' blkC (by rfl) (by rfl) (by decide) (by k_asm) (by rfl) (by k_mem) (by k_asm) ?_; k_whole)))
  (k_with "eval Name" => (k_here; (with_reducible show wpAny _ _ (eval (PySem.Expr.Name _ _) (compEnvC _ _ _ _)) _ _ _); k_dflt (refine' blkL (by rfl) (by rfl) (by decide) (by k_asm) (by with_reducible assumption) (by k_mem) (by exact if_pos rfl) ?_; k_whole)))
  (k_with "compareOp NotEq ref ref" => (k_here; (with_reducible show wpAny _ _ (compareOp CmpOp.NotEq (Value.ref _) (Value.ref _)) _ _ _); (with_unfolding_all refine' ne_intsK (by is_list) (by with_reducible assumption) (by is_list) (by exact IntsAre.nil) (by dsimp only [Around.deeper, Ar]; first | exact room2 (by assumption) (by decide) | exact room1 (by assumption) (by decide) | omega) ?_; k_whole)))
  (k_with "subscriptTail Name" => (k_here; (with_reducible show wpAny _ _ (subscriptTail _ _ (Value.ref _) (Value.int (-1) _)) _ _ _); k_dflt (with_unfolding_all refine' my_lastI (by is_list) (by with_reducible assumption) (by refine List.length_pos_iff.mpr ?_; simp_all only [Bool.not_eq_true', decide_eq_false_iff_not, ne_eq, not_false_eq_true]) (by omega) ?_ (by with_unfolding_all rfl); k_whole); intro _))
  (k_with "exec Assign cons ListComp" => (k_here; k_dflt (refine' comp_assign (by with_unfolding_all rfl) (by with_unfolding_all rfl) (by rfl) (by decide) ?_ (by intro _; with_unfolding_all rfl); k_whole)))
  (k_with "eval ListComp" => (k_here; k_dflt (refine' comp_open (by with_unfolding_all rfl) (by rfl) (by decide) ?_ (by intro _; with_unfolding_all rfl); k_whole)))
  (k_with "c goI" => repeat' (first | ((fail_if_success (with_reducible show wpAny _ _ (pyIter (Value.ref _)) _ _ _)); (fail_if_success (with_reducible show wpAny _ _ (exec (Stmt.While _ _ _ _) _) _ _ _)); (fail_if_success (with_reducible show wpAny _ _ (eval (PySem.Expr.IfExp _ _ _ _) _) _ _ _)); first | (k_unfold; (try dsimp only)) | walk1 | (dsimp only; walk1))))
  (k_with "call ref" => (k_here; (with_reducible show wpAny _ _ (call (Value.ref 108) [Value.ref _, Value.ref _]) _ _ _); walk_at "c via0"; intro cC cK; (refine' contours_spec cC (by is_list) (by is_list) (by with_reducible assumption) (by assumption) (by walk_at "c num") (by walk_at "c num") (by walk_at "c room") ?_); clear cC; intro _ _ _ _ _ _ _ _ zzS zzW; (refine And.elim (fun _ zzN => ?_) (cK _ _ zzS zzW)); clear cK zzS zzW; (try dsimp only [List.cons_append, List.nil_append] at zzN); (try dsimp only); (try k_sweep)))
  trivial
theorem row_eq (xs ys fs : List Int) (i : Nat) : rowAt xs ys fs i = (xs.getD (i : Int).toNat 0, ys.getD (i : Int).toNat 0, (Builtin.bitAnd (fs.getD (i : Int).toNat 0) 1 != 0)) := by
  unfold rowAt
  rw [Int.toNat_natCast]
  cases h : (Builtin.bitAnd (fs.getD i 0) 1 != 0) with
  | false => rw [decide_eq_false (fun q => q (by simpa using h))]
  | true => rw [decide_eq_true (by simpa using h)]
set_option maxHeartbeats 3000000 in
theorem simple_spec {w : World} {dp un : Nat} {gd : Option (List Code)} {base : Heap} {envs : List Env} {s : Shared} {Q E : Value → Shared → Prop} {b : Array UInt8} {bs : List Int} {O dx : Addr} {q : OK} {p : Int} {tp : Tok} {N : Nat} {many : Int} {tN : Tok}
  (C : Cx w (Ar dp un gd envs) base envs [O, dx] s.heap) (hO : s.heap.get? O = some (instObj 174 dx)) (hd : s.heap.get? dx = some (octD q b p tp)) (hne : O ≠ dx) (hb : KBw.bInts b = bs) (hlen : bs.length < 2 ^ 20) (hp : 0 ≤ p) (hp1 : p ≤ bs.length) (hN : many = (N : Int)) (hN1 : N < 1000) (hroom : dp + 25 < recursionLimit) (hun : un + 400 < cLine)
  (k : ∀ x d cl q2 ins vs n pv cs rr tl (p' : Int) tp' h' tk', Told9 N bs p p' ins pv cs rr → ListsIn tl vs cs → TupsIn tl pv rr → 0 ≤ p' → p' ≤ bs.length → Same [O, dx] s.heap h' →
    Now [O, dx] s.heap h' ((x, instObj 97 d) :: (d, outD q2 cl ins) :: (cl, listOf vs.toArray n) :: (O, instObj 174 dx) :: (dx, octD q b p' tp') :: tl) → Q (.ref x) { s with heap := h', toks := tk' })
  (kE : ¬(N = 0 ∧ p = bs.length) → RS N (bs.drop p.toNat) = none → Fault base envs [O, dx] s E) :
  wpAny (model PySem.Challenge.rw_xm0719_01.row.prog w) (Ar dp un gd envs) (call (.ref 204) [.ref O, .int many tN]) Q E s := by
  have hu := use_two hO hd
  have hA : Apt O dx := ⟨hne⟩
  walk_at "c enterC"
  rename_i g0 L0 h0 tk0 mean0 mg0 mb0 eL0 eg0 hB0 F0 B0 X0 T0 l10 o1 o2 o3 d1 d2 d3
  rename News _ _ _ _ => N0
  iterate 1 walk1
  refine wpAny_mono (Q := fun f s' => (f = .next ∧ (∃ tk, s' = { s with heap := h0, toks := tk }) ∧ ¬(many = 0 ∧ p = bs.length)) ∨ ∃ v, f = .ret v ∧ Q v s') ?_ (fun f s' hf => ?_) (fun _ _ e => e)
  · walk_at "c go"
    · refine .inr ⟨_, rfl, ?_⟩
      exact k _ _ _ ⟨_, _, _, _, _⟩ _ _ _ _ _ _ [] p tp _ _ (.inl ⟨⟨by omega, by assumption⟩, rfl, rfl, rfl, rfl, rfl⟩) .nil .nil hp hp1 (same_of eg0 (by assumption)) (now_sub eg0 (by assumption) (by walk_at "c sub"))
    · exact .inl ⟨rfl, ⟨_, rfl⟩, fun q => absurd q.2 (by assumption)⟩
    · exact .inl ⟨rfl, ⟨_, rfl⟩, fun q => absurd q.1 (by assumption)⟩
  · rcases hf with ⟨rfl, ⟨tk, rfl⟩, hc⟩ | ⟨v, rfl, hq⟩
    · dsimp only
      have hc' : ¬(N = 0 ∧ p = bs.length) := fun z => hc ⟨by omega, z.2⟩
      clear hc
      walk_at "c goI"
      · rename_i f1 vs1 es p1 tp1 n1 h1 tk1 hR1 q0 q1 iV1 hl1 hb1 h2 tkx hc1 z1 t1 tp2 h3 tk3 hz1 hbz hc2 ins tin tp3 h4 tk4 hz2 h5 F5 N5
        have w2 := RW_at q0 hc1 hz1
        have w3 := RP_at (bs := bs) (p := p1 + 2) (z := z1) (by omega) hbz.1 hc2
        refine join_eval (P := fun v => ∃ t, v = Value.int (es.getLastD (-1) + 1) t) (by assumption) (by assumption) ?_ ?_
        · walk_at "c go"
          · refine JoinP.intro ?_ (by assumption) (by assumption) (by walk_at "c sub")
            rename decide (es = []) = _ => he
            rw [of_decide_eq_true he]
            exact ⟨_, rfl⟩
          · exact JoinP.intro ⟨_, rfl⟩ (by assumption) (by assumption) (by walk_at "c sub")
        · rintro v h6 tk6 ⟨tc, rfl⟩ F6 N6
          have hld := lastD_ge hb1
          walk_at "c go"
          · rename_i hA0 fF vF fs pF tF nF hF kF RFe F0 F1 iF lF fFO fFd nwF hF2 oF dF tkF fX vX xs pX tX nX hX kX RXe X0' X1 iX lX fXO fXd nwX hX2 oX dX tkX fY vY ys pY tY nY hY kY RYe Y0 Y1 iY lY hY2 oY FY NY dY hZ kZ t1' u1' v1' hr F7 N7 K7
            have hRS := RS_7 hR1 w2 w3 RFe RXe RYe
            refine' blk_range (n := (es.getLastD (-1) + 1).toNat) (J := JT [(O, instObj 174 dx), (dx, octD q b pY tY), (fY, listOf vY.toArray nY), (fX, listOf vX.toArray nX), (fF, listOf vF.toArray nF), (f1, listOf vs1.toArray n1), (L0 + 1 + 1 + 1, oY), (L0 + 1 + 1, oX), (L0 + 1, oF)] (rowAt xs ys fs)) ?a1 ?a2 ?a3 ?a4 ?a5 ?a6 ?a7 ?a8 ?a9 ?hj ?hJl ?turn ?done
            case a1 => exact rfl
            case a2 => exact hr
            case a3 => omega
            case a4 => omega
            case a5 => decide
            case a6 => rfl
            case a7 => rfl
            case a8 => exact F7
            case a9 => exact N7
            case hj => exact ⟨[], (List.append_nil _).symm, .nil⟩
            case hJl =>
              rintro i zs nx ⟨tl, rfl, hT⟩
              rw [hT.length, List.length_map, List.length_range]
            case turn =>
              rintro i t zs k' nx h tk' I oI C' oC D mC hi nC hCI hDI hCD aI aC aD ⟨tl, rfl, hT⟩ F9 N9 E'
              simp only [List.cons_append, List.nil_append] at N9
              have bI := NewAt.mk aI
              have bC := NewAt.mk aC
              have bD := NewAt.mk aD
              simp only [List.cons_append, List.nil_append] at bI bC bD
              have c1 : Apt C' I := ⟨hCI⟩
              have c2 : Apt D I := ⟨hDI⟩
              have c3 : Apt C' D := ⟨hCD⟩
              clear F7 N7 K7 FY NY
              walk_at "c go"
              exact tup_end (by assumption) (by assumption) (by walk_at "c sub") (by k_mem) (by walk_at "c tail") aI aC aD hT (row_eq _ _ _ _) ⟨by k_ne, by k_ne, by k_ne⟩
            case done =>
              rintro zs k' nx h tk' D C' oC mC ⟨tl, rfl, hT⟩ nC hCD aC aD F9 N9
              simp only [List.cons_append, List.nil_append] at N9 aC aD
              clear F7 N7 K7 FY NY
              dsimp only
              k_dflt (refine' cp_local nC hCD aC F9 N9 ?kk ?hk ?hx)
              case hk => rfl
              case hx => rfl
              case kk =>
                intro h8 F8 N8
                have hzl : zs.length < 70000 := by rw [hT.length, List.length_map, List.length_range]; omega
                have hel : es.length < 1000 := by omega
                walk_at "c go"
                rename ListsIn _ _ _ => hLL
                refine k _ _ _ ⟨_, _, _, _, _⟩ ins _ _ zs _ _ _ pY tY _ _ (.inr ⟨hc', _, hRS, hz2, rfl, rfl⟩) (hLL.mono fun p hp => List.mem_append_left tl hp) (hT.mono fun p hp => List.mem_append_right _ hp) Y0 Y1 (same_of eg0 (by assumption)) (now_sub eg0 (by assumption) (List.forall_mem_cons.mpr ⟨by k_mem, List.forall_mem_cons.mpr ⟨by k_mem, List.forall_mem_cons.mpr ⟨by k_mem, List.forall_mem_cons.mpr ⟨by simp only [List.mem_cons, List.mem_append, true_or, or_true], List.forall_mem_cons.mpr ⟨by simp only [List.mem_cons, List.mem_append, true_or, or_true], ?_⟩⟩⟩⟩⟩))
                intro p hp
                simp only [List.mem_cons, List.mem_append] at hp ⊢
                rcases hp with h | h <;> simp only [h, true_or, or_true]
          all_goals first
            | exact kE hc' (RS_4 hR1 w2 w3 (by assumption)) _ _ _ (by rw [← eg0]; assumption) (by rw [← eg0]; assumption)
            | exact kE hc' (RS_5 hR1 w2 w3 (by assumption) (by assumption)) _ _ _ (by rw [← eg0]; assumption) (by rw [← eg0]; assumption)
            | exact kE hc' (RS_6 hR1 w2 w3 (by assumption) (by assumption) (by assumption)) _ _ _ (by rw [← eg0]; assumption) (by rw [← eg0]; assumption)
      all_goals first
        | exact kE hc' (RS_1 (by assumption)) _ _ _ (by rw [← eg0]; assumption) (by rw [← eg0]; assumption)
        | exact kE hc' (RS_2 (by assumption) (RW_fail (by assumption) (by assumption))) _ _ _ (by rw [← eg0]; assumption) (by rw [← eg0]; assumption)
        | exact kE hc' (RS_3 (by assumption) (RW_at (by assumption) (by assumption) (by assumption)) (RP_fail (by omega) (by omega) (by assumption))) _ _ _ (by rw [← eg0]; assumption) (by rw [← eg0]; assumption)
    · exact hq
end
section
open PySem PySem.W PySem.Calls PyProof.Rows
-- XRow
set_option maxRecDepth 100000
theorem lnXRow_1 : True := by
  w_top off
  k_with_none
  (k_with "c enter" => (refine wpAny_call ?_; k_dflt (refine' enter (by assumption) (by first | assumption | exact use_nil) (by k_is) (by k_is) (by walk_at "c room") (by exact BindsTo.of_eq rfl) (by exact locs rfl) ?_ (by exact rfl) (by exact rfl) (by exact rfl) (by decide); k_whole; intro _ _ _ _ _ _ _ _ _ _ _ _ _ _; (try dsimp only); (try k_fold))))
  (k_with "c room" => first | assumption | decide | ((try simp only [depth_under_make, depth_under_kw, depth_in1, depth_deeper, depth_caller]); (try dsimp only [Ar]); first | exact room2 (by assumption) (by decide) | exact room1 (by assumption) (by decide) | exact room0 (by assumption) | omega))
  (k_with "c pick" => first | exact Pick.head | exact Pick.tail (by walk_at "c pick"))
  (k_with "c go" => repeat' (first | ((fail_if_success (with_reducible show wpAny _ _ (pyIter (Value.ref _)) _ _ _)); (fail_if_success (with_reducible show wpAny _ _ (exec (Stmt.While _ _ _ _) _) _ _ _)); first | (k_unfold; (try dsimp only)) | walk1 | (dsimp only; walk1))))
  (k_with "subscriptTail Name Constant ref int" => (k_here; (with_reducible show wpAny _ _ (subscriptTail _ _ (Value.ref _) (Value.int _ _)) _ _ _); (with_unfolding_all refine' my_item (by is_list) (by decide) (by decide) (by rfl) ?_ (by with_unfolding_all rfl); k_whole)))
  (k_with "call builtin:len" => (k_here; (with_reducible show wpAny _ _ (call (Value.builtin "len") [Value.ref _]) _ _ _); k_dflt (refine' my_len (by is_list) (by walk_at "c fit") ?_; k_whole)))
  (k_with "c via1" => (k_dflt (refine' via1 (by assumption) (by assumption) (by assumption) (by assumption) (by walk_at "c pick") (by k_all) (by first | exact rfl | assumption) ?_)))
  (k_with "c via0" => (k_dflt (refine' via0 (by assumption) (by assumption) (by assumption) (by assumption) (by first | exact rfl | assumption) ?_)))
  (k_with "c num" => first | assumption | decide | exact Int.natCast_nonneg _ | exact Nat.lt_of_lt_of_le (by assumption) (by decide) | exact size2 (by assumption) (by assumption) (by decide) | omega)
  (k_with "call ref" => (k_here; (with_reducible show wpAny _ _ (call (Value.ref 218) [Value.ref _, Value.int _ _]) _ _ _); walk_at "c via1"; intro cC cS cK; k_dflt (refine' take_spec cC cS (by walk_at "c num") (by walk_at "c num") (by walk_at "c num") (by walk_at "c num") (by walk_at "c room") ?_); clear cC cS; intro _ _ _ _ _ _ _ _ _ _ _ _ zzS zzW; (refine And.elim (fun _ zzN => ?_) (cK _ _ zzS zzW)); clear cK zzS zzW; (try dsimp only [List.cons_append, List.nil_append] at zzN); (try dsimp only); (try k_sweep)))
  (k_with "c fit" => first | assumption | exact Nat.le_of_ble_eq_true rfl | exact Nat.lt_of_lt_of_le (by assumption) (by decide) | exact size2 (by assumption) (by assumption) (by decide) | omega | ((simp only [List.length_cons, List.length_append, List.length_nil]); omega))
  (k_with "c itemN" => (k_here; (with_reducible show wpAny _ _ (subscriptTail _ _ (Value.ref _) (Value.int _ _)) _ _ _); (with_unfolding_all refine' my_itemN (by is_list) (by walk_at "c num") (by walk_at "c num") (by walk_at "c fit") ?_ (by with_unfolding_all rfl); k_whole)))
  (k_with "c end" => ((try k_unfold); (try dsimp only)))
  (k_with "c same" => exact same_of (by assumption) (by assumption))
  (k_with "c sub" => first | exact List.forall_mem_nil _ | exact fun _ h => h | exact List.forall_mem_cons.mpr ⟨by k_mem, by walk_at "c sub"⟩)
  (k_with "c now" => first | exact now_of (by assumption) (by assumption) | exact now_sub (by assumption) (by assumption) (by walk_at "c sub"))
  (k_with "c ints" => first | assumption | exact IntsAre.nil | exact IntsAre.cons _ _ IntsAre.nil | exact IntsAre.cons _ _ (IntsAre.cons _ _ IntsAre.nil) | exact IntsAre.cons _ _ (IntsAre.cons _ _ (IntsAre.cons _ _ IntsAre.nil)))
  (k_with "k_all" => first | exact all_ltS (by assumption) (by walk_at "c tail") | fail)
  (k_with "k_all" => first | exact List.forall_mem_nil _ | (refine' List.forall_mem_cons.mpr ⟨(by k_ne), (by k_all)⟩))
  (k_with "k_all" => first | (with_reducible assumption) | exact all_lt (by with_reducible assumption) | fail)
  (k_with "c lt" => first | assumption | exact lt_mem (by assumption) (by k_mem) | exact lt_mem2 (by assumption) (by assumption) (by k_mem) | exact Nat.lt_succ_self _ | exact Nat.lt_succ_of_lt (by walk_at "c lt"))
  (k_with "k_ne" => first | exact Apt.ne (by assumption) | exact (Apt.ne (by assumption)).symm | exact NewAt.ne (by assumption) (by k_mem) | exact (NewAt.ne (by assumption) (by k_mem)).symm | exact ne_gt (by assumption) (by k_mem) | exact ne_lt (by assumption) (by k_mem) | exact Nat.ne_of_gt (by walk_at "c lt") | exact Nat.ne_of_lt (by walk_at "c lt") | (refine neN ?_; (try dsimp only); omega))
  (k_with "k_mem" => first | exact lm0 | exact lm1 | exact lm2 | exact lm3 | (refine' lm4 ?_; k_mem))
  (k_with "le" => k_dflt (exact Nat.le_of_ble_eq_true rfl))
  (k_with "lt" => k_dflt (exact Nat.le_of_ble_eq_true rfl))
  (k_with "c size" => first | assumption | exact Nat.le_of_ble_eq_true rfl | exact Nat.lt_of_lt_of_le (by assumption) (by decide) | exact size2 (by assumption) (by assumption) (by decide) | omega | ((simp only [List.length_cons, List.length_append, List.length_nil]); omega))
  (k_with "call builtin:list.append" => (k_here; (with_reducible show wpAny _ _ (call (Value.builtin "list.append") [Value.ref _, _]) _ _ _); k_dflt (refine' my_append (by k_asm) (by k_asm) (by k_upd) (by walk_at "c size") ?_; k_whole); intro _ _ _; (try k_sweep)))
  (k_with "binaryOp Add ref ref" => (k_here; (with_reducible show wpAny _ _ (binaryOp Operator.Add (Value.ref _) (Value.ref _)) _ _ _); k_dflt (refine' my_addL (by k_asm) (by k_asm) (by is_list) (by is_list) (by walk_at "c size") ?_; k_whole); intro _ _ _ _ _; (try k_sweep)))
  (k_with "c tail" => (intro _ zzhp; repeat (first | exact zzhp | refine List.mem_cons_of_mem _ ?_)))
  (k_with "c rest" => (intro _ zzq1 zzq2 zzq3; (repeat (first | refine upd_ne zzq1 ?_ | refine upd_ne (ne_stored zzq3 (by decide +kernel)) ?_ | refine upd_ne (zzq2 (_, _) (by k_mem)) ?_ | exact kst_end zzq3 | refine kst_mid (not_in_cons (ne_stored zzq3 (by decide +kernel)) not_in_nil) ?_ | refine kst_ne (ne_stored zzq3 (by decide +kernel)) ?_ | refine kst_ne (zzq2 (_, _) (by k_mem)) ?_))))
  (k_with "c restW" => (intro _ zzq2 zzq3; (repeat (first | refine upd_ne (ne_stored zzq3 (by decide +kernel)) ?_ | refine upd_ne (zzq2 (_, _) (by k_mem)) ?_ | exact kst_end zzq3 | refine kst_mid (not_in_cons (ne_stored zzq3 (by decide +kernel)) not_in_nil) ?_ | refine kst_ne (ne_stored zzq3 (by decide +kernel)) ?_ | refine kst_ne (zzq2 (_, _) (by k_mem)) ?_))))
  (k_with "c ps" => first | exact List.forall_mem_nil _ | exact List.forall_mem_cons.mpr ⟨rfl, by walk_at "c ps"⟩)
  (k_with "c itemI" => (k_here; (with_reducible show wpAny _ _ (subscriptTail _ _ (Value.ref _) (Value.int _ _)) _ _ _); (with_unfolding_all refine' my_itemI (by is_list) (by with_reducible assumption) (by walk_at "c num") (by walk_at "c num") (by walk_at "c fit") ?_ (by with_unfolding_all rfl); k_whole); intro _))
  (k_with "exec Raise some none" => (k_here; k_dflt (refine' font_raise (by assumption) (by assumption) (by assumption) (by exact rfl) (by walk_at "c room") (by exact rfl) (by exact rfl) (by decide +kernel) ?_; intro _ _ _ _ _ _ _ _; (try k_unfold); (try dsimp only); refine' font_leave (by assumption) (by assumption) (by assumption) (by assumption) (by assumption) ?_ (by exact rfl); intro _ _ _; (try dsimp only))))
  (k_with "call type:bytes cons nil bytes" => (k_here; refine bb_call ?_))
  (k_with "call type:bytes" => (k_here; (with_reducible show wpAny _ _ (call (Value.type "bytes") [Value.bytes _ _]) _ _ _); refine bb_call ?_))
  (k_with "leaving ref" => (k_here; k_dflt (refine' leave_onSX (by assumption) (by assumption) (by assumption) (by assumption) ?_; k_whole); intro _ zzR zzU; (try dsimp only at zzR zzU ⊢)))
  (k_with "storeName" => (dsimp only; walk_at "storeName"))
  (k_with "c via0E" => (k_dflt (refine' via0E (by assumption) (by assumption) (by assumption) (by assumption) (by first | exact rfl | assumption) ?_)))
  (k_with "c via2E" => (k_dflt (refine' via2E (by assumption) (by assumption) (by assumption) (by assumption) (by walk_at "c pick") (by walk_at "c pick") (by k_all) (by k_all) (by first | exact rfl | assumption) ?_)))
  (k_with "c fault" => (intro _ _ _ _ _ _; (try dsimp only)))
  (k_with "call ref" => (k_here; (try dsimp only [List.cons_append, List.nil_append]); (with_reducible show wpAny _ _ (call (Value.ref 150) [Value.ref _]) _ _ _); walk_at "c via2E"; intro cC cO cD cn cF cK; (refine' byte_spec cC cO cD cn (by assumption) (by walk_at "c num") (by walk_at "c num") (by walk_at "c num") (by walk_at "c room") ?_ ?_); (all_goals first | (intro _ _ _ _ _ _ _ _ zzS zzW; (refine And.elim (fun _ zzN => ?_) (cK _ _ zzS zzW)); clear cK cC cO cD cn cF zzS zzW; (try dsimp only [List.cons_append, List.nil_append] at zzN); (try dsimp only); (try k_sweep)) | (clear cC cO cD cn cK; walk_at "c fault"))))
  (k_with "call ref" => (k_here; (try dsimp only [List.cons_append, List.nil_append]); (with_reducible show wpAny _ _ (call (Value.ref 157) [Value.ref _]) _ _ _); walk_at "c via2E"; intro cC cO cD cn cF cK; (refine' oword_spec cC cO cD cn (by assumption) (by walk_at "c num") (by walk_at "c num") (by walk_at "c num") (by walk_at "c room") ?_ ?_); (all_goals first | (intro _ _ _ _ _ _ _ _ zzS zzW; (refine And.elim (fun _ zzN => ?_) (cK _ _ zzS zzW)); clear cK cC cO cD cn cF zzS zzW; (try dsimp only [List.cons_append, List.nil_append] at zzN); (try dsimp only); (try k_sweep)) | (clear cC cO cD cn cK; walk_at "c fault"))))
  (k_with "call ref" => (k_here; (try dsimp only [List.cons_append, List.nil_append]); (with_reducible show wpAny _ _ (call (Value.ref 164) [Value.ref _]) _ _ _); walk_at "c via2E"; intro cC cO cD cn cF cK; (refine' signed_spec cC cO cD cn (by assumption) (by walk_at "c num") (by walk_at "c num") (by walk_at "c num") (by walk_at "c room") ?_ ?_); (all_goals first | (intro _ _ _ _ _ _ _ _ zzS zzW; (refine And.elim (fun _ zzN => ?_) (cK _ _ zzS zzW)); clear cK cC cO cD cn cF zzS zzW; (try dsimp only [List.cons_append, List.nil_append] at zzN); (try dsimp only); (try k_sweep)) | (clear cC cO cD cn cK; walk_at "c fault"))))
  (k_with "call ref" => (k_here; (try dsimp only [List.cons_append, List.nil_append]); (with_reducible show wpAny _ _ (call (Value.ref 171) [Value.ref _, Value.int _ _]) _ _ _); walk_at "c via2E"; intro cC cO cD cn cF cK; (refine' part_spec cC cO cD cn (by assumption) (by walk_at "c num") (by walk_at "c num") (by walk_at "c num") (by walk_at "c num") (by walk_at "c num") (by walk_at "c room") ?_ ?_); (all_goals first | (intro _ _ _ _ _ _ _ zzS zzW; (refine And.elim (fun _ zzN => ?_) (cK _ _ zzS zzW)); clear cK cC cO cD cn cF zzS zzW; (try dsimp only [List.cons_append, List.nil_append] at zzN); (try dsimp only); (try k_sweep)) | (clear cC cO cD cn cK; walk_at "c fault"))))
  (k_with "c enterC" => (refine wpAny_call ?_; k_dflt (refine' enterC (by assumption) (by first | assumption | exact use_nil) (by k_is) (by k_is) (by walk_at "c room") (by exact BindsTo.of_eq rfl) (by exact rfl) (by decide +kernel) ?_ (by exact rfl) (by exact rfl) (by exact rfl); k_whole; intro _ _ _ _ _ _ _ _ _ _ _ _ zzN zzY _ _ _ _; k_cells zzY; (try dsimp only [List.cons_append, List.nil_append] at zzN); (try dsimp only); (try k_fold))))
  (k_with "c init" => (refine' code_def (by k_asm) (by k_asm) (by k_asm) (by k_asm) (by k_asm) (by exact rfl) (by exact rfl) (by exact rfl) (by k_is) (by k_is) (by walk_at "c room") (by first | exact BindsTo.of_eq rfl | exact binds_K (by k_in) rfl (by k_is) rfl rfl rfl) (by exact locs rfl) ?_ (by exact rfl) (by exact rfl) (by exact rfl) (by decide); k_whole; intro _ _ _ _ _ _ zzB _ _; (try dsimp only); (try k_lift zzB); (try k_fold)))
  (k_with "call ref" => (k_here; k_dflt (refine' call_cls (by k_asm) (by k_asm) (by k_asm) (by k_is) (by k_is) (by k_is) ?_; k_whole; intro _ _ _ _ _ _ _; (try k_sweep); walk_at "c init")))
  (k_with "call ref" => (k_here; (with_reducible show wpAny _ _ (call (Value.ref 199) [Value.ref _, Value.int _ _]) _ _ _); walk_at "c via2E"; intro cC cO cD cn cF cK; (refine' ends_spec cC cO cD cn (by assumption) (by walk_at "c num") (by walk_at "c num") (by walk_at "c num") (by walk_at "c num") (by walk_at "c num") (by walk_at "c room") (by walk_at "c units") ?_ ?_); (all_goals first | (intro _ _ _ _ _ _ _ _ _ _ _ _ _ _ zzS zzW zzfO zzfd; (with_reducible rename News _ _ _ _ => zznO); (have zzhn1 := NewAt.mk (apart_new zznO (now_atU zzW (.tail _ (.tail _ (.head _))) (notin2 zzfO zzfd)))); (try dsimp only at zzhn1); (refine And.elim (fun _ zzN => ?_) (cK _ _ zzS zzW)); clear cK cC cO cD cn cF zzS zzW zznO; (try dsimp only [List.cons_append, List.nil_append] at zzN); (try dsimp only); (try k_sweep)) | (clear cC cO cD cn cK; walk_at "c fault"))))
  (k_with "call ref" => (k_here; (with_reducible show wpAny _ _ (call (Value.ref 185) [Value.ref _, Value.int _ _]) _ _ _); walk_at "c via2E"; intro cC cO cD cn cF cK; (refine' flags_spec cC cO cD cn (by assumption) (by walk_at "c num") (by walk_at "c num") (by walk_at "c num") (by walk_at "c num") (by walk_at "c num") (by walk_at "c room") ?_ ?_); (all_goals first | (intro _ _ _ _ _ _ _ _ _ _ _ _ _ zzS zzW zzfO zzfd; (with_reducible rename News _ _ _ _ => zznO); (have zzhn1 := NewAt.mk (apart_new zznO (now_atU zzW (.tail _ (.tail _ (.head _))) (notin2 zzfO zzfd)))); (try dsimp only at zzhn1); (refine And.elim (fun _ zzN => ?_) (cK _ _ zzS zzW)); clear cK cC cO cD cn cF zzS zzW zznO; (try dsimp only [List.cons_append, List.nil_append] at zzN); (try dsimp only); (try k_sweep)) | (clear cC cO cD cn cK; walk_at "c fault"))))
  (k_with "call ref" => (k_here; (with_reducible show wpAny _ _ (call (Value.ref 192) [Value.ref _, Value.ref _, Value.int _ _, Value.int _ _]) _ _ _); walk_at "c via2E"; intro cC cO cD cn cF cK; (refine' deltas_spec cC cO cD cn (by assumption) (by walk_at "c num") (by walk_at "c num") (by walk_at "c num") (by is_list) (by exact ⟨by k_ne, by k_ne⟩) (by with_reducible assumption) (by walk_at "c num") (by walk_at "c room") ?_ ?_); (all_goals first | (intro _ _ _ _ _ _ _ _ _ _ _ _ _ zzS zzW zzfO zzfd; (with_reducible rename News _ _ _ _ => zznO); (have zzhn1 := NewAt.mk (apart_new zznO (now_atU zzW (.tail _ (.tail _ (.head _))) (notin2 zzfO zzfd)))); (try dsimp only at zzhn1); (refine And.elim (fun _ zzN => ?_) (cK _ _ zzS zzW)); clear cK cC cO cD cn cF zzS zzW zznO; (try dsimp only [List.cons_append, List.nil_append] at zzN); (try dsimp only); (try k_sweep)) | (clear cC cO cD cn cK; walk_at "c fault"))))
  (k_with "c units" => (dsimp only [Around.deeper, Ar]; first | exact room2 (by assumption) (by decide) | exact room1 (by assumption) (by decide) | omega))
  (k_with "eval Name" => (k_here; (with_reducible show wpAny _ _ (eval (PySem.Expr.Name _ _) (compEnvC _ _ _ _)) _ _ _); k_dflt (refine' blkB (by rfl) (by rfl) (by rfl) (by rfl) (by decide) (by k_asm) (by k_asm) (by k_asm) (by k_is) (by boot_by_name) (by decide) ?_; k_whole)))
  (k_with "eval Name" => (k_here; (with_reducible show wpAny _ _ (eval (PySem.Expr.Name _ _) (compEnvC _ _ _ _)) _ _ _); k_dflt (refine' blkK (by rfl) (by rfl) (by rfl) (by decide) (by k_asm) (by k_asm) (by k_asm) (by k_is) ?_; k_whole)))
  (k_with "eval Name" => (k_here; (with_reducible show wpAny _ _ (eval (PySem.Expr.Name _ _) (compEnvC _ _ _ _)) _ _ _); k_dflt (refine' blkC (by rfl) (by rfl) (by decide) (by k_asm) (by rfl) (by k_mem) (by k_asm) ?_; k_whole)))
  (k_with "eval Name" => (k_here; (with_reducible show wpAny _ _ (eval (PySem.Expr.Name _ _) (compEnvC _ _ _ _)) _ _ _); k_dflt (refine' blkL (by rfl) (by rfl) (by decide) (by k_asm) (by with_reducible assumption) (by k_mem) (by exact if_pos rfl) ?_; k_whole)))
  (k_with "compareOp NotEq ref ref" => (k_here; (with_reducible show wpAny _ _ (compareOp CmpOp.NotEq (Value.ref _) (Value.ref _)) _ _ _); (with_unfolding_all refine' ne_intsK (by is_list) (by with_reducible assumption) (by is_list) (by exact IntsAre.nil) (by dsimp only [Around.deeper, Ar]; first | exact room2 (by assumption) (by decide) | exact room1 (by assumption) (by decide) | omega) ?_; k_whole)))
  (k_with "subscriptTail Name" => (k_here; (with_reducible show wpAny _ _ (subscriptTail _ _ (Value.ref _) (Value.int (-1) _)) _ _ _); k_dflt (with_unfolding_all refine' my_lastI (by is_list) (by with_reducible assumption) (by refine List.length_pos_iff.mpr ?_; simp_all only [Bool.not_eq_true', decide_eq_false_iff_not, ne_eq, not_false_eq_true]) (by omega) ?_ (by with_unfolding_all rfl); k_whole); intro _))
  (k_with "exec Assign cons ListComp" => (k_here; k_dflt (refine' comp_assign (by with_unfolding_all rfl) (by with_unfolding_all rfl) (by rfl) (by decide) ?_ (by intro _; with_unfolding_all rfl); k_whole)))
  (k_with "eval ListComp" => (k_here; k_dflt (refine' comp_open (by with_unfolding_all rfl) (by rfl) (by decide) ?_ (by intro _; with_unfolding_all rfl); k_whole)))
  (k_with "c goI" => repeat' (first | ((fail_if_success (with_reducible show wpAny _ _ (pyIter (Value.ref _)) _ _ _)); (fail_if_success (with_reducible show wpAny _ _ (exec (Stmt.While _ _ _ _) _) _ _ _)); (fail_if_success (with_reducible show wpAny _ _ (eval (PySem.Expr.IfExp _ _ _ _) _) _ _ _)); first | (k_unfold; (try dsimp only)) | walk1 | (dsimp only; walk1))))
  trivial
theorem my_tupleOf {prog : Program} {w : World} {A : Around} {E : Value → Shared → Prop} {s : Shared} {h₀ : Heap} {L l : Addr} {m : Str → Option Value} {news : List (Addr × Obj)} {vs : List Value} {Q : Value → Shared → Prop} (F : Fr h₀ L s.heap m) (N : News h₀ L s.heap news) (hl : s.heap.IsList l vs.toArray) (hz : vs.length < 2 ^ 20)
    (h : ∀ D h', Fr h₀ L h' m → News h₀ L h' ((D, tupOf vs 0) :: news) → (∀ p ∈ news, p.1 < D) → Q (.ref D) { s with heap := h' }) : wpAny (model prog w) A (call (.type "tuple") [.ref l]) Q E s := by
  refine call_tuple_list hl (fun h' hk => ?_) (by rw [List.size_toArray, sizeLine_eq]; omega)
  have F' : Fr h₀ L h' m := F.keeps hk
  have N' : News h₀ L h' news := fun p hp => ⟨hk _ _ (N p hp).1, (N p hp).2⟩
  exact h _ _ (F'.push _) (N'.push F' _) fun p hp => Heap.lt_size (N' p hp).1
theorem lnXRow_2 : True := by
  (k_with "call type:tuple" => (k_here; (with_reducible show wpAny _ _ (call (Value.type _) [Value.ref _]) _ _ _); k_dflt (refine' my_tupleOf (by k_asm) (by k_asm) (by is_list) (by walk_at "c num") ?_; k_whole); intro _ _ _ _ _; (try k_sweep)))
  trivial
inductive TupsL (tl : List (Addr × Obj)) : List Value → List (List Value) → Prop
  | nil : TupsL tl [] []
  | snoc {vs : List Value} {cs : List (List Value)} {a : Addr} {c : List Value} : TupsL tl vs cs → (a, tupOf c 0) ∈ tl → TupsL tl (vs ++ [Value.ref a]) (cs ++ [c])
theorem TupsL.mono {tl tl' : List (Addr × Obj)} (hs : ∀ p ∈ tl, p ∈ tl') {vs : List Value} {rs : List (List Value)} (h : TupsL tl vs rs) : TupsL tl' vs rs := by
  induction h with
  | nil => exact .nil
  | snoc _ hm ih => exact .snoc ih (hs _ hm)
theorem TupsL.length {tl : List (Addr × Obj)} {vs : List Value} {rs : List (List Value)} (h : TupsL tl vs rs) : vs.length = rs.length := by
  induction h with
  | nil => rfl
  | snoc _ _ ih => simp [ih]
theorem ListsIn.get {tl : List (Addr × Obj)} {vs : List Value} {cs : List (List Value)} (h : ListsIn tl vs cs) {i : Nat} {v : Value} (hv : vs[i]? = some v) : ∃ a c n, v = .ref a ∧ cs[i]? = some c ∧ (a, listOf c.toArray n) ∈ tl := by
  induction h with
  | nil => simp at hv
  | @snoc vs cs a c n h1 hm ih =>
    have hl := h1.length
    rcases Nat.lt_trichotomy i vs.length with q | q | q
    · rw [List.getElem?_append_left q] at hv
      obtain ⟨a', c', n', e1, e2, e3⟩ := ih hv
      exact ⟨a', c', n', e1, by rw [List.getElem?_append_left (by omega)]; exact e2, e3⟩
    · subst q
      rw [List.getElem?_append_right (Nat.le_refl _), Nat.sub_self] at hv
      simp only [List.getElem?_cons_zero, Option.some.injEq] at hv
      exact ⟨a, c, n, hv.symm, by rw [hl, List.getElem?_append_right (Nat.le_refl _), Nat.sub_self]; rfl, hm⟩
    · rw [List.getElem?_eq_none (by simp; omega)] at hv
      cases hv
theorem blk_end {s : Shared} {h₀ h' : Heap} {L tp : Addr} {ob : Obj} {m₀ : Str → Option Value} {I : Addr} {oI : Obj} {C : Addr} {oC : Obj} {D : Addr} {ys : List Value} {k tk : Nat} {news tl big : List (Addr × Obj)} {J : List Value → List (Addr × Obj) → Prop}
    (F : Fr h₀ L h' m₀) (N : News h₀ L h' big) (hs : ∀ p ∈ (I, oI) :: (C, oC) :: (D, listOf ys.toArray k) :: news, p ∈ big) (hm : (tp, ob) ∈ big) (htl : ∀ p ∈ tl, p ∈ big)
    (aI : ∀ p ∈ news ++ tl, p.1 ≠ I) (aC : ∀ p ∈ news ++ tl, p.1 ≠ C) (aD : ∀ p ∈ news ++ tl, p.1 ≠ D) (ne : tp ≠ I ∧ tp ≠ C ∧ tp ≠ D) (hJ : J (ys ++ [.ref tp]) (news ++ (tp, ob) :: tl)) :
    BPost s h₀ L m₀ I oI C oC D ys k J (.ref tp) { s with heap := h', toks := tk } := by
  have up : ∀ {b : Addr}, (∀ p ∈ news ++ tl, p.1 ≠ b) → tp ≠ b → ∀ p ∈ news ++ (tp, ob) :: tl, p.1 ≠ b := fun a n p hp => by
    rcases List.mem_append.mp hp with hp | hp
    · exact a p (List.mem_append_left _ hp)
    · rcases List.mem_cons.mp hp with rfl | hp
      · exact n
      · exact a p (List.mem_append_right _ hp)
  refine BPost.intro (news ++ (tp, ob) :: tl) F N ?_ (up aI ne.1) (up aC ne.2.1) (up aD ne.2.2) hJ
  intro p hp
  simp only [List.mem_cons, List.mem_append] at hp hs
  rcases hp with rfl | rfl | rfl | hp | rfl | hp
  · exact hs _ (.inl rfl)
  · exact hs _ (.inr (.inl rfl))
  · exact hs _ (.inr (.inr (.inl rfl)))
  · exact hs _ (.inr (.inr (.inr hp)))
  · exact hm
  · exact htl _ hp
theorem same_all {g h h' : Heap} {L x d : Addr} {ox od : Obj} {m : Str → Option Value} {big : List (Addr × Obj)} (hg : g = hideAll h [x, d]) (F : Fr g L h' m) (N : News g L h' big) (m1 : (x, ox) ∈ big) (m2 : (d, od) ∈ big) (hx : h.get? x = some ox) (hd : h.get? d = some od) : Same [] h h' := fun b o _ e => by
  by_cases hb : b ∈ [x, d]
  · rcases List.mem_cons.mp hb with rfl | hb
    · rw [hx] at e
      rw [← e]
      exact (N _ m1).1
    · obtain rfl := List.mem_singleton.mp hb
      rw [hd] at e
      rw [← e]
      exact (N _ m2).1
  · exact F.keep b o (by rw [hg]; exact hideAll_get _ e hb)
theorem off_two {h : Heap} {x d l C : Addr} {q2 : OK} {cl : Addr} {ins : Array UInt8} {vs : Array Value} (hx : h.get? x = some (instObj C d)) (hd : h.get? d = some (outD q2 cl ins)) (hl : h.IsList l vs) : l ∉ [x, d] := fun hm => by
  obtain ⟨o, ho, hc, n, hdt⟩ := hl
  rcases List.mem_cons.mp hm with rfl | hm
  · rw [hx] at ho
    obtain rfl := Option.some.inj ho
    cases hc
  · obtain rfl := List.mem_singleton.mp hm
    rw [hd] at ho
    obtain rfl := Option.some.inj ho
    cases hdt
set_option maxHeartbeats 3000000 in
theorem row_spec {w : World} {dp un : Nat} {gd : Option (List Code)} {base : Heap} {envs : List Env} {s : Shared} {Q E : Value → Shared → Prop} {x d cl : Addr} {q2 : OK} {ins : Array UInt8} {vs : List Value} {cs : List (List Value)} {tl : List (Addr × Obj)}
  (C : Cx w (Ar dp un gd envs) base envs [x, d] s.heap) (hx : s.heap.get? x = some (instObj 97 d)) (hd : s.heap.get? d = some (outD q2 cl ins)) (hcl : s.heap.IsList cl vs.toArray) (hL : ListsIn tl vs cs) (htl : ∀ p ∈ tl, s.heap.get? p.1 = some p.2) (hvl : vs.length < 1000) (hcs : ∀ c ∈ cs, c.length < 70000) (hroom : dp + 10 < recursionLimit)
  (k : ∀ r t us tl2 h' tk', TupsL tl2 us cs → Same [] s.heap h' → Now [x, d] s.heap h' ((r, tupOf [.ref t, .bytes ins q2.tb] 0) :: (t, tupOf us 0) :: tl2) → Q (.ref r) { s with heap := h', toks := tk' }) :
  wpAny (model PySem.Challenge.rw_xm0719_01.row.prog w) (Ar dp un gd envs) (call (.ref 87) [.ref x]) Q E s := by
  have hu := use_two hx hd
  have hxd : Apt x d := ⟨fun e => by subst e; rw [hx] at hd; cases hd⟩
  have hcl' := list_hide hcl (off_two hx hd hcl)
  walk_at "c enter"
  rename _ = hideAll _ _ => eg
  have htl' : ∀ (a : Addr) (c : List Value) (n : Nat), (a, listOf c.toArray n) ∈ tl → (hideAll s.heap [x, d]).IsList a c.toArray := fun a c n hm =>
    have hl : s.heap.IsList a c.toArray := ⟨_, htl _ hm, rfl, n, rfl⟩
    list_hide hl (off_two hx hd hl)
  rw [← eg] at hcl' htl'
  walk_at "c go"
  rename Fr _ _ _ _ => F7
  rename News _ _ _ _ => N7
  refine' blk_list (vs := vs) (J := fun i ys nx => ∃ tl2, nx = [(x, instObj 97 d), (d, outD q2 cl ins)] ++ tl2 ∧ TupsL tl2 ys (cs.take i) ∧ ys.length = i) ?a1 ?a2 ?a3 ?a5 ?a6 ?a7 ?a8 ?a9 ?hj ?hJl ?turn ?done
  case a1 => exact rfl
  case a2 => exact hcl'
  case a3 => omega
  case a5 => decide
  case a6 => rfl
  case a7 => rfl
  case a8 => exact F7
  case a9 => exact N7
  case hj => exact ⟨[], rfl, .nil, rfl⟩
  case hJl =>
    rintro i zs nx ⟨tl2, rfl, hT, hl⟩
    exact hl
  case turn =>
    rintro i v zs k' nx h tk' I oI C' oC D mC hi nC hCI hDI hCD aI aC aD ⟨tl2, rfl, hT, hzi⟩ F9 N9 E'
    obtain ⟨a, c, nn, rfl, hci, hm⟩ := hL.get hi
    have hla := htl' a c nn hm
    have hcl2 : c.length < 70000 := hcs c (List.mem_of_getElem? hci)
    simp only [List.cons_append, List.nil_append] at N9
    have bI := NewAt.mk aI
    have bC := NewAt.mk aC
    have bD := NewAt.mk aD
    simp only [List.cons_append, List.nil_append] at bI bC bD
    have c1 : Apt C' I := ⟨hCI⟩
    have c2 : Apt D I := ⟨hDI⟩
    have c3 : Apt C' D := ⟨hCD⟩
    clear F7 N7
    walk_at "c go"
    refine blk_end (by assumption) (by assumption) (by walk_at "c sub") (by k_mem) (by walk_at "c tail") aI aC aD ⟨by k_ne, by k_ne, by k_ne⟩ ⟨_, rfl, ?_, by simp [hzi]⟩
    rw [List.take_add_one, hci]
    exact .snoc (hT.mono fun p hp => .tail _ hp) (.head _)
  case done =>
    rintro zs k' nx h tk' D C' oC mC ⟨tl2, rfl, hT, hzi⟩ nC hCD aC aD F9 N9
    simp only [List.cons_append, List.nil_append] at N9 aC aD
    have hlc := hL.length
    rw [hlc, List.take_length] at hT
    have hzl : zs.length < 1000 := by rw [hT.length]; omega
    clear F7 N7
    k_dflt (refine' cp_none nC hCD aC F9 N9 ?kk)
    case kk =>
      intro h8 F8 N8
      walk_at "c go"
      exact k _ _ _ _ _ _ hT (same_all eg (by assumption) (by assumption) (by k_mem) (by k_mem) hx hd) (now_sub eg (by assumption) (List.forall_mem_cons.mpr ⟨by k_mem, List.forall_mem_cons.mpr ⟨by k_mem, by walk_at "c tail"⟩⟩))
end
section
open PySem PySem.W PySem.Calls PyProof.Rows PySem.SeqAt
-- XEq
theorem lnXEq_0 : True := by
  w_top off
  k_with_none
  trivial
set_option maxRecDepth 100000
inductive All2 {α β : Type} (R : α → β → Prop) : List α → List β → Prop
  | nil : All2 R [] []
  | cons {a : α} {b : β} {xs : List α} {ys : List β} : R a b → All2 R xs ys → All2 R (a :: xs) (b :: ys)
namespace All2
variable {α β γ : Type} {R S : α → β → Prop}
theorem length {xs : List α} {ys : List β} (h : All2 R xs ys) : xs.length = ys.length := by
  induction h with
  | nil => rfl
  | cons _ _ ih => simp [ih]
theorem mono {xs : List α} {ys : List β} (h : All2 R xs ys) (k : ∀ a b, R a b → S a b) : All2 S xs ys := by
  induction h with
  | nil => exact .nil
  | cons r _ ih => exact .cons (k _ _ r) ih
theorem snoc {xs : List α} {ys : List β} {a : α} {b : β} (h : All2 R xs ys) (r : R a b) : All2 R (xs ++ [a]) (ys ++ [b]) := by
  induction h with
  | nil => exact .cons r .nil
  | cons r' _ ih => exact .cons r' ih
theorem take : ∀ (n : Nat) {xs : List α} {ys : List β}, All2 R xs ys → All2 R (xs.take n) (ys.take n)
  | 0, _, _, _ => by simpa using All2.nil
  | _ + 1, _, _, .nil => by simpa using All2.nil
  | n + 1, _, _, .cons r h => by
    rw [List.take_succ_cons, List.take_succ_cons]
    exact .cons r (take n h)
theorem drop : ∀ (n : Nat) {xs : List α} {ys : List β}, All2 R xs ys → All2 R (xs.drop n) (ys.drop n)
  | 0, _, _, h => by simpa using h
  | _ + 1, _, _, .nil => by simpa using All2.nil
  | n + 1, _, _, .cons r h => by
    rw [List.drop_succ_cons, List.drop_succ_cons]
    exact drop n h
theorem get {xs : List α} {ys : List β} (h : All2 R xs ys) : ∀ {i : Nat} {a : α} {b : β}, xs[i]? = some a → ys[i]? = some b → R a b := by
  induction h with
  | nil => intro i a b h; simp at h
  | @cons x y _ _ r _ ih =>
    intro i a b h1 h2
    cases i with
    | zero =>
      simp only [List.getElem?_cons_zero, Option.some.injEq] at h1 h2
      subst h1 h2
      exact r
    | succ i =>
      simp only [List.getElem?_cons_succ] at h1 h2
      exact ih h1 h2
theorem append {xs xs' : List α} {ys ys' : List β} (h : All2 R xs ys) (h' : All2 R xs' ys') : All2 R (xs ++ xs') (ys ++ ys') := by
  induction h with
  | nil => exact h'
  | cons r _ ih => exact .cons r ih
end All2
/-- a list cut at ends -/
def cutG {α : Type} (l : List α) : Int → List Int → List (List α)
  | _, [] => []
  | b, e :: r => ((l.drop (kms_lo (some b) l.length)).take (kms_hi (some (e + 1)) l.length - kms_lo (some b) l.length)) :: cutG l (e + 1) r
theorem cuts_eq (pv : List Value) : ∀ (b : Int) (es : List Int), cuts pv b es = cutG pv b es
  | _, [] => rfl
  | b, e :: r => by
    rw [cuts, cutG, cuts_eq pv (e + 1) r, kms_pick_eq]
    rfl
theorem All2.cut {α β : Type} {R : α → β → Prop} {xs : List α} {ys : List β} (h : All2 R xs ys) : ∀ (b : Int) (es : List Int), All2 (All2 R) (cutG xs b es) (cutG ys b es)
  | _, [] => .nil
  | b, e :: r => by
    rw [cutG, cutG, h.length]
    exact .cons ((h.drop _).take _) (All2.cut h (e + 1) r)
abbrev Row := Int × Int × Bool
def TripAt (h : Heap) (v : Value) (r : Row) : Prop := ∃ a t u, v = .ref a ∧ h.IsTuple a #[.int r.1 t, .int r.2.1 u, .bool r.2.2]
def RowAt (h : Heap) (v : Value) (rs : List Row) : Prop := ∃ a vs, v = .ref a ∧ h.IsTuple a vs.toArray ∧ All2 (TripAt h) vs rs
/-- what a reading tells, in the heap -/
def DueAt (h : Heap) (D : Addr) (dr : List (List Row)) (di : List Int) (n : Int) : Prop :=
  ∃ r t tn us c u, h.IsTuple D #[.ref r, .int n tn] ∧ h.IsTuple r #[.ref t, .bytes c u] ∧ KBw.bInts c = di ∧ h.IsTuple t us.toArray ∧ All2 (RowAt h) us dr
theorem isTuple_of {h : Heap} {a : Addr} {vs : List Value} {n : Nat} (e : h.get? a = some (tupOf vs n)) : h.IsTuple a vs.toArray := ⟨_, e, rfl, n, rfl⟩
theorem isTuple_up {h h' : Heap} {a : Addr} {vs : Array Value} (k : ∀ b o, h.get? b = some o → h'.get? b = some o) (t : h.IsTuple a vs) : h'.IsTuple a vs := let ⟨o, ho, r⟩ := t; ⟨o, k _ _ ho, r⟩
theorem TripAt.up {h h' : Heap} (k : ∀ b o, h.get? b = some o → h'.get? b = some o) {v : Value} {r : Row} (t : TripAt h v r) : TripAt h' v r := let ⟨a, t, u, e, i⟩ := t; ⟨a, t, u, e, isTuple_up k i⟩
theorem RowAt.up {h h' : Heap} (k : ∀ b o, h.get? b = some o → h'.get? b = some o) {v : Value} {r : List Row} (t : RowAt h v r) : RowAt h' v r := let ⟨a, vs, e, i, j⟩ := t; ⟨a, vs, e, isTuple_up k i, j.mono fun _ _ z => z.up k⟩
theorem DueAt.up {h h' : Heap} (k : ∀ b o, h.get? b = some o → h'.get? b = some o) {D : Addr} {dr : List (List Row)} {di : List Int} {n : Int} (t : DueAt h D dr di n) : DueAt h' D dr di n :=
  let ⟨r, t, tn, us, c, u, h1, h2, h3, h4, h5⟩ := t; ⟨r, t, tn, us, c, u, isTuple_up k h1, isTuple_up k h2, h3, isTuple_up k h4, h5.mono fun _ _ z => z.up k⟩
theorem trips_of {tl : List (Addr × Obj)} {h : Heap} (ht : ∀ p ∈ tl, h.get? p.1 = some p.2) {vs : List Value} {rs : List Row} (T : TupsIn tl vs rs) : All2 (TripAt h) vs rs := by
  induction T with
  | nil => exact .nil
  | snoc _ hm ih => exact ih.snoc ⟨_, _, _, rfl, isTuple_of (ht _ hm)⟩
theorem tups_of {tl : List (Addr × Obj)} {h : Heap} (ht : ∀ p ∈ tl, h.get? p.1 = some p.2) {us : List Value} {cs : List (List Value)} {dr : List (List Row)} (T : TupsL tl us cs) (hc : All2 (All2 (TripAt h)) cs dr) : All2 (RowAt h) us dr := by
  have g : All2 (fun v c => ∃ a, v = .ref a ∧ h.IsTuple a c.toArray) us cs := by
    clear hc
    induction T with
    | nil => exact .nil
    | snoc _ hm ih => exact ih.snoc ⟨_, rfl, isTuple_of (ht _ hm)⟩
  clear T
  induction g generalizing dr with
  | nil => cases hc; exact .nil
  | cons r _ ih =>
    cases hc with
    | cons r' h' =>
      obtain ⟨a, e, i⟩ := r
      exact .cons ⟨a, _, e, i, r'⟩ (ih h')
section
variable {A : Around} {s : Shared}
theorem eq_any {l l' : Addr} (h : RcAt A s (.ref l) (.ref l') true) : EqAt A s (.ref l) (.ref l') true := fun prog w E Q hq => by
  unfold eqBool
  refine wpAny_holding ?_
  refine wpAny_ite_split (fun _ => wpAny_bind (wpAny_rule (wpAny_pure hq))) (fun _ => ?_)
  exact wpAny_bind (h prog w E _ (wpAny_truthy_bool hq))
theorem eq_anyB {c c' : Array UInt8} {t u : Tok} (h : RcAt A s (.bytes c t) (.bytes c' u) true) : EqAt A s (.bytes c t) (.bytes c' u) true := fun prog w E Q hq => by
  unfold eqBool
  refine wpAny_holding ?_
  refine wpAny_ite_split (fun _ => wpAny_bind (wpAny_rule (wpAny_pure hq))) (fun _ => ?_)
  exact wpAny_bind (h prog w E _ (wpAny_truthy_bool hq))
theorem bInts_inj {c c' : Array UInt8} (h : KBw.bInts c = KBw.bInts c') : c.toList = c'.toList := by
  unfold KBw.bInts at h
  generalize c.toList = x at h ⊢
  generalize c'.toList = y at h ⊢
  induction x generalizing y with
  | nil => cases y with
    | nil => rfl
    | cons _ _ => simp at h
  | cons a r ih => cases y with
    | nil => simp at h
    | cons b t =>
      simp only [List.map_cons, List.cons.injEq] at h
      rw [ih t h.2]
      congr 1
      have h1 : a.toNat = b.toNat := by omega
      exact UInt8.toNat_inj.mp h1
theorem eq_by {c c' : Array UInt8} {t u : Tok} (h : KBw.bInts c = KBw.bInts c') : EqAt A s (.bytes c t) (.bytes c' u) true := eq_anyB fun prog w E Q hq => by
  have e := bInts_inj h
  exact PySem.W.eq_bytes (by rw [e, beq_self_eq_true]; exact hq)
theorem rc_tup {l b : Addr} {vs ws : List Value} (hl : s.heap.IsTuple l vs.toArray) (hb : s.heap.IsTuple b ws.toArray) (hu : A.units < cLine) (h : All2 (fun v w => EqAt A.in1 s v w true) vs ws) : RcAt A s (.ref l) (.ref b) true := by
  have z := RcAt.tuples (e := fun _ => true) hl hb hu fun j h1 h2 => by
    have h1' : j < vs.length := by simpa using h1
    have h2' : j < ws.length := by simpa using h2
    simp only [List.getElem_toArray]
    exact h.get (List.getElem?_eq_getElem h1') (List.getElem?_eq_getElem h2')
  have e : ((List.range (min vs.toArray.size ws.toArray.size)).all (fun _ => true) && vs.toArray.size == ws.toArray.size) = true := by
    simp [h.length]
  rw [e] at z
  exact z
theorem eq_int (n : Int) (t u : Tok) : EqAt A s (.int n t) (.int n u) true := by
  have z := EqAt.int_int (A := A) (s := s) n t n u
  rw [beq_self_eq_true] at z
  exact z
theorem eq_bool (b : Bool) : EqAt A s (.bool b) (.bool b) true := EqAt.same _
theorem eq_trip {v w : Value} {r : Row} (hu : A.units < cLine) (h : TripAt s.heap v r) (h' : TripAt s.heap w r) : EqAt A s v w true := by
  obtain ⟨a, t, u, rfl, i⟩ := h
  obtain ⟨a', t', u', rfl, i'⟩ := h'
  exact eq_any (rc_tup i i' hu (.cons (eq_int _ _ _) (.cons (eq_int _ _ _) (.cons (eq_bool _) .nil))))
theorem all2_join {α β : Type} {R : α → β → Prop} {S : α → α → Prop} (k : ∀ a a' b, R a b → R a' b → S a a') : ∀ {xs xs' : List α} {ys : List β}, All2 R xs ys → All2 R xs' ys → All2 S xs xs'
  | _, _, _, .nil, .nil => .nil
  | _, _, _, .cons r h, .cons r' h' => .cons (k _ _ _ r r') (all2_join k h h')
theorem eq_row {v w : Value} {r : List Row} (hu : A.units + 1 < cLine) (h : RowAt s.heap v r) (h' : RowAt s.heap w r) : EqAt A s v w true := by
  obtain ⟨a, vs, rfl, i, j⟩ := h
  obtain ⟨a', vs', rfl, i', j'⟩ := h'
  exact eq_any (rc_tup i i' (by omega) (all2_join (R := TripAt s.heap) (S := fun v w => EqAt A.in1 s v w true) (fun _ _ _ x y => eq_trip (A := A.in1) hu x y) j j'))
theorem due_eq {l D : Addr} {dr : List (List Row)} {di : List Int} {n : Int} (hu : A.units + 4 < cLine) (h : DueAt s.heap l dr di n) (h' : DueAt s.heap D dr di n) : RcAt A s (.ref l) (.ref D) true := by
  obtain ⟨r, t, tn, us, c, u, h1, h2, h3, h4, h5⟩ := h
  obtain ⟨r', t', tn', us', c', u', h1', h2', h3', h4', h5'⟩ := h'
  refine rc_tup (vs := [_, _]) (ws := [_, _]) h1 h1' (by omega) (.cons (eq_any (rc_tup (vs := [_, _]) (ws := [_, _]) h2 h2' ?_ (.cons (eq_any (rc_tup h4 h4' ?_ (all2_join (R := RowAt s.heap) (S := fun v w => EqAt A.in1.in1.in1 s v w true) (fun _ _ _ x y => eq_row ?_ x y) h5 h5'))) (.cons (eq_by (h3.trans h3'.symm)) .nil)))) (.cons (eq_int _ _ _) .nil))
  · show A.units + 1 < cLine
    omega
  · show A.units + 1 + 1 < cLine
    omega
  · show A.units + 1 + 1 + 1 + 1 < cLine
    omega
end
/-- a callee that caught: all but the frames stands; the frames' dicts hold the same -/
def SameT (fs : List Addr) (h h' : Heap) : Prop := (∀ b o, b ∉ fs → h.get? b = some o → h'.get? b = some o) ∧ ∀ b ∈ fs, ∀ o, h.get? b = some o → ∃ sl, h'.get? b = some { o with slots := sl }
theorem sameT_of {fs : List Addr} {h h' : Heap} (S : Same [] h h') : SameT fs h h' := ⟨fun b o _ e => S b o (fun m => nomatch m) e, fun b _ o e => ⟨o.slots, S b o (fun m => nomatch m) e⟩⟩
theorem sameT_turn {fs : List Addr} {g g' h h' : Heap} {L : Addr} {m : Str → Option Value} (hg : g = hideAll h []) (T : KtsTurn fs g g') (F : Fr g' L h' m) : SameT fs h h' :=
  ⟨fun b o hb e => F.keep b o (T.other b o (by rw [hg]; exact hideAll_get _ e (fun q => nomatch q)) hb), fun b hb o e => by
    obtain ⟨sl, hs⟩ := T.frame b o (by rw [hg]; exact hideAll_get _ e (fun q => nomatch q)) hb
    exact ⟨sl, F.keep _ _ hs⟩⟩
section
variable {w : World} {A₀ : Around} {E : Value → Shared → Prop} {s' : Shared} {base g G : Heap} {outer : List Env} {L a e : Addr} {m : Str → Option Value} {name : Str} {scope : Scope} {cd : Value}
  {b₀ : Stmt} {suite : List Stmt} {pos np : Pos} {rest : List ExceptHandler} {Q : Flow → Shared → Prop} {mean : ExcName → Option Value} {mg mb : Str → Option Value}
set_option maxHeartbeats 1000000 in
theorem caught_own (R : RaisedSN base G (envOf name scope L a cd :: outer) e (.ref 51) [] s'.heap) (F : Fr g L G m) (K : Below A₀ base outer g) (hsm : G.UpToSlots s'.heap) (B : Bs w mean mg mb base)
    (k : ∀ h' g', KtsTurn (outer.filterMap (·.frame)) g g' → Fr g' L h' m → Below A₀ base outer g' → (hd.heap_1 w.params).In g' → Top hd.view_39 (looseW hd.view_39 [Str.ofString "Outline"]) mean mg mb g' →
      wpAny (model PySem.Challenge.rw_xm0719_01.row.prog w) ((A₀.deeper (envOf name scope L a cd)).mark (some (.ref e))) (execs (b₀ :: suite) (envOf name scope L a cd)) Q E { s' with heap := h' })
    (hk : scope.kind = .function) (hx : (envOf name scope L a cd).kindOf (Str.ofString "FontFault") = some .globalImplicit)
    (hE : PassesOwnAt (model PySem.Challenge.rw_xm0719_01.row.prog w) ((A₀.deeper (envOf name scope L a cd)).mark (some (.ref e))) (A₀.deeper (envOf name scope L a cd)) (envOf name scope L a cd) E) :
    wpAny (model PySem.Challenge.rw_xm0719_01.row.prog w) (A₀.deeper (envOf name scope L a cd)) (noteFrame (.ref e) (envOf name scope L a cd))
      (fun _ s₂ => wpAny (model PySem.Challenge.rw_xm0719_01.row.prog w) (A₀.deeper (envOf name scope L a cd)) (setFlight (.ref e) none) (fun _ s₃ =>
        wpAny (model PySem.Challenge.rw_xm0719_01.row.prog w) (A₀.deeper (envOf name scope L a cd)) (handleBy (.ref e) (envOf name scope L a cd) (.ExceptHandler (some (.Name (Str.ofString "FontFault") np)) none (b₀ :: suite) pos :: rest)) Q E s₃) E s₂) E s' := by
  obtain ⟨B', a0, hB, hBG, hl, hfl⟩ := R
  refine wpAny_looks_onW (Around.frames_deeper K.stack) rfl hfl fun h₄ hheld₄ hsm₄ => ?_
  refine wpAny_landsW hheld₄ fun h₅ hheld hsm₅' => ?_
  have hsm₅ := hsm₄.trans hsm₅'
  obtain ⟨g₅, T₅, F₅, K₅⟩ := kts_ground K F hBG hheld.1 (hsm.trans hsm₅)
  have X₅ : (hd.heap_1 w.params).In g₅ := B.X.keeps K₅.stays
  have P₅ := topRead_of (B.T.keeps K₅.stays)
  obtain ⟨ob, hob, hobc⟩ := hheld.there
  have hC₅ := F₅.keep _ _ (font_at X₅)
  refine wpAny_handleBy_cons (codeAny_handlers_test (name_K F₅ X₅ P₅ (v := .ref 51) (by k_dflt k_is) ?_ hk hx (by decide))) (by intro q; cases q)
  refine wpAny_excMatches_sub_self hC₅ hob hobc (by decide) (codeAny_handlers_suite ?_)
  refine lands_againW hheld fun h₆ hfl₆ hsm₆ => ?_
  obtain ⟨g₆, T₆, F₆, K₆⟩ := kts_ground K F hBG hfl₆.1 ((hsm.trans hsm₅).trans hsm₆)
  exact wpAny_passesOwnAt hE (k h₆ g₆ T₆ F₆ K₆ (B.X.keeps K₆.stays) (B.T.keeps K₆.stays))
end
end
section
open PySem PySem.W PySem.Calls PyProof.Rows PySem.SeqAt
-- XIsRead
set_option maxRecDepth 100000
theorem lnXIsRead_1 : True := by
  w_top off
  k_with_none
  (k_with "c enter" => (refine wpAny_call ?_; k_dflt (refine' enter (by assumption) (by first | assumption | exact use_nil) (by k_is) (by k_is) (by walk_at "c room") (by exact BindsTo.of_eq rfl) (by exact locs rfl) ?_ (by exact rfl) (by exact rfl) (by exact rfl) (by decide); k_whole; intro _ _ _ _ _ _ _ _ _ _ _ _ _ _; (try dsimp only); (try k_fold))))
  (k_with "c room" => first | assumption | decide | ((try simp only [depth_under_make, depth_under_kw, depth_in1, depth_deeper, depth_caller]); (try dsimp only [Ar]); first | exact room2 (by assumption) (by decide) | exact room1 (by assumption) (by decide) | exact room0 (by assumption) | omega))
  (k_with "c pick" => first | exact Pick.head | exact Pick.tail (by walk_at "c pick"))
  (k_with "c go" => repeat' (first | ((fail_if_success (with_reducible show wpAny _ _ (pyIter (Value.ref _)) _ _ _)); (fail_if_success (with_reducible show wpAny _ _ (exec (Stmt.While _ _ _ _) _) _ _ _)); first | (k_unfold; (try dsimp only)) | walk1 | (dsimp only; walk1))))
  (k_with "subscriptTail Name Constant ref int" => (k_here; (with_reducible show wpAny _ _ (subscriptTail _ _ (Value.ref _) (Value.int _ _)) _ _ _); (with_unfolding_all refine' my_item (by is_list) (by decide) (by decide) (by rfl) ?_ (by with_unfolding_all rfl); k_whole)))
  (k_with "call builtin:len" => (k_here; (with_reducible show wpAny _ _ (call (Value.builtin "len") [Value.ref _]) _ _ _); k_dflt (refine' my_len (by is_list) (by walk_at "c fit") ?_; k_whole)))
  (k_with "c via1" => (k_dflt (refine' via1 (by assumption) (by assumption) (by assumption) (by assumption) (by walk_at "c pick") (by k_all) (by first | exact rfl | assumption) ?_)))
  (k_with "c via0" => (k_dflt (refine' via0 (by assumption) (by assumption) (by assumption) (by assumption) (by first | exact rfl | assumption) ?_)))
  (k_with "c num" => first | assumption | decide | exact Int.natCast_nonneg _ | exact Nat.lt_of_lt_of_le (by assumption) (by decide) | exact size2 (by assumption) (by assumption) (by decide) | omega)
  (k_with "call ref" => (k_here; (with_reducible show wpAny _ _ (call (Value.ref 218) [Value.ref _, Value.int _ _]) _ _ _); walk_at "c via1"; intro cC cS cK; k_dflt (refine' take_spec cC cS (by walk_at "c num") (by walk_at "c num") (by walk_at "c num") (by walk_at "c num") (by walk_at "c room") ?_); clear cC cS; intro _ _ _ _ _ _ _ _ _ _ _ _ zzS zzW; (refine And.elim (fun _ zzN => ?_) (cK _ _ zzS zzW)); clear cK zzS zzW; (try dsimp only [List.cons_append, List.nil_append] at zzN); (try dsimp only); (try k_sweep)))
  (k_with "c fit" => first | assumption | exact Nat.le_of_ble_eq_true rfl | exact Nat.lt_of_lt_of_le (by assumption) (by decide) | exact size2 (by assumption) (by assumption) (by decide) | omega | ((simp only [List.length_cons, List.length_append, List.length_nil]); omega))
  (k_with "c itemN" => (k_here; (with_reducible show wpAny _ _ (subscriptTail _ _ (Value.ref _) (Value.int _ _)) _ _ _); (with_unfolding_all refine' my_itemN (by is_list) (by walk_at "c num") (by walk_at "c num") (by walk_at "c fit") ?_ (by with_unfolding_all rfl); k_whole)))
  (k_with "c end" => ((try k_unfold); (try dsimp only)))
  (k_with "c same" => exact same_of (by assumption) (by assumption))
  (k_with "c sub" => first | exact List.forall_mem_nil _ | exact fun _ h => h | exact List.forall_mem_cons.mpr ⟨by k_mem, by walk_at "c sub"⟩)
  (k_with "c now" => first | exact now_of (by assumption) (by assumption) | exact now_sub (by assumption) (by assumption) (by walk_at "c sub"))
  (k_with "c ints" => first | assumption | exact IntsAre.nil | exact IntsAre.cons _ _ IntsAre.nil | exact IntsAre.cons _ _ (IntsAre.cons _ _ IntsAre.nil) | exact IntsAre.cons _ _ (IntsAre.cons _ _ (IntsAre.cons _ _ IntsAre.nil)))
  (k_with "k_all" => first | exact all_ltS (by assumption) (by walk_at "c tail") | fail)
  (k_with "k_all" => first | exact List.forall_mem_nil _ | (refine' List.forall_mem_cons.mpr ⟨(by k_ne), (by k_all)⟩))
  (k_with "k_all" => first | (with_reducible assumption) | exact all_lt (by with_reducible assumption) | fail)
  (k_with "c lt" => first | assumption | exact lt_mem (by assumption) (by k_mem) | exact lt_mem2 (by assumption) (by assumption) (by k_mem) | exact Nat.lt_succ_self _ | exact Nat.lt_succ_of_lt (by walk_at "c lt"))
  (k_with "k_ne" => first | exact Apt.ne (by assumption) | exact (Apt.ne (by assumption)).symm | exact NewAt.ne (by assumption) (by k_mem) | exact (NewAt.ne (by assumption) (by k_mem)).symm | exact ne_gt (by assumption) (by k_mem) | exact ne_lt (by assumption) (by k_mem) | exact Nat.ne_of_gt (by walk_at "c lt") | exact Nat.ne_of_lt (by walk_at "c lt") | (refine neN ?_; (try dsimp only); omega))
  (k_with "k_mem" => first | exact lm0 | exact lm1 | exact lm2 | exact lm3 | (refine' lm4 ?_; k_mem))
  (k_with "le" => k_dflt (exact Nat.le_of_ble_eq_true rfl))
  (k_with "lt" => k_dflt (exact Nat.le_of_ble_eq_true rfl))
  (k_with "c size" => first | assumption | exact Nat.le_of_ble_eq_true rfl | exact Nat.lt_of_lt_of_le (by assumption) (by decide) | exact size2 (by assumption) (by assumption) (by decide) | omega | ((simp only [List.length_cons, List.length_append, List.length_nil]); omega))
  (k_with "call builtin:list.append" => (k_here; (with_reducible show wpAny _ _ (call (Value.builtin "list.append") [Value.ref _, _]) _ _ _); k_dflt (refine' my_append (by k_asm) (by k_asm) (by k_upd) (by walk_at "c size") ?_; k_whole); intro _ _ _; (try k_sweep)))
  (k_with "binaryOp Add ref ref" => (k_here; (with_reducible show wpAny _ _ (binaryOp Operator.Add (Value.ref _) (Value.ref _)) _ _ _); k_dflt (refine' my_addL (by k_asm) (by k_asm) (by is_list) (by is_list) (by walk_at "c size") ?_; k_whole); intro _ _ _ _ _; (try k_sweep)))
  (k_with "c tail" => (intro _ zzhp; repeat (first | exact zzhp | refine List.mem_cons_of_mem _ ?_)))
  (k_with "c rest" => (intro _ zzq1 zzq2 zzq3; (repeat (first | refine upd_ne zzq1 ?_ | refine upd_ne (ne_stored zzq3 (by decide +kernel)) ?_ | refine upd_ne (zzq2 (_, _) (by k_mem)) ?_ | exact kst_end zzq3 | refine kst_mid (not_in_cons (ne_stored zzq3 (by decide +kernel)) not_in_nil) ?_ | refine kst_ne (ne_stored zzq3 (by decide +kernel)) ?_ | refine kst_ne (zzq2 (_, _) (by k_mem)) ?_))))
  (k_with "c restW" => (intro _ zzq2 zzq3; (repeat (first | refine upd_ne (ne_stored zzq3 (by decide +kernel)) ?_ | refine upd_ne (zzq2 (_, _) (by k_mem)) ?_ | exact kst_end zzq3 | refine kst_mid (not_in_cons (ne_stored zzq3 (by decide +kernel)) not_in_nil) ?_ | refine kst_ne (ne_stored zzq3 (by decide +kernel)) ?_ | refine kst_ne (zzq2 (_, _) (by k_mem)) ?_))))
  (k_with "c ps" => first | exact List.forall_mem_nil _ | exact List.forall_mem_cons.mpr ⟨rfl, by walk_at "c ps"⟩)
  (k_with "c itemI" => (k_here; (with_reducible show wpAny _ _ (subscriptTail _ _ (Value.ref _) (Value.int _ _)) _ _ _); (with_unfolding_all refine' my_itemI (by is_list) (by with_reducible assumption) (by walk_at "c num") (by walk_at "c num") (by walk_at "c fit") ?_ (by with_unfolding_all rfl); k_whole); intro _))
  (k_with "exec Raise some none" => (k_here; k_dflt (refine' font_raise (by assumption) (by assumption) (by assumption) (by exact rfl) (by walk_at "c room") (by exact rfl) (by exact rfl) (by decide +kernel) ?_; intro _ _ _ _ _ _ _ _; (try k_unfold); (try dsimp only); refine' font_leave (by assumption) (by assumption) (by assumption) (by assumption) (by assumption) ?_ (by exact rfl); intro _ _ _; (try dsimp only))))
  (k_with "call type:bytes cons nil bytes" => (k_here; refine bb_call ?_))
  (k_with "call type:bytes" => (k_here; (with_reducible show wpAny _ _ (call (Value.type "bytes") [Value.bytes _ _]) _ _ _); refine bb_call ?_))
  (k_with "leaving ref" => (k_here; k_dflt (refine' leave_onSX (by assumption) (by assumption) (by assumption) (by assumption) ?_; k_whole); intro _ zzR zzU; (try dsimp only at zzR zzU ⊢)))
  (k_with "storeName" => (dsimp only; walk_at "storeName"))
  (k_with "c via0E" => (k_dflt (refine' via0E (by assumption) (by assumption) (by assumption) (by assumption) (by first | exact rfl | assumption) ?_)))
  (k_with "c via2E" => (k_dflt (refine' via2E (by assumption) (by assumption) (by assumption) (by assumption) (by walk_at "c pick") (by walk_at "c pick") (by k_all) (by k_all) (by first | exact rfl | assumption) ?_)))
  (k_with "c fault" => (intro _ _ _ _ _ _; (try dsimp only)))
  (k_with "call ref" => (k_here; (try dsimp only [List.cons_append, List.nil_append]); (with_reducible show wpAny _ _ (call (Value.ref 150) [Value.ref _]) _ _ _); walk_at "c via2E"; intro cC cO cD cn cF cK; (refine' byte_spec cC cO cD cn (by assumption) (by walk_at "c num") (by walk_at "c num") (by walk_at "c num") (by walk_at "c room") ?_ ?_); (all_goals first | (intro _ _ _ _ _ _ _ _ zzS zzW; (refine And.elim (fun _ zzN => ?_) (cK _ _ zzS zzW)); clear cK cC cO cD cn cF zzS zzW; (try dsimp only [List.cons_append, List.nil_append] at zzN); (try dsimp only); (try k_sweep)) | (clear cC cO cD cn cK; walk_at "c fault"))))
  (k_with "call ref" => (k_here; (try dsimp only [List.cons_append, List.nil_append]); (with_reducible show wpAny _ _ (call (Value.ref 157) [Value.ref _]) _ _ _); walk_at "c via2E"; intro cC cO cD cn cF cK; (refine' oword_spec cC cO cD cn (by assumption) (by walk_at "c num") (by walk_at "c num") (by walk_at "c num") (by walk_at "c room") ?_ ?_); (all_goals first | (intro _ _ _ _ _ _ _ _ zzS zzW; (refine And.elim (fun _ zzN => ?_) (cK _ _ zzS zzW)); clear cK cC cO cD cn cF zzS zzW; (try dsimp only [List.cons_append, List.nil_append] at zzN); (try dsimp only); (try k_sweep)) | (clear cC cO cD cn cK; walk_at "c fault"))))
  (k_with "call ref" => (k_here; (try dsimp only [List.cons_append, List.nil_append]); (with_reducible show wpAny _ _ (call (Value.ref 164) [Value.ref _]) _ _ _); walk_at "c via2E"; intro cC cO cD cn cF cK; (refine' signed_spec cC cO cD cn (by assumption) (by walk_at "c num") (by walk_at "c num") (by walk_at "c num") (by walk_at "c room") ?_ ?_); (all_goals first | (intro _ _ _ _ _ _ _ _ zzS zzW; (refine And.elim (fun _ zzN => ?_) (cK _ _ zzS zzW)); clear cK cC cO cD cn cF zzS zzW; (try dsimp only [List.cons_append, List.nil_append] at zzN); (try dsimp only); (try k_sweep)) | (clear cC cO cD cn cK; walk_at "c fault"))))
  (k_with "call ref" => (k_here; (try dsimp only [List.cons_append, List.nil_append]); (with_reducible show wpAny _ _ (call (Value.ref 171) [Value.ref _, Value.int _ _]) _ _ _); walk_at "c via2E"; intro cC cO cD cn cF cK; (refine' part_spec cC cO cD cn (by assumption) (by walk_at "c num") (by walk_at "c num") (by walk_at "c num") (by walk_at "c num") (by walk_at "c num") (by walk_at "c room") ?_ ?_); (all_goals first | (intro _ _ _ _ _ _ _ zzS zzW; (refine And.elim (fun _ zzN => ?_) (cK _ _ zzS zzW)); clear cK cC cO cD cn cF zzS zzW; (try dsimp only [List.cons_append, List.nil_append] at zzN); (try dsimp only); (try k_sweep)) | (clear cC cO cD cn cK; walk_at "c fault"))))
  (k_with "c enterC" => (refine wpAny_call ?_; k_dflt (refine' enterC (by assumption) (by first | assumption | exact use_nil) (by k_is) (by k_is) (by walk_at "c room") (by exact BindsTo.of_eq rfl) (by exact rfl) (by decide +kernel) ?_ (by exact rfl) (by exact rfl) (by exact rfl); k_whole; intro _ _ _ _ _ _ _ _ _ _ _ _ zzN zzY _ _ _ _; k_cells zzY; (try dsimp only [List.cons_append, List.nil_append] at zzN); (try dsimp only); (try k_fold))))
  (k_with "c init" => (refine' code_def (by k_asm) (by k_asm) (by k_asm) (by k_asm) (by k_asm) (by exact rfl) (by exact rfl) (by exact rfl) (by k_is) (by k_is) (by walk_at "c room") (by first | exact BindsTo.of_eq rfl | exact binds_K (by k_in) rfl (by k_is) rfl rfl rfl) (by exact locs rfl) ?_ (by exact rfl) (by exact rfl) (by exact rfl) (by decide); k_whole; intro _ _ _ _ _ _ zzB _ _; (try dsimp only); (try k_lift zzB); (try k_fold)))
  (k_with "call ref" => (k_here; k_dflt (refine' call_cls (by k_asm) (by k_asm) (by k_asm) (by k_is) (by k_is) (by k_is) ?_; k_whole; intro _ _ _ _ _ _ _; (try k_sweep); walk_at "c init")))
  (k_with "call ref" => (k_here; (with_reducible show wpAny _ _ (call (Value.ref 199) [Value.ref _, Value.int _ _]) _ _ _); walk_at "c via2E"; intro cC cO cD cn cF cK; (refine' ends_spec cC cO cD cn (by assumption) (by walk_at "c num") (by walk_at "c num") (by walk_at "c num") (by walk_at "c num") (by walk_at "c num") (by walk_at "c room") (by walk_at "c units") ?_ ?_); (all_goals first | (intro _ _ _ _ _ _ _ _ _ _ _ _ _ _ zzS zzW zzfO zzfd; (with_reducible rename News _ _ _ _ => zznO); (have zzhn1 := NewAt.mk (apart_new zznO (now_atU zzW (.tail _ (.tail _ (.head _))) (notin2 zzfO zzfd)))); (try dsimp only at zzhn1); (refine And.elim (fun _ zzN => ?_) (cK _ _ zzS zzW)); clear cK cC cO cD cn cF zzS zzW zznO; (try dsimp only [List.cons_append, List.nil_append] at zzN); (try dsimp only); (try k_sweep)) | (clear cC cO cD cn cK; walk_at "c fault"))))
  (k_with "call ref" => (k_here; (with_reducible show wpAny _ _ (call (Value.ref 185) [Value.ref _, Value.int _ _]) _ _ _); walk_at "c via2E"; intro cC cO cD cn cF cK; (refine' flags_spec cC cO cD cn (by assumption) (by walk_at "c num") (by walk_at "c num") (by walk_at "c num") (by walk_at "c num") (by walk_at "c num") (by walk_at "c room") ?_ ?_); (all_goals first | (intro _ _ _ _ _ _ _ _ _ _ _ _ _ zzS zzW zzfO zzfd; (with_reducible rename News _ _ _ _ => zznO); (have zzhn1 := NewAt.mk (apart_new zznO (now_atU zzW (.tail _ (.tail _ (.head _))) (notin2 zzfO zzfd)))); (try dsimp only at zzhn1); (refine And.elim (fun _ zzN => ?_) (cK _ _ zzS zzW)); clear cK cC cO cD cn cF zzS zzW zznO; (try dsimp only [List.cons_append, List.nil_append] at zzN); (try dsimp only); (try k_sweep)) | (clear cC cO cD cn cK; walk_at "c fault"))))
  (k_with "call ref" => (k_here; (with_reducible show wpAny _ _ (call (Value.ref 192) [Value.ref _, Value.ref _, Value.int _ _, Value.int _ _]) _ _ _); walk_at "c via2E"; intro cC cO cD cn cF cK; (refine' deltas_spec cC cO cD cn (by assumption) (by walk_at "c num") (by walk_at "c num") (by walk_at "c num") (by is_list) (by exact ⟨by k_ne, by k_ne⟩) (by with_reducible assumption) (by walk_at "c num") (by walk_at "c room") ?_ ?_); (all_goals first | (intro _ _ _ _ _ _ _ _ _ _ _ _ _ zzS zzW zzfO zzfd; (with_reducible rename News _ _ _ _ => zznO); (have zzhn1 := NewAt.mk (apart_new zznO (now_atU zzW (.tail _ (.tail _ (.head _))) (notin2 zzfO zzfd)))); (try dsimp only at zzhn1); (refine And.elim (fun _ zzN => ?_) (cK _ _ zzS zzW)); clear cK cC cO cD cn cF zzS zzW zznO; (try dsimp only [List.cons_append, List.nil_append] at zzN); (try dsimp only); (try k_sweep)) | (clear cC cO cD cn cK; walk_at "c fault"))))
  (k_with "c units" => (dsimp only [Around.deeper, Ar]; first | exact room2 (by assumption) (by decide) | exact room1 (by assumption) (by decide) | omega))
  (k_with "eval Name" => (k_here; (with_reducible show wpAny _ _ (eval (PySem.Expr.Name _ _) (compEnvC _ _ _ _)) _ _ _); k_dflt (refine' blkB (by rfl) (by rfl) (by rfl) (by rfl) (by decide) (by k_asm) (by k_asm) (by k_asm) (by k_is) (by boot_by_name) (by decide) ?_; k_whole)))
  (k_with "eval Name" => (k_here; (with_reducible show wpAny _ _ (eval (PySem.Expr.Name _ _) (compEnvC _ _ _ _)) _ _ _); k_dflt (refine' blkK (by rfl) (by rfl) (by rfl) (by decide) (by k_asm) (by k_asm) (by k_asm) (by k_is) ?_; k_whole)))
  (k_with "eval Name" => (k_here; (with_reducible show wpAny _ _ (eval (PySem.Expr.Name _ _) (compEnvC _ _ _ _)) _ _ _); k_dflt (refine' blkC (by rfl) (by rfl) (by decide) (by k_asm) (by rfl) (by k_mem) (by k_asm) ?_; k_whole)))
  (k_with "eval Name" => (k_here; (with_reducible show wpAny _ _ (eval (PySem.Expr.Name _ _) (compEnvC _ _ _ _)) _ _ _); k_dflt (refine' blkL (by rfl) (by rfl) (by decide) (by k_asm) (by with_reducible assumption) (by k_mem) (by exact if_pos rfl) ?_; k_whole)))
  (k_with "compareOp NotEq ref ref" => (k_here; (with_reducible show wpAny _ _ (compareOp CmpOp.NotEq (Value.ref _) (Value.ref _)) _ _ _); (with_unfolding_all refine' ne_intsK (by is_list) (by with_reducible assumption) (by is_list) (by exact IntsAre.nil) (by dsimp only [Around.deeper, Ar]; first | exact room2 (by assumption) (by decide) | exact room1 (by assumption) (by decide) | omega) ?_; k_whole)))
  (k_with "subscriptTail Name" => (k_here; (with_reducible show wpAny _ _ (subscriptTail _ _ (Value.ref _) (Value.int (-1) _)) _ _ _); k_dflt (with_unfolding_all refine' my_lastI (by is_list) (by with_reducible assumption) (by refine List.length_pos_iff.mpr ?_; simp_all only [Bool.not_eq_true', decide_eq_false_iff_not, ne_eq, not_false_eq_true]) (by omega) ?_ (by with_unfolding_all rfl); k_whole); intro _))
  (k_with "exec Assign cons ListComp" => (k_here; k_dflt (refine' comp_assign (by with_unfolding_all rfl) (by with_unfolding_all rfl) (by rfl) (by decide) ?_ (by intro _; with_unfolding_all rfl); k_whole)))
  (k_with "eval ListComp" => (k_here; k_dflt (refine' comp_open (by with_unfolding_all rfl) (by rfl) (by decide) ?_ (by intro _; with_unfolding_all rfl); k_whole)))
  (k_with "c goI" => repeat' (first | ((fail_if_success (with_reducible show wpAny _ _ (pyIter (Value.ref _)) _ _ _)); (fail_if_success (with_reducible show wpAny _ _ (exec (Stmt.While _ _ _ _) _) _ _ _)); (fail_if_success (with_reducible show wpAny _ _ (eval (PySem.Expr.IfExp _ _ _ _) _) _ _ _)); first | (k_unfold; (try dsimp only)) | walk1 | (dsimp only; walk1))))
  trivial
/-- what a reading is due to tell -/
def Exp (N : Nat) (ti : List Int) (a : Int) (dr : List (List Row)) (di : List Int) (n : Int) : Prop :=
  ((N = 0 ∧ a = ti.length) ∧ dr = [] ∧ di = [] ∧ n = a) ∨
  (¬(N = 0 ∧ a = ti.length) ∧ ∃ g rest, RS N (ti.drop a.toNat) = some (g, rest) ∧ (rest.length : Int) + n = ti.length ∧ di = g.ins ∧ dr = cutG ((List.range (g.es.getLastD (-1) + 1).toNat).map (rowAt g.xs g.ys g.fs)) 0 g.es)
theorem told_exp {N : Nat} {ti : List Int} {a p' n : Int} {ins : Array UInt8} {pv : List Value} {cs : List (List Value)} {rr : List Row} {dr : List (List Row)} {di : List Int} {h : Heap} (T : Told9 N ti a p' ins pv cs rr) (X : Exp N ti a dr di n) (hp : All2 (TripAt h) pv rr) (p0 : 0 ≤ p') (p1 : p' ≤ ti.length) :
    KBw.bInts ins = di ∧ p' = n ∧ All2 (All2 (TripAt h)) cs dr := by
  rcases T with ⟨h1, rfl, e1, rfl, rfl, rfl⟩ | ⟨h1, g, e1, e2, rfl, rfl⟩
  · rcases X with ⟨_, rfl, rfl, rfl⟩ | ⟨h2, _⟩
    · exact ⟨e1, rfl, .nil⟩
    · exact absurd h1 h2
  · rcases X with ⟨h2, _⟩ | ⟨_, g', rest, e1', e2', rfl, rfl⟩
    · exact absurd h2 h1
    · rw [e1] at e1'
      simp only [Option.some.injEq, Prod.mk.injEq] at e1'
      obtain ⟨rfl, rfl⟩ := e1'
      refine ⟨e2, ?_, ?_⟩
      · rw [List.length_drop] at e2'
        omega
      · rw [cuts_eq]
        exact hp.cut 0 g.es
theorem cuts_length (pv : List Value) : ∀ (b : Int) (es : List Int), (cuts pv b es).length = es.length
  | _, [] => rfl
  | b, e :: r => by rw [cuts, List.length_cons, cuts_length pv (e + 1) r, List.length_cons]
theorem cuts_mem (pv : List Value) : ∀ (b : Int) (es : List Int) (c : List Value), c ∈ cuts pv b es → c.length ≤ pv.length
  | _, [], c, h => nomatch h
  | b, e :: r, c, h => by
    rw [cuts] at h
    rcases List.mem_cons.mp h with rfl | h
    · rw [Array.length_toList]
      exact pick_le _ _ _
    · exact cuts_mem pv (e + 1) r c h
theorem RE_bound : ∀ (N : Nat) (last : Int) (l es r : List Int), RE N last l = some (es, r) → (∀ v ∈ l, 0 ≤ v ∧ v < 256) → es.length = N ∧ ∀ v ∈ es, 0 ≤ v ∧ v < 65536
  | 0, _, l, es, r, h, _ => by
    simp only [RE, Option.some.injEq, Prod.mk.injEq] at h
    obtain ⟨rfl, _⟩ := h
    exact ⟨rfl, fun _ q => nomatch q⟩
  | n + 1, last, l, es, r, h, hl => by
    match l, h with
    | x :: y :: t, h =>
      simp only [RE] at h
      split at h
      · cases h
      · obtain ⟨v', h1, rfl⟩ := pre_eq h
        obtain ⟨i1, i2⟩ := RE_bound n _ t v' r h1 fun v hv => hl v (.tail _ (.tail _ hv))
        have hx := hl x (.head _)
        have hy := hl y (.tail _ (.head _))
        refine ⟨by simp [i1], fun v hv => ?_⟩
        rcases List.mem_append.mp hv with hv | hv
        · rw [List.mem_singleton.mp hv]
          constructor <;> omega
        · exact i2 v hv
theorem told_len {N : Nat} {ti : List Int} {a p' : Int} {ins : Array UInt8} {pv vs : List Value} {cs : List (List Value)} {rr : List Row} {tl : List (Addr × Obj)} (T : Told9 N ti a p' ins pv cs rr) (L : ListsIn tl vs cs) (P : TupsIn tl pv rr) (hr : ∀ n ∈ ti, 0 ≤ n ∧ n < 256) (hN : N < 1000) : vs.length < 1000 ∧ ∀ c ∈ cs, c.length < 70000 := by
  rcases T with ⟨h1, rfl, e1, rfl, rfl, rfl⟩ | ⟨h1, g, e1, e2, rfl, rfl⟩
  · exact ⟨by rw [L.length]; decide, fun _ h => nomatch h⟩
  · have hRE : ∃ r, RE N (-1) (ti.drop a.toNat) = some (g.es, r) := by
      unfold RS at e1
      obtain ⟨⟨es, l1⟩, q1, h⟩ := Option.bind_eq_some_iff.mp e1
      obtain ⟨⟨z, l2⟩, q2, h⟩ := Option.bind_eq_some_iff.mp h
      obtain ⟨⟨ins, l3⟩, q3, h⟩ := Option.bind_eq_some_iff.mp h
      obtain ⟨⟨fs, l4⟩, q4, h⟩ := Option.bind_eq_some_iff.mp h
      obtain ⟨⟨xs, l5⟩, q5, h⟩ := Option.bind_eq_some_iff.mp h
      obtain ⟨⟨ys, l6⟩, q6, h⟩ := Option.bind_eq_some_iff.mp h
      simp only [Option.some.injEq, Prod.mk.injEq] at h
      obtain ⟨rfl, _⟩ := h
      exact ⟨_, q1⟩
    obtain ⟨r, hRE⟩ := hRE
    obtain ⟨b1, b2⟩ := RE_bound _ _ _ _ _ hRE fun v hv => hr v (List.mem_of_mem_drop hv)
    refine ⟨by rw [L.length, cuts_length]; omega, fun c hc => Nat.lt_of_le_of_lt (cuts_mem pv 0 g.es c hc) ?_⟩
    rw [P.length, List.length_map, List.length_range]
    have := lastD_ge b2
    omega
section
variable {w : World} {A : Around} {base h₀ h : Heap} {outer : List Env} {L a : Addr} {m mg mb : Str → Option Value} {mean : ExcName → Option Value} {cn : Str} {cs : Scope} {ccd : Value} {cl : List (Str × Addr)} {news : List (Addr × Obj)}
theorem viaR {M : Model} {s : Shared} {t : Sem Value} {U : List Addr} {Q E : Value → Shared → Prop} (hB : Bs w mean mg mb base) (B : Below A base outer h₀) (F : Fr h₀ L s.heap m) (N : News h₀ L s.heap news) (hU : ∀ u ∈ U, ∃ o, (u, o) ∈ news) (hk : cs.kind = .function)
    (k : Cx w (A.deeper (envX cn cs L a ccd cl)) base (envX cn cs L a ccd cl :: outer) U s.heap → (∀ p ∈ news, s.heap.get? p.1 = some p.2) → (∀ h' led, Same [] s.heap h' → Now U s.heap h' led → Fr h₀ L h' m ∧ News h₀ L h' (led ++ news)) →
      wpAny M (A.deeper (envX cn cs L a ccd cl)) t Q E s) : wpAny M (A.deeper (envX cn cs L a ccd cl)) t Q E s :=
  k (cx_of hB B F N hU hk) (fun p hp => (N p hp).1) fun h' led hS hW => ⟨fr_same F N hU (hS.mono fun _ q => nomatch q), news_cat (news_now F N hU hW) (news_same N hS (fun _ h => h) fun _ _ q => nomatch q)⟩
end
theorem news_swap2 {h₀ h : Heap} {L : Addr} {a b : Addr × Obj} {t r : List (Addr × Obj)} (N : News h₀ L h (a :: b :: (t ++ r))) : News h₀ L h (a :: b :: (r ++ t)) := news_sub N fun p hp => by
  simp only [List.mem_cons, List.mem_append] at hp ⊢
  rcases hp with h | h | h | h <;> simp only [h, true_or, or_true]
theorem two_in {news : List (Addr × Obj)} {x d : Addr} {o o' : Obj} (h : (x, o) ∈ news) (h' : (d, o') ∈ news) : ∀ u ∈ [x, d], ∃ o, (u, o) ∈ news := fun u hu => by
  rcases List.mem_cons.mp hu with rfl | hu
  · exact ⟨_, h⟩
  · rw [List.mem_singleton.mp hu]; exact ⟨_, h'⟩
theorem lnXIsRead_2 : True := by
  (k_with "call ref" => (k_here; (with_reducible show wpAny _ _ (call (Value.ref 204) [Value.ref _, Value.int _ _]) _ _ _); walk_at "c via2E"; intro cC cO cD cn cF cK; (refine' simple_spec cC cO cD cn (by assumption) (by walk_at "c num") (by walk_at "c num") (by walk_at "c num") (by assumption) (by walk_at "c num") (by walk_at "c room") (by walk_at "c units") ?_ ?_); (all_goals first | (intro _ _ _ _ _ _ _ _ _ _ _ _ _ _ _ _ _ _ _ _ zzS zzW; (refine And.elim (fun _ zzN => ?_) (cK _ _ zzS zzW)); clear cK cC cO cD cn cF zzS zzW; (try simp only [List.cons_append, List.nil_append, List.append_nil] at zzN); (try dsimp only); (try k_sweep)) | (intro _; clear cC cO cD cn cK; walk_at "c fault"))))
  (k_with "call ref" => (k_here; (try dsimp only [List.cons_append, List.nil_append]); (with_reducible show wpAny _ _ (call (Value.ref 171) [Value.ref _, Value.int _ _]) _ _ _); walk_at "c via2E"; intro cC cO cD cn cF cK; (refine' part_spec (q := ⟨PyData.keyHash _ (Str.ofString "octets"), PyData.keyHash _ (Str.ofString "at"), _, _, _⟩) cC cO cD cn (by assumption) (by walk_at "c num") (by walk_at "c num") (by walk_at "c num") (by walk_at "c num") (by walk_at "c num") (by walk_at "c room") ?_ ?_); (all_goals first | (intro _ _ _ _ _ _ _ zzS zzW; (refine And.elim (fun _ zzN => ?_) (cK _ _ zzS zzW)); clear cK cC cO cD cn cF zzS zzW; (try dsimp only [List.cons_append, List.nil_append] at zzN); (try dsimp only); (try k_sweep)) | (clear cC cO cD cn cK; walk_at "c fault"))))
  (k_with "call type:bytes" => (k_here; (with_reducible show wpAny _ _ (call (Value.type "bytes") [Value.ref _]) _ _ _); k_dflt (refine' KBa.make_K (by k_asm) (by k_asm) (by rfl) (by is_list) (by with_reducible assumption) (by with_reducible assumption) (by walk_at "c num") ?_); intro _ _ _ _ _ kbaIn))
  (k_with "c goC" => repeat' (first | ((fail_if_success (with_reducible show wpAny _ _ (compareOp CmpOp.Eq (Value.ref _) (Value.ref _)) _ _ _)); first | (k_unfold; (try dsimp only)) | walk1 | (dsimp only; walk1))))
  trivial
set_option maxHeartbeats 3000000 in
theorem is_read_spec {w : World} {dp un : Nat} {gd : Option (List Code)} {base : Heap} {envs : List Env} {s : Shared} {Q E : Value → Shared → Prop} {T : Addr} {tv : List Value} {ti : List Int} {a many : Int} {N : Nat} {ta tm : Tok} {due : Value}
  (C : Cx w (Ar dp un gd envs) base envs [] s.heap) (hT : s.heap.IsList T tv.toArray) (hI : IntsAre tv ti) (hr : ∀ n ∈ ti, 0 ≤ n ∧ n < 256) (hlen : ti.length < 1000) (ha0 : 0 ≤ a) (ha1 : a ≤ ti.length) (hN : many = (N : Int)) (hN1 : N < 1000) (hroom : dp + 30 < recursionLimit) (hun : un + 600 < cLine)
  (hdue : (due = .none ∧ ¬(N = 0 ∧ a = ti.length) ∧ RS N (ti.drop a.toNat) = none) ∨ ∃ D dr di n, due = .ref D ∧ DueAt s.heap D dr di n ∧ Exp N ti a dr di n)
  (k : ∀ h' tk', SameT (envs.filterMap (·.frame)) s.heap h' → Q (.bool true) { s with heap := h', toks := tk' }) :
  wpAny (model PySem.Challenge.rw_xm0719_01.row.prog w) (Ar dp un gd envs) (call (.ref 267) [.ref T, .int a ta, .int many tm, due]) Q E s := by
  have hT' := list_hide hT (U := []) (fun h => nomatch h)
  have hvl : tv.length = ti.length := hI.length
  have hbi : KBw.bInts (byteArr ti) = ti := KBa.ints_make hr
  have e0 : (0 : Int) + a = a := Int.zero_add a
  walk_at "c enter"
  rename _ = hideAll _ _ => eg
  rw [← eg] at hT'
  walk_at "c go"
  · rename Told9 _ _ _ _ _ _ _ _ => hT9
    rename ListsIn _ _ _ => hLI
    rename TupsIn _ _ _ => hTI
    obtain ⟨vl9, cl9⟩ := told_len hT9 hLI hTI hr hN1
    rw [e0] at hT9
    rcases hdue with ⟨rfl, h1, h2⟩ | ⟨D, dr, di, n, rfl, hD, hX⟩
    · exfalso
      rcases hT9 with ⟨z, _⟩ | ⟨_, g, z, _⟩
      · exact h1 z
      · rw [h2] at z; cases z
    · walk_at "c go"
      dsimp only [List.cons_append, List.nil_append]
      k_dflt (refine' viaR (U := [_, _]) ?hB ?B ?F ?N ?hU ?hk ?sp)
      case hB => assumption
      case B => assumption
      case F => assumption
      case N => assumption
      case hk => exact rfl
      case sp =>
        intro cC cM cK
        refine' row_spec cC ?hx ?hd ?hcl ?hL ?htl ?vl ?cs ?rm ?_
        case hx => exact cM (_, instObj _ _) (by k_mem)
        case hd => exact cM (_, outD _ _ _) (by k_mem)
        case hcl => exact ⟨_, cM (_, listOf _ _) (by k_mem), rfl, _, rfl⟩
        case hL => assumption
        case htl => exact fun p hp => cM p ((by walk_at "c tail" : ∀ p ∈ _, p ∈ _) p hp)
        case vl => assumption
        case cs => assumption
        case rm => walk_at "c room"
        clear cC cM
        intro r' t' us' tl2' h' tk' hTL' S' W'
        obtain ⟨F', N'⟩ := cK _ _ S' W'
        clear cK S' W'
        simp only [List.cons_append, List.nil_append] at N'
        replace N' := news_swap2 N'
        simp only [List.cons_append] at N'
        (try dsimp only)
        walk_at "c goC"
        rename Fr _ _ _ _ => F9
        rename News _ _ _ _ => N9
        have up : ∀ b o, s.heap.get? b = some o → _ := fun b o e => F9.keep b o (by rw [eg]; exact hideAll_get _ e (fun q => nomatch q))
        have hm := fun p hp => (N9 p (.tail _ (.tail _ (.tail _ (.tail _ (.tail _ (.tail _ (.tail _ (.tail _ hp))))))))).1
        have trips := trips_of (fun p hp => hm p (List.mem_append_left _ hp)) hTI
        obtain ⟨e1, e2, e3⟩ := told_exp hT9 hX trips (by assumption) (by assumption)
        have rows := tups_of (fun p hp => hm p (List.mem_append_right _ hp)) hTL' e3
        subst e2
        refine due_eq (dr := dr) (di := di) (n := _) ?hu ⟨r', t', _, us', _, _, isTuple_of (vs := [_, _]) (N9 _ (.head _)).1, isTuple_of (vs := [_, _]) (N9 _ (.tail _ (.head _))).1, e1, isTuple_of (N9 _ (.tail _ (.tail _ (.head _)))).1, rows⟩ (hD.up up) _ _ _ _ ?_
        case hu => walk_at "c units"
        walk_at "c end"
        walk_at "c end"
        exact k _ _ (sameT_of (same_of eg F9))
      case hU => exact two_in (by k_mem) (by k_mem)
  · rename ¬(N = 0 ∧ _) => hz9
    rename RS _ _ = none => hRS
    rename RaisedSN _ _ _ _ _ _ _ => hR
    rw [e0] at hz9 hRS
    refine caught_own hR (by assumption) (by assumption) (by assumption) (by assumption) ?kk rfl rfl (by passes_own)
    case kk =>
      intro h8 g8 T8 F8 B8 X8 P8
      rcases hdue with ⟨rfl, h1, h2⟩ | ⟨D, dr, di, n, rfl, hD, hX⟩
      · walk_at "c go"
        walk_at "c end"
        walk_at "c end"
        exact k _ _ (sameT_turn eg T8 F8)
      · exfalso
        rcases hX with ⟨z, _⟩ | ⟨_, g, r, z, _⟩
        · exact hz9 z
        · rw [hRS] at z; cases z
  · omega
end
section
open PySem PySem.W PySem.Calls PyProof.Rows PySem.SeqAt
-- XPool
set_option maxRecDepth 100000
theorem lnXPool_1 : True := by
  w_top off
  k_with_none
  (k_with "c enter" => (refine wpAny_call ?_; k_dflt (refine' enter (by assumption) (by first | assumption | exact use_nil) (by k_is) (by k_is) (by walk_at "c room") (by exact BindsTo.of_eq rfl) (by exact locs rfl) ?_ (by exact rfl) (by exact rfl) (by exact rfl) (by decide); k_whole; intro _ _ _ _ _ _ _ _ _ _ _ _ _ _; (try dsimp only); (try k_fold))))
  (k_with "c room" => first | assumption | decide | ((try simp only [depth_under_make, depth_under_kw, depth_in1, depth_deeper, depth_caller]); (try dsimp only [Ar]); first | exact room2 (by assumption) (by decide) | exact room1 (by assumption) (by decide) | exact room0 (by assumption) | omega))
  (k_with "c pick" => first | exact Pick.head | exact Pick.tail (by walk_at "c pick"))
  (k_with "c go" => repeat' (first | ((fail_if_success (with_reducible show wpAny _ _ (pyIter (Value.ref _)) _ _ _)); (fail_if_success (with_reducible show wpAny _ _ (exec (Stmt.While _ _ _ _) _) _ _ _)); first | (k_unfold; (try dsimp only)) | walk1 | (dsimp only; walk1))))
  (k_with "subscriptTail Name Constant ref int" => (k_here; (with_reducible show wpAny _ _ (subscriptTail _ _ (Value.ref _) (Value.int _ _)) _ _ _); (with_unfolding_all refine' my_item (by is_list) (by decide) (by decide) (by rfl) ?_ (by with_unfolding_all rfl); k_whole)))
  (k_with "call builtin:len" => (k_here; (with_reducible show wpAny _ _ (call (Value.builtin "len") [Value.ref _]) _ _ _); k_dflt (refine' my_len (by is_list) (by walk_at "c fit") ?_; k_whole)))
  (k_with "c via1" => (k_dflt (refine' via1 (by assumption) (by assumption) (by assumption) (by assumption) (by walk_at "c pick") (by k_all) (by first | exact rfl | assumption) ?_)))
  (k_with "c via0" => (k_dflt (refine' via0 (by assumption) (by assumption) (by assumption) (by assumption) (by first | exact rfl | assumption) ?_)))
  (k_with "c num" => first | assumption | decide | exact Int.natCast_nonneg _ | exact Nat.lt_of_lt_of_le (by assumption) (by decide) | exact size2 (by assumption) (by assumption) (by decide) | omega)
  (k_with "call ref" => (k_here; (with_reducible show wpAny _ _ (call (Value.ref 218) [Value.ref _, Value.int _ _]) _ _ _); walk_at "c via1"; intro cC cS cK; k_dflt (refine' take_spec cC cS (by walk_at "c num") (by walk_at "c num") (by walk_at "c num") (by walk_at "c num") (by walk_at "c room") ?_); clear cC cS; intro _ _ _ _ _ _ _ _ _ _ _ _ zzS zzW; (refine And.elim (fun _ zzN => ?_) (cK _ _ zzS zzW)); clear cK zzS zzW; (try dsimp only [List.cons_append, List.nil_append] at zzN); (try dsimp only); (try k_sweep)))
  (k_with "c fit" => first | assumption | exact Nat.le_of_ble_eq_true rfl | exact Nat.lt_of_lt_of_le (by assumption) (by decide) | exact size2 (by assumption) (by assumption) (by decide) | omega | ((simp only [List.length_cons, List.length_append, List.length_nil]); omega))
  (k_with "c itemN" => (k_here; (with_reducible show wpAny _ _ (subscriptTail _ _ (Value.ref _) (Value.int _ _)) _ _ _); (with_unfolding_all refine' my_itemN (by is_list) (by walk_at "c num") (by walk_at "c num") (by walk_at "c fit") ?_ (by with_unfolding_all rfl); k_whole)))
  (k_with "c end" => ((try k_unfold); (try dsimp only)))
  (k_with "c same" => exact same_of (by assumption) (by assumption))
  (k_with "c sub" => first | exact List.forall_mem_nil _ | exact fun _ h => h | exact List.forall_mem_cons.mpr ⟨by k_mem, by walk_at "c sub"⟩)
  (k_with "c now" => first | exact now_of (by assumption) (by assumption) | exact now_sub (by assumption) (by assumption) (by walk_at "c sub"))
  (k_with "c ints" => first | assumption | exact IntsAre.nil | exact IntsAre.cons _ _ IntsAre.nil | exact IntsAre.cons _ _ (IntsAre.cons _ _ IntsAre.nil) | exact IntsAre.cons _ _ (IntsAre.cons _ _ (IntsAre.cons _ _ IntsAre.nil)))
  (k_with "k_all" => first | exact all_ltS (by assumption) (by walk_at "c tail") | fail)
  (k_with "k_all" => first | exact List.forall_mem_nil _ | (refine' List.forall_mem_cons.mpr ⟨(by k_ne), (by k_all)⟩))
  (k_with "k_all" => first | (with_reducible assumption) | exact all_lt (by with_reducible assumption) | fail)
  (k_with "c lt" => first | assumption | exact lt_mem (by assumption) (by k_mem) | exact lt_mem2 (by assumption) (by assumption) (by k_mem) | exact Nat.lt_succ_self _ | exact Nat.lt_succ_of_lt (by walk_at "c lt"))
  (k_with "k_ne" => first | exact Apt.ne (by assumption) | exact (Apt.ne (by assumption)).symm | exact NewAt.ne (by assumption) (by k_mem) | exact (NewAt.ne (by assumption) (by k_mem)).symm | exact ne_gt (by assumption) (by k_mem) | exact ne_lt (by assumption) (by k_mem) | exact Nat.ne_of_gt (by walk_at "c lt") | exact Nat.ne_of_lt (by walk_at "c lt") | (refine neN ?_; (try dsimp only); omega))
  (k_with "k_mem" => first | exact lm0 | exact lm1 | exact lm2 | exact lm3 | (refine' lm4 ?_; k_mem))
  (k_with "le" => k_dflt (exact Nat.le_of_ble_eq_true rfl))
  (k_with "lt" => k_dflt (exact Nat.le_of_ble_eq_true rfl))
  (k_with "c size" => first | assumption | exact Nat.le_of_ble_eq_true rfl | exact Nat.lt_of_lt_of_le (by assumption) (by decide) | exact size2 (by assumption) (by assumption) (by decide) | omega | ((simp only [List.length_cons, List.length_append, List.length_nil]); omega))
  (k_with "call builtin:list.append" => (k_here; (with_reducible show wpAny _ _ (call (Value.builtin "list.append") [Value.ref _, _]) _ _ _); k_dflt (refine' my_append (by k_asm) (by k_asm) (by k_upd) (by walk_at "c size") ?_; k_whole); intro _ _ _; (try k_sweep)))
  (k_with "binaryOp Add ref ref" => (k_here; (with_reducible show wpAny _ _ (binaryOp Operator.Add (Value.ref _) (Value.ref _)) _ _ _); k_dflt (refine' my_addL (by k_asm) (by k_asm) (by is_list) (by is_list) (by walk_at "c size") ?_; k_whole); intro _ _ _ _ _; (try k_sweep)))
  (k_with "c tail" => (intro _ zzhp; repeat (first | exact zzhp | refine List.mem_cons_of_mem _ ?_)))
  (k_with "c rest" => (intro _ zzq1 zzq2 zzq3; (repeat (first | refine upd_ne zzq1 ?_ | refine upd_ne (ne_stored zzq3 (by decide +kernel)) ?_ | refine upd_ne (zzq2 (_, _) (by k_mem)) ?_ | exact kst_end zzq3 | refine kst_mid (not_in_cons (ne_stored zzq3 (by decide +kernel)) not_in_nil) ?_ | refine kst_ne (ne_stored zzq3 (by decide +kernel)) ?_ | refine kst_ne (zzq2 (_, _) (by k_mem)) ?_))))
  (k_with "c restW" => (intro _ zzq2 zzq3; (repeat (first | refine upd_ne (ne_stored zzq3 (by decide +kernel)) ?_ | refine upd_ne (zzq2 (_, _) (by k_mem)) ?_ | exact kst_end zzq3 | refine kst_mid (not_in_cons (ne_stored zzq3 (by decide +kernel)) not_in_nil) ?_ | refine kst_ne (ne_stored zzq3 (by decide +kernel)) ?_ | refine kst_ne (zzq2 (_, _) (by k_mem)) ?_))))
  (k_with "c ps" => first | exact List.forall_mem_nil _ | exact List.forall_mem_cons.mpr ⟨rfl, by walk_at "c ps"⟩)
  (k_with "c itemI" => (k_here; (with_reducible show wpAny _ _ (subscriptTail _ _ (Value.ref _) (Value.int _ _)) _ _ _); (with_unfolding_all refine' my_itemI (by is_list) (by with_reducible assumption) (by walk_at "c num") (by walk_at "c num") (by walk_at "c fit") ?_ (by with_unfolding_all rfl); k_whole); intro _))
  (k_with "exec Raise some none" => (k_here; k_dflt (refine' font_raise (by assumption) (by assumption) (by assumption) (by exact rfl) (by walk_at "c room") (by exact rfl) (by exact rfl) (by decide +kernel) ?_; intro _ _ _ _ _ _ _ _; (try k_unfold); (try dsimp only); refine' font_leave (by assumption) (by assumption) (by assumption) (by assumption) (by assumption) ?_ (by exact rfl); intro _ _ _; (try dsimp only))))
  (k_with "call type:bytes cons nil bytes" => (k_here; refine bb_call ?_))
  (k_with "call type:bytes" => (k_here; (with_reducible show wpAny _ _ (call (Value.type "bytes") [Value.bytes _ _]) _ _ _); refine bb_call ?_))
  (k_with "leaving ref" => (k_here; k_dflt (refine' leave_onSX (by assumption) (by assumption) (by assumption) (by assumption) ?_; k_whole); intro _ zzR zzU; (try dsimp only at zzR zzU ⊢)))
  (k_with "storeName" => (dsimp only; walk_at "storeName"))
  trivial
set_option maxHeartbeats 3000000 in
theorem pool_spec {w : World} {dp un : Nat} {gd : Option (List Code)} {base : Heap} {envs : List Env} {s : Shared} {Q E : Value → Shared → Prop} {T : Addr} {tv : List Value} {ti : List Int}
  (C : Cx w (Ar dp un gd envs) base envs [] s.heap) (hT : s.heap.IsList T tv.toArray) (hI : IntsAre tv ti) (hlen : ti.length < 1000) (hroom : dp + 3 < recursionLimit)
  (k : ∀ l x y tx ty h' tk', 0 ≤ y → y < 2147483647 → Same [] s.heap h' → Now [] s.heap h' [(l, listOf #[Value.int x tx, Value.int y ty] 0)] → Q (.ref l) { s with heap := h', toks := tk' }) :
  wpAny (model PySem.Challenge.rw_xm0719_01.row.prog w) (Ar dp un gd envs) (call (.ref 211) [.ref T]) Q E s := by
  have hT' := list_hide hT (U := []) (fun h => nomatch h)
  have hvl : tv.length = ti.length := hI.length
  walk_at "c enter"
  rename _ = hideAll _ _ => eg
  rw [← eg] at hT'
  walk_at "c go"
  all_goals exact k _ _ _ _ _ _ _ (fm (by decide)).1 (fm (by decide)).2 (by walk_at "c same") (by walk_at "c now")
end
section
open PySem PySem.W PySem.Calls PyProof.Rows
-- XComp3
theorem lnXComp3_0 : True := by
  w_top off
  k_with_none
  trivial
set_option maxRecDepth 100000
abbrev two (x : Str) (px : Pos) (iter : Expr) (y : Str) (py : Pos) (iter2 : Expr) : List Comprehension := [⟨.Name x px, iter, [], 0⟩, ⟨.Name y py, iter2, [], 0⟩]
theorem turn_in (elt : Expr) (c0 : Comprehension) (t2 iter2 : Expr) (scope : Scope) (pos : Pos) (it acc : Value) (env : Env) :
    compTurn (.ListComp elt [c0, ⟨t2, iter2, [], 0⟩] scope pos) 1 it acc env = (standAt iter2.pos >>= fun _ => pyNext it >>= fun r => match r with
      | none => pure (.done .next)
      | some v => letOwnedTupleGo t2 it v >>= fun _ => assign t2 env v >>= fun _ =>
        (eval elt env >>= fun x => call (.builtin "list.append") [acc, x] >>= fun _ => pure ()) >>= fun _ =>
          again (.compLoop (.ListComp elt [c0, ⟨t2, iter2, [], 0⟩] scope pos) 1 it acc env)) := by rfl
theorem turn_out (elt t1 iter : Expr) (t2 iter2 : Expr) (scope : Scope) (pos : Pos) (it acc : Value) (env : Env) :
    compTurn (.ListComp elt [⟨t1, iter, [], 0⟩, ⟨t2, iter2, [], 0⟩] scope pos) 0 it acc env = (standAt iter.pos >>= fun _ => pyNext it >>= fun r => match r with
      | none => pure (.done .next)
      | some v => letOwnedTupleGo t1 it v >>= fun _ => assign t1 env v >>= fun _ =>
        eval iter2 env >>= fun x => standAt iter2.pos >>= fun _ => foldedSetIterable iter2 env x >>= fun x => holding [x] (pyIter x) >>= fun it2 =>
          runOwn (.compStart (.ListComp elt [⟨t1, iter, [], 0⟩, ⟨t2, iter2, [], 0⟩] scope pos) 1 it2 acc env) env >>= fun _ =>
          again (.compLoop (.ListComp elt [⟨t1, iter, [], 0⟩, ⟨t2, iter2, [], 0⟩] scope pos) 0 it acc env)) := by rfl
section
variable {prog : Program} {w : World} {A : Around} {R : Result → Shared → Prop} {s : Shared}
theorem loop_in {elt iter2 : Expr} {c0 : Comprehension} {y : Str} {py : Pos} {scope : Scope} {pos : Pos} {it acc : Value} {env : Env} (I : Nat → Shared → Prop)
    (turn : ∀ n s, I n s → ∀ E', wpAny (model prog w) A (pyNext it) (fun r s₁ => match r with
      | none => R (.ok .next) s₁
      | some v => wpAny (model prog w) A (assign (.Name y py) env v) (fun _ s₂ => wpAny (model prog w) A (eval elt env) (fun x s₃ =>
          wpAny (model prog w) A (call (.builtin "list.append") [acc, x]) (fun _ s₄ => ∃ m, m < n ∧ I m s₄) E' s₃) E' s₂) E' s₁) E' s)
    (n : Nat) (h : I n s) :
    codeAny (model prog w) A (.compLoop (.ListComp elt [c0, ⟨.Name y py, iter2, [], 0⟩] scope pos) 1 it acc env) R s := by
  refine codeAny_loop rfl I (fun n s hI => ?_) n h
  show wpAny _ _ ((compTurn (.ListComp elt [c0, ⟨.Name y py, iter2, [], 0⟩] scope pos) 1 it acc env).onRaise (fun x => do noteFrame x env; theTreesLotGoes x)) _ _ s
  refine wpAny_noted ?_
  rw [turn_in]
  refine wpAny_bind (wpAny_standAt (wpAny_bind (wpAny_mono (turn n s hI _) (fun r s₁ h₁ => ?_) fun _ _ h' => h')))
  cases r with
  | none => exact wpAny_pure h₁
  | some v =>
    refine wpAny_bind (wpAny_of_eq (a := ()) rfl ?_)
    exact wpAny_bind (wpAny_mono h₁ (fun _ s₂ h₂ => wpAny_bind (wpAny_bind (wpAny_mono h₂ (fun x s₃ h₃ => wpAny_bind (wpAny_mono h₃
      (fun _ s₄ h₄ => wpAny_pure (wpAny_pure ⟨rfl, h₄⟩)) fun _ _ h' => h')) fun _ _ h' => h'))) fun _ _ h' => h')
theorem start_in {elt : Expr} {c0 : Comprehension} {y : Str} {py : Pos} {iter2 : Expr} {scope : Scope} {pos : Pos} {it acc : Value} {env : Env}
    (h0 : codeAny (model prog w) A (.compLoop (.ListComp elt [c0, ⟨.Name y py, iter2, [], 0⟩] scope pos) 1 it acc env) R s)
    (h : ∀ E', wpAny (model prog w) A (pyIter it) (fun it' s' => codeAny (model prog w) A (.compLoop (.ListComp elt [c0, ⟨.Name y py, iter2, [], 0⟩] scope pos) 1 it' acc env) R s') E' s) :
    codeAny (model prog w) A (.compStart (.ListComp elt [c0, ⟨.Name y py, iter2, [], 0⟩] scope pos) 1 it acc env) R s := by
  refine codeAny_of_tree ?_
  show wpAny _ _ ((compStart (.ListComp elt [c0, ⟨.Name y py, iter2, [], 0⟩] scope pos) 1 it acc env).onRaise (fun x => do noteFrame x env; standAt theWindowsPlace)) _ _ s
  refine wpAny_notedAt ?_
  unfold compStart
  show wpAny _ _ (ask >>= _) _ _ s
  refine wpAny_bind (wpAny_askSetting (wpAny_ite ?_))
  split
  · first
      | exact wpAny_bind (wpAny_pure (wpAny_pure (And.intro rfl h0)))
      | exact wpAny_pure (And.intro rfl h0)
  · first
      | exact wpAny_bind (wpAny_rule (wpAny_bind (wpAny_standAt (wpAny_bind (wpAny_mono (h _) (fun it' s' h' => wpAny_pure (And.intro rfl h')) fun _ _ x => x)))))
      | (refine wpAny_bind (wpAny_rule ?_); show wpAny _ _ (standAt iter2.pos >>= _) _ _ s; exact wpAny_bind (wpAny_standAt (wpAny_bind (wpAny_mono (h _) (fun it' s' h' => wpAny_pure (And.intro rfl h')) fun _ _ x => x))))
theorem loop_out {elt iter iter2 : Expr} {x y : Str} {px py : Pos} {scope : Scope} {pos : Pos} {it acc : Value} {env : Env} (I : Nat → Shared → Prop) (hf : ∀ x, foldedSetIterable iter2 env x = pure x)
    (turn : ∀ n s, I n s → ∀ E', wpAny (model prog w) A (pyNext it) (fun r s₁ => match r with
      | none => R (.ok .next) s₁
      | some v => wpAny (model prog w) A (assign (.Name x px) env v) (fun _ s₂ => wpAny (model prog w) A (eval iter2 env) (fun xv s₃ => wpAny (model prog w) A (pyIter xv) (fun it2 s₄ =>
          codeAny (model prog w) A (.compStart (.ListComp elt [⟨.Name x px, iter, [], 0⟩, ⟨.Name y py, iter2, [], 0⟩] scope pos) 1 it2 acc env) (fun r s₅ => match r with
            | .ok _ => ∃ m, m < n ∧ I m s₅
            | .error _ => False) s₄) E' s₃) E' s₂) E' s₁) E' s)
    (n : Nat) (h : I n s) :
    codeAny (model prog w) A (.compLoop (.ListComp elt [⟨.Name x px, iter, [], 0⟩, ⟨.Name y py, iter2, [], 0⟩] scope pos) 0 it acc env) R s := by
  refine codeAny_loop rfl I (fun n s hI => ?_) n h
  show wpAny _ _ ((compTurn (.ListComp elt [⟨.Name x px, iter, [], 0⟩, ⟨.Name y py, iter2, [], 0⟩] scope pos) 0 it acc env).onRaise (fun x => do noteFrame x env; theTreesLotGoes x)) _ _ s
  refine wpAny_noted ?_
  rw [turn_out]
  refine wpAny_bind (wpAny_standAt (wpAny_bind (wpAny_mono (turn n s hI _) (fun r s₁ h₁ => ?_) fun _ _ h' => h')))
  cases r with
  | none => exact wpAny_pure h₁
  | some v =>
    refine wpAny_bind (wpAny_of_eq (a := ()) rfl ?_)
    refine wpAny_bind (wpAny_mono h₁ (fun _ s₂ h₂ => wpAny_bind (wpAny_mono h₂ (fun xv s₃ h₃ => wpAny_bind (wpAny_standAt (wpAny_bind (wpAny_of_eq (hf xv) (wpAny_bind (wpAny_holding (wpAny_mono h₃
      (fun it2 s₄ h₄ => ?_) fun _ _ h' => h'))))))) fun _ _ h' => h')) fun _ _ h' => h')
    refine wpAny_bind (wpAny_runOwn (codeAny_mono h₄ fun r s₅ h₅ => ?_))
    cases r with
    | error e => exact h₅.elim
    | ok f => exact wpAny_pure ⟨rfl, h₅⟩
end
end
section
open PySem PySem.W PySem.Calls PyProof.Rows
-- XComp4
theorem lnXComp4_0 : True := by
  w_top off
  k_with_none
  trivial
set_option maxRecDepth 100000
/-- the inner list is told: its items, behind those told before, and what holds of them -/
def IPost (s : Shared) (h₀ : Heap) (L : Addr) (m₀ : Str → Option Value) (I : Addr) (oI : Obj) (C : Addr) (oC : Obj) (D : Addr) (ys : List Value) (k : Nat) (J : List Value → List (Addr × Obj) → Prop) (xv : Value) (s' : Shared) : Prop :=
  ∃ h' tk' nx' l ws kl, xv = .ref l ∧ s' = { s with heap := h', toks := tk' } ∧ Fr h₀ L h' m₀ ∧ News h₀ L h' ((l, listOf ws.toArray kl) :: (I, oI) :: (C, oC) :: (D, listOf ys.toArray k) :: nx') ∧
    (l ≠ I ∧ l ≠ C ∧ l ≠ D) ∧ (∀ p ∈ nx', p.1 ≠ I) ∧ (∀ p ∈ nx', p.1 ≠ C) ∧ (∀ p ∈ nx', p.1 ≠ D) ∧ ys.length + ws.length < 2 ^ 20 ∧ J (ys ++ ws) nx'
def BlockAt2 (prog : Program) (w : World) (A : Around) (env : Env) (scope : Scope) (cl : List (Str × Addr)) (x : Str) (px : Pos) (iter : Expr) (y : Str) (py pe : Pos) (iter2 : Expr) (pos : Pos) (RR : Value → Addr → Result → Shared → Prop) (E : Value → Shared → Prop) (it : Value) (s₂ : Shared) : Prop :=
  wpAny (model prog w) A (newList []) (fun acc s₃ => wpAny (model prog w) A (newFunctionEnv scope env.globals cl [] env.qual none .none (some env)) (fun cenv s₄ =>
    codeAny (model prog w) A (.compStart (.ListComp (.Name y pe) [⟨.Name x px, iter, [], 0⟩, ⟨.Name y py, iter2, [], 0⟩] scope pos) 0 it acc { cenv with scope := relabel scope env }) (RR acc cenv.locals) s₄) E s₃) E s₂
section
variable {prog : Program} {w : World} {A : Around} {E : Value → Shared → Prop} {s : Shared} {env : Env} {h₀ : Heap} {L : Addr}
theorem comp_assign2 {iter iter2 : Expr} {x y z : Str} {px py pe pz pos spos : Pos} {scope : Scope} {cl : List (Str × Addr)} {Q : Flow → Shared → Prop}
    (hsw : swapsWith (.ListComp (.Name y pe) [⟨.Name x px, iter, [], 0⟩, ⟨.Name y py, iter2, [], 0⟩] scope pos) (some (.Name z pz)) spos.line env = pure true)
    (hclos : closureFor scope env = pure cl) (hkind : scope.kind = .function) (hnames : ∀ y ∈ scope.names, y.2 = .local → scope.names.lookup y.1 = some .local)
    (h : wpAny (model prog w) A (eval iter env) (fun xv s₁ => wpAny (model prog w) A (pyIter xv) (fun it s₂ => BlockAt2 prog w A env scope cl x px iter y py pe iter2 pos (fun acc C => compPost (model prog w) A E (some (assign (.Name z pz) env)) (fun _ s' => Q .next s') acc C) E it s₂) E s₁) E s)
    (hs : ∀ x, foldedSetIterable iter env x = pure x := by intro _; rfl) :
    wpAny (model prog w) A (exec (.Assign [.Name z pz] (.ListComp (.Name y pe) [⟨.Name x px, iter, [], 0⟩, ⟨.Name y py, iter2, [], 0⟩] scope pos) spos) env) Q E s := by
  rw [exec_Assign_Name_used _ _ _ _ hsw]
  refine wpAny_bind (wpAny_standAt (wpAny_bind ?_))
  show wpAny _ A (do let _ ← comprehension (.ListComp (.Name y pe) [⟨.Name x px, iter, [], 0⟩, ⟨.Name y py, iter2, [], 0⟩] scope pos) scope env _ (newList []) false (eval iter env) (some (assign (.Name z pz) env))) _ _ s
  exact wpAny_bind (wpAny_mono (wpAny_comprehension_free (use := some (assign (.Name z pz) env)) (Q := fun _ s' => Q .next s') rfl hs hclos hkind hnames h) (fun _ s' hq => wpAny_pure (wpAny_pure hq)) fun _ _ e => e)
/-- the inner walk -/
theorem inner_core {iter2 : Expr} {c0 : Comprehension} {y : Str} {py pe pos : Pos} {scope : Scope} {cl : List (Str × Addr)} {l I C D : Addr} {oI oC : Obj} {mC m₀ : Str → Option Value} {ws ys : List Value} {kl k : Nat} {nx : List (Addr × Obj)} {R : Result → Shared → Prop}
    (hh : A.handled = none) (hkind : scope.kind = .function) (hy : scope.names.lookup y = some .local) (hdb : (y == ("__debug__" : Str)) = false)
    (F : Fr h₀ L s.heap m₀) (N : News h₀ L s.heap ((l, listOf ws.toArray kl) :: (I, oI) :: (C, oC) :: (D, listOf ys.toArray k) :: nx)) (nC : NsOf oC mC)
    (hl : l ≠ I ∧ l ≠ C ∧ l ≠ D) (hCI : C ≠ I) (hDI : D ≠ I) (hCD : C ≠ D) (aI : ∀ p ∈ nx, p.1 ≠ I) (aC : ∀ p ∈ nx, p.1 ≠ C) (aD : ∀ p ∈ nx, p.1 ≠ D) (hlen : ys.length + ws.length < 2 ^ 20)
    (done : ∀ h tk oC' mC' kk, NsOf oC' mC' → Fr h₀ L h m₀ → News h₀ L h ((I, oI) :: (C, oC') :: (D, listOf (ys ++ ws).toArray kk) :: nx) → R (.ok .next) { s with heap := h, toks := tk }) :
    ∀ E', wpAny (model prog w) A (pyIter (.ref l)) (fun it2 s₄ => codeAny (model prog w) A (.compStart (.ListComp (.Name y pe) [c0, ⟨.Name y py, iter2, [], 0⟩] scope pos) 1 it2 (.ref D) (compEnvC scope cl C env)) R s₄) E' s := by
  intro E'
  have gl := N _ (.head _)
  have hls : s.heap.IsList l ws.toArray := ⟨_, gl.1, rfl, kl, rfl⟩
  refine wpAny_pyIter_list hls ?_
  generalize hI2 : s.heap.objs.size = I2
  have big : ∀ b o, s.heap.get? b = some o → b ≠ I2 := fun b o e q => by
    have := Heap.lt_size e
    rw [hI2, q] at this
    exact Nat.lt_irrefl _ this
  have fresh : h₀.get? I2 = none := by
    cases e : h₀.get? I2 with
    | none => rfl
    | some o' => exact absurd rfl (big I2 o' (F.keep I2 o' e))
  have hlI2 : l ≠ I2 := big l _ gl.1
  have hLI2 : L ≠ I2 := by
    obtain ⟨oL, _, _, hL, _⟩ := F.ns
    exact big L oL hL
  have W2 := Walks.list (prog := prog) (w := w) hh I2 l hlI2 ws.toArray
  rw [List.size_toArray] at W2
  have bI := big I _ (N _ (.tail _ (.head _))).1
  have bC := big C _ (N _ (.tail _ (.tail _ (.head _)))).1
  have bD := big D _ (N _ (.tail _ (.tail _ (.tail _ (.head _))))).1
  have bx : ∀ p ∈ nx, p.1 ≠ I2 := fun p hp => big _ _ (N p (.tail _ (.tail _ (.tail _ (.tail _ hp))))).1
  have loop : ∀ s₃ : Shared, (∃ h tk, s₃ = { s with heap := h, toks := tk } ∧ (h.IsListIter I2 l 0 ∧ h.IsList l ws.toArray) ∧ Fr h₀ L h m₀ ∧ News h₀ L h ((l, listOf ws.toArray kl) :: (I, oI) :: (C, oC) :: (D, listOf ys.toArray k) :: nx)) →
      codeAny (model prog w) A (.compLoop (.ListComp (.Name y pe) [c0, ⟨.Name y py, iter2, [], 0⟩] scope pos) 1 (.ref I2) (.ref D) (compEnvC scope cl C env)) R s₃ := by
    rintro s₃ ⟨h, tk, rfl, st, Fh, Nh⟩
    refine loop_in (fun m s' => ∃ j h tk kk oC mC, j ≤ ws.length ∧ m = ws.length + 1 - j ∧ s' = { s with heap := h, toks := tk } ∧ (h.IsListIter I2 l j ∧ h.IsList l ws.toArray) ∧ NsOf oC mC ∧ Fr h₀ L h m₀ ∧ News h₀ L h ((l, listOf ws.toArray kl) :: (I, oI) :: (C, oC) :: (D, listOf (ys ++ ws.take j).toArray kk) :: nx)) ?_ (ws.length + 1)
      ⟨0, h, tk, k, oC, mC, Nat.zero_le _, rfl, rfl, st, nC, Fh, by simpa using Nh⟩
    rintro m s' ⟨j, h, tk, kk, oC, mC, hj, rfl, rfl, st, nC, Fh, Nh⟩ E₂
    have gI := Nh _ (.tail _ (.head _))
    have gC := Nh _ (.tail _ (.tail _ (.head _)))
    have gD := Nh _ (.tail _ (.tail _ (.tail _ (.head _))))
    have g1 := Nh _ (.head _)
    have gx : ∀ p ∈ nx, _ := fun p hp => Nh p (.tail _ (.tail _ (.tail _ (.tail _ hp))))
    have nI : ∀ b, b ≠ I2 → b ∉ [I2] := fun b hb q => hb (List.mem_singleton.mp q)
    have h0C : ∀ b o', h₀.get? b = some o' → b ≠ C := fun b o' e q => by rw [q, gC.2.2] at e; cases e
    have h0I2 : ∀ b o', h₀.get? b = some o' → b ≠ I2 := fun b o' e q => by rw [q, fresh] at e; cases e
    by_cases hlt : j < ws.length
    · refine W2.item j _ _ _ hlt st fun v h₂ tk₂ hPv st₂ hk₂ => ?_
      have hwj : ws[j]? = some v := by simpa using hPv
      have nsC₂ : h₂.Ns C mC := nC.ns (hk₂ C oC (nI C bC) gC.1)
      refine wpAny_assign_Name (wpAny_storeName_local (lookup_relabel_local hy) nsC₂ (fun h₃ hn₃ hs₃ => ?_) (by simp [compEnvC, relabel, hkind]))
      have hs₃' : Heap.SameBut C h₂ h₃ := hs₃
      have up : ∀ b o, b ≠ I2 → b ≠ C → h.get? b = some o → h₃.get? b = some o := fun b o hb hc e => hs₃'.extBut b o hc (hk₂ b o (nI b hb) e)
      obtain ⟨oC₃, hoC₃, nC₃⟩ := nsOf hn₃
      have F₃ : Fr h₀ L h₃ m₀ := fr_at Fh fun b o hb e => up b o (by
        rcases hb with rfl | ⟨o', ho'⟩
        · exact hLI2
        · exact h0I2 b o' ho') (by
        rcases hb with rfl | ⟨o', ho'⟩
        · exact fun q => gC.2.1 q.symm
        · exact h0C b o' ho') e
      have N₃ : News h₀ L h₃ ((l, listOf ws.toArray kl) :: (I, oI) :: (C, oC₃) :: (D, listOf (ys ++ ws.take j).toArray kk) :: nx) := fun p hp => by
        rcases List.mem_cons.mp hp with rfl | hp
        · exact ⟨up _ _ hlI2 hl.2.1 g1.1, g1.2⟩
        rcases List.mem_cons.mp hp with rfl | hp
        · exact ⟨up _ _ bI (Ne.symm hCI) gI.1, gI.2⟩
        rcases List.mem_cons.mp hp with rfl | hp
        · exact ⟨hoC₃, gC.2⟩
        rcases List.mem_cons.mp hp with rfl | hp
        · exact ⟨up _ _ bD (Ne.symm hCD) gD.1, gD.2⟩
        · exact ⟨up _ _ (bx p hp) (aC p hp) (gx p hp).1, (gx p hp).2⟩
      have st₃ : h₃.IsListIter I2 l (j + 1) ∧ h₃.IsList l ws.toArray := by
        refine ⟨st₂.1.at fun o e => hs₃'.extBut I2 o (Ne.symm bC) e, ⟨_, (N₃ _ (.head _)).1, rfl, kl, rfl⟩⟩
      refine wpAny_Name (wpAny_loadName_local (env := compEnvC scope cl C env) (v := v) (by simp [compEnvC, relabel, hkind]) (lookup_relabel_local hy) hn₃ (by rw [if_pos rfl]) ?_) hdb
      have hyl : (ys ++ ws.take j).length = ys.length + j := by rw [List.length_append, List.length_take]; omega
      obtain ⟨o2, ho2, hc2, hd2⟩ := st₃.1
      have N₄ : News h₀ L h₃ ((I2, o2) :: (l, listOf ws.toArray kl) :: (I, oI) :: (C, oC₃) :: (D, listOf (ys ++ ws.take j).toArray kk) :: nx) := fun p hp => by
        rcases List.mem_cons.mp hp with rfl | hp
        · exact ⟨ho2, Ne.symm hLI2, fresh⟩
        · exact N₃ p hp
      refine my_append F₃ N₄ (.tail (Ne.symm bD) (.tail hl.2.2 (.tail (Ne.symm hDI) (.tail hCD (.head aD))))) (by omega) fun h₅ F₅ N₅' => ?_
      have N₅ := news_sub N₅' fun p hp => List.mem_cons_of_mem _ hp
      refine ⟨ws.length + 1 - (j + 1), by omega, j + 1, h₅, _, kk + 1, oC₃, _, hlt, rfl, rfl, ⟨?_, ⟨_, (N₅ _ (.head _)).1, rfl, kl, rfl⟩⟩, nC₃, F₅, ?_⟩
      · exact ⟨o2, (N₅' _ (.head _)).1, hc2, hd2⟩
      · rw [List.take_add_one, hwj, ← List.append_assoc]
        exact N₅
    · have e : j = ws.length := by omega
      subst e
      rw [List.take_length] at Nh gD
      refine W2.done _ _ _ st fun h₂ tk₂ hk₂ => ?_
      have up : ∀ b o, b ≠ I2 → h.get? b = some o → h₂.get? b = some o := fun b o hb e => hk₂ b o (nI b hb) e
      refine done h₂ tk₂ oC mC kk nC (fr_at Fh fun b o hb e => up b o (by
        rcases hb with rfl | ⟨o', ho'⟩
        · exact hLI2
        · exact h0I2 b o' ho') e) fun p hp => ?_
      rcases List.mem_cons.mp hp with rfl | hp
      · exact ⟨up _ _ bI gI.1, gI.2⟩
      rcases List.mem_cons.mp hp with rfl | hp
      · exact ⟨up _ _ bC gC.1, gC.2⟩
      rcases List.mem_cons.mp hp with rfl | hp
      · exact ⟨up _ _ bD gD.1, gD.2⟩
      · exact ⟨up _ _ (bx p hp) (gx p hp).1, (gx p hp).2⟩
  have st0 : ∃ h tk, ({ s with heap := s.heap.push { cls := .type "list_iterator", data := .fields #[.ref l, .int 0 0] } } : Shared) = { s with heap := h, toks := tk } ∧ (h.IsListIter I2 l 0 ∧ h.IsList l ws.toArray) ∧ Fr h₀ L h m₀ ∧ News h₀ L h ((l, listOf ws.toArray kl) :: (I, oI) :: (C, oC) :: (D, listOf ys.toArray k) :: nx) :=
    ⟨_, _, rfl, ⟨⟨_, hI2 ▸ Heap.get?_push_size _ rfl, rfl, rfl⟩, hls.at fun o e => Heap.get?_push_of_some _ e⟩, F.push _, fun p hp => ⟨Heap.get?_push_of_some _ (N p hp).1, (N p hp).2⟩⟩
  obtain ⟨h, tk, e, st, F₁, N₁⟩ := st0
  refine start_in (loop _ ⟨h, tk, e, st, F₁, N₁⟩) fun E₃ => W2.self 0 _ _ _ ?_ (loop _ ⟨h, tk, e, st, F₁, N₁⟩)
  have e' : s.heap.push { cls := .type "list_iterator", data := .fields #[.ref l, .int 0 0] } = h := congrArg Shared.heap e
  show _ ∧ _
  rw [e']
  exact st
end
end
section
open PySem PySem.W PySem.Calls PyProof.Rows
-- XComp5
theorem lnXComp5_0 : True := by
  w_top off
  k_with_none
  trivial
set_option maxRecDepth 100000
section
variable {prog : Program} {w : World} {A : Around} {E : Value → Shared → Prop} {s : Shared} {env : Env} {h₀ : Heap} {L : Addr}
theorem block2_core {iter iter2 : Expr} {x y : Str} {px py pe pos : Pos} {scope : Scope} {cl : List (Str × Addr)} {RR : Value → Addr → Result → Shared → Prop} {I : Addr} {fp : List Addr} {n : Nat} {P : Nat → Value → Prop} {St : Nat → Heap → Prop} {m₀ : Str → Option Value} {news : List (Addr × Obj)}
    (J : Nat → List Value → List (Addr × Obj) → Prop)
    (W : Walks prog w A I fp [I] n P St) (hIf : I ∈ fp) (hfp : ∀ b ∈ fp, b ≠ I → (∃ o, h₀.get? b = some o) ∨ ∃ o, ∀ i ys nx, J i ys nx → (b, o) ∈ nx) (hLf : L ∉ fp) (hI₀ : h₀.get? I = none) (hnw : ∀ p ∈ news, p.1 ≠ I) (hSt : ∀ i h, St i h → ∃ o, h.get? I = some o) (hst : St 0 s.heap)
    (hcell : ∀ y ∈ scope.names, y.2 ≠ .cell) (hkind : scope.kind = .function) (hx : scope.names.lookup x = some .local) (hy : scope.names.lookup y = some .local) (hdb : (y == ("__debug__" : Str)) = false) (hh : A.handled = none) (hf : ∀ C x, foldedSetIterable iter2 (compEnvC scope cl C env) x = pure x)
    (F : Fr h₀ L s.heap m₀) (N : News h₀ L s.heap news) (hj : J 0 [] news)
    (turn : ∀ i v ys k nx h tk oI C oC D (mC : Str → Option Value), i < n → P i v → NsOf oC (fun y => if y = x then some v else mC y) → C ≠ I → D ≠ I → C ≠ D → (∀ p ∈ nx, p.1 ≠ I) → (∀ p ∈ nx, p.1 ≠ C) → (∀ p ∈ nx, p.1 ≠ D) → J i ys nx →
      Fr h₀ L h m₀ → News h₀ L h ((I, oI) :: (C, oC) :: (D, listOf ys.toArray k) :: nx) → ∀ E',
      wpAny (model prog w) A (eval iter2 (compEnvC scope cl C env)) (IPost s h₀ L m₀ I oI C oC D ys k (J (i + 1))) E' { s with heap := h, toks := tk })
    (done : ∀ ys k nx h tk D C oC (mC : Str → Option Value), J n ys nx → NsOf oC mC → C ≠ D → (∀ p ∈ nx, p.1 ≠ C) → (∀ p ∈ nx, p.1 ≠ D) → Fr h₀ L h m₀ → News h₀ L h ((C, oC) :: (D, listOf ys.toArray k) :: nx) → RR (.ref D) C (.ok .next) { s with heap := h, toks := tk }) :
    BlockAt2 prog w A env scope cl x px iter y py pe iter2 pos RR E (.ref I) s := by
  unfold BlockAt2
  refine wpAny_newObj_type (wpAny_newFunctionEnv hcell (by intro y hy; simp at hy) (fun h₁ hns₁ hsb₁ => ?_) hkind)
  dsimp only at hns₁ hsb₁ ⊢
  generalize hH2 : s.heap.push { cls := .type "list", dict := none, data := .seq ([] : List Value).toArray } = H2 at hns₁ hsb₁ ⊢
  have hC : H2.objs.size = s.heap.objs.size + 1 := by rw [← hH2, Heap.size_push]
  have below : ∀ b, b < s.heap.objs.size → b ≠ H2.objs.size ∧ b ≠ s.heap.objs.size := fun b hb => ⟨by rw [hC]; exact Nat.ne_of_lt (Nat.lt_succ_of_lt hb), Nat.ne_of_lt hb⟩
  have hCD : H2.objs.size ≠ s.heap.objs.size := by rw [hC]; exact Nat.ne_of_gt (Nat.lt_succ_self _)
  have old : ∀ b o, s.heap.get? b = some o → h₁.get? b = some o := fun b o e => hsb₁.extBut b o (below b (Heap.lt_size e)).1 (Heap.get?_push_of_some _ (hH2 ▸ Heap.get?_push_of_some _ e))
  have hD : h₁.get? s.heap.objs.size = some (listOf ([] : List Value).toArray 0) := hsb₁.extBut _ _ (Ne.symm hCD) (Heap.get?_push_of_some _ (hH2 ▸ Heap.get?_push_size _ rfl))
  have fresh : ∀ a, s.heap.objs.size ≤ a → h₀.get? a = none := fun a ha => by
    cases e : h₀.get? a with
    | none => rfl
    | some o' => exact absurd (Heap.lt_size (F.keep a o' e)) (Nat.not_lt.mpr ha)
  obtain ⟨oI, hoI⟩ := hSt _ _ hst
  have hIs : @LT.lt Nat _ I s.heap.objs.size := Heap.lt_size hoI
  have hIL : I ≠ L := fun q => hLf (q ▸ hIf)
  have hLs : @LT.lt Nat _ L s.heap.objs.size := F.ns.lt
  obtain ⟨oC, hoC, nC⟩ := nsOf hns₁
  generalize hCe : H2.objs.size = C at *
  generalize hDe : s.heap.objs.size = D at *
  have hCDl : @LT.lt Nat _ D C := by omega
  have hCDn : C ≠ D := Nat.ne_of_gt hCDl
  have hICn : I ≠ C := Nat.ne_of_lt (Nat.lt_trans hIs hCDl)
  have hIDn : I ≠ D := Nat.ne_of_lt hIs
  have keepN : ∀ {h h' : Heap} {nx : List (Addr × Obj)}, News h₀ L h nx → (∀ p ∈ nx, h.get? p.1 = some p.2 → h'.get? p.1 = some p.2) → News h₀ L h' nx := fun N' hk p hp => ⟨hk p hp (N' p hp).1, (N' p hp).2⟩
  have hst₁ : St 0 h₁ := W.frame _ _ _ hst fun b _ o e => old b o e
  have F₁ : Fr h₀ L h₁ m₀ := fr_at F fun b o _ e => old b o e
  have N₁ : News h₀ L h₁ ((I, oI) :: (C, oC) :: (D, listOf ([] : List Value).toArray 0) :: news) := fun p hp => by
    rcases List.mem_cons.mp hp with rfl | hp
    · exact ⟨old _ _ hoI, hIL, hI₀⟩
    rcases List.mem_cons.mp hp with rfl | hp
    · exact ⟨hoC, Nat.ne_of_gt (Nat.lt_trans hLs hCDl), fresh C (Nat.le_of_lt hCDl)⟩
    rcases List.mem_cons.mp hp with rfl | hp
    · exact ⟨hD, Nat.ne_of_gt hLs, fresh D (Nat.le_refl _)⟩
    · exact ⟨old _ _ (N p hp).1, (N p hp).2⟩
  have loop : ∀ s₃ : Shared, s₃ = { s with heap := h₁, toks := s.toks + ([] : List (Str × Value)).length } →
      codeAny (model prog w) A (.compLoop (.ListComp (.Name y pe) [⟨.Name x px, iter, [], 0⟩, ⟨.Name y py, iter2, [], 0⟩] scope pos) 0 (.ref I) (.ref D) (compEnvC scope cl C env)) (RR (.ref D) C) s₃ := by
    rintro s₃ rfl
    refine loop_out (fun k s' => ∃ i h tk ys kk nx oI oC mC, i ≤ n ∧ k = n + 1 - i ∧ s' = { s with heap := h, toks := tk } ∧ St i h ∧ NsOf oC mC ∧ Fr h₀ L h m₀ ∧ News h₀ L h ((I, oI) :: (C, oC) :: (D, listOf ys.toArray kk) :: nx) ∧ (∀ p ∈ nx, p.1 ≠ I) ∧ (∀ p ∈ nx, p.1 ≠ C) ∧ (∀ p ∈ nx, p.1 ≠ D) ∧ J i ys nx) (hf C) ?_ (n + 1)
      ⟨0, h₁, _, [], 0, news, oI, oC, _, Nat.zero_le _, rfl, rfl, hst₁, nC, F₁, N₁, hnw, (fun p hp => ?_), (fun p hp => ?_), hj⟩
    · rintro k s' ⟨i, h, tk, ys, kk, nx, oI, oC, mC, hi, rfl, rfl, st, nC, Fh, Nh, aI, aC, aD, hJ⟩ E₂
      have gI := Nh _ (.head _)
      have gC := Nh _ (.tail _ (.head _))
      have gD := Nh _ (.tail _ (.tail _ (.head _)))
      have gx : ∀ p ∈ nx, _ := fun p hp => Nh p (.tail _ (.tail _ (.tail _ hp)))
      have nI : ∀ b, b ≠ I → b ∉ [I] := fun b hb q => hb (List.mem_singleton.mp q)
      have h0I : ∀ b o', h₀.get? b = some o' → b ≠ I := fun b o' e q => by rw [q, hI₀] at e; cases e
      have h0C : ∀ b o', h₀.get? b = some o' → b ≠ C := fun b o' e q => by rw [q, gC.2.2] at e; cases e
      by_cases hlt : i < n
      · refine W.item i _ _ _ hlt st fun v h₂ tk₂ hPv st₂ hk₂ => ?_
        have hIC := hICn
        have hID := hIDn
        have nsC₂ : h₂.Ns C mC := nC.ns (hk₂ C oC (nI C (Ne.symm hIC)) gC.1)
        refine wpAny_assign_Name (wpAny_storeName_local (lookup_relabel_local hx) nsC₂ (fun h₃ hn₃ hs₃ => ?_) (by simp [compEnvC, relabel, hkind]))
        have hs₃' : Heap.SameBut C h₂ h₃ := hs₃
        have up : ∀ b o, b ≠ I → b ≠ C → h.get? b = some o → h₃.get? b = some o := fun b o hb hc e => hs₃'.extBut b o hc (hk₂ b o (nI b hb) e)
        obtain ⟨oI₂, hoI₂⟩ := hSt _ _ st₂
        have hoI₃ : h₃.get? I = some oI₂ := hs₃'.extBut I _ hIC hoI₂
        obtain ⟨oC₃, hoC₃, nC₃⟩ := nsOf hn₃
        have F₃ : Fr h₀ L h₃ m₀ := fr_at Fh fun b o hb e => up b o (by
          rcases hb with rfl | ⟨o', ho'⟩
          · exact Ne.symm hIL
          · exact h0I b o' ho') (by
          rcases hb with rfl | ⟨o', ho'⟩
          · exact fun q => gC.2.1 q.symm
          · exact h0C b o' ho') e
        have N₃ : News h₀ L h₃ ((I, oI₂) :: (C, oC₃) :: (D, listOf ys.toArray kk) :: nx) := fun p hp => by
          rcases List.mem_cons.mp hp with rfl | hp
          · exact ⟨hoI₃, gI.2⟩
          rcases List.mem_cons.mp hp with rfl | hp
          · exact ⟨hoC₃, gC.2⟩
          rcases List.mem_cons.mp hp with rfl | hp
          · exact ⟨up _ _ (Ne.symm hID) (Ne.symm hCDn) gD.1, gD.2⟩
          · exact ⟨up _ _ (aI p hp) (aC p hp) (gx p hp).1, (gx p hp).2⟩
        have st₃ : St (i + 1) h₃ := W.frame _ _ _ st₂ fun b hb o e => by
          by_cases q : b = I
          · subst q
            rw [hoI₂] at e
            rw [hoI₃]
            exact e
          · rcases hfp b hb q with ⟨o', ho'⟩ | ⟨o', ho'⟩
            · exact hs₃'.extBut b o (h0C b o' ho') e
            · exact hs₃'.extBut b o (aC _ (ho' _ _ _ hJ)) e
        refine wpAny_mono (turn i v ys kk nx h₃ _ oI₂ C oC₃ D mC hlt hPv nC₃ (Ne.symm hIC) (Ne.symm hID) hCDn aI aC aD hJ F₃ N₃ _) (fun y s₄ h₄ => ?_) fun _ _ e => e
        obtain ⟨h', tk', nx', l, ws, kl, rfl, rfl, F₄, N₄, ll, bI, bC, bD, hlen, hJ'⟩ := h₄
        refine inner_core (s := { s with heap := h', toks := tk' }) hh hkind hy hdb F₄ N₄ nC₃ ll (Ne.symm hIC) (Ne.symm hID) hCDn bI bC bD hlen (fun h₅ tk₅ oC₅ mC₅ kk₅ nC₅ F₅ N₅ => ?_) _
        refine ⟨n + 1 - (i + 1), by omega, i + 1, h₅, tk₅, ys ++ ws, kk₅, nx', oI₂, oC₅, _, hlt, rfl, rfl, ?_, nC₅, F₅, N₅, bI, bC, bD, hJ'⟩
        refine W.frame _ _ _ st₃ fun b hb o e => ?_
        by_cases q : b = I
        · subst q
          rw [hoI₃] at e
          rw [(N₅ _ (.head _)).1]
          exact e
        · rcases hfp b hb q with ⟨o', ho'⟩ | ⟨o', ho'⟩
          · rw [F₃.keep b o' ho'] at e
            rw [F₅.keep b o' ho']
            exact e
          · have z1 := (N₃ _ (.tail _ (.tail _ (.tail _ (ho' _ _ _ hJ))))).1
            have z2 := (N₅ _ (.tail _ (.tail _ (.tail _ (ho' _ _ _ hJ'))))).1
            dsimp only at z1 z2
            rw [z1] at e
            rw [z2]
            exact e
      · have e : i = n := by omega
        subst e
        refine W.done _ _ _ st fun h₂ tk₂ hk₂ => ?_
        have up : ∀ b o, b ≠ I → h.get? b = some o → h₂.get? b = some o := fun b o hb e => hk₂ b o (nI b hb) e
        have hIC := Ne.symm hICn
        have hID := Ne.symm hIDn
        refine done ys kk nx h₂ tk₂ D C oC mC hJ nC hCDn aC aD (fr_at Fh fun b o hb e => up b o (by
          rcases hb with rfl | ⟨o', ho'⟩
          · exact Ne.symm hIL
          · exact h0I b o' ho') e) fun p hp => ?_
        rcases List.mem_cons.mp hp with rfl | hp
        · exact ⟨up _ _ hIC gC.1, gC.2⟩
        rcases List.mem_cons.mp hp with rfl | hp
        · exact ⟨up _ _ hID gD.1, gD.2⟩
        · exact ⟨up _ _ (aI p hp) (gx p hp).1, (gx p hp).2⟩
    · have := Heap.lt_size (N p hp).1
      rw [hDe] at this
      exact Nat.ne_of_lt (Nat.lt_trans this hCDl)
    · have := Heap.lt_size (N p hp).1
      rw [hDe] at this
      exact Nat.ne_of_lt this
  exact codeAny_compStart_list (loop _ rfl) (W.self 0 _ _ _ hst₁ (loop _ rfl))
theorem blk2_list {x y : Str} {px py pe pos : Pos} {iter iter2 : Expr} {scope : Scope} {cl : List (Str × Addr)} {RR : Value → Addr → Result → Shared → Prop} {l : Addr} {vs : List Value} {m₀ : Str → Option Value} {news : List (Addr × Obj)} (J : Nat → List Value → List (Addr × Obj) → Prop)
    (hh : A.handled = none) {kl : Nat} (hmem : ∀ i ys nx, J i ys nx → (l, listOf vs.toArray kl) ∈ nx)
    (hcell : ∀ y ∈ scope.names, y.2 ≠ .cell) (hkind : scope.kind = .function) (hx : scope.names.lookup x = some .local) (hy : scope.names.lookup y = some .local) (hdb : (y == ("__debug__" : Str)) = false) (hf : ∀ C x, foldedSetIterable iter2 (compEnvC scope cl C env) x = pure x)
    (F : Fr h₀ L s.heap m₀) (N : News h₀ L s.heap news) (hj : J 0 [] news)
    (turn : ∀ i v ys k nx h tk I oI C oC D (mC : Str → Option Value), vs[i]? = some v → NsOf oC (fun y => if y = x then some v else mC y) → C ≠ I → D ≠ I → C ≠ D → (∀ p ∈ nx, p.1 ≠ I) → (∀ p ∈ nx, p.1 ≠ C) → (∀ p ∈ nx, p.1 ≠ D) → J i ys nx →
      Fr h₀ L h m₀ → News h₀ L h ((I, oI) :: (C, oC) :: (D, listOf ys.toArray k) :: nx) → ∀ E',
      wpAny (model prog w) A (eval iter2 (compEnvC scope cl C env)) (IPost s h₀ L m₀ I oI C oC D ys k (J (i + 1))) E' { s with heap := h, toks := tk })
    (done : ∀ ys k nx h tk D C oC (mC : Str → Option Value), J vs.length ys nx → NsOf oC mC → C ≠ D → (∀ p ∈ nx, p.1 ≠ C) → (∀ p ∈ nx, p.1 ≠ D) → Fr h₀ L h m₀ → News h₀ L h ((C, oC) :: (D, listOf ys.toArray k) :: nx) → RR (.ref D) C (.ok .next) { s with heap := h, toks := tk }) :
    wpAny (model prog w) A (pyIter (.ref l)) (fun it s₂ => BlockAt2 prog w A env scope cl x px iter y py pe iter2 pos RR E it s₂) E s := by
  have gl := N _ (hmem _ _ _ hj)
  have hls : s.heap.IsList l vs.toArray := ⟨_, gl.1, rfl, kl, rfl⟩
  have hne : l ≠ s.heap.objs.size := Nat.ne_of_lt (Heap.lt_size gl.1)
  refine wpAny_pyIter_list hls ?_
  have W := Walks.list (prog := prog) (w := w) hh s.heap.objs.size l hne vs.toArray
  rw [List.size_toArray] at W
  refine block2_core J W List.mem_cons_self (fun b hb q => ?_) ?_ (next_is_new F) (fun p hp => Nat.ne_of_lt (Heap.lt_size (N p hp).1)) (fun i h st => by obtain ⟨o, e, _⟩ := st.1; exact ⟨o, e⟩) ⟨⟨_, Heap.get?_push_size _ rfl, rfl, rfl⟩, hls.at fun o e => Heap.get?_push_of_some _ e⟩ hcell hkind hx hy hdb hh hf (F.push _) (fun p hp => ⟨Heap.get?_push_of_some _ (N p hp).1, (N p hp).2⟩) hj ?_ done
  · rcases List.mem_cons.mp hb with e | hb
    · exact absurd e q
    · rw [List.mem_singleton.mp hb]
      exact .inr ⟨_, hmem⟩
  · intro hm
    rcases List.mem_cons.mp hm with e | hm
    · exact absurd F.ns.lt (e ▸ Nat.lt_irrefl _)
    · exact gl.2.1 (List.mem_singleton.mp hm).symm
  · rintro i v ys k nx h tk oI C oC D mC hi hP nC h1 h2 h3 aI aC aD hJ F₁ N₁ E'
    exact turn i v ys k nx h tk _ oI C oC D mC (by simpa using hP) nC h1 h2 h3 aI aC aD hJ F₁ N₁ E'
end
end
section
open PySem PySem.W PySem.Calls PyProof.Rows PySem.SeqAt
-- XViaT
theorem lnXViaT_0 : True := by
  w_top off
  k_with_none
  trivial
set_option maxRecDepth 100000
theorem fr_sameT {h₀ h h' : Heap} {L : Addr} {m : Str → Option Value} (F : Fr h₀ L h m) (S : SameT [L] h h') : Fr h₀ L h' m := by
  obtain ⟨oL, es, ep, hL, r⟩ := F.ns
  obtain ⟨sl, hs⟩ := S.2 L (.head _) oL hL
  refine ⟨⟨_, es, ep, hs, r⟩, fun b o e => S.1 b o (fun q => ?_) (F.keep b o e), F.above⟩
  rw [List.mem_singleton.mp q, kts_self F] at e
  cases e
theorem news_sameT {h₀ h h' : Heap} {L : Addr} {news : List (Addr × Obj)} (N : News h₀ L h news) (S : SameT [L] h h') : News h₀ L h' news := fun p hp =>
  ⟨S.1 _ _ (fun q => (N p hp).2.1 (List.mem_singleton.mp q)) (N p hp).1, (N p hp).2⟩
theorem viaT {w : World} {A : Around} {base h₀ : Heap} {L a : Addr} {m mg mb : Str → Option Value} {mean : ExcName → Option Value} {cn : Str} {cs : Scope} {ccd : Value} {cl : List (Str × Addr)} {news : List (Addr × Obj)} {M : Model} {s : Shared} {t : Sem Value} {Q E : Value → Shared → Prop}
    (hB : Bs w mean mg mb base) (B : Below A base [] h₀) (F : Fr h₀ L s.heap m) (N : News h₀ L s.heap news) (hk : cs.kind = .function)
    (k : Cx w (A.deeper (envX cn cs L a ccd cl)) base [envX cn cs L a ccd cl] [] s.heap → (∀ h', SameT ([envX cn cs L a ccd cl].filterMap (·.frame)) s.heap h' → Fr h₀ L h' m ∧ News h₀ L h' news) →
      wpAny M (A.deeper (envX cn cs L a ccd cl)) t Q E s) : wpAny M (A.deeper (envX cn cs L a ccd cl)) t Q E s :=
  k (cx_of hB B F N (fun _ q => nomatch q) hk) fun _ S => ⟨fr_sameT F S, news_sameT N S⟩
theorem news_tl {h₀ h : Heap} {L : Addr} {a : Addr × Obj} {r : List (Addr × Obj)} (N : News h₀ L h (a :: r)) : News h₀ L h r := fun p hp => N p (.tail _ hp)
theorem below_at {A : Around} {h₀ h : Heap} {L : Addr} {m : Str → Option Value} {o : List Env} (_ : Fr h₀ L h m) (K : Below A h₀ o h₀) : Below A h₀ o h₀ := K
theorem take_pick {vs : List Value} {r : Int} (h : 0 ≤ r) : kms_pick vs none (some r) = vs.take r.toNat := by
  unfold kms_pick kms_lo kms_hi
  dsimp only
  rw [if_neg (by omega), List.drop_zero, Nat.sub_zero]
  rcases Nat.le_total r.toNat vs.length with q | q
  · rw [Nat.min_eq_left q]
  · rw [Nat.min_eq_right q, List.take_of_length_le q, List.take_of_length_le (Nat.le_refl _)]
theorem mid_pick {vs : List Value} {a b : Int} (ha : 0 ≤ a) (hb : 0 ≤ b) : kms_pick vs (some a) (some b) = (vs.drop a.toNat).take (b.toNat - a.toNat) := by
  unfold kms_pick kms_lo kms_hi
  dsimp only
  rw [if_neg (by omega), if_neg (by omega)]
  rcases Nat.le_total a.toNat vs.length with q | q
  · rw [Nat.min_eq_left q]
    rcases Nat.le_total b.toNat vs.length with q2 | q2
    · rw [Nat.min_eq_left q2]
    · rw [Nat.min_eq_right q2, List.take_of_length_le (by rw [List.length_drop]; omega), List.take_of_length_le (by rw [List.length_drop]; omega)]
  · rw [Nat.min_eq_right q, List.drop_length, List.drop_of_length_le q, List.take_nil, List.take_nil]
theorem but1_pick {vs : List Value} : kms_pick vs none (some (-1)) = vs.take (vs.length - 1) := by
  unfold kms_pick kms_lo kms_hi
  dsimp only
  rw [if_pos (by decide), List.drop_zero]
  rfl
theorem last2_pick {vs : List Value} : kms_pick vs (some (-2)) none = vs.drop (vs.length - 2) := by
  unfold kms_pick kms_lo kms_hi
  dsimp only
  rw [if_pos (by decide), List.take_of_length_le (by rw [List.length_drop]; exact Nat.le_refl _)]
  rfl
theorem my_slice {prog : Program} {w : World} {A : Around} {E : Value → Shared → Prop} {s : Shared} {h₀ : Heap} {L l : Addr} {m : Str → Option Value} {news : List (Addr × Obj)} {value slice : PySem.Expr} {vs zs : List Value} {vl vu : Value} {lo hi : Option Int} {Q : Value → Shared → Prop}
    (F : Fr h₀ L s.heap m) (N : News h₀ L s.heap news) (hl : s.heap.IsList l vs.toArray) (pl : IsPart vl lo) (pu : IsPart vu hi) (e : kms_pick vs lo hi = zs)
    (h : ∀ D h', Fr h₀ L h' m → News h₀ L h' ((D, listOf zs.toArray 0) :: news) → (∀ p ∈ news, p.1 < D) → Q (.ref D) { s with heap := h' })
    (hs : subscripted slice false (.ref l) (.ref s.heap.objs.size) = operate [.ref s.heap.objs.size, .ref l] (getItem (.ref l) (.ref s.heap.objs.size))) (hz : vs.length < 2 ^ 20) :
    wpAny (model prog w) A (subscriptTail value slice (.ref l) (.ref s.heap.objs.size)) Q E { s with heap := s.heap.push { cls := .type "slice", data := .fields #[vl, vu, .none] } } := by
  refine kba_turn (value' := .Name (Str.ofString "x") ⟨0, 0, 0, 0⟩) (fun _ => rfl) ?_
  refine kmk_slice F N hl pl pu (fun D h' F' N' l1 => h D h' F' ?_ l1) hs (fun _ => rfl) (by rw [List.size_toArray, sizeLine_eq]; omega)
  rw [← e]
  rw [kms_pick_eq] at N'
  exact N'
/-- two ways to a list, joined -/
def JoinL (P : List Value → Prop) (s : Shared) (h₀ : Heap) (L : Addr) (m : Str → Option Value) (news : List (Addr × Obj)) (v : Value) (s' : Shared) : Prop :=
  ∃ q zv n h' tk, v = .ref q ∧ P zv ∧ s' = { s with heap := h', toks := tk } ∧ Fr h₀ L h' m ∧ News h₀ L h' ((q, listOf zv.toArray n) :: news)
theorem JoinL.intro {P : List Value → Prop} {s : Shared} {h₀ h' : Heap} {L q : Addr} {m : Str → Option Value} {news big : List (Addr × Obj)} {zv : List Value} {n tk : Nat} (hP : P zv) (F : Fr h₀ L h' m) (N : News h₀ L h' big) (hs : ∀ p ∈ (q, listOf zv.toArray n) :: news, p ∈ big) : JoinL P s h₀ L m news (.ref q) { s with heap := h', toks := tk } :=
  ⟨q, zv, n, h', tk, rfl, hP, rfl, F, news_sub N hs⟩
theorem join_list {M : Model} {A : Around} {E : Value → Shared → Prop} {s : Shared} {h₀ : Heap} {L : Addr} {m : Str → Option Value} {news : List (Addr × Obj)} {t : Sem Value} {Q : Value → Shared → Prop} (P : List Value → Prop) (F : Fr h₀ L s.heap m) (N : News h₀ L s.heap news)
    (h : wpAny M A t (JoinL P s h₀ L m news) E s) (k : ∀ q zv n h' tk, P zv → Fr h₀ L h' m → News h₀ L h' ((q, listOf zv.toArray n) :: news) → Q (.ref q) { s with heap := h', toks := tk }) : wpAny M A t Q E s :=
  have _ := F
  have _ := N
  wpAny_mono h (fun v s' hp => by
    obtain ⟨q, zv, n, h', tk, rfl, hP, rfl, F', N'⟩ := hp
    exact k q zv n h' tk hP F' N') fun _ _ e => e
/-- a frame's known names, the rest unsaid -/
theorem fr_known {h₀ h : Heap} {L : Addr} {m : Str → Option Value} (ps : List (Str × Value)) (F : Fr h₀ L h m) (hk : ∀ p ∈ ps, m p.1 = some p.2) : ∃ u, Fr h₀ L h (kstB u ps) :=
  ⟨m, by
    have e : kstB m ps = m := funext fun z => kstB_eq hk fun _ => rfl
    rw [e]; exact F⟩
end
section
open PySem PySem.W PySem.Calls PyProof.Rows PySem.SeqAt
-- XPure3
theorem lnXPure3_0 : True := by
  w_top off
  k_with_none
  trivial
set_option maxRecDepth 100000
def wordOf (e : Int) : List Int := [(e.fmod 65536).fdiv 256, e.fmod 256]
theorem words_len (l : List Int) : (l.flatMap wordOf).length = 2 * l.length := by
  induction l with
  | nil => rfl
  | cons a r ih => rw [List.flatMap_cons, List.length_append, ih]; simp only [wordOf, List.length_cons, List.length_nil]; omega
def dueCs {α : Type} (vs0 : List α) (ei si : List Int) (n : Nat) : List (List α) := (List.range n).map fun i => (vs0.drop (ei.getD i 0 + 1 - si.getD i 0).toNat).take ((ei.getD i 0 + 1).toNat - (ei.getD i 0 + 1 - si.getD i 0).toNat)
theorem dueCs_succ (vs0 : List Value) (ei si : List Int) (n : Nat) : dueCs vs0 ei si (n + 1) = dueCs vs0 ei si n ++ [(vs0.drop (ei.getD n 0 + 1 - si.getD n 0).toNat).take ((ei.getD n 0 + 1).toNat - (ei.getD n 0 + 1 - si.getD n 0).toNat)] := by
  unfold dueCs
  rw [List.range_succ, List.map_append]
  rfl
theorem word_in {e : Int} : ∀ n ∈ wordOf e, 0 ≤ n ∧ n < 256 := by
  intro n h
  simp only [wordOf, List.mem_cons, List.not_mem_nil, or_false] at h
  rw [Int.fmod_eq_emod_of_nonneg _ (by decide), Int.fmod_eq_emod_of_nonneg _ (by decide), Int.fdiv_eq_ediv_of_nonneg _ (by decide)] at h
  rcases h with rfl | rfl <;> constructor <;> omega
theorem words_in {l : List Int} : ∀ n ∈ l.flatMap wordOf, 0 ≤ n ∧ n < 256 := by
  intro n hn
  obtain ⟨e, _, h⟩ := List.mem_flatMap.mp hn
  exact word_in n h
theorem word_back {e : Int} (h0 : 0 ≤ e) (h1 : e < 65536) : (e.fmod 65536).fdiv 256 * 256 + e.fmod 256 = e := by
  rw [Int.fmod_eq_emod_of_nonneg _ (by decide), Int.fmod_eq_emod_of_nonneg _ (by decide), Int.fdiv_eq_ediv_of_nonneg _ (by decide)]
  omega
/-- the ends that sizes make -/
def endsOf (si : List Int) : List Int := (List.range si.length).map fun i => (si.take (i + 1)).sum - 1
def endsFrom : Int → List Int → List Int
  | _, [] => []
  | b, z :: r => (b + z - 1) :: endsFrom (b + z) r
theorem ends_from : ∀ (si : List Int) (b : Int), (List.range si.length).map (fun i => b + (si.take (i + 1)).sum - 1) = endsFrom b si
  | [], _ => rfl
  | z :: r, b => by
    rw [List.length_cons, List.range_succ_eq_map, List.map_cons, List.map_map, endsFrom, ← ends_from r (b + z)]
    congr 1
    · simp
    · apply List.map_congr_left
      intro i _
      simp only [Function.comp_apply, Nat.succ_eq_add_one, List.take_succ_cons, List.sum_cons]
      omega
theorem endsOf_eq (si : List Int) : endsOf si = endsFrom 0 si := by
  rw [← ends_from]
  unfold endsOf
  apply List.map_congr_left
  intro i _
  omega
theorem endsFrom_length : ∀ (si : List Int) (b : Int), (endsFrom b si).length = si.length
  | [], _ => rfl
  | z :: r, b => by rw [endsFrom, List.length_cons, endsFrom_length r, List.length_cons]
theorem endsOf_length (si : List Int) : (endsOf si).length = si.length := by rw [endsOf_eq, endsFrom_length]
theorem sum_bound : ∀ (si : List Int), (∀ z ∈ si, 1 ≤ z ∧ z ≤ 3) → 0 ≤ si.sum ∧ si.sum ≤ 3 * si.length
  | [], _ => ⟨Int.le_refl _, Int.le_refl _⟩
  | z :: r, h => by
    have h1 := h z (.head _)
    have h2 := sum_bound r fun y hy => h y (.tail _ hy)
    simp only [List.sum_cons, List.length_cons]
    omega
theorem endsFrom_last : ∀ (si : List Int) (b : Int), (endsFrom b si).getLastD (b - 1) + 1 = b + si.sum
  | [], b => by simp [endsFrom]
  | z :: r, b => by
    rw [endsFrom, List.getLastD_cons, endsFrom_last r (b + z), List.sum_cons]
    omega
theorem endsOf_last (si : List Int) : (endsOf si).getLastD (-1) + 1 = si.sum := by
  have h := endsFrom_last si 0
  rw [endsOf_eq]
  simpa using h
/-- ends that rise -/
def Rise : Int → List Int → Prop
  | _, [] => True
  | b, e :: r => b < e ∧ e < 65536 ∧ Rise e r
theorem rise_from : ∀ (si : List Int) (b : Int), (∀ z ∈ si, 1 ≤ z ∧ z ≤ 3) → b + si.sum < 65536 → Rise (b - 1) (endsFrom b si)
  | [], _, _, _ => trivial
  | z :: r, b, h, hs => by
    have h1 := h z (.head _)
    have h2 := sum_bound r fun y hy => h y (.tail _ hy)
    rw [List.sum_cons] at hs
    refine ⟨by omega, by omega, ?_⟩
    exact rise_from r (b + z) (fun y hy => h y (.tail _ hy)) (by omega)
theorem RE_words : ∀ (es : List Int) (last : Int) (m : Nat) (l : List Int), -1 ≤ last → Rise last es → RE (es.length + m) last (es.flatMap wordOf ++ l) = pre es (RE m (es.getLastD last) l)
  | [], last, m, l, _, _ => by simp [pre_nil]
  | e :: r, last, m, l, h0, h => by
    obtain ⟨h1, h2, h3⟩ := h
    have e1 : (e :: r).length + m = (r.length + m) + 1 := by rw [List.length_cons]; omega
    rw [e1, List.flatMap_cons, List.append_assoc]
    simp only [wordOf, List.cons_append, List.nil_append, RE]
    rw [word_back (by omega) h2, if_neg (by omega), RE_words r e m l (by omega) h3, pre_pre, List.getLastD_cons]
    rfl
theorem RW_word {n : Int} {l : List Int} (h0 : 0 ≤ n) (h1 : n < 65536) : RW (wordOf n ++ l) = some (n, l) := by
  simp only [wordOf, List.cons_append, List.nil_append, RW]
  rw [word_back h0 h1]
theorem RP_part {ci l : List Int} : RP (ci.length : Int) (ci ++ l) = some (ci, l) := by
  unfold RP
  rw [if_neg (by rw [List.length_append]; omega), Int.toNat_natCast, List.take_left, List.drop_left]
theorem cut_from {α : Type} : ∀ (si : List Int) (b : Int) (l : List α), (∀ z ∈ si, 1 ≤ z ∧ z ≤ 3) → 0 ≤ b → b + si.sum ≤ l.length → dueCs l (endsFrom b si) si si.length = cutG l b (endsFrom b si)
  | [], _, _, _, _, _ => rfl
  | z :: r, b, l, h, hb, hl => by
    have h1 := h z (.head _)
    have h2 := sum_bound r fun y hy => h y (.tail _ hy)
    rw [List.sum_cons] at hl
    have ih := cut_from r (b + z) l (fun y hy => h y (.tail _ hy)) (by omega) (by omega)
    rw [endsFrom, cutG]
    have e1 : b + z - 1 + 1 = b + z := by omega
    rw [e1, ← ih]
    unfold dueCs
    rw [List.length_cons, List.range_succ_eq_map, List.map_cons, List.map_map]
    congr 1
    simp only [List.getD_cons_zero, kms_lo, kms_hi]
    rw [if_neg (by omega), if_neg (by omega)]
    have e2 : b + z - 1 + 1 - z = b := by omega
    have e3 : b + z - 1 + 1 = b + z := by omega
    rw [e2, e3, Nat.min_eq_left (by omega), Nat.min_eq_left (by omega)]
theorem due_cut {α : Type} {si : List Int} {l : List α} (h : ∀ z ∈ si, 1 ≤ z ∧ z ≤ 3) (hl : si.sum ≤ l.length) : dueCs l (endsOf si) si si.length = cutG l 0 (endsOf si) := by
  rw [endsOf_eq]
  exact cut_from si 0 l h (Int.le_refl _) (by omega)
theorem ends_back {si : List Int} (h : ∀ z ∈ si, 1 ≤ z ∧ z ≤ 3) : ∀ i < si.length, 0 ≤ (endsOf si).getD i 0 + 1 - si.getD i 0 ∧ 0 ≤ si.getD i 0 := by
  rw [endsOf_eq]
  suffices ∀ (si : List Int) (b : Int), 0 ≤ b → (∀ z ∈ si, 1 ≤ z ∧ z ≤ 3) → ∀ i < si.length, 0 ≤ (endsFrom b si).getD i 0 + 1 - si.getD i 0 ∧ 0 ≤ si.getD i 0 from this si 0 (Int.le_refl _) h
  intro si
  induction si with
  | nil => intro b _ _ i hi; cases hi
  | cons z r ih =>
    intro b hb hz i hi
    have h1 := hz z (.head _)
    cases i with
    | zero => simp only [endsFrom, List.getD_cons_zero]; omega
    | succ i =>
      simp only [endsFrom, List.getD_cons_succ]
      exact ih (b + z) (by omega) (fun y hy => hz y (.tail _ hy)) i (by simpa using hi)
section
variable {ai bi ci si ts : List Int} {pts : List Pt} {n : Int}
def bodyOf (n : Int) (ci ts : List Int) (pts : List Pt) : List Int := wordOf n ++ ci ++ ts ++ pts.flatMap Pt.ds ++ pts.flatMap Pt.es
theorem main_read (hn : n = ci.length) (hc : ci.length < 10) (hsi : ∀ z ∈ si, 1 ≤ z ∧ z ≤ 3) (hls : si.length < 10) (hp : (pts.length : Int) = si.sum) (hok : ∀ p ∈ pts, p.Ok) (hT : Told (pts.map Pt.mark) ts) :
    ∃ g : Gl, (∀ e, RS si.length ((endsOf si).flatMap wordOf ++ (bodyOf n ci ts pts ++ e)) = some (g, e)) ∧ g.es = endsOf si ∧ g.ins = ci ∧ (List.range (g.es.getLastD (-1) + 1).toNat).map (rowAt g.xs g.ys g.fs) = rows pts := by
  obtain ⟨fs, f1, f2, f3⟩ := RF_told hT fun m hm => by
    obtain ⟨p, hp, rfl⟩ := List.mem_map.mp hm
    have q := mark_bits (hok p hp)
    exact ⟨q.1, q.2.1, q.2.2.2.1.trans q.2.2.1.symm⟩
  have f4 : fs.map Bits = pts.map PB := by
    rw [f1, List.map_map]
    apply List.map_congr_left
    intro p hp
    exact (mark_bits (hok p hp)).2.2.1
  have hb := sum_bound si hsi
  have hr := rise_from si 0 hsi (by omega)
  rw [← endsOf_eq] at hr
  have hls' := endsOf_length si
  have hlast := endsOf_last si
  refine ⟨⟨endsOf si, ci, fs, sums Pt.first 0 pts, sums Pt.second 0 pts⟩, fun e => ?_, rfl, rfl, ?_⟩
  · have r1 := RE_words (endsOf si) (-1) 0 (bodyOf n ci ts pts ++ e) (Int.le_refl _) hr
    rw [Nat.add_zero, hls', RE, pre_some, List.append_nil] at r1
    refine RS_7 r1 (z := n) (l2 := ci ++ (ts ++ (pts.flatMap Pt.ds ++ (pts.flatMap Pt.es ++ e)))) ?_ (ins := ci) (l3 := ts ++ (pts.flatMap Pt.ds ++ (pts.flatMap Pt.es ++ e))) ?_ (fs := fs) (l4 := pts.flatMap Pt.ds ++ (pts.flatMap Pt.es ++ e)) ?_ (RD_x pts fs 0 _ f4 hok) (RD_y pts fs 0 _ f4 hok)
    · unfold bodyOf
      simp only [List.append_assoc]
      exact RW_word (by omega) (by omega)
    · rw [hn]
      exact RP_part
    · rw [hlast, ← hp, f3 _ _ (by rw [List.length_map]; exact Int.le_refl _), List.length_map, Int.sub_self, RF_zero, pre_some, List.append_nil]
  · dsimp only
    rw [hlast, ← hp, Int.toNat_natCast]
    exact rows_of pts fs 0 0 f4 hok
theorem body_in (hc : ∀ v ∈ ci, 0 ≤ v ∧ v < 256) (hts : ∀ v ∈ ts, 0 ≤ v ∧ v < 256) (hok : ∀ p ∈ pts, p.Ok) : ∀ v ∈ bodyOf n ci ts pts, 0 ≤ v ∧ v < 256 := by
  have coordIn : ∀ {x c g : Int} {ds : List Int}, Coord x c g ds → ∀ v ∈ ds, 0 ≤ v ∧ v < 256 := by
    intro x c g ds h v hv
    rcases h with ⟨_, _, rfl, _⟩ | ⟨_, _, a, rfl, h0, h1, _⟩ | ⟨_, _, a, rfl, h0, h1, _⟩ | ⟨_, _, rfl⟩
    · cases hv
    · rw [List.mem_singleton.mp hv]; exact ⟨h0, h1⟩
    · rw [List.mem_singleton.mp hv]; exact ⟨h0, h1⟩
    · exact word_in v hv
  intro v hv
  unfold bodyOf at hv
  simp only [List.mem_append, List.mem_flatMap] at hv
  rcases hv with (((hv | hv) | hv) | ⟨p, hp, hv⟩) | ⟨p, hp, hv⟩
  · exact word_in v hv
  · exact hc v hv
  · exact hts v hv
  · exact coordIn (hok p hp).1 v hv
  · exact coordIn (hok p hp).2.1 v hv
theorem told_in {ms ts : List Int} (T : Told ms ts) (h : ∀ m ∈ ms, 0 ≤ m ∧ m < 248) (hl : ms.length < 200) : ∀ v ∈ ts, 0 ≤ v ∧ v < 256 := by
  induction T with
  | nil => exact fun _ h => nomatch h
  | @one ms ts m T ih =>
    intro v hv
    rw [List.length_append] at hl
    rcases List.mem_append.mp hv with hv | hv
    · exact ih (fun m hm => h m (List.mem_append_left _ hm)) (by omega) v hv
    · rw [List.mem_singleton.mp hv]
      have := h m (List.mem_append_right _ (.head _))
      omega
  | @run ms ts m k T hk ih =>
    intro v hv
    rw [List.length_append, List.length_replicate] at hl
    have hm := h m (List.mem_append_right _ (by rw [List.mem_replicate]; exact ⟨by omega, rfl⟩))
    rcases List.mem_append.mp hv with hv | hv
    · exact ih (fun m hm => h m (List.mem_append_left _ hm)) (by omega) v hv
    · simp only [List.mem_cons, List.not_mem_nil, or_false] at hv
      rcases hv with rfl | rfl
      · omega
      · omega
theorem again_none (hsi : ∀ z ∈ si, 1 ≤ z ∧ z ≤ 3) (hls : si.length < 10) (a2 : List Int) (ea : a2 = (if (endsOf si).flatMap wordOf = [] then [0, 5, 0, 5] else ((endsOf si).flatMap wordOf).drop (((endsOf si).flatMap wordOf).length - 2))) (l : List Int) :
    RS (((endsOf si).flatMap wordOf ++ a2).length / 2) ((endsOf si).flatMap wordOf ++ a2 ++ l) = none := by
  have hb := sum_bound si hsi
  have hr := rise_from si 0 hsi (by omega)
  rw [← endsOf_eq] at hr
  generalize endsOf si = es at *
  apply RS_1
  by_cases hw : es.flatMap wordOf = []
  · rw [if_pos hw] at ea
    have he : es = [] := by
      cases es with
      | nil => rfl
      | cons e r => rw [List.flatMap_cons] at hw; simp [wordOf] at hw
    subst he ea
    rfl
  · rw [if_neg hw] at ea
    have hne : es ≠ [] := fun q => hw (by rw [q]; rfl)
    have hd : es.dropLast ++ [es.getLast hne] = es := List.dropLast_concat_getLast hne
    have e1 : a2 = wordOf (es.getLast hne) := by
      rw [ea, words_len]
      have e2 : es.flatMap wordOf = es.dropLast.flatMap wordOf ++ wordOf (es.getLast hne) := by
        conv => lhs; rw [← hd]
        rw [List.flatMap_append, List.flatMap_cons, List.flatMap_nil, List.append_nil]
      rw [e2]
      have e3 : 2 * es.length - 2 = (es.dropLast.flatMap wordOf).length := by rw [words_len, List.length_dropLast]; omega
      rw [e3, List.drop_left]
    have e4 : (es.flatMap wordOf ++ a2).length / 2 = es.length + 1 := by
      rw [List.length_append, words_len, e1]
      simp only [wordOf, List.length_cons, List.length_nil]
      omega
    have hl : es.getLastD (-1) = es.getLast hne := by rw [List.getLastD_eq_getLast?, List.getLast?_eq_some_getLast hne]; rfl
    rw [e4, List.append_assoc, RE_words es (-1) 1 _ (Int.le_refl _) hr, e1, hl]
    have hrange : 0 ≤ es.getLast hne ∧ es.getLast hne < 65536 := by
      suffices ∀ (es : List Int) (b : Int), -1 ≤ b → Rise b es → ∀ e ∈ es, 0 ≤ e ∧ e < 65536 from this es (-1) (Int.le_refl _) hr _ (List.getLast_mem hne)
      intro es
      induction es with
      | nil => intro _ _ _ e he; cases he
      | cons a r ih =>
        intro b hb h e he
        obtain ⟨h1, h2, h3⟩ := h
        rcases List.mem_cons.mp he with rfl | he
        · exact ⟨by omega, h2⟩
        · exact ih a (by omega) h3 e he
    simp only [wordOf, List.cons_append, List.nil_append, RE]
    rw [word_back hrange.1 hrange.2, if_pos (Int.le_refl _), pre_none]
theorem more_none {f : Int} (hf : f = 9 ∨ f = 63) (hn : n = ci.length) (hc : ci.length < 10) : RS 1 ([0, 1] ++ (wordOf n ++ ci) ++ [f, 2, 0, 0, 0, 0, 0, 0, 0, 0]) = none := by
  have r1 : RE 1 (-1) ([0, 1] ++ (wordOf n ++ ci) ++ [f, 2, 0, 0, 0, 0, 0, 0, 0, 0]) = some ([1], wordOf n ++ (ci ++ [f, 2, 0, 0, 0, 0, 0, 0, 0, 0])) := by
    simp only [List.append_assoc, List.cons_append, List.nil_append, RE]
    rfl
  refine RS_4 r1 (RW_word (n := n) (by omega) (by omega)) (ins := ci) (l3 := [f, 2, 0, 0, 0, 0, 0, 0, 0, 0]) (by rw [hn]; exact RP_part) ?_
  have hbit : Builtin.bitAnd f 8 ≠ 0 := by
    rcases hf with rfl | rfl <;> decide
  show RF 2 _ = none
  rw [RF_run (by decide) hbit]
  rw [RF_neg (by decide), pre_none]
end
end
section
open PySem PySem.W PySem.Calls PyProof.Rows PySem.SeqAt
-- XPure4
theorem lnXPure4_0 : True := by
  w_top off
  k_with_none
  trivial
set_option maxRecDepth 100000
section
variable {ai bi ci si ts : List Int} {pts : List Pt} {n : Int}
theorem body_two : 2 ≤ (bodyOf n ci ts pts).length := by
  unfold bodyOf
  simp only [List.length_append, wordOf, List.length_cons, List.length_nil]
  omega
theorem p1_of (hn : n = ci.length) (hc : ci.length < 10) (hsi : ∀ z ∈ si, 1 ≤ z ∧ z ≤ 3) (hls : si.length < 10) (hp : (pts.length : Int) = si.sum) (hok : ∀ p ∈ pts, p.Ok) (hT : Told (pts.map Pt.mark) ts) :
    Exp si.length (ai ++ (endsOf si).flatMap wordOf ++ bodyOf n ci ts pts ++ bi) ai.length (cutG (rows pts) 0 (endsOf si)) ci (ai ++ (endsOf si).flatMap wordOf ++ bodyOf n ci ts pts).length := by
  obtain ⟨g, hg, e1, e2, e3⟩ := main_read hn hc hsi hls hp hok hT
  have h2 := body_two (n := n) (ci := ci) (ts := ts) (pts := pts)
  refine .inr ⟨fun q => ?_, g, bi, ?_, ?_, e2.symm, by rw [e3, e1]⟩
  · have := q.2
    simp only [List.length_append] at this
    omega
  · rw [Int.toNat_natCast, List.append_assoc, List.append_assoc, List.drop_left]
    have h := hg bi
    exact h
  · simp only [List.length_append]
    omega
theorem p2_of (hn : n = ci.length) (hc : ci.length < 10) (hsi : ∀ z ∈ si, 1 ≤ z ∧ z ≤ 3) (hls : si.length < 10) (hp : (pts.length : Int) = si.sum) (hok : ∀ p ∈ pts, p.Ok) (hT : Told (pts.map Pt.mark) ts) (hb : ∀ v ∈ bodyOf n ci ts pts, 0 ≤ v ∧ v < 256) :
    ¬(si.length = 0 ∧ (ai.length : Int) = ((ai ++ (endsOf si).flatMap wordOf ++ bodyOf n ci ts pts).take ((ai ++ (endsOf si).flatMap wordOf ++ bodyOf n ci ts pts).length - 1)).length) ∧
    ai.length ≤ ((ai ++ (endsOf si).flatMap wordOf ++ bodyOf n ci ts pts).take ((ai ++ (endsOf si).flatMap wordOf ++ bodyOf n ci ts pts).length - 1)).length ∧
    RS si.length (((ai ++ (endsOf si).flatMap wordOf ++ bodyOf n ci ts pts).take ((ai ++ (endsOf si).flatMap wordOf ++ bodyOf n ci ts pts).length - 1)).drop ai.length) = none := by
  obtain ⟨g, hg, _, _, _⟩ := main_read hn hc hsi hls hp hok hT
  have h2 := body_two (n := n) (ci := ci) (ts := ts) (pts := pts)
  generalize bodyOf n ci ts pts = bo at *
  have hne : bo ≠ [] := fun q => by rw [q] at h2; exact absurd h2 (by decide)
  have hd : bo.dropLast ++ [bo.getLast hne] = bo := List.dropLast_concat_getLast hne
  have hl : ((ai ++ (endsOf si).flatMap wordOf ++ bo).take ((ai ++ (endsOf si).flatMap wordOf ++ bo).length - 1)) = ai ++ ((endsOf si).flatMap wordOf ++ bo.dropLast) := by
    have e : (ai ++ (endsOf si).flatMap wordOf ++ bo).length - 1 = (ai ++ ((endsOf si).flatMap wordOf ++ bo.dropLast)).length := by
      simp only [List.length_append, List.length_dropLast]
      omega
    have e5 : ai ++ (endsOf si).flatMap wordOf ++ bo = (ai ++ ((endsOf si).flatMap wordOf ++ bo.dropLast)) ++ [bo.getLast hne] := by
      simp only [List.append_assoc]
      rw [hd]
    rw [e]
    conv => lhs; rw [e5]
    rw [List.take_left]
  rw [hl]
  have hdl : bo.dropLast.length = bo.length - 1 := List.length_dropLast
  refine ⟨fun q => ?_, ?_, ?_⟩
  · have := q.2
    simp only [List.length_append] at this
    omega
  · simp only [List.length_append]
    omega
  · rw [List.drop_left]
    refine RS_short si.length (x := bo.getLast hne) (v := g) (fun v hv => ?_) ?_
    · rcases List.mem_append.mp hv with hv | hv
      · exact (words_in v hv).1
      · exact (hb v (List.dropLast_subset _ hv)).1
    · rw [List.append_assoc, hd]
      have h := hg []
      rw [List.append_nil] at h
      exact h
theorem p3_of (hsi : ∀ z ∈ si, 1 ≤ z ∧ z ≤ 3) (hls : si.length < 10) (bo : List Int) :
    ∀ a2, a2 = (if (endsOf si).flatMap wordOf = [] then [0, 5, 0, 5] else ((endsOf si).flatMap wordOf).drop (((endsOf si).flatMap wordOf).length - 2)) → RS (((endsOf si).flatMap wordOf ++ a2).length / 2) ((ai ++ ((endsOf si).flatMap wordOf ++ a2) ++ bo ++ [0, 0, 0, 0, 0, 0, 0, 0, 0]).drop ai.length) = none := by
  intro a2 ea
  rw [List.append_assoc, List.append_assoc, List.drop_left]
  exact again_none hsi hls a2 ea _
theorem p4_of (hn : n = ci.length) (hc : ci.length < 10) : ∀ f, f = 9 ∨ f = 63 → RS 1 ([0, 1] ++ (wordOf n ++ ci) ++ [f, 2, 0, 0, 0, 0, 0, 0, 0, 0]) = none := fun _ hf => more_none hf hn hc
theorem hcs_of (hsi : ∀ z ∈ si, 1 ≤ z ∧ z ≤ 3) (hp : (pts.length : Int) = si.sum) {vs0 : List Value} {tl : List (Addr × Obj)} (hT : TupsIn tl vs0 (rows pts)) :
    ∀ h : Heap, All2 (TripAt h) vs0 (rows pts) → All2 (All2 (TripAt h)) (dueCs vs0 (endsOf si) si si.length) (cutG (rows pts) 0 (endsOf si)) := by
  intro h ha
  rw [due_cut hsi (by rw [hT.length, rows_length, hp]; exact Int.le_refl _)]
  exact ha.cut 0 _
end
end
section
open PySem PySem.W PySem.Calls PyProof.Rows PySem.SeqAt
-- XStE
set_option maxRecDepth 100000
theorem lnXStE_1 : True := by
  w_top off
  k_with_none
  (k_with "c enter" => (refine wpAny_call ?_; k_dflt (refine' enter (by assumption) (by first | assumption | exact use_nil) (by k_is) (by k_is) (by walk_at "c room") (by exact BindsTo.of_eq rfl) (by exact locs rfl) ?_ (by exact rfl) (by exact rfl) (by exact rfl) (by decide); k_whole; intro _ _ _ _ _ _ _ _ _ _ _ _ _ _; (try dsimp only); (try k_fold))))
  (k_with "c room" => first | assumption | decide | ((try simp only [depth_under_make, depth_under_kw, depth_in1, depth_deeper, depth_caller]); (try dsimp only [Ar]); first | exact room2 (by assumption) (by decide) | exact room1 (by assumption) (by decide) | exact room0 (by assumption) | omega))
  (k_with "c pick" => first | exact Pick.head | exact Pick.tail (by walk_at "c pick"))
  (k_with "c go" => repeat' (first | ((fail_if_success (with_reducible show wpAny _ _ (pyIter (Value.ref _)) _ _ _)); (fail_if_success (with_reducible show wpAny _ _ (exec (Stmt.While _ _ _ _) _) _ _ _)); first | (k_unfold; (try dsimp only)) | walk1 | (dsimp only; walk1))))
  (k_with "subscriptTail Name Constant ref int" => (k_here; (with_reducible show wpAny _ _ (subscriptTail _ _ (Value.ref _) (Value.int _ _)) _ _ _); (with_unfolding_all refine' my_item (by is_list) (by decide) (by decide) (by rfl) ?_ (by with_unfolding_all rfl); k_whole)))
  (k_with "call builtin:len" => (k_here; (with_reducible show wpAny _ _ (call (Value.builtin "len") [Value.ref _]) _ _ _); k_dflt (refine' my_len (by is_list) (by walk_at "c fit") ?_; k_whole)))
  (k_with "c via1" => (k_dflt (refine' via1 (by assumption) (by assumption) (by assumption) (by assumption) (by walk_at "c pick") (by k_all) (by first | exact rfl | assumption) ?_)))
  (k_with "c via0" => (k_dflt (refine' via0 (by assumption) (by assumption) (by assumption) (by assumption) (by first | exact rfl | assumption) ?_)))
  (k_with "c num" => first | assumption | decide | exact Int.natCast_nonneg _ | exact Nat.lt_of_lt_of_le (by assumption) (by decide) | exact size2 (by assumption) (by assumption) (by decide) | omega)
  (k_with "call ref" => (k_here; (with_reducible show wpAny _ _ (call (Value.ref 218) [Value.ref _, Value.int _ _]) _ _ _); walk_at "c via1"; intro cC cS cK; k_dflt (refine' take_spec cC cS (by walk_at "c num") (by walk_at "c num") (by walk_at "c num") (by walk_at "c num") (by walk_at "c room") ?_); clear cC cS; intro _ _ _ _ _ _ _ _ _ _ _ _ zzS zzW; (refine And.elim (fun _ zzN => ?_) (cK _ _ zzS zzW)); clear cK zzS zzW; (try dsimp only [List.cons_append, List.nil_append] at zzN); (try dsimp only); (try k_sweep)))
  (k_with "c fit" => first | assumption | exact Nat.le_of_ble_eq_true rfl | exact Nat.lt_of_lt_of_le (by assumption) (by decide) | exact size2 (by assumption) (by assumption) (by decide) | omega | ((simp only [List.length_cons, List.length_append, List.length_nil]); omega))
  (k_with "c itemN" => (k_here; (with_reducible show wpAny _ _ (subscriptTail _ _ (Value.ref _) (Value.int _ _)) _ _ _); (with_unfolding_all refine' my_itemN (by is_list) (by walk_at "c num") (by walk_at "c num") (by walk_at "c fit") ?_ (by with_unfolding_all rfl); k_whole)))
  (k_with "c end" => ((try k_unfold); (try dsimp only)))
  (k_with "c same" => exact same_of (by assumption) (by assumption))
  (k_with "c sub" => first | exact List.forall_mem_nil _ | exact fun _ h => h | exact List.forall_mem_cons.mpr ⟨by k_mem, by walk_at "c sub"⟩)
  (k_with "c now" => first | exact now_of (by assumption) (by assumption) | exact now_sub (by assumption) (by assumption) (by walk_at "c sub"))
  (k_with "c ints" => first | assumption | exact IntsAre.nil | exact IntsAre.cons _ _ IntsAre.nil | exact IntsAre.cons _ _ (IntsAre.cons _ _ IntsAre.nil) | exact IntsAre.cons _ _ (IntsAre.cons _ _ (IntsAre.cons _ _ IntsAre.nil)))
  (k_with "k_all" => first | exact all_ltS (by assumption) (by walk_at "c tail") | fail)
  (k_with "k_all" => first | exact List.forall_mem_nil _ | (refine' List.forall_mem_cons.mpr ⟨(by k_ne), (by k_all)⟩))
  (k_with "k_all" => first | (with_reducible assumption) | exact all_lt (by with_reducible assumption) | fail)
  (k_with "c lt" => first | assumption | exact lt_mem (by assumption) (by k_mem) | exact lt_mem2 (by assumption) (by assumption) (by k_mem) | exact Nat.lt_succ_self _ | exact Nat.lt_succ_of_lt (by walk_at "c lt"))
  (k_with "k_ne" => first | exact Apt.ne (by assumption) | exact (Apt.ne (by assumption)).symm | exact NewAt.ne (by assumption) (by k_mem) | exact (NewAt.ne (by assumption) (by k_mem)).symm | exact ne_gt (by assumption) (by k_mem) | exact ne_lt (by assumption) (by k_mem) | exact Nat.ne_of_gt (by walk_at "c lt") | exact Nat.ne_of_lt (by walk_at "c lt") | (refine neN ?_; (try dsimp only); omega))
  (k_with "k_mem" => first | exact lm0 | exact lm1 | exact lm2 | exact lm3 | (refine' lm4 ?_; k_mem))
  (k_with "le" => k_dflt (exact Nat.le_of_ble_eq_true rfl))
  (k_with "lt" => k_dflt (exact Nat.le_of_ble_eq_true rfl))
  (k_with "c size" => first | assumption | exact Nat.le_of_ble_eq_true rfl | exact Nat.lt_of_lt_of_le (by assumption) (by decide) | exact size2 (by assumption) (by assumption) (by decide) | omega | ((simp only [List.length_cons, List.length_append, List.length_nil]); omega))
  (k_with "call builtin:list.append" => (k_here; (with_reducible show wpAny _ _ (call (Value.builtin "list.append") [Value.ref _, _]) _ _ _); k_dflt (refine' my_append (by k_asm) (by k_asm) (by k_upd) (by walk_at "c size") ?_; k_whole); intro _ _ _; (try k_sweep)))
  (k_with "binaryOp Add ref ref" => (k_here; (with_reducible show wpAny _ _ (binaryOp Operator.Add (Value.ref _) (Value.ref _)) _ _ _); k_dflt (refine' my_addL (by k_asm) (by k_asm) (by is_list) (by is_list) (by walk_at "c size") ?_; k_whole); intro _ _ _ _ _; (try k_sweep)))
  (k_with "c tail" => (intro _ zzhp; repeat (first | exact zzhp | refine List.mem_cons_of_mem _ ?_)))
  (k_with "c rest" => (intro _ zzq1 zzq2 zzq3; (repeat (first | refine upd_ne zzq1 ?_ | refine upd_ne (ne_stored zzq3 (by decide +kernel)) ?_ | refine upd_ne (zzq2 (_, _) (by k_mem)) ?_ | exact kst_end zzq3 | refine kst_mid (not_in_cons (ne_stored zzq3 (by decide +kernel)) not_in_nil) ?_ | refine kst_ne (ne_stored zzq3 (by decide +kernel)) ?_ | refine kst_ne (zzq2 (_, _) (by k_mem)) ?_))))
  (k_with "c restW" => (intro _ zzq2 zzq3; (repeat (first | refine upd_ne (ne_stored zzq3 (by decide +kernel)) ?_ | refine upd_ne (zzq2 (_, _) (by k_mem)) ?_ | exact kst_end zzq3 | refine kst_mid (not_in_cons (ne_stored zzq3 (by decide +kernel)) not_in_nil) ?_ | refine kst_ne (ne_stored zzq3 (by decide +kernel)) ?_ | refine kst_ne (zzq2 (_, _) (by k_mem)) ?_))))
  (k_with "c ps" => first | exact List.forall_mem_nil _ | exact List.forall_mem_cons.mpr ⟨rfl, by walk_at "c ps"⟩)
  (k_with "c itemI" => (k_here; (with_reducible show wpAny _ _ (subscriptTail _ _ (Value.ref _) (Value.int _ _)) _ _ _); (with_unfolding_all refine' my_itemI (by is_list) (by with_reducible assumption) (by walk_at "c num") (by walk_at "c num") (by walk_at "c fit") ?_ (by with_unfolding_all rfl); k_whole); intro _))
  (k_with "exec Raise some none" => (k_here; k_dflt (refine' font_raise (by assumption) (by assumption) (by assumption) (by exact rfl) (by walk_at "c room") (by exact rfl) (by exact rfl) (by decide +kernel) ?_; intro _ _ _ _ _ _ _ _; (try k_unfold); (try dsimp only); refine' font_leave (by assumption) (by assumption) (by assumption) (by assumption) (by assumption) ?_ (by exact rfl); intro _ _ _; (try dsimp only))))
  (k_with "call type:bytes cons nil bytes" => (k_here; refine bb_call ?_))
  (k_with "call type:bytes" => (k_here; (with_reducible show wpAny _ _ (call (Value.type "bytes") [Value.bytes _ _]) _ _ _); refine bb_call ?_))
  (k_with "leaving ref" => (k_here; k_dflt (refine' leave_onSX (by assumption) (by assumption) (by assumption) (by assumption) ?_; k_whole); intro _ zzR zzU; (try dsimp only at zzR zzU ⊢)))
  (k_with "storeName" => (dsimp only; walk_at "storeName"))
  (k_with "execs cons" => (k_here; k_fold))
  (k_with "exec Assign" => (k_here; k_fold))
  (k_with "call ref" => (k_here; (with_reducible show wpAny _ _ (call (Value.ref 225) [Value.ref _, Value.ref _]) _ _ _); walk_at "c via1"; intro cC cS cK; k_dflt (refine' one_specI cC cS (by is_list) (by k_ne) (by walk_at "c fit") (by walk_at "c fit") (by rfl) (by walk_at "c num") (by walk_at "c num") (by walk_at "c room") ?_); clear cC cS; intro _ _ _ _ _ _ _ _ zzzm _ _ zzS zzW; (refine And.elim (fun _ zzN => ?_) (cK _ _ zzS zzW)); clear cK zzS zzW; (try simp only [List.filterMap_cons, List.filterMap_nil, intOf?, List.mem_cons, List.not_mem_nil, or_false] at zzzm); (try dsimp only [List.cons_append, List.nil_append] at zzN); (try dsimp only); (try k_sweep)))
  (k_with "c enterC" => (refine wpAny_call ?_; k_dflt (refine' enterC (by assumption) (by first | assumption | exact use_nil) (by k_is) (by k_is) (by walk_at "c room") (by exact BindsTo.of_eq rfl) (by exact rfl) (by decide +kernel) ?_ (by exact rfl) (by exact rfl) (by exact rfl); k_whole; intro _ _ _ _ _ _ _ _ _ _ _ _ zzN zzY _ _ _ _; k_cells zzY; (try dsimp only [List.cons_append, List.nil_append] at zzN); (try dsimp only); (try k_fold))))
  (k_with "c init" => (refine' code_def (by k_asm) (by k_asm) (by k_asm) (by k_asm) (by k_asm) (by exact rfl) (by exact rfl) (by exact rfl) (by k_is) (by k_is) (by walk_at "c room") (by first | exact BindsTo.of_eq rfl | exact binds_K (by k_in) rfl (by k_is) rfl rfl rfl) (by exact locs rfl) ?_ (by exact rfl) (by exact rfl) (by exact rfl) (by decide); k_whole; intro _ _ _ _ _ _ zzB _ _; (try dsimp only); (try k_lift zzB); (try k_fold)))
  (k_with "call ref" => (k_here; k_dflt (refine' call_cls (by k_asm) (by k_asm) (by k_asm) (by k_is) (by k_is) (by k_is) ?_; k_whole; intro _ _ _ _ _ _ _; (try k_sweep); walk_at "c init")))
  (k_with "call ref" => (k_here; (with_reducible show wpAny _ _ (call (Value.ref 199) [Value.ref _, Value.int _ _]) _ _ _); walk_at "c via2E"; intro cC cO cD cn cF cK; (refine' ends_spec cC cO cD cn (by assumption) (by walk_at "c num") (by walk_at "c num") (by walk_at "c num") (by walk_at "c num") (by walk_at "c num") (by walk_at "c room") (by walk_at "c units") ?_ ?_); (all_goals first | (intro _ _ _ _ _ _ _ _ _ _ _ _ _ _ zzS zzW zzfO zzfd; (with_reducible rename News _ _ _ _ => zznO); (have zzhn1 := NewAt.mk (apart_new zznO (now_atU zzW (.tail _ (.tail _ (.head _))) (notin2 zzfO zzfd)))); (try dsimp only at zzhn1); (refine And.elim (fun _ zzN => ?_) (cK _ _ zzS zzW)); clear cK cC cO cD cn cF zzS zzW zznO; (try dsimp only [List.cons_append, List.nil_append] at zzN); (try dsimp only); (try k_sweep)) | (clear cC cO cD cn cK; walk_at "c fault"))))
  (k_with "call ref" => (k_here; (with_reducible show wpAny _ _ (call (Value.ref 185) [Value.ref _, Value.int _ _]) _ _ _); walk_at "c via2E"; intro cC cO cD cn cF cK; (refine' flags_spec cC cO cD cn (by assumption) (by walk_at "c num") (by walk_at "c num") (by walk_at "c num") (by walk_at "c num") (by walk_at "c num") (by walk_at "c room") ?_ ?_); (all_goals first | (intro _ _ _ _ _ _ _ _ _ _ _ _ _ zzS zzW zzfO zzfd; (with_reducible rename News _ _ _ _ => zznO); (have zzhn1 := NewAt.mk (apart_new zznO (now_atU zzW (.tail _ (.tail _ (.head _))) (notin2 zzfO zzfd)))); (try dsimp only at zzhn1); (refine And.elim (fun _ zzN => ?_) (cK _ _ zzS zzW)); clear cK cC cO cD cn cF zzS zzW zznO; (try dsimp only [List.cons_append, List.nil_append] at zzN); (try dsimp only); (try k_sweep)) | (clear cC cO cD cn cK; walk_at "c fault"))))
  (k_with "call ref" => (k_here; (with_reducible show wpAny _ _ (call (Value.ref 192) [Value.ref _, Value.ref _, Value.int _ _, Value.int _ _]) _ _ _); walk_at "c via2E"; intro cC cO cD cn cF cK; (refine' deltas_spec cC cO cD cn (by assumption) (by walk_at "c num") (by walk_at "c num") (by walk_at "c num") (by is_list) (by exact ⟨by k_ne, by k_ne⟩) (by with_reducible assumption) (by walk_at "c num") (by walk_at "c room") ?_ ?_); (all_goals first | (intro _ _ _ _ _ _ _ _ _ _ _ _ _ zzS zzW zzfO zzfd; (with_reducible rename News _ _ _ _ => zznO); (have zzhn1 := NewAt.mk (apart_new zznO (now_atU zzW (.tail _ (.tail _ (.head _))) (notin2 zzfO zzfd)))); (try dsimp only at zzhn1); (refine And.elim (fun _ zzN => ?_) (cK _ _ zzS zzW)); clear cK cC cO cD cn cF zzS zzW zznO; (try dsimp only [List.cons_append, List.nil_append] at zzN); (try dsimp only); (try k_sweep)) | (clear cC cO cD cn cK; walk_at "c fault"))))
  (k_with "c units" => (dsimp only [Around.deeper, Ar]; first | exact room2 (by assumption) (by decide) | exact room1 (by assumption) (by decide) | omega))
  (k_with "eval Name" => (k_here; (with_reducible show wpAny _ _ (eval (PySem.Expr.Name _ _) (compEnvC _ _ _ _)) _ _ _); k_dflt (refine' blkB (by rfl) (by rfl) (by rfl) (by rfl) (by decide) (by k_asm) (by k_asm) (by k_asm) (by k_is) (by boot_by_name) (by decide) ?_; k_whole)))
  (k_with "eval Name" => (k_here; (with_reducible show wpAny _ _ (eval (PySem.Expr.Name _ _) (compEnvC _ _ _ _)) _ _ _); k_dflt (refine' blkK (by rfl) (by rfl) (by rfl) (by decide) (by k_asm) (by k_asm) (by k_asm) (by k_is) ?_; k_whole)))
  (k_with "eval Name" => (k_here; (with_reducible show wpAny _ _ (eval (PySem.Expr.Name _ _) (compEnvC _ _ _ _)) _ _ _); k_dflt (refine' blkC (by rfl) (by rfl) (by decide) (by k_asm) (by rfl) (by k_mem) (by k_asm) ?_; k_whole)))
  (k_with "eval Name" => (k_here; (with_reducible show wpAny _ _ (eval (PySem.Expr.Name _ _) (compEnvC _ _ _ _)) _ _ _); k_dflt (refine' blkL (by rfl) (by rfl) (by decide) (by k_asm) (by with_reducible assumption) (by k_mem) (by exact if_pos rfl) ?_; k_whole)))
  (k_with "compareOp NotEq ref ref" => (k_here; (with_reducible show wpAny _ _ (compareOp CmpOp.NotEq (Value.ref _) (Value.ref _)) _ _ _); (with_unfolding_all refine' ne_intsK (by is_list) (by with_reducible assumption) (by is_list) (by exact IntsAre.nil) (by dsimp only [Around.deeper, Ar]; first | exact room2 (by assumption) (by decide) | exact room1 (by assumption) (by decide) | omega) ?_; k_whole)))
  (k_with "subscriptTail Name" => (k_here; (with_reducible show wpAny _ _ (subscriptTail _ _ (Value.ref _) (Value.int (-1) _)) _ _ _); k_dflt (with_unfolding_all refine' my_lastI (by is_list) (by with_reducible assumption) (by refine List.length_pos_iff.mpr ?_; simp_all only [Bool.not_eq_true', decide_eq_false_iff_not, ne_eq, not_false_eq_true]) (by omega) ?_ (by with_unfolding_all rfl); k_whole); intro _))
  (k_with "exec Assign cons ListComp" => (k_here; k_dflt (refine' comp_assign (by with_unfolding_all rfl) (by with_unfolding_all rfl) (by rfl) (by decide) ?_ (by intro _; with_unfolding_all rfl); k_whole)))
  (k_with "eval ListComp" => (k_here; k_dflt (refine' comp_open (by with_unfolding_all rfl) (by rfl) (by decide) ?_ (by intro _; with_unfolding_all rfl); k_whole)))
  (k_with "c goI" => repeat' (first | ((fail_if_success (with_reducible show wpAny _ _ (pyIter (Value.ref _)) _ _ _)); (fail_if_success (with_reducible show wpAny _ _ (exec (Stmt.While _ _ _ _) _) _ _ _)); (fail_if_success (with_reducible show wpAny _ _ (eval (PySem.Expr.IfExp _ _ _ _) _) _ _ _)); first | (k_unfold; (try dsimp only)) | walk1 | (dsimp only; walk1))))
  (k_with "call ref" => (k_here; (with_reducible show wpAny _ _ (call (Value.ref 232) [Value.int _ _]) _ _ _); walk_at "c via0"; intro cC cK; k_dflt (refine' word_spec cC (by walk_at "c room") ?_); clear cC; intro _ _ _ _ _ zzS zzW; (with_reducible rename News _ _ _ _ => zznO); (have zzhn1 := NewAt.mk (apart_new zznO (now_new zzW))); (try dsimp only at zzhn1); (refine And.elim (fun _ zzN => ?_) (cK _ _ zzS zzW)); clear cK zzS zzW zznO; (try dsimp only [List.cons_append, List.nil_append] at zzN); (try dsimp only); (try k_sweep)))
  (k_with "call ref" => (k_here; (with_reducible show wpAny _ _ (call (Value.ref 211) [Value.ref _]) _ _ _); walk_at "c via0"; intro cC cK; (refine' pool_spec cC (by is_list) (by with_reducible assumption) (by walk_at "c num") (by walk_at "c room") ?_); clear cC; intro _ _ _ _ _ _ _ _ _ zzS zzW; (with_reducible rename News _ _ _ _ => zznO); (have zzhn1 := NewAt.mk (apart_new zznO (now_new zzW))); (try dsimp only at zzhn1); (refine And.elim (fun _ zzN => ?_) (cK _ _ zzS zzW)); clear cK zzS zzW zznO; (try dsimp only [List.cons_append, List.nil_append] at zzN); (try dsimp only); (try k_sweep)))
  (k_with "c goL" => repeat' (first | ((fail_if_success (with_reducible show wpAny _ _ (pyIter (Value.ref _)) _ _ _)); (fail_if_success (with_reducible show wpAny _ _ (call (Value.ref 267) _) _ _ _));  first | (k_unfold; (try dsimp only)) | walk1 | (dsimp only; walk1))))
  (k_with "subscriptTail Name Slice ref ref" => k_dflt (k_here; (with_reducible show wpAny _ _ (subscriptTail _ (PySem.Expr.Slice _ _ none _) (Value.ref _) (Value.ref _)) _ _ _); k_dflt (refine' my_slice (by k_asm) (by k_asm) (by is_list) (by kmk_part) (by kmk_part) (by first | exact take_pick (by walk_at "c num") | exact mid_pick (by walk_at "c num") (by walk_at "c num") | exact but1_pick | exact last2_pick) ?_ (by with_unfolding_all rfl) (by walk_at "c fit")); intro _ _ _ zzN _; (try simp only [Int.reduceNeg] at zzN); (try k_sweep)))
  (k_with "subscriptTail List Slice ref ref" => k_dflt (k_here; (with_reducible show wpAny _ _ (subscriptTail _ (PySem.Expr.Slice _ _ none _) (Value.ref _) (Value.ref _)) _ _ _); k_dflt (refine' my_slice (by k_asm) (by k_asm) (by is_list) (by kmk_part) (by kmk_part) (by first | exact take_pick (by walk_at "c num") | exact mid_pick (by walk_at "c num") (by walk_at "c num") | exact but1_pick | exact last2_pick) ?_ (by with_unfolding_all rfl) (by walk_at "c fit")); intro _ _ _ zzN _; (try simp only [Int.reduceNeg] at zzN); (try k_sweep)))
  (k_with "subscriptTail" => k_dflt (k_here; (with_reducible show wpAny _ _ (subscriptTail _ (PySem.Expr.Slice _ _ none _) (Value.ref _) (Value.ref _)) _ _ _); k_dflt (refine' my_slice (by k_asm) (by k_asm) (by is_list) (by kmk_part) (by kmk_part) (by first | exact take_pick (by walk_at "c num") | exact mid_pick (by walk_at "c num") (by walk_at "c num") | exact but1_pick | exact last2_pick) ?_ (by with_unfolding_all rfl) (by walk_at "c fit")); intro _ _ _ zzN _; (try simp only [Int.reduceNeg] at zzN); (try k_sweep)))
  (k_with "c goM" => repeat' (first | ((fail_if_success (with_reducible show wpAny _ _ (pyIter (Value.ref _)) _ _ _)); (fail_if_success (with_reducible show wpAny _ _ (call (Value.ref 267) _) _ _ _)); (fail_if_success (with_reducible show wpAny _ _ (eval (PySem.Expr.IfExp _ _ _ _) _) _ _ _)); first | (k_unfold; (try dsimp only)) | walk1 | (dsimp only; walk1))))
  (k_with "c goS" => repeat' (first | ((fail_if_success (with_reducible show wpAny _ _ (pyIter (Value.ref _)) _ _ _)); (fail_if_success (with_reducible show wpAny _ _ (execs (Stmt.If _ _ _ _ :: _) _) _ _ _)); first | (k_unfold; (try dsimp only)) | walk1 | (dsimp only; walk1))))
  trivial
noncomputable def lawFn (p : Params) : Option (List Stmt × Scope) := match (hd.heap_1 p).lookup 272 with
  | some ⟨_, _, .func d, _⟩ => (match d.body with
    | .stmts b => some (b, d.scope)
    | _ => none)
  | _ => none
noncomputable def lawBody (p : Params) : List Stmt := match lawFn p with
  | some d => d.1
  | none => []
noncomputable def lawScope (p : Params) : Scope := match lawFn p with
  | some d => d.2
  | none => default
theorem lnXStE_2 : True := by
  (k_with "c lit" => skip)
  (k_with "call type:bytes" => (k_here; (with_reducible show wpAny _ _ (call (Value.type "bytes") [Value.ref _]) _ _ _); k_dflt (refine' KBa.make_K (by k_asm) (by k_asm) (by rfl) (by is_list) (by with_reducible assumption) (by with_reducible assumption) (by walk_at "c num") ?_); intro _ _ _ _ _ kbaIn))
  (k_with "call type:tuple" => (k_here; (with_reducible show wpAny _ _ (call (Value.type _) [Value.ref _]) _ _ _); k_dflt (refine' my_tupleOf (by k_asm) (by k_asm) (by is_list) (by walk_at "c num") ?_; k_whole); intro _ _ _ _ _; (try k_sweep)))
  trivial
abbrev zOf {z : Int} (_ : z = 9 ∨ z = 63) : Int := z
set_option maxHeartbeats 3000000 in
theorem stageE {w : World} {mean : ExcName → Option Value} {mg mb : Str → Option Value} {base : Heap} {s : Shared} {L fa S AH BH CO HE BO WO DU WH SI : Addr} {cd : Value} {dp un : Nat} {gd : Option (List Code)} {Q : Flow → Shared → Prop} {E : Value → Shared → Prop} {u : Str → Option Value}
  {x y : Int} {tx ty : Tok} {nS nA nB nC nH nO nW nD nX nI : Nat} {av bv cv hv bov wv us whv sv vs0 : List Value} {ai bi ci hi boi wi whi si : List Int} {cs : List (List Value)} {rr : List Row} {dr : List (List Row)} {tl : List (Addr × Obj)} {o1 o2 : Obj}
  (hB : Bs w mean mg mb base) (K1 : Below (Ar dp un gd []) base [] base) (hroom : dp + 60 < recursionLimit) (hun : un + 1000 < cLine)
  (KX : (hd.heap_1 w.params).In base) (T : Top hd.view_39 (looseW hd.view_39 [Str.ofString "Outline"]) mean mg mb base)
  (F0 : Fr base L s.heap (kstB u [(Str.ofString "ahead", .ref AH), (Str.ofString "behind", .ref BH), (Str.ofString "code", .ref CO), (Str.ofString "head", .ref HE), (Str.ofString "body", .ref BO), (Str.ofString "words", .ref WO), (Str.ofString "due", .ref DU), (Str.ofString "whole", .ref WH)]))
  (N0 : News base L s.heap ((S, listOf #[Value.int x tx, Value.int y ty] nS) :: (AH, listOf av.toArray nA) :: (BH, listOf bv.toArray nB) :: (CO, listOf cv.toArray nC) :: (HE, listOf hv.toArray nH) :: (BO, listOf bov.toArray nO) :: (WO, listOf wv.toArray nW) :: (DU, listOf us.toArray nD) :: (WH, listOf whv.toArray nX) :: (SI, listOf sv.toArray nI) :: (L + 1, o1) :: (L + 1 + 1, o2) :: tl))
  (d1 : o1.data = .cell (some (.ref S))) (d2 : o2.data = .cell (some (.ref SI))) (y0 : 0 ≤ y) (y1 : y < 2147483647)
  (iA : IntsAre av ai) (iB : IntsAre bv bi) (iC : IntsAre cv ci) (iH : IntsAre hv hi) (iO : IntsAre bov boi) (iW : IntsAre wv wi) (iX : IntsAre whv whi) (iS : IntsAre sv si)
  (rX : ∀ n ∈ whi, 0 ≤ n ∧ n < 256) (rB : ∀ n ∈ bi, 0 ≤ n ∧ n < 256) (rA : ∀ n ∈ ai, 0 ≤ n ∧ n < 256) (rC : ∀ n ∈ ci, 0 ≤ n ∧ n < 256) (rH : ∀ n ∈ hi, 0 ≤ n ∧ n < 256) (rO : ∀ n ∈ boi, 0 ≤ n ∧ n < 256) (rW : ∀ n ∈ wi, 0 ≤ n ∧ n < 256)
  (lX : whi.length < 200) (lB : bi.length < 10) (lA : ai.length < 10) (lC : ci.length < 10) (lH : hi.length < 20) (lO : boi.length < 200) (lW : wi.length < 20) (lS : si.length < 10) (lAX : ai.length ≤ whi.length) (lU : us.length < 10)
  (hTL : TupsL tl us cs) (hTI : TupsIn tl vs0 rr) (hcs : ∀ h, All2 (TripAt h) vs0 rr → All2 (All2 (TripAt h)) cs dr)
  (aS : ∀ p ∈ (AH, listOf av.toArray nA) :: (BH, listOf bv.toArray nB) :: (CO, listOf cv.toArray nC) :: (HE, listOf hv.toArray nH) :: (BO, listOf bov.toArray nO) :: (WO, listOf wv.toArray nW) :: (DU, listOf us.toArray nD) :: (WH, listOf whv.toArray nX) :: (SI, listOf sv.toArray nI) :: (L + 1, o1) :: (L + 1 + 1, o2) :: tl, p.1 ≠ S)
  (p1 : Exp si.length (whi ++ bi) ai.length dr ci whi.length)
  (p2 : ¬(si.length = 0 ∧ (ai.length : Int) = (whi.take (whi.length - 1)).length) ∧ ai.length ≤ (whi.take (whi.length - 1)).length ∧ RS si.length ((whi.take (whi.length - 1)).drop ai.length) = none)
  (p3 : ∀ a2, a2 = (if wi = [] then [0, 5, 0, 5] else wi.drop (wi.length - 2)) → RS ((wi ++ a2).length / 2) ((ai ++ (wi ++ a2) ++ boi ++ [0, 0, 0, 0, 0, 0, 0, 0, 0]).drop ai.length) = none)
  (p4 : ∀ f, f = 9 ∨ f = 63 → RS 1 ([0, 1] ++ hi ++ [f, 2, 0, 0, 0, 0, 0, 0, 0, 0]) = none)
  (k : ∀ h' tk' m' led, Fr base L h' m' → News base L h' led → Q (.ret (.bool true)) { s with heap := h', toks := tk' }) :
  wpAny (model PySem.Challenge.rw_xm0719_01.row.prog w) ((Ar dp un gd []).deeper (envOfC (Str.ofString "law") (lawScope w.params) L fa cd)) (execs ((lawBody w.params).drop 13) (envOfC (Str.ofString "law") (lawScope w.params) L fa cd)) Q E s := by
  have e1 := (rfl : lawScope w.params = lawScope w.params)
  conv at e1 => rhs; whnf
  have e2 := (rfl : (lawBody w.params).drop 13 = (lawBody w.params).drop 13)
  conv at e2 => rhs; whnf
  rw [e1, e2]
  clear e1 e2
  replace aS := NewAt.mk aS
  have lA' := iA.length
  have lB' := iB.length
  have lC' := iC.length
  have lH' := iH.length
  have lO' := iO.length
  have lW' := iW.length
  have lX' := iX.length
  have lS' := iS.length
  have p1' := p1
  have tS : ∀ p ∈ tl, p.1 ≠ S := fun p hp => aS.all p ((by walk_at "c tail" : ∀ p ∈ tl, p ∈ _) p hp)
  rw [← lA', ← lX', ← lS'] at p1'
  walk_at "c goL"
  rename Fr _ _ _ _ => F1
  rename News _ _ _ _ => N1
  k_dflt (refine' viaT hB K1 F1 N1 ?hk1 ?kk1)
  case hk1 => exact rfl
  case kk1 =>
    intro cC cK
    have M1 := fun p (hp : p ∈ _) => (N1 p hp).1
    have Mt := fun p (hp : p ∈ tl) => M1 p ((by walk_at "c tail" : ∀ p ∈ tl, p ∈ _) p hp)
    refine' is_read_spec (N := sv.length) (ti := whi ++ bi) cC ?hT ?hI ?hr ?hlen ?ha0 ?ha1 ?hN ?hN1 ?hroom ?hun ?hdue ?kfin
    case hT => exact ⟨_, M1 (_, listOf _ 0) (by k_mem), rfl, _, rfl⟩
    case hI => exact iX.append iB
    case hr => exact fun n hn => (List.mem_append.mp hn).elim (rX n) (rB n)
    case hlen => simp only [List.length_append]; omega
    case ha0 => omega
    case ha1 => rw [List.length_append]; omega
    case hN => rfl
    case hN1 => omega
    case hroom => walk_at "c room"
    case hun => walk_at "c units"
    case hdue => exact .inr ⟨_, dr, ci, _, rfl, ⟨_, _, _, us, _, _, isTuple_of (vs := [_, _]) (M1 (_, tupOf [_, _] 0) (by k_mem)), isTuple_of (vs := [_, _]) (M1 (_, tupOf [_, _] 0) (by k_mem)), KBa.ints_make rC, isTuple_of (M1 (_, tupOf us 0) (by k_mem)), tups_of Mt hTL (hcs _ (trips_of Mt hTI))⟩, p1'⟩
    case kfin =>
      intro h2 tk2 S2
      obtain ⟨F2, N2⟩ := cK _ S2
      clear cC cK M1 Mt N1 F1 S2
      iterate 4 (replace N2 := news_tl N2)
      walk_at "c goL"
      rename Fr _ _ _ _ => F1
      rename News _ _ _ _ => N1
      k_dflt (refine' viaT hB K1 F1 N1 ?hk1 ?kk1)
      case hk1 => exact rfl
      case kk1 =>
        intro cC cK
        have M1 := fun p (hp : p ∈ _) => (N1 p hp).1
        refine' is_read_spec (N := sv.length) (ti := whi.take (whi.length - 1)) cC ?hT ?hI ?hr ?hlen ?ha0 ?ha1 ?hN ?hN1 ?hroom ?hun ?hdue ?kfin
        case hT => exact ⟨_, M1 (_, listOf _ 0) (by k_mem), rfl, _, rfl⟩
        case hI => rw [lX']; exact iX.take _
        case hr => exact fun n hn => rX n (List.mem_of_mem_take hn)
        case hlen => rw [List.length_take]; omega
        case ha0 => omega
        case ha1 => rw [lA']; exact Int.ofNat_le.mpr p2.2.1
        case hN => rfl
        case hN1 => omega
        case hroom => walk_at "c room"
        case hun => walk_at "c units"
        case hdue =>
          rw [lA', lS', Int.toNat_natCast]
          exact .inl ⟨rfl, p2.1, p2.2.2⟩
        case kfin =>
          intro h3 tk3 S3
          obtain ⟨F3, N3⟩ := cK _ S3
          clear cC cK M1 N1 F1 S3
          iterate 1 (replace N3 := news_tl N3)
          walk_at "c goM"
          refine join_list (fun zv => ∃ a2, IntsAre zv a2 ∧ a2 = (if wi = [] then [0, 5, 0, 5] else wi.drop (wi.length - 2))) (by assumption) (by assumption) ?_ ?_
          · walk_at "c go"
            · refine JoinL.intro ?_ (by assumption) (by assumption) (List.forall_mem_cons.mpr ⟨by k_mem, by walk_at "c tail"⟩)
              exact ⟨[0, 5, 0, 5], by repeat constructor, (if_pos (of_decide_eq_true (by assumption))).symm⟩
            · refine JoinL.intro ?_ (by assumption) (by assumption) (List.forall_mem_cons.mpr ⟨by k_mem, by walk_at "c tail"⟩)
              exact ⟨wi.drop (wv.length - 2), iW.drop _, by rw [lW']; exact (if_neg (of_decide_eq_false (by assumption))).symm⟩
          · rintro q2 zv nz h4 tk4 ⟨a2, iZ, ea⟩ F4 N4
            have l2' := iZ.length
            have l2 : a2.length ≤ 4 := by rw [ea]; split <;> simp <;> omega
            have rZ : ∀ n ∈ a2, 0 ≤ n ∧ n < 256 := by
              rw [ea]
              split
              · decide
              · exact fun n hn => rW n (List.mem_of_mem_drop hn)
            have l3 : 2 ≤ (wi ++ a2).length := by
              rw [List.length_append, ea]
              by_cases hw : wi = []
              · rw [if_pos hw, hw]; decide
              · rw [if_neg hw, List.length_drop]
                have := List.length_pos_iff.mpr hw
                omega
            walk_at "c goL"
            rename IntsAre _ (ai ++ (wi ++ a2) ++ boi ++ _) => iR
            have e9 : (List.replicate (Int.toNat 9) [(0 : Int)]).flatten = [0, 0, 0, 0, 0, 0, 0, 0, 0] := rfl
            rw [e9] at iR
            clear e9
            rename Fr _ _ _ _ => F1
            rename News _ _ _ _ => N1
            k_dflt (refine' viaT hB K1 F1 N1 ?hk1 ?kk1)
            case hk1 => exact rfl
            case kk1 =>
              intro cC cK
              have M1 := fun p (hp : p ∈ _) => (N1 p hp).1
              refine' is_read_spec (N := (wi ++ a2).length / 2) (ti := ai ++ (wi ++ a2) ++ boi ++ [0, 0, 0, 0, 0, 0, 0, 0, 0]) cC ?hT ?hI ?hr ?hlen ?ha0 ?ha1 ?hN ?hN1 ?hroom ?hun ?hdue ?kfin
              case hT => exact ⟨_, M1 (_, listOf _ 0) (by k_mem), rfl, _, rfl⟩
              case hI => exact iR
              case hr =>
                intro n hn
                simp only [List.mem_append] at hn
                rcases hn with ((hn | hn | hn) | hn) | hn
                · exact rA n hn
                · exact rW n hn
                · exact rZ n hn
                · exact rO n hn
                · revert n; decide
              case hlen => simp only [List.length_append, List.length_cons, List.length_nil]; omega
              case ha0 => omega
              case ha1 => simp only [List.length_append]; omega
              case hN => rw [Int.fdiv_eq_ediv_of_nonneg _ (by decide), List.length_append, List.length_append, lW', l2']; omega
              case hN1 => rw [List.length_append]; omega
              case hroom => walk_at "c room"
              case hun => walk_at "c units"
              case hdue =>
                rw [lA', Int.toNat_natCast]
                exact .inl ⟨rfl, fun q => by have := q.1; omega, p3 a2 ea⟩
              case kfin =>
                intro h5 tk5 S5
                obtain ⟨F5, N5⟩ := cK _ S5
                clear cC cK M1 N1 F1 S5 iR
                iterate 7 (replace N5 := news_tl N5)
                walk_at "c goL"
                rename _ = (9 : Int) ∨ _ => zm
                rename Fr _ _ _ _ => F1
                rename News _ _ _ _ => N1
                k_dflt (refine' viaT hB K1 F1 N1 ?hk1 ?kk1)
                case hk1 => exact rfl
                case kk1 =>
                  intro cC cK
                  have M1 := fun p (hp : p ∈ _) => (N1 p hp).1
                  refine' is_read_spec (N := 1) (ti := [0, 1] ++ hi ++ [zOf zm, 2, 0, 0, 0, 0, 0, 0, 0, 0]) cC ?hT ?hI ?hr ?hlen ?ha0 ?ha1 ?hN ?hN1 ?hroom ?hun ?hdue ?kfin
                  case hT => exact ⟨_, M1 (_, listOf _ 0) (by k_mem), rfl, _, rfl⟩
                  case hI => exact (IntsAre.cons _ _ (IntsAre.cons _ _ iH)).append (by repeat constructor)
                  case hr =>
                    intro n hn
                    simp only [List.mem_append, List.mem_cons, List.not_mem_nil, or_false, zOf] at hn
                    rcases hn with ((hn | hn) | hn) | hn
                    · omega
                    · omega
                    · exact rH n hn
                    · rcases hn with hn | hn | hn | hn | hn | hn | hn | hn | hn | hn <;> omega
                  case hlen => simp only [List.length_append, List.length_cons, List.length_nil]; omega
                  case ha0 => decide
                  case ha1 => omega
                  case hN => rfl
                  case hN1 => decide
                  case hroom => walk_at "c room"
                  case hun => walk_at "c units"
                  case hdue => exact .inl ⟨rfl, fun q => (by decide : (1 : Nat) ≠ 0) q.1, p4 (zOf zm) zm⟩
                  case kfin =>
                    intro h6 tk6 S6
                    obtain ⟨F6, N6⟩ := cK _ S6
                    clear cC cK M1 N1 F1 S6
                    walk_at "c goL"
                    rename Fr _ _ _ _ => F1
                    rename News _ _ _ _ => N1
                    k_dflt (refine' viaT hB K1 F1 N1 ?hk1 ?kk1)
                    case hk1 => exact rfl
                    case kk1 =>
                      intro cC cK
                      have M1 := fun p (hp : p ∈ _) => (N1 p hp).1
                      refine' is_read_spec (N := 0) (ti := ai) cC ?hT ?hI ?hr ?hlen ?ha0 ?ha1 ?hN ?hN1 ?hroom ?hun ?hdue ?kfin
                      case hT => exact ⟨_, M1 (_, listOf av.toArray _) (by k_mem), rfl, _, rfl⟩
                      case hI => exact iA
                      case hr => exact rA
                      case hlen => omega
                      case ha0 => omega
                      case ha1 => omega
                      case hN => rfl
                      case hN1 => decide
                      case hroom => walk_at "c room"
                      case hun => walk_at "c units"
                      case hdue => exact .inr ⟨_, [], [], _, rfl, ⟨_, _, _, [], _, _, isTuple_of (vs := [_, _]) (M1 (_, tupOf [_, _] 0) (by k_mem)), isTuple_of (vs := [_, _]) (M1 (_, tupOf [_, _] 0) (by k_mem)), rfl, isTuple_of (vs := []) (M1 (_, tupOf [] 0) (by k_mem)), .nil⟩, .inl ⟨⟨rfl, by rw [lA']⟩, rfl, rfl, rfl⟩⟩
                      case kfin =>
                        intro h7 tk7 S7
                        obtain ⟨F7, N7⟩ := cK _ S7
                        exact k _ _ _ _ F7 N7
end
section
open PySem PySem.W PySem.Calls PyProof.Rows PySem.SeqAt
-- XStD
set_option maxRecDepth 100000
theorem lnXStD_1 : True := by
  w_top off
  k_with_none
  (k_with "c enter" => (refine wpAny_call ?_; k_dflt (refine' enter (by assumption) (by first | assumption | exact use_nil) (by k_is) (by k_is) (by walk_at "c room") (by exact BindsTo.of_eq rfl) (by exact locs rfl) ?_ (by exact rfl) (by exact rfl) (by exact rfl) (by decide); k_whole; intro _ _ _ _ _ _ _ _ _ _ _ _ _ _; (try dsimp only); (try k_fold))))
  (k_with "c room" => first | assumption | decide | ((try simp only [depth_under_make, depth_under_kw, depth_in1, depth_deeper, depth_caller]); (try dsimp only [Ar]); first | exact room2 (by assumption) (by decide) | exact room1 (by assumption) (by decide) | exact room0 (by assumption) | omega))
  (k_with "c pick" => first | exact Pick.head | exact Pick.tail (by walk_at "c pick"))
  (k_with "c go" => repeat' (first | ((fail_if_success (with_reducible show wpAny _ _ (pyIter (Value.ref _)) _ _ _)); (fail_if_success (with_reducible show wpAny _ _ (exec (Stmt.While _ _ _ _) _) _ _ _)); first | (k_unfold; (try dsimp only)) | walk1 | (dsimp only; walk1))))
  (k_with "subscriptTail Name Constant ref int" => (k_here; (with_reducible show wpAny _ _ (subscriptTail _ _ (Value.ref _) (Value.int _ _)) _ _ _); (with_unfolding_all refine' my_item (by is_list) (by decide) (by decide) (by rfl) ?_ (by with_unfolding_all rfl); k_whole)))
  (k_with "call builtin:len" => (k_here; (with_reducible show wpAny _ _ (call (Value.builtin "len") [Value.ref _]) _ _ _); k_dflt (refine' my_len (by is_list) (by walk_at "c fit") ?_; k_whole)))
  (k_with "c via1" => (k_dflt (refine' via1 (by assumption) (by assumption) (by assumption) (by assumption) (by walk_at "c pick") (by k_all) (by first | exact rfl | assumption) ?_)))
  (k_with "c via0" => (k_dflt (refine' via0 (by assumption) (by assumption) (by assumption) (by assumption) (by first | exact rfl | assumption) ?_)))
  (k_with "c num" => first | assumption | decide | exact Int.natCast_nonneg _ | exact Nat.lt_of_lt_of_le (by assumption) (by decide) | exact size2 (by assumption) (by assumption) (by decide) | omega)
  (k_with "call ref" => (k_here; (with_reducible show wpAny _ _ (call (Value.ref 218) [Value.ref _, Value.int _ _]) _ _ _); walk_at "c via1"; intro cC cS cK; k_dflt (refine' take_spec cC cS (by walk_at "c num") (by walk_at "c num") (by walk_at "c num") (by walk_at "c num") (by walk_at "c room") ?_); clear cC cS; intro _ _ _ _ _ _ _ _ _ _ _ _ zzS zzW; (refine And.elim (fun _ zzN => ?_) (cK _ _ zzS zzW)); clear cK zzS zzW; (try dsimp only [List.cons_append, List.nil_append] at zzN); (try dsimp only); (try k_sweep)))
  (k_with "c fit" => first | assumption | exact Nat.le_of_ble_eq_true rfl | exact Nat.lt_of_lt_of_le (by assumption) (by decide) | exact size2 (by assumption) (by assumption) (by decide) | omega | ((simp only [List.length_cons, List.length_append, List.length_nil]); omega))
  (k_with "c itemN" => (k_here; (with_reducible show wpAny _ _ (subscriptTail _ _ (Value.ref _) (Value.int _ _)) _ _ _); (with_unfolding_all refine' my_itemN (by is_list) (by walk_at "c num") (by walk_at "c num") (by walk_at "c fit") ?_ (by with_unfolding_all rfl); k_whole)))
  (k_with "c end" => ((try k_unfold); (try dsimp only)))
  (k_with "c same" => exact same_of (by assumption) (by assumption))
  (k_with "c sub" => first | exact List.forall_mem_nil _ | exact fun _ h => h | exact List.forall_mem_cons.mpr ⟨by k_mem, by walk_at "c sub"⟩)
  (k_with "c now" => first | exact now_of (by assumption) (by assumption) | exact now_sub (by assumption) (by assumption) (by walk_at "c sub"))
  (k_with "c ints" => first | assumption | exact IntsAre.nil | exact IntsAre.cons _ _ IntsAre.nil | exact IntsAre.cons _ _ (IntsAre.cons _ _ IntsAre.nil) | exact IntsAre.cons _ _ (IntsAre.cons _ _ (IntsAre.cons _ _ IntsAre.nil)))
  (k_with "k_all" => first | exact all_ltS (by assumption) (by walk_at "c tail") | fail)
  (k_with "k_all" => first | exact List.forall_mem_nil _ | (refine' List.forall_mem_cons.mpr ⟨(by k_ne), (by k_all)⟩))
  (k_with "k_all" => first | (with_reducible assumption) | exact all_lt (by with_reducible assumption) | fail)
  (k_with "c lt" => first | assumption | exact lt_mem (by assumption) (by k_mem) | exact lt_mem2 (by assumption) (by assumption) (by k_mem) | exact Nat.lt_succ_self _ | exact Nat.lt_succ_of_lt (by walk_at "c lt"))
  (k_with "k_ne" => first | exact Apt.ne (by assumption) | exact (Apt.ne (by assumption)).symm | exact NewAt.ne (by assumption) (by k_mem) | exact (NewAt.ne (by assumption) (by k_mem)).symm | exact ne_gt (by assumption) (by k_mem) | exact ne_lt (by assumption) (by k_mem) | exact Nat.ne_of_gt (by walk_at "c lt") | exact Nat.ne_of_lt (by walk_at "c lt") | (refine neN ?_; (try dsimp only); omega))
  (k_with "k_mem" => first | exact lm0 | exact lm1 | exact lm2 | exact lm3 | (refine' lm4 ?_; k_mem))
  (k_with "le" => k_dflt (exact Nat.le_of_ble_eq_true rfl))
  (k_with "lt" => k_dflt (exact Nat.le_of_ble_eq_true rfl))
  (k_with "c size" => first | assumption | exact Nat.le_of_ble_eq_true rfl | exact Nat.lt_of_lt_of_le (by assumption) (by decide) | exact size2 (by assumption) (by assumption) (by decide) | omega | ((simp only [List.length_cons, List.length_append, List.length_nil]); omega))
  (k_with "call builtin:list.append" => (k_here; (with_reducible show wpAny _ _ (call (Value.builtin "list.append") [Value.ref _, _]) _ _ _); k_dflt (refine' my_append (by k_asm) (by k_asm) (by k_upd) (by walk_at "c size") ?_; k_whole); intro _ _ _; (try k_sweep)))
  (k_with "binaryOp Add ref ref" => (k_here; (with_reducible show wpAny _ _ (binaryOp Operator.Add (Value.ref _) (Value.ref _)) _ _ _); k_dflt (refine' my_addL (by k_asm) (by k_asm) (by is_list) (by is_list) (by walk_at "c size") ?_; k_whole); intro _ _ _ _ _; (try k_sweep)))
  (k_with "c tail" => (intro _ zzhp; repeat (first | exact zzhp | refine List.mem_cons_of_mem _ ?_)))
  (k_with "c rest" => (intro _ zzq1 zzq2 zzq3; (repeat (first | refine upd_ne zzq1 ?_ | refine upd_ne (ne_stored zzq3 (by decide +kernel)) ?_ | refine upd_ne (zzq2 (_, _) (by k_mem)) ?_ | exact kst_end zzq3 | refine kst_mid (not_in_cons (ne_stored zzq3 (by decide +kernel)) not_in_nil) ?_ | refine kst_ne (ne_stored zzq3 (by decide +kernel)) ?_ | refine kst_ne (zzq2 (_, _) (by k_mem)) ?_))))
  (k_with "c restW" => (intro _ zzq2 zzq3; (repeat (first | refine upd_ne (ne_stored zzq3 (by decide +kernel)) ?_ | refine upd_ne (zzq2 (_, _) (by k_mem)) ?_ | exact kst_end zzq3 | refine kst_mid (not_in_cons (ne_stored zzq3 (by decide +kernel)) not_in_nil) ?_ | refine kst_ne (ne_stored zzq3 (by decide +kernel)) ?_ | refine kst_ne (zzq2 (_, _) (by k_mem)) ?_))))
  (k_with "c ps" => first | exact List.forall_mem_nil _ | exact List.forall_mem_cons.mpr ⟨rfl, by walk_at "c ps"⟩)
  (k_with "c itemI" => (k_here; (with_reducible show wpAny _ _ (subscriptTail _ _ (Value.ref _) (Value.int _ _)) _ _ _); (with_unfolding_all refine' my_itemI (by is_list) (by with_reducible assumption) (by walk_at "c num") (by walk_at "c num") (by walk_at "c fit") ?_ (by with_unfolding_all rfl); k_whole); intro _))
  (k_with "exec Raise some none" => (k_here; k_dflt (refine' font_raise (by assumption) (by assumption) (by assumption) (by exact rfl) (by walk_at "c room") (by exact rfl) (by exact rfl) (by decide +kernel) ?_; intro _ _ _ _ _ _ _ _; (try k_unfold); (try dsimp only); refine' font_leave (by assumption) (by assumption) (by assumption) (by assumption) (by assumption) ?_ (by exact rfl); intro _ _ _; (try dsimp only))))
  (k_with "call type:bytes cons nil bytes" => (k_here; refine bb_call ?_))
  (k_with "call type:bytes" => (k_here; (with_reducible show wpAny _ _ (call (Value.type "bytes") [Value.bytes _ _]) _ _ _); refine bb_call ?_))
  (k_with "leaving ref" => (k_here; k_dflt (refine' leave_onSX (by assumption) (by assumption) (by assumption) (by assumption) ?_; k_whole); intro _ zzR zzU; (try dsimp only at zzR zzU ⊢)))
  (k_with "storeName" => (dsimp only; walk_at "storeName"))
  (k_with "execs cons" => (k_here; k_fold))
  (k_with "exec Assign" => (k_here; k_fold))
  (k_with "call ref" => (k_here; (with_reducible show wpAny _ _ (call (Value.ref 225) [Value.ref _, Value.ref _]) _ _ _); walk_at "c via1"; intro cC cS cK; k_dflt (refine' one_specI cC cS (by is_list) (by k_ne) (by walk_at "c fit") (by walk_at "c fit") (by rfl) (by walk_at "c num") (by walk_at "c num") (by walk_at "c room") ?_); clear cC cS; intro _ _ _ _ _ _ _ _ zzzm _ _ zzS zzW; (refine And.elim (fun _ zzN => ?_) (cK _ _ zzS zzW)); clear cK zzS zzW; (try simp only [List.filterMap_cons, List.filterMap_nil, intOf?, List.mem_cons, List.not_mem_nil, or_false] at zzzm); (try dsimp only [List.cons_append, List.nil_append] at zzN); (try dsimp only); (try k_sweep)))
  (k_with "c enterC" => (refine wpAny_call ?_; k_dflt (refine' enterC (by assumption) (by first | assumption | exact use_nil) (by k_is) (by k_is) (by walk_at "c room") (by exact BindsTo.of_eq rfl) (by exact rfl) (by decide +kernel) ?_ (by exact rfl) (by exact rfl) (by exact rfl); k_whole; intro _ _ _ _ _ _ _ _ _ _ _ _ zzN zzY _ _ _ _; k_cells zzY; (try dsimp only [List.cons_append, List.nil_append] at zzN); (try dsimp only); (try k_fold))))
  (k_with "c init" => (refine' code_def (by k_asm) (by k_asm) (by k_asm) (by k_asm) (by k_asm) (by exact rfl) (by exact rfl) (by exact rfl) (by k_is) (by k_is) (by walk_at "c room") (by first | exact BindsTo.of_eq rfl | exact binds_K (by k_in) rfl (by k_is) rfl rfl rfl) (by exact locs rfl) ?_ (by exact rfl) (by exact rfl) (by exact rfl) (by decide); k_whole; intro _ _ _ _ _ _ zzB _ _; (try dsimp only); (try k_lift zzB); (try k_fold)))
  (k_with "call ref" => (k_here; k_dflt (refine' call_cls (by k_asm) (by k_asm) (by k_asm) (by k_is) (by k_is) (by k_is) ?_; k_whole; intro _ _ _ _ _ _ _; (try k_sweep); walk_at "c init")))
  (k_with "call ref" => (k_here; (with_reducible show wpAny _ _ (call (Value.ref 199) [Value.ref _, Value.int _ _]) _ _ _); walk_at "c via2E"; intro cC cO cD cn cF cK; (refine' ends_spec cC cO cD cn (by assumption) (by walk_at "c num") (by walk_at "c num") (by walk_at "c num") (by walk_at "c num") (by walk_at "c num") (by walk_at "c room") (by walk_at "c units") ?_ ?_); (all_goals first | (intro _ _ _ _ _ _ _ _ _ _ _ _ _ _ zzS zzW zzfO zzfd; (with_reducible rename News _ _ _ _ => zznO); (have zzhn1 := NewAt.mk (apart_new zznO (now_atU zzW (.tail _ (.tail _ (.head _))) (notin2 zzfO zzfd)))); (try dsimp only at zzhn1); (refine And.elim (fun _ zzN => ?_) (cK _ _ zzS zzW)); clear cK cC cO cD cn cF zzS zzW zznO; (try dsimp only [List.cons_append, List.nil_append] at zzN); (try dsimp only); (try k_sweep)) | (clear cC cO cD cn cK; walk_at "c fault"))))
  (k_with "call ref" => (k_here; (with_reducible show wpAny _ _ (call (Value.ref 185) [Value.ref _, Value.int _ _]) _ _ _); walk_at "c via2E"; intro cC cO cD cn cF cK; (refine' flags_spec cC cO cD cn (by assumption) (by walk_at "c num") (by walk_at "c num") (by walk_at "c num") (by walk_at "c num") (by walk_at "c num") (by walk_at "c room") ?_ ?_); (all_goals first | (intro _ _ _ _ _ _ _ _ _ _ _ _ _ zzS zzW zzfO zzfd; (with_reducible rename News _ _ _ _ => zznO); (have zzhn1 := NewAt.mk (apart_new zznO (now_atU zzW (.tail _ (.tail _ (.head _))) (notin2 zzfO zzfd)))); (try dsimp only at zzhn1); (refine And.elim (fun _ zzN => ?_) (cK _ _ zzS zzW)); clear cK cC cO cD cn cF zzS zzW zznO; (try dsimp only [List.cons_append, List.nil_append] at zzN); (try dsimp only); (try k_sweep)) | (clear cC cO cD cn cK; walk_at "c fault"))))
  (k_with "call ref" => (k_here; (with_reducible show wpAny _ _ (call (Value.ref 192) [Value.ref _, Value.ref _, Value.int _ _, Value.int _ _]) _ _ _); walk_at "c via2E"; intro cC cO cD cn cF cK; (refine' deltas_spec cC cO cD cn (by assumption) (by walk_at "c num") (by walk_at "c num") (by walk_at "c num") (by is_list) (by exact ⟨by k_ne, by k_ne⟩) (by with_reducible assumption) (by walk_at "c num") (by walk_at "c room") ?_ ?_); (all_goals first | (intro _ _ _ _ _ _ _ _ _ _ _ _ _ zzS zzW zzfO zzfd; (with_reducible rename News _ _ _ _ => zznO); (have zzhn1 := NewAt.mk (apart_new zznO (now_atU zzW (.tail _ (.tail _ (.head _))) (notin2 zzfO zzfd)))); (try dsimp only at zzhn1); (refine And.elim (fun _ zzN => ?_) (cK _ _ zzS zzW)); clear cK cC cO cD cn cF zzS zzW zznO; (try dsimp only [List.cons_append, List.nil_append] at zzN); (try dsimp only); (try k_sweep)) | (clear cC cO cD cn cK; walk_at "c fault"))))
  (k_with "c units" => (dsimp only [Around.deeper, Ar]; first | exact room2 (by assumption) (by decide) | exact room1 (by assumption) (by decide) | omega))
  (k_with "eval Name" => (k_here; (with_reducible show wpAny _ _ (eval (PySem.Expr.Name _ _) (compEnvC _ _ _ _)) _ _ _); k_dflt (refine' blkB (by rfl) (by rfl) (by rfl) (by rfl) (by decide) (by k_asm) (by k_asm) (by k_asm) (by k_is) (by boot_by_name) (by decide) ?_; k_whole)))
  (k_with "eval Name" => (k_here; (with_reducible show wpAny _ _ (eval (PySem.Expr.Name _ _) (compEnvC _ _ _ _)) _ _ _); k_dflt (refine' blkK (by rfl) (by rfl) (by rfl) (by decide) (by k_asm) (by k_asm) (by k_asm) (by k_is) ?_; k_whole)))
  (k_with "eval Name" => (k_here; (with_reducible show wpAny _ _ (eval (PySem.Expr.Name _ _) (compEnvC _ _ _ _)) _ _ _); k_dflt (refine' blkC (by rfl) (by rfl) (by decide) (by k_asm) (by rfl) (by k_mem) (by k_asm) ?_; k_whole)))
  (k_with "eval Name" => (k_here; (with_reducible show wpAny _ _ (eval (PySem.Expr.Name _ _) (compEnvC _ _ _ _)) _ _ _); k_dflt (refine' blkL (by rfl) (by rfl) (by decide) (by k_asm) (by with_reducible assumption) (by k_mem) (by exact if_pos rfl) ?_; k_whole)))
  (k_with "compareOp NotEq ref ref" => (k_here; (with_reducible show wpAny _ _ (compareOp CmpOp.NotEq (Value.ref _) (Value.ref _)) _ _ _); (with_unfolding_all refine' ne_intsK (by is_list) (by with_reducible assumption) (by is_list) (by exact IntsAre.nil) (by dsimp only [Around.deeper, Ar]; first | exact room2 (by assumption) (by decide) | exact room1 (by assumption) (by decide) | omega) ?_; k_whole)))
  (k_with "subscriptTail Name" => (k_here; (with_reducible show wpAny _ _ (subscriptTail _ _ (Value.ref _) (Value.int (-1) _)) _ _ _); k_dflt (with_unfolding_all refine' my_lastI (by is_list) (by with_reducible assumption) (by refine List.length_pos_iff.mpr ?_; simp_all only [Bool.not_eq_true', decide_eq_false_iff_not, ne_eq, not_false_eq_true]) (by omega) ?_ (by with_unfolding_all rfl); k_whole); intro _))
  (k_with "exec Assign cons ListComp" => (k_here; k_dflt (refine' comp_assign (by with_unfolding_all rfl) (by with_unfolding_all rfl) (by rfl) (by decide) ?_ (by intro _; with_unfolding_all rfl); k_whole)))
  (k_with "eval ListComp" => (k_here; k_dflt (refine' comp_open (by with_unfolding_all rfl) (by rfl) (by decide) ?_ (by intro _; with_unfolding_all rfl); k_whole)))
  (k_with "c goI" => repeat' (first | ((fail_if_success (with_reducible show wpAny _ _ (pyIter (Value.ref _)) _ _ _)); (fail_if_success (with_reducible show wpAny _ _ (exec (Stmt.While _ _ _ _) _) _ _ _)); (fail_if_success (with_reducible show wpAny _ _ (eval (PySem.Expr.IfExp _ _ _ _) _) _ _ _)); first | (k_unfold; (try dsimp only)) | walk1 | (dsimp only; walk1))))
  (k_with "call ref" => (k_here; (with_reducible show wpAny _ _ (call (Value.ref 232) [Value.int _ _]) _ _ _); walk_at "c via0"; intro cC cK; k_dflt (refine' word_spec cC (by walk_at "c room") ?_); clear cC; intro _ _ _ _ _ zzS zzW; (with_reducible rename News _ _ _ _ => zznO); (have zzhn1 := NewAt.mk (apart_new zznO (now_new zzW))); (try dsimp only at zzhn1); (refine And.elim (fun _ zzN => ?_) (cK _ _ zzS zzW)); clear cK zzS zzW zznO; (try dsimp only [List.cons_append, List.nil_append] at zzN); (try dsimp only); (try k_sweep)))
  (k_with "call ref" => (k_here; (with_reducible show wpAny _ _ (call (Value.ref 211) [Value.ref _]) _ _ _); walk_at "c via0"; intro cC cK; (refine' pool_spec cC (by is_list) (by with_reducible assumption) (by walk_at "c num") (by walk_at "c room") ?_); clear cC; intro _ _ _ _ _ _ _ _ _ zzS zzW; (with_reducible rename News _ _ _ _ => zznO); (have zzhn1 := NewAt.mk (apart_new zznO (now_new zzW))); (try dsimp only at zzhn1); (refine And.elim (fun _ zzN => ?_) (cK _ _ zzS zzW)); clear cK zzS zzW zznO; (try dsimp only [List.cons_append, List.nil_append] at zzN); (try dsimp only); (try k_sweep)))
  (k_with "c goL" => repeat' (first | ((fail_if_success (with_reducible show wpAny _ _ (pyIter (Value.ref _)) _ _ _)); (fail_if_success (with_reducible show wpAny _ _ (call (Value.ref 267) _) _ _ _));  first | (k_unfold; (try dsimp only)) | walk1 | (dsimp only; walk1))))
  (k_with "subscriptTail Name Slice ref ref" => k_dflt (k_here; (with_reducible show wpAny _ _ (subscriptTail _ (PySem.Expr.Slice _ _ none _) (Value.ref _) (Value.ref _)) _ _ _); k_dflt (refine' my_slice (by k_asm) (by k_asm) (by is_list) (by kmk_part) (by kmk_part) (by first | exact take_pick (by walk_at "c num") | exact mid_pick (by walk_at "c num") (by walk_at "c num") | exact but1_pick | exact last2_pick) ?_ (by with_unfolding_all rfl) (by walk_at "c fit")); intro _ _ _ zzN _; (try simp only [Int.reduceNeg] at zzN); (try k_sweep)))
  (k_with "subscriptTail List Slice ref ref" => k_dflt (k_here; (with_reducible show wpAny _ _ (subscriptTail _ (PySem.Expr.Slice _ _ none _) (Value.ref _) (Value.ref _)) _ _ _); k_dflt (refine' my_slice (by k_asm) (by k_asm) (by is_list) (by kmk_part) (by kmk_part) (by first | exact take_pick (by walk_at "c num") | exact mid_pick (by walk_at "c num") (by walk_at "c num") | exact but1_pick | exact last2_pick) ?_ (by with_unfolding_all rfl) (by walk_at "c fit")); intro _ _ _ zzN _; (try simp only [Int.reduceNeg] at zzN); (try k_sweep)))
  (k_with "subscriptTail" => k_dflt (k_here; (with_reducible show wpAny _ _ (subscriptTail _ (PySem.Expr.Slice _ _ none _) (Value.ref _) (Value.ref _)) _ _ _); k_dflt (refine' my_slice (by k_asm) (by k_asm) (by is_list) (by kmk_part) (by kmk_part) (by first | exact take_pick (by walk_at "c num") | exact mid_pick (by walk_at "c num") (by walk_at "c num") | exact but1_pick | exact last2_pick) ?_ (by with_unfolding_all rfl) (by walk_at "c fit")); intro _ _ _ zzN _; (try simp only [Int.reduceNeg] at zzN); (try k_sweep)))
  (k_with "c goM" => repeat' (first | ((fail_if_success (with_reducible show wpAny _ _ (pyIter (Value.ref _)) _ _ _)); (fail_if_success (with_reducible show wpAny _ _ (call (Value.ref 267) _) _ _ _)); (fail_if_success (with_reducible show wpAny _ _ (eval (PySem.Expr.IfExp _ _ _ _) _) _ _ _)); first | (k_unfold; (try dsimp only)) | walk1 | (dsimp only; walk1))))
  (k_with "c goS" => repeat' (first | ((fail_if_success (with_reducible show wpAny _ _ (pyIter (Value.ref _)) _ _ _)); (fail_if_success (with_reducible show wpAny _ _ (execs (Stmt.If _ _ _ _ :: _) _) _ _ _)); first | (k_unfold; (try dsimp only)) | walk1 | (dsimp only; walk1))))
  (k_with "call type:tuple" => (k_here; (with_reducible show wpAny _ _ (call (Value.type _) [Value.ref _]) _ _ _); k_dflt (refine' my_tupleOf (by k_asm) (by k_asm) (by is_list) (by first | exact take_drop_lt (by assumption) (by decide) | walk_at "c num" | (simp only [List.length_take, List.length_drop]; omega)) ?_; k_whole); intro _ _ _ _ _; (try k_sweep)))
  (k_with "exec Assign cons ListComp" => (k_here; (with_reducible show wpAny _ _ (exec (Stmt.Assign [_] (PySem.Expr.ListComp _ [_, _] _ _) _) _) _ _ _); k_dflt (refine' comp_assign2 (by with_unfolding_all rfl) (by with_unfolding_all rfl) (by rfl) (by decide) ?_ (by intro _; with_unfolding_all rfl); k_whole)))
  (k_with "subscriptTail Name Name ref int" => walk_at "c itemI")
  trivial
set_option maxHeartbeats 3000000 in
theorem stageD {w : World} {mean : ExcName → Option Value} {mg mb : Str → Option Value} {base : Heap} {s : Shared} {L fa S AH BH CO HE BO SI EN PO : Addr} {cd : Value} {dp un : Nat} {gd : Option (List Code)} {Q : Flow → Shared → Prop} {E : Value → Shared → Prop} {u : Str → Option Value}
  {x y : Int} {tx ty : Tok} {nS nA nB nC nH nO nI nE nP : Nat} {av bv cv hv bov sv ev vs0 : List Value} {ai bi ci hi boi si ei : List Int} {rr : List Row} {dr : List (List Row)} {tl : List (Addr × Obj)} {o1 o2 o3 o4 : Obj}
  (hB : Bs w mean mg mb base) (K1 : Below (Ar dp un gd []) base [] base) (hroom : dp + 60 < recursionLimit) (hun : un + 1000 < cLine)
  (KX : (hd.heap_1 w.params).In base) (T : Top hd.view_39 (looseW hd.view_39 [Str.ofString "Outline"]) mean mg mb base)
  (F0 : Fr base L s.heap (kstB u [(Str.ofString "ahead", .ref AH), (Str.ofString "behind", .ref BH), (Str.ofString "code", .ref CO), (Str.ofString "head", .ref HE), (Str.ofString "body", .ref BO)]))
  (N0 : News base L s.heap ((S, listOf #[Value.int x tx, Value.int y ty] nS) :: (AH, listOf av.toArray nA) :: (BH, listOf bv.toArray nB) :: (CO, listOf cv.toArray nC) :: (HE, listOf hv.toArray nH) :: (BO, listOf bov.toArray nO) :: (SI, listOf sv.toArray nI) :: (EN, listOf ev.toArray nE) :: (PO, listOf vs0.toArray nP) :: (L + 1, o1) :: (L + 1 + 1, o2) :: (L + 1 + 1 + 1, o3) :: (L + 1 + 1 + 1 + 1, o4) :: tl))
  (d1 : o1.data = .cell (some (.ref S))) (d2 : o2.data = .cell (some (.ref SI))) (d3 : o3.data = .cell (some (.ref EN))) (d4 : o4.data = .cell (some (.ref PO))) (y0 : 0 ≤ y) (y1 : y < 2147483647)
  (iA : IntsAre av ai) (iB : IntsAre bv bi) (iC : IntsAre cv ci) (iH : IntsAre hv hi) (iO : IntsAre bov boi) (iS : IntsAre sv si) (iE : IntsAre ev ei)
  (rB : ∀ n ∈ bi, 0 ≤ n ∧ n < 256) (rA : ∀ n ∈ ai, 0 ≤ n ∧ n < 256) (rC : ∀ n ∈ ci, 0 ≤ n ∧ n < 256) (rH : ∀ n ∈ hi, 0 ≤ n ∧ n < 256) (rO : ∀ n ∈ boi, 0 ≤ n ∧ n < 256)
  (lB : bi.length < 10) (lA : ai.length < 10) (lC : ci.length < 10) (lH : hi.length < 20) (lO : boi.length < 100) (lS : si.length < 10) (lE : ei.length = si.length) (lP : vs0.length < 100)
  (hEi : ∀ i < si.length, 0 ≤ ei.getD i 0 + 1 - si.getD i 0 ∧ 0 ≤ si.getD i 0)
  (hTI : TupsIn tl vs0 rr) (hcs : ∀ h, All2 (TripAt h) vs0 rr → All2 (All2 (TripAt h)) (dueCs vs0 ei si si.length) dr)
  (aS : ∀ p ∈ (AH, listOf av.toArray nA) :: (BH, listOf bv.toArray nB) :: (CO, listOf cv.toArray nC) :: (HE, listOf hv.toArray nH) :: (BO, listOf bov.toArray nO) :: (SI, listOf sv.toArray nI) :: (EN, listOf ev.toArray nE) :: (PO, listOf vs0.toArray nP) :: (L + 1, o1) :: (L + 1 + 1, o2) :: (L + 1 + 1 + 1, o3) :: (L + 1 + 1 + 1 + 1, o4) :: tl, p.1 ≠ S)
  (p1 : Exp si.length (ai ++ ei.flatMap wordOf ++ boi ++ bi) ai.length dr ci (ai ++ ei.flatMap wordOf ++ boi).length)
  (p2 : ¬(si.length = 0 ∧ (ai.length : Int) = ((ai ++ ei.flatMap wordOf ++ boi).take ((ai ++ ei.flatMap wordOf ++ boi).length - 1)).length) ∧ ai.length ≤ ((ai ++ ei.flatMap wordOf ++ boi).take ((ai ++ ei.flatMap wordOf ++ boi).length - 1)).length ∧ RS si.length (((ai ++ ei.flatMap wordOf ++ boi).take ((ai ++ ei.flatMap wordOf ++ boi).length - 1)).drop ai.length) = none)
  (p3 : ∀ a2, a2 = (if ei.flatMap wordOf = [] then [0, 5, 0, 5] else (ei.flatMap wordOf).drop ((ei.flatMap wordOf).length - 2)) → RS ((ei.flatMap wordOf ++ a2).length / 2) ((ai ++ (ei.flatMap wordOf ++ a2) ++ boi ++ [0, 0, 0, 0, 0, 0, 0, 0, 0]).drop ai.length) = none)
  (p4 : ∀ f, f = 9 ∨ f = 63 → RS 1 ([0, 1] ++ hi ++ [f, 2, 0, 0, 0, 0, 0, 0, 0, 0]) = none)
  (k : ∀ h' tk' m' led, Fr base L h' m' → News base L h' led → Q (.ret (.bool true)) { s with heap := h', toks := tk' }) :
  wpAny (model PySem.Challenge.rw_xm0719_01.row.prog w) ((Ar dp un gd []).deeper (envOfC (Str.ofString "law") (lawScope w.params) L fa cd)) (execs ((lawBody w.params).drop 10) (envOfC (Str.ofString "law") (lawScope w.params) L fa cd)) Q E s := by
  have e1 := (rfl : lawScope w.params = lawScope w.params)
  conv at e1 => rhs; whnf
  have e2 := (rfl : (lawBody w.params).drop 10 = (lawBody w.params).drop 10)
  conv at e2 => rhs; whnf
  rw [e1, e2]
  clear e1 e2
  replace aS := NewAt.mk aS
  have tS : ∀ p ∈ tl, p.1 ≠ S := fun p hp => aS.all p ((by walk_at "c tail" : ∀ p ∈ tl, p ∈ _) p hp)
  have lA' := iA.length
  have lB' := iB.length
  have lC' := iC.length
  have lH' := iH.length
  have lO' := iO.length
  have lS' := iS.length
  have lE' := iE.length
  walk_at "c goL"
  refine' blk2_list (vs := ev) (kl := nE) (J := fun i ys nx => nx = ((S, listOf #[Value.int x tx, Value.int y ty] nS) :: (AH, listOf av.toArray nA) :: (BH, listOf bv.toArray nB) :: (CO, listOf cv.toArray nC) :: (HE, listOf hv.toArray nH) :: (BO, listOf bov.toArray nO) :: (SI, listOf sv.toArray nI) :: (EN, listOf ev.toArray nE) :: (PO, listOf vs0.toArray nP) :: (L + 1, o1) :: (L + 1 + 1, o2) :: (L + 1 + 1 + 1, o3) :: (L + 1 + 1 + 1 + 1, o4) :: tl) ∧ IntsAre ys ((ei.take i).flatMap wordOf)) rfl ?hmem ?a5 ?a6 ?a7 ?a8 ?a9 ?hf F0 N0 ⟨rfl, .nil⟩ ?turn ?done
  case hmem =>
    rintro i ys nx ⟨rfl, _⟩
    k_mem
  case a5 => decide
  case a6 => rfl
  case a7 => rfl
  case a8 => rfl
  case a9 => decide
  case hf => intro _ _; with_unfolding_all rfl
  case turn =>
    rintro i v ys k' nx h tk' I oI C' oC D mC hi' nCo hCI hDI hCD aI aC aD ⟨rfl, hY⟩ F9 N9 E'
    have hlt : i < ei.length := by
      rw [← lE']
      rcases Nat.lt_or_ge i ev.length with h | h
      · exact h
      · rw [List.getElem?_eq_none h] at hi'; cases hi'
    obtain ⟨te, hx⟩ := iE.get i (ei[i]'hlt) (List.getElem?_eq_getElem hlt)
    have hff : ei[i]? = some (ei[i]'hlt) := List.getElem?_eq_getElem hlt
    rw [hi'] at hx
    obtain rfl := Option.some.inj hx
    generalize ei[i]'hlt = ee at hff nCo
    have bI := NewAt.mk aI
    have bC := NewAt.mk aC
    have bD := NewAt.mk aD
    have c1 : Apt C' I := ⟨hCI⟩
    have c2 : Apt D I := ⟨hDI⟩
    have c3 : Apt C' D := ⟨hCD⟩
    clear F0 N0
    walk_at "c go"
    have hyl := hY.length
    rw [words_len, List.length_take] at hyl
    refine ⟨_, _, _, _, [_, _], 0, rfl, rfl, by assumption, by assumption, ⟨by k_ne, by k_ne, by k_ne⟩, aI, aC, aD, ?_, rfl, ?_⟩
    · simp only [List.length_cons, List.length_nil]
      omega
    · rw [List.take_add_one, hff]
      simp only [Option.toList_some, List.flatMap_append, List.flatMap_cons, List.flatMap_nil, List.append_nil, wordOf]
      exact hY.append (.cons _ _ (.cons _ _ .nil))
  case done =>
    rintro ys k' nx h tk' D C' oC mC ⟨rfl, hY⟩ nCo hCD aC aD F9 N9
    rw [lE', List.take_length] at hY
    k_dflt (refine' cp_local nCo hCD aC F9 N9 ?kk ?hk ?hx)
    case hk => rfl
    case hx => rfl
    case kk =>
      intro h8 F8 N8
      have bD := NewAt.mk aD
      clear F0 N0 F9 N9
      walk_at "c goL"
      rename IsRange _ _ _ _ _ _ _ _ => hrg
      rename Fr _ _ _ _ => F7
      rename News _ _ _ _ => N7
      refine' blk_range (n := si.length) (J := fun i zs nx => ∃ tl2, nx = ((D, listOf ys.toArray k') :: ((S, listOf #[Value.int x tx, Value.int y ty] nS) :: (AH, listOf av.toArray nA) :: (BH, listOf bv.toArray nB) :: (CO, listOf cv.toArray nC) :: (HE, listOf hv.toArray nH) :: (BO, listOf bov.toArray nO) :: (SI, listOf sv.toArray nI) :: (EN, listOf ev.toArray nE) :: (PO, listOf vs0.toArray nP) :: (L + 1, o1) :: (L + 1 + 1, o2) :: (L + 1 + 1 + 1, o3) :: (L + 1 + 1 + 1 + 1, o4) :: tl)) ++ tl2 ∧ TupsL tl2 zs (dueCs vs0 ei si i) ∧ zs.length = i ∧ ∀ p ∈ tl2, p.1 ≠ S) rfl hrg ?b3 ?b4 ?b5 ?b6 ?b7 F7 N7 ?hj ?hJl ?turn2 ?done2
      case b3 => omega
      case b4 => omega
      case b5 => decide
      case b6 => rfl
      case b7 => rfl
      case hj => exact ⟨[], (List.append_nil _).symm, .nil, rfl, fun _ q => nomatch q⟩
      case hJl =>
        rintro i zs nx ⟨tl2, rfl, _, hz, _⟩
        exact hz
      case turn2 =>
        rintro i t zs k2 nx h tk2 I oI C2 oC2 D2 mC2 hi2 nC2 hCI hDI hCD2 aI aC2 aD2 ⟨tl2, rfl, hT2, hz2, aS2⟩ F9 N9 E'
        simp only [List.cons_append] at N9
        have hE1 : 0 ≤ ei.getD (i : Int).toNat 0 + 1 - si.getD (i : Int).toNat 0 ∧ 0 ≤ si.getD (i : Int).toNat 0 := by
          rw [Int.toNat_natCast]
          exact hEi i hi2
        have bI := NewAt.mk aI
        have bC := NewAt.mk aC2
        have bD2 := NewAt.mk aD2
        simp only [List.cons_append] at bI bC bD2
        have c1 : Apt C2 I := ⟨hCI⟩
        have c2 : Apt D2 I := ⟨hDI⟩
        have c3 : Apt C2 D2 := ⟨hCD2⟩
        clear F7 N7
        walk_at "c go"
        refine blk_end (by assumption) (by assumption) (fun p hp => List.mem_cons_of_mem _ (List.mem_cons_of_mem _ (List.mem_append_left tl2 hp))) (by k_mem) (fun p hp => by repeat (first | exact List.mem_append_right _ hp | refine List.mem_cons_of_mem _ ?_)) aI aC2 aD2 ⟨by k_ne, by k_ne, by k_ne⟩ ⟨_, rfl, ?_, by simp [hz2], List.forall_mem_cons.mpr ⟨by k_ne, aS2⟩⟩
        rw [dueCs_succ]
        exact .snoc (hT2.mono fun p hp => .tail _ hp) (.head _)
      case done2 =>
        rintro zs k2 nx h tk2 D2 C2 oC2 mC2 ⟨tl2, rfl, hT2, hz2, aS2⟩ nC2 hCD2 aC2 aD2 F9 N9
        simp only [List.cons_append] at N9 aC2 aD2
        k_dflt (refine' cp_local nC2 hCD2 aC2 F9 N9 ?kk2 ?hk2 ?hx2)
        case hk2 => rfl
        case hx2 => rfl
        case kk2 =>
          intro h10 F10 N10
          have bD2 := NewAt.mk aD2
          clear F7 N7 F9 N9
          have lY : ys.length = 2 * ei.length := by rw [hY.length, words_len]
          walk_at "c goS"
          rename Fr _ _ _ _ => F11
          rename News _ _ _ _ => N11
          obtain ⟨u2, F12⟩ := fr_known [(Str.ofString "ahead", .ref AH), (Str.ofString "behind", .ref BH), (Str.ofString "code", .ref CO), (Str.ofString "head", .ref HE), (Str.ofString "body", .ref BO), (Str.ofString "words", .ref D), (Str.ofString "due", .ref D2), (Str.ofString "whole", _)] F11 (by walk_at "c ps")
          refine' stageE (tl := tl ++ tl2) (x := x) (y := y) (wi := ei.flatMap wordOf) (whi := ai ++ ei.flatMap wordOf ++ boi) (vs0 := vs0) (rr := rr) (dr := dr) (cs := dueCs vs0 ei si si.length) hB K1 hroom hun KX T F12 (news_sub N11 ?nn) d1 d2 y0 y1 iA iB iC iH iO hY ((iA.append hY).append iO) iS ?rX rB rA rC rH rO words_in ?lX lB lA lC lH ?lO ?lW lS ?lAX ?lU (hT2.mono fun p hp => List.mem_append_right _ hp) (hTI.mono fun p hp => List.mem_append_left _ hp) hcs ?aS p1 p2 p3 p4 (fun h' tk' m' led F N => k h' tk' m' led F N)
          case nn =>
            repeat (refine List.forall_mem_cons.mpr ⟨by k_mem, ?_⟩)
            walk_at "c tail"
          case rX =>
            intro n hn
            rcases List.mem_append.mp hn with hn | hn
            · rcases List.mem_append.mp hn with hn | hn
              · exact rA n hn
              · exact words_in n hn
            · exact rO n hn
          case lX => simp only [List.length_append, words_len]; omega
          case lO => omega
          case lW => rw [words_len]; omega
          case lAX => simp only [List.length_append]; omega
          case lU => omega
          case aS =>
            repeat (refine List.forall_mem_cons.mpr ⟨by (try dsimp only); k_ne, ?_⟩)
            exact fun p hp => (List.mem_append.mp hp).elim (tS p) (aS2 p)
end
section
open PySem PySem.W PySem.Calls PyProof.Rows PySem.SeqAt
-- XStC2
set_option maxRecDepth 100000
theorem lnXStC2_1 : True := by
  w_top off
  k_with_none
  (k_with "c enter" => (refine wpAny_call ?_; k_dflt (refine' enter (by assumption) (by first | assumption | exact use_nil) (by k_is) (by k_is) (by walk_at "c room") (by exact BindsTo.of_eq rfl) (by exact locs rfl) ?_ (by exact rfl) (by exact rfl) (by exact rfl) (by decide); k_whole; intro _ _ _ _ _ _ _ _ _ _ _ _ _ _; (try dsimp only); (try k_fold))))
  (k_with "c room" => first | assumption | decide | ((try simp only [depth_under_make, depth_under_kw, depth_in1, depth_deeper, depth_caller]); (try dsimp only [Ar]); first | exact room2 (by assumption) (by decide) | exact room1 (by assumption) (by decide) | exact room0 (by assumption) | omega))
  (k_with "c pick" => first | exact Pick.head | exact Pick.tail (by walk_at "c pick"))
  (k_with "c go" => repeat' (first | ((fail_if_success (with_reducible show wpAny _ _ (pyIter (Value.ref _)) _ _ _)); (fail_if_success (with_reducible show wpAny _ _ (exec (Stmt.While _ _ _ _) _) _ _ _)); first | (k_unfold; (try dsimp only)) | walk1 | (dsimp only; walk1))))
  (k_with "subscriptTail Name Constant ref int" => (k_here; (with_reducible show wpAny _ _ (subscriptTail _ _ (Value.ref _) (Value.int _ _)) _ _ _); (with_unfolding_all refine' my_item (by is_list) (by decide) (by decide) (by rfl) ?_ (by with_unfolding_all rfl); k_whole)))
  (k_with "call builtin:len" => (k_here; (with_reducible show wpAny _ _ (call (Value.builtin "len") [Value.ref _]) _ _ _); k_dflt (refine' my_len (by is_list) (by walk_at "c fit") ?_; k_whole)))
  (k_with "c via1" => (k_dflt (refine' via1 (by assumption) (by assumption) (by assumption) (by assumption) (by walk_at "c pick") (by k_all) (by first | exact rfl | assumption) ?_)))
  (k_with "c via0" => (k_dflt (refine' via0 (by assumption) (by assumption) (by assumption) (by assumption) (by first | exact rfl | assumption) ?_)))
  (k_with "c num" => first | assumption | decide | exact Int.natCast_nonneg _ | exact Nat.lt_of_lt_of_le (by assumption) (by decide) | exact size2 (by assumption) (by assumption) (by decide) | omega)
  (k_with "call ref" => (k_here; (with_reducible show wpAny _ _ (call (Value.ref 218) [Value.ref _, Value.int _ _]) _ _ _); walk_at "c via1"; intro cC cS cK; k_dflt (refine' take_spec cC cS (by walk_at "c num") (by walk_at "c num") (by walk_at "c num") (by walk_at "c num") (by walk_at "c room") ?_); clear cC cS; intro _ _ _ _ _ _ _ _ _ _ _ _ zzS zzW; (refine And.elim (fun _ zzN => ?_) (cK _ _ zzS zzW)); clear cK zzS zzW; (try dsimp only [List.cons_append, List.nil_append] at zzN); (try dsimp only); (try k_sweep)))
  (k_with "c fit" => first | assumption | exact Nat.le_of_ble_eq_true rfl | exact Nat.lt_of_lt_of_le (by assumption) (by decide) | exact size2 (by assumption) (by assumption) (by decide) | omega | ((simp only [List.length_cons, List.length_append, List.length_nil]); omega))
  (k_with "c itemN" => (k_here; (with_reducible show wpAny _ _ (subscriptTail _ _ (Value.ref _) (Value.int _ _)) _ _ _); (with_unfolding_all refine' my_itemN (by is_list) (by walk_at "c num") (by walk_at "c num") (by walk_at "c fit") ?_ (by with_unfolding_all rfl); k_whole)))
  (k_with "c end" => ((try k_unfold); (try dsimp only)))
  (k_with "c same" => exact same_of (by assumption) (by assumption))
  (k_with "c sub" => first | exact List.forall_mem_nil _ | exact fun _ h => h | exact List.forall_mem_cons.mpr ⟨by k_mem, by walk_at "c sub"⟩)
  (k_with "c now" => first | exact now_of (by assumption) (by assumption) | exact now_sub (by assumption) (by assumption) (by walk_at "c sub"))
  (k_with "c ints" => first | assumption | exact IntsAre.nil | exact IntsAre.cons _ _ IntsAre.nil | exact IntsAre.cons _ _ (IntsAre.cons _ _ IntsAre.nil) | exact IntsAre.cons _ _ (IntsAre.cons _ _ (IntsAre.cons _ _ IntsAre.nil)))
  (k_with "k_all" => first | exact all_ltS (by assumption) (by walk_at "c tail") | fail)
  (k_with "k_all" => first | exact List.forall_mem_nil _ | (refine' List.forall_mem_cons.mpr ⟨(by k_ne), (by k_all)⟩))
  (k_with "k_all" => first | (with_reducible assumption) | exact all_lt (by with_reducible assumption) | fail)
  (k_with "c lt" => first | assumption | exact lt_mem (by assumption) (by k_mem) | exact lt_mem2 (by assumption) (by assumption) (by k_mem) | exact Nat.lt_succ_self _ | exact Nat.lt_succ_of_lt (by walk_at "c lt"))
  (k_with "k_ne" => first | exact Apt.ne (by assumption) | exact (Apt.ne (by assumption)).symm | exact NewAt.ne (by assumption) (by k_mem) | exact (NewAt.ne (by assumption) (by k_mem)).symm | exact ne_gt (by assumption) (by k_mem) | exact ne_lt (by assumption) (by k_mem) | exact Nat.ne_of_gt (by walk_at "c lt") | exact Nat.ne_of_lt (by walk_at "c lt") | (refine neN ?_; (try dsimp only); omega))
  (k_with "k_mem" => first | exact lm0 | exact lm1 | exact lm2 | exact lm3 | (refine' lm4 ?_; k_mem))
  (k_with "le" => k_dflt (exact Nat.le_of_ble_eq_true rfl))
  (k_with "lt" => k_dflt (exact Nat.le_of_ble_eq_true rfl))
  (k_with "c size" => first | assumption | exact Nat.le_of_ble_eq_true rfl | exact Nat.lt_of_lt_of_le (by assumption) (by decide) | exact size2 (by assumption) (by assumption) (by decide) | omega | ((simp only [List.length_cons, List.length_append, List.length_nil]); omega))
  (k_with "call builtin:list.append" => (k_here; (with_reducible show wpAny _ _ (call (Value.builtin "list.append") [Value.ref _, _]) _ _ _); k_dflt (refine' my_append (by k_asm) (by k_asm) (by k_upd) (by walk_at "c size") ?_; k_whole); intro _ _ _; (try k_sweep)))
  (k_with "binaryOp Add ref ref" => (k_here; (with_reducible show wpAny _ _ (binaryOp Operator.Add (Value.ref _) (Value.ref _)) _ _ _); k_dflt (refine' my_addL (by k_asm) (by k_asm) (by is_list) (by is_list) (by walk_at "c size") ?_; k_whole); intro _ _ _ _ _; (try k_sweep)))
  (k_with "c tail" => (intro _ zzhp; repeat (first | exact zzhp | refine List.mem_cons_of_mem _ ?_)))
  (k_with "c rest" => (intro _ zzq1 zzq2 zzq3; (repeat (first | refine upd_ne zzq1 ?_ | refine upd_ne (ne_stored zzq3 (by decide +kernel)) ?_ | refine upd_ne (zzq2 (_, _) (by k_mem)) ?_ | exact kst_end zzq3 | refine kst_mid (not_in_cons (ne_stored zzq3 (by decide +kernel)) not_in_nil) ?_ | refine kst_ne (ne_stored zzq3 (by decide +kernel)) ?_ | refine kst_ne (zzq2 (_, _) (by k_mem)) ?_))))
  (k_with "c restW" => (intro _ zzq2 zzq3; (repeat (first | refine upd_ne (ne_stored zzq3 (by decide +kernel)) ?_ | refine upd_ne (zzq2 (_, _) (by k_mem)) ?_ | exact kst_end zzq3 | refine kst_mid (not_in_cons (ne_stored zzq3 (by decide +kernel)) not_in_nil) ?_ | refine kst_ne (ne_stored zzq3 (by decide +kernel)) ?_ | refine kst_ne (zzq2 (_, _) (by k_mem)) ?_))))
  (k_with "c ps" => first | exact List.forall_mem_nil _ | exact List.forall_mem_cons.mpr ⟨rfl, by walk_at "c ps"⟩)
  (k_with "c itemI" => (k_here; (with_reducible show wpAny _ _ (subscriptTail _ _ (Value.ref _) (Value.int _ _)) _ _ _); (with_unfolding_all refine' my_itemI (by is_list) (by with_reducible assumption) (by walk_at "c num") (by walk_at "c num") (by walk_at "c fit") ?_ (by with_unfolding_all rfl); k_whole); intro _))
  (k_with "exec Raise some none" => (k_here; k_dflt (refine' font_raise (by assumption) (by assumption) (by assumption) (by exact rfl) (by walk_at "c room") (by exact rfl) (by exact rfl) (by decide +kernel) ?_; intro _ _ _ _ _ _ _ _; (try k_unfold); (try dsimp only); refine' font_leave (by assumption) (by assumption) (by assumption) (by assumption) (by assumption) ?_ (by exact rfl); intro _ _ _; (try dsimp only))))
  (k_with "call type:bytes cons nil bytes" => (k_here; refine bb_call ?_))
  (k_with "call type:bytes" => (k_here; (with_reducible show wpAny _ _ (call (Value.type "bytes") [Value.bytes _ _]) _ _ _); refine bb_call ?_))
  (k_with "leaving ref" => (k_here; k_dflt (refine' leave_onSX (by assumption) (by assumption) (by assumption) (by assumption) ?_; k_whole); intro _ zzR zzU; (try dsimp only at zzR zzU ⊢)))
  (k_with "storeName" => (dsimp only; walk_at "storeName"))
  (k_with "execs cons" => (k_here; k_fold))
  (k_with "exec Assign" => (k_here; k_fold))
  (k_with "call ref" => (k_here; (with_reducible show wpAny _ _ (call (Value.ref 225) [Value.ref _, Value.ref _]) _ _ _); walk_at "c via1"; intro cC cS cK; k_dflt (refine' one_specI cC cS (by is_list) (by k_ne) (by walk_at "c fit") (by walk_at "c fit") (by rfl) (by walk_at "c num") (by walk_at "c num") (by walk_at "c room") ?_); clear cC cS; intro _ _ _ _ _ _ _ _ zzzm _ _ zzS zzW; (refine And.elim (fun _ zzN => ?_) (cK _ _ zzS zzW)); clear cK zzS zzW; (try simp only [List.filterMap_cons, List.filterMap_nil, intOf?, List.mem_cons, List.not_mem_nil, or_false] at zzzm); (try dsimp only [List.cons_append, List.nil_append] at zzN); (try dsimp only); (try k_sweep)))
  (k_with "c enterC" => (refine wpAny_call ?_; k_dflt (refine' enterC (by assumption) (by first | assumption | exact use_nil) (by k_is) (by k_is) (by walk_at "c room") (by exact BindsTo.of_eq rfl) (by exact rfl) (by decide +kernel) ?_ (by exact rfl) (by exact rfl) (by exact rfl); k_whole; intro _ _ _ _ _ _ _ _ _ _ _ _ zzN zzY _ _ _ _; k_cells zzY; (try dsimp only [List.cons_append, List.nil_append] at zzN); (try dsimp only); (try k_fold))))
  (k_with "c init" => (refine' code_def (by k_asm) (by k_asm) (by k_asm) (by k_asm) (by k_asm) (by exact rfl) (by exact rfl) (by exact rfl) (by k_is) (by k_is) (by walk_at "c room") (by first | exact BindsTo.of_eq rfl | exact binds_K (by k_in) rfl (by k_is) rfl rfl rfl) (by exact locs rfl) ?_ (by exact rfl) (by exact rfl) (by exact rfl) (by decide); k_whole; intro _ _ _ _ _ _ zzB _ _; (try dsimp only); (try k_lift zzB); (try k_fold)))
  (k_with "call ref" => (k_here; k_dflt (refine' call_cls (by k_asm) (by k_asm) (by k_asm) (by k_is) (by k_is) (by k_is) ?_; k_whole; intro _ _ _ _ _ _ _; (try k_sweep); walk_at "c init")))
  (k_with "call ref" => (k_here; (with_reducible show wpAny _ _ (call (Value.ref 199) [Value.ref _, Value.int _ _]) _ _ _); walk_at "c via2E"; intro cC cO cD cn cF cK; (refine' ends_spec cC cO cD cn (by assumption) (by walk_at "c num") (by walk_at "c num") (by walk_at "c num") (by walk_at "c num") (by walk_at "c num") (by walk_at "c room") (by walk_at "c units") ?_ ?_); (all_goals first | (intro _ _ _ _ _ _ _ _ _ _ _ _ _ _ zzS zzW zzfO zzfd; (with_reducible rename News _ _ _ _ => zznO); (have zzhn1 := NewAt.mk (apart_new zznO (now_atU zzW (.tail _ (.tail _ (.head _))) (notin2 zzfO zzfd)))); (try dsimp only at zzhn1); (refine And.elim (fun _ zzN => ?_) (cK _ _ zzS zzW)); clear cK cC cO cD cn cF zzS zzW zznO; (try dsimp only [List.cons_append, List.nil_append] at zzN); (try dsimp only); (try k_sweep)) | (clear cC cO cD cn cK; walk_at "c fault"))))
  (k_with "call ref" => (k_here; (with_reducible show wpAny _ _ (call (Value.ref 185) [Value.ref _, Value.int _ _]) _ _ _); walk_at "c via2E"; intro cC cO cD cn cF cK; (refine' flags_spec cC cO cD cn (by assumption) (by walk_at "c num") (by walk_at "c num") (by walk_at "c num") (by walk_at "c num") (by walk_at "c num") (by walk_at "c room") ?_ ?_); (all_goals first | (intro _ _ _ _ _ _ _ _ _ _ _ _ _ zzS zzW zzfO zzfd; (with_reducible rename News _ _ _ _ => zznO); (have zzhn1 := NewAt.mk (apart_new zznO (now_atU zzW (.tail _ (.tail _ (.head _))) (notin2 zzfO zzfd)))); (try dsimp only at zzhn1); (refine And.elim (fun _ zzN => ?_) (cK _ _ zzS zzW)); clear cK cC cO cD cn cF zzS zzW zznO; (try dsimp only [List.cons_append, List.nil_append] at zzN); (try dsimp only); (try k_sweep)) | (clear cC cO cD cn cK; walk_at "c fault"))))
  (k_with "call ref" => (k_here; (with_reducible show wpAny _ _ (call (Value.ref 192) [Value.ref _, Value.ref _, Value.int _ _, Value.int _ _]) _ _ _); walk_at "c via2E"; intro cC cO cD cn cF cK; (refine' deltas_spec cC cO cD cn (by assumption) (by walk_at "c num") (by walk_at "c num") (by walk_at "c num") (by is_list) (by exact ⟨by k_ne, by k_ne⟩) (by with_reducible assumption) (by walk_at "c num") (by walk_at "c room") ?_ ?_); (all_goals first | (intro _ _ _ _ _ _ _ _ _ _ _ _ _ zzS zzW zzfO zzfd; (with_reducible rename News _ _ _ _ => zznO); (have zzhn1 := NewAt.mk (apart_new zznO (now_atU zzW (.tail _ (.tail _ (.head _))) (notin2 zzfO zzfd)))); (try dsimp only at zzhn1); (refine And.elim (fun _ zzN => ?_) (cK _ _ zzS zzW)); clear cK cC cO cD cn cF zzS zzW zznO; (try dsimp only [List.cons_append, List.nil_append] at zzN); (try dsimp only); (try k_sweep)) | (clear cC cO cD cn cK; walk_at "c fault"))))
  (k_with "c units" => (dsimp only [Around.deeper, Ar]; first | exact room2 (by assumption) (by decide) | exact room1 (by assumption) (by decide) | omega))
  (k_with "eval Name" => (k_here; (with_reducible show wpAny _ _ (eval (PySem.Expr.Name _ _) (compEnvC _ _ _ _)) _ _ _); k_dflt (refine' blkB (by rfl) (by rfl) (by rfl) (by rfl) (by decide) (by k_asm) (by k_asm) (by k_asm) (by k_is) (by boot_by_name) (by decide) ?_; k_whole)))
  (k_with "eval Name" => (k_here; (with_reducible show wpAny _ _ (eval (PySem.Expr.Name _ _) (compEnvC _ _ _ _)) _ _ _); k_dflt (refine' blkK (by rfl) (by rfl) (by rfl) (by decide) (by k_asm) (by k_asm) (by k_asm) (by k_is) ?_; k_whole)))
  (k_with "eval Name" => (k_here; (with_reducible show wpAny _ _ (eval (PySem.Expr.Name _ _) (compEnvC _ _ _ _)) _ _ _); k_dflt (refine' blkC (by rfl) (by rfl) (by decide) (by k_asm) (by rfl) (by k_mem) (by k_asm) ?_; k_whole)))
  (k_with "eval Name" => (k_here; (with_reducible show wpAny _ _ (eval (PySem.Expr.Name _ _) (compEnvC _ _ _ _)) _ _ _); k_dflt (refine' blkL (by rfl) (by rfl) (by decide) (by k_asm) (by with_reducible assumption) (by k_mem) (by exact if_pos rfl) ?_; k_whole)))
  (k_with "compareOp NotEq ref ref" => (k_here; (with_reducible show wpAny _ _ (compareOp CmpOp.NotEq (Value.ref _) (Value.ref _)) _ _ _); (with_unfolding_all refine' ne_intsK (by is_list) (by with_reducible assumption) (by is_list) (by exact IntsAre.nil) (by dsimp only [Around.deeper, Ar]; first | exact room2 (by assumption) (by decide) | exact room1 (by assumption) (by decide) | omega) ?_; k_whole)))
  (k_with "subscriptTail Name" => (k_here; (with_reducible show wpAny _ _ (subscriptTail _ _ (Value.ref _) (Value.int (-1) _)) _ _ _); k_dflt (with_unfolding_all refine' my_lastI (by is_list) (by with_reducible assumption) (by refine List.length_pos_iff.mpr ?_; simp_all only [Bool.not_eq_true', decide_eq_false_iff_not, ne_eq, not_false_eq_true]) (by omega) ?_ (by with_unfolding_all rfl); k_whole); intro _))
  (k_with "exec Assign cons ListComp" => (k_here; k_dflt (refine' comp_assign (by with_unfolding_all rfl) (by with_unfolding_all rfl) (by rfl) (by decide) ?_ (by intro _; with_unfolding_all rfl); k_whole)))
  (k_with "eval ListComp" => (k_here; k_dflt (refine' comp_open (by with_unfolding_all rfl) (by rfl) (by decide) ?_ (by intro _; with_unfolding_all rfl); k_whole)))
  (k_with "c goI" => repeat' (first | ((fail_if_success (with_reducible show wpAny _ _ (pyIter (Value.ref _)) _ _ _)); (fail_if_success (with_reducible show wpAny _ _ (exec (Stmt.While _ _ _ _) _) _ _ _)); (fail_if_success (with_reducible show wpAny _ _ (eval (PySem.Expr.IfExp _ _ _ _) _) _ _ _)); first | (k_unfold; (try dsimp only)) | walk1 | (dsimp only; walk1))))
  (k_with "call ref" => (k_here; (with_reducible show wpAny _ _ (call (Value.ref 232) [Value.int _ _]) _ _ _); walk_at "c via0"; intro cC cK; k_dflt (refine' word_spec cC (by walk_at "c room") ?_); clear cC; intro _ _ _ _ _ zzS zzW; (with_reducible rename News _ _ _ _ => zznO); (have zzhn1 := NewAt.mk (apart_new zznO (now_new zzW))); (try dsimp only at zzhn1); (refine And.elim (fun _ zzN => ?_) (cK _ _ zzS zzW)); clear cK zzS zzW zznO; (try dsimp only [List.cons_append, List.nil_append] at zzN); (try dsimp only); (try k_sweep)))
  (k_with "call ref" => (k_here; (with_reducible show wpAny _ _ (call (Value.ref 211) [Value.ref _]) _ _ _); walk_at "c via0"; intro cC cK; (refine' pool_spec cC (by is_list) (by with_reducible assumption) (by walk_at "c num") (by walk_at "c room") ?_); clear cC; intro _ _ _ _ _ _ _ _ _ zzS zzW; (with_reducible rename News _ _ _ _ => zznO); (have zzhn1 := NewAt.mk (apart_new zznO (now_new zzW))); (try dsimp only at zzhn1); (refine And.elim (fun _ zzN => ?_) (cK _ _ zzS zzW)); clear cK zzS zzW zznO; (try dsimp only [List.cons_append, List.nil_append] at zzN); (try dsimp only); (try k_sweep)))
  (k_with "c goL" => repeat' (first | ((fail_if_success (with_reducible show wpAny _ _ (pyIter (Value.ref _)) _ _ _)); (fail_if_success (with_reducible show wpAny _ _ (call (Value.ref 267) _) _ _ _));  first | (k_unfold; (try dsimp only)) | walk1 | (dsimp only; walk1))))
  (k_with "subscriptTail Name Slice ref ref" => k_dflt (k_here; (with_reducible show wpAny _ _ (subscriptTail _ (PySem.Expr.Slice _ _ none _) (Value.ref _) (Value.ref _)) _ _ _); k_dflt (refine' my_slice (by k_asm) (by k_asm) (by is_list) (by kmk_part) (by kmk_part) (by first | exact take_pick (by walk_at "c num") | exact mid_pick (by walk_at "c num") (by walk_at "c num") | exact but1_pick | exact last2_pick) ?_ (by with_unfolding_all rfl) (by walk_at "c fit")); intro _ _ _ zzN _; (try simp only [Int.reduceNeg] at zzN); (try k_sweep)))
  (k_with "subscriptTail List Slice ref ref" => k_dflt (k_here; (with_reducible show wpAny _ _ (subscriptTail _ (PySem.Expr.Slice _ _ none _) (Value.ref _) (Value.ref _)) _ _ _); k_dflt (refine' my_slice (by k_asm) (by k_asm) (by is_list) (by kmk_part) (by kmk_part) (by first | exact take_pick (by walk_at "c num") | exact mid_pick (by walk_at "c num") (by walk_at "c num") | exact but1_pick | exact last2_pick) ?_ (by with_unfolding_all rfl) (by walk_at "c fit")); intro _ _ _ zzN _; (try simp only [Int.reduceNeg] at zzN); (try k_sweep)))
  (k_with "subscriptTail" => k_dflt (k_here; (with_reducible show wpAny _ _ (subscriptTail _ (PySem.Expr.Slice _ _ none _) (Value.ref _) (Value.ref _)) _ _ _); k_dflt (refine' my_slice (by k_asm) (by k_asm) (by is_list) (by kmk_part) (by kmk_part) (by first | exact take_pick (by walk_at "c num") | exact mid_pick (by walk_at "c num") (by walk_at "c num") | exact but1_pick | exact last2_pick) ?_ (by with_unfolding_all rfl) (by walk_at "c fit")); intro _ _ _ zzN _; (try simp only [Int.reduceNeg] at zzN); (try k_sweep)))
  (k_with "c goM" => repeat' (first | ((fail_if_success (with_reducible show wpAny _ _ (pyIter (Value.ref _)) _ _ _)); (fail_if_success (with_reducible show wpAny _ _ (call (Value.ref 267) _) _ _ _)); (fail_if_success (with_reducible show wpAny _ _ (eval (PySem.Expr.IfExp _ _ _ _) _) _ _ _)); first | (k_unfold; (try dsimp only)) | walk1 | (dsimp only; walk1))))
  (k_with "c goS" => repeat' (first | ((fail_if_success (with_reducible show wpAny _ _ (pyIter (Value.ref _)) _ _ _)); (fail_if_success (with_reducible show wpAny _ _ (execs (Stmt.If _ _ _ _ :: _) _) _ _ _)); first | (k_unfold; (try dsimp only)) | walk1 | (dsimp only; walk1))))
  (k_with "c goP" => repeat' (first | ((fail_if_success (with_reducible show wpAny _ _ (pyIter (Value.ref _)) _ _ _)); (fail_if_success (with_reducible show wpAny _ _ (call (Value.ref 253) _) _ _ _)); (fail_if_success (with_reducible show wpAny _ _ (call (Value.ref 260) _) _ _ _)); (fail_if_success (with_reducible show wpAny _ _ (execs (Stmt.Assign [_] (PySem.Expr.ListComp _ [_, _] _ _) _ :: _) _) _ _ _)); first | (k_unfold; (try dsimp only)) | walk1 | (dsimp only; walk1))))
  trivial
set_option maxHeartbeats 3000000 in
theorem stageC2 {w : World} {mean : ExcName → Option Value} {mg mb : Str → Option Value} {base : Heap} {s : Shared} {L fa S AH BH CO SI EN : Addr} {cd : Value} {dp un : Nat} {gd : Option (List Code)} {Q : Flow → Shared → Prop} {E : Value → Shared → Prop} {u : Str → Option Value}
  {x y : Int} {tx ty : Tok} {nS nA nB nC nI nE : Nat} {av bv cv sv ev : List Value} {ai bi ci si ei : List Int} {o1 o2 o3 o4 : Obj} {v4 : Option Value}
  (hB : Bs w mean mg mb base) (K1 : Below (Ar dp un gd []) base [] base) (hroom : dp + 60 < recursionLimit) (hun : un + 1000 < cLine)
  (KX : (hd.heap_1 w.params).In base) (T : Top hd.view_39 (looseW hd.view_39 [Str.ofString "Outline"]) mean mg mb base)
  (F0 : Fr base L s.heap (kstB u [(Str.ofString "ahead", .ref AH), (Str.ofString "behind", .ref BH), (Str.ofString "code", .ref CO)]))
  (N0 : News base L s.heap ((S, listOf #[Value.int x tx, Value.int y ty] nS) :: (AH, listOf av.toArray nA) :: (BH, listOf bv.toArray nB) :: (CO, listOf cv.toArray nC) :: (SI, listOf sv.toArray nI) :: (EN, listOf ev.toArray nE) :: (L + 1, o1) :: (L + 1 + 1, o2) :: (L + 1 + 1 + 1, o3) :: (L + 1 + 1 + 1 + 1, o4) :: []))
  (d1 : o1.data = .cell (some (.ref S))) (d2 : o2.data = .cell (some (.ref SI))) (d3 : o3.data = .cell (some (.ref EN))) (d4 : o4.data = .cell v4) (y0 : 0 ≤ y) (y1 : y < 2147483647)
  (iA : IntsAre av ai) (iB : IntsAre bv bi) (iC : IntsAre cv ci) (iS : IntsAre sv si) (iE : IntsAre ev ei)
  (rB : ∀ n ∈ bi, 0 ≤ n ∧ n < 256) (rA : ∀ n ∈ ai, 0 ≤ n ∧ n < 256) (rC : ∀ n ∈ ci, 0 ≤ n ∧ n < 256)
  (lB : bi.length < 10) (lA : ai.length < 10) (lC : ci.length < 10) (lS : si.length < 4) (hsi : ∀ z ∈ si, 1 ≤ z ∧ z ≤ 3) (hei : ei = endsOf si)
  (aS : ∀ p ∈ (AH, listOf av.toArray nA) :: (BH, listOf bv.toArray nB) :: (CO, listOf cv.toArray nC) :: (SI, listOf sv.toArray nI) :: (EN, listOf ev.toArray nE) :: (L + 1, o1) :: (L + 1 + 1, o2) :: (L + 1 + 1 + 1, o3) :: (L + 1 + 1 + 1 + 1, o4) :: [], p.1 ≠ S)
  (a4 : AH ≠ L + 1 + 1 + 1 + 1 ∧ BH ≠ L + 1 + 1 + 1 + 1 ∧ CO ≠ L + 1 + 1 + 1 + 1 ∧ SI ≠ L + 1 + 1 + 1 + 1 ∧ EN ≠ L + 1 + 1 + 1 + 1)
  (k : ∀ h' tk' m' led, Fr base L h' m' → News base L h' led → Q (.ret (.bool true)) { s with heap := h', toks := tk' }) :
  wpAny (model PySem.Challenge.rw_xm0719_01.row.prog w) ((Ar dp un gd []).deeper (envOfC (Str.ofString "law") (lawScope w.params) L fa cd)) (execs ((lawBody w.params).drop 7) (envOfC (Str.ofString "law") (lawScope w.params) L fa cd)) Q E s := by
  have e1 := (rfl : lawScope w.params = lawScope w.params)
  conv at e1 => rhs; whnf
  have e2 := (rfl : (lawBody w.params).drop 7 = (lawBody w.params).drop 7)
  conv at e2 => rhs; whnf
  rw [e1, e2]
  clear e1 e2
  replace aS := NewAt.mk aS
  obtain ⟨b1, b2, b3, b4, b5⟩ := a4
  replace b1 := Apt.mk b1
  replace b2 := Apt.mk b2
  replace b3 := Apt.mk b3
  replace b4 := Apt.mk b4
  replace b5 := Apt.mk b5
  have lA' := iA.length
  have lB' := iB.length
  have lC' := iC.length
  have lS' := iS.length
  have lE' := iE.length
  have hsum := sum_bound si hsi
  walk_at "c goP"
  rename Fr _ _ _ _ => F1
  rename News _ _ _ _ => N1
  k_dflt (refine' via1 ?hB1 ?B1 F1 N1 ?P1 ?D1 ?hk1 ?kk1)
  case hB1 => exact hB
  case B1 => exact K1
  case P1 => exact .head
  case D1 => exact aS.all
  case hk1 => exact rfl
  case kk1 =>
    intro cC cS cK
    refine' points_spec cC cS y0 y1 ?m0 ?m1 ?rm ?kfin
    case m0 => omega
    case m1 => omega
    case rm => walk_at "c room"
    case kfin =>
      intro f l0 l1 l2 l3 vs0 vs1 vs2 vs3 n0 n1 n2 n3 nf pts tl a b ta tb h2 tk2 hb hpl hok hTI iM iD iP S2 W2 ap
      have fresh := fun p hp => apart_new N1 (now_atU (p := p) W2 (.tail _ hp) (fun hm => ap p hp (List.mem_singleton.mp hm)))
      have g0 := NewAt.mk (fresh _ (.head _))
      have g1 := NewAt.mk (fresh _ (.tail _ (.head _)))
      have g2 := NewAt.mk (fresh _ (.tail _ (.tail _ (.head _))))
      have g3 := NewAt.mk (fresh _ (.tail _ (.tail _ (.tail _ (.head _)))))
      have g4 := NewAt.mk (fresh _ (.tail _ (.tail _ (.tail _ (.tail _ (.head _))))))
      dsimp only at g0 g1 g2 g3 g4
      have t4 : ∀ p ∈ tl, p.1 ≠ L + 1 + 1 + 1 + 1 := fun p hp e => fresh p (.tail _ (.tail _ (.tail _ (.tail _ (.tail _ hp))))) (L + 1 + 1 + 1 + 1, o4) (by k_mem) e.symm
      have tS : ∀ p ∈ tl, p.1 ≠ S := fun p hp => ap p (.tail _ (.tail _ (.tail _ (.tail _ (.tail _ hp)))))
      have s0 : Apt f S := ⟨ap _ (.head _)⟩
      have s1 : Apt l0 S := ⟨ap _ (.tail _ (.head _))⟩
      have s2 : Apt l1 S := ⟨ap _ (.tail _ (.tail _ (.head _)))⟩
      have s3 : Apt l2 S := ⟨ap _ (.tail _ (.tail _ (.tail _ (.head _))))⟩
      have s4 : Apt l3 S := ⟨ap _ (.tail _ (.tail _ (.tail _ (.tail _ (.head _)))))⟩
      obtain ⟨F2, N2⟩ := cK _ _ S2 W2
      simp only [List.cons_append] at N2
      replace N2 : News base L h2 ((S, listOf #[Value.int a ta, Value.int b tb] nS) :: (f, listOf #[Value.ref l0, Value.ref l1, Value.ref l2, Value.ref l3] nf) :: (l0, listOf vs0.toArray n0) :: (l1, listOf vs1.toArray n1) :: (l2, listOf vs2.toArray n2) :: (l3, listOf vs3.toArray n3) :: (AH, listOf av.toArray nA) :: (BH, listOf bv.toArray nB) :: (CO, listOf cv.toArray nC) :: (SI, listOf sv.toArray nI) :: (EN, listOf ev.toArray nE) :: (L + 1, o1) :: (L + 1 + 1, o2) :: (L + 1 + 1 + 1, o3) :: (L + 1 + 1 + 1 + 1, o4) :: tl) := news_sub N2 fun p hp => by
        simp only [List.mem_cons, List.mem_append, List.not_mem_nil, or_false] at hp ⊢
        rcases hp with h | h | h | h | h | h | h | h | h | h | h | h | h | h | h | h <;> simp only [h, true_or, or_true]
      clear cC cS cK S2 W2 N1 F1 fresh ap N0 F0
      have lp : pts.length < 10 := by omega
      walk_at "c goP"
      rename Fr _ _ _ _ => F3
      rename News _ _ _ _ => N3
      k_dflt (refine' via1 ?hB2 ?B2 F3 N3 ?P2 ?D2 ?hk2 ?kk2)
      case hB2 => exact hB
      case B2 => exact K1
      case P2 => walk_at "c pick"
      case D2 => k_all
      case hk2 => exact rfl
      case kk2 =>
        intro cC cS cK
        refine' marks_spec (M := l1) (ms := pts.map Pt.mark) cC cS ?hM ?hMS iM ?hml hb.1 hb.2 ?rm ?kf2
        case hM => is_list
        case hMS => exact s2.ne
        case hml => rw [List.length_map]; omega
        case rm => walk_at "c room"
        case kf2 =>
          intro q3 ws ts a3 b3 ta3 tb3 h3 tk3 hb3 hTo iT S3 W3 hqS
          obtain ⟨F4, N4⟩ := cK _ _ S3 W3
          simp only [List.cons_append, List.nil_append] at N4
          clear cC cS cK S3 W3 N3 F3
          have lT := iT.length
          have lT2 := hTo.length
          rw [List.length_map] at lT2
          have lD := iD.length
          have lD2 := ds_length hok
          have lU := iP.length
          have lU2 := es_length hok
          walk_at "c goP"
          rename Fr _ _ _ _ => F5
          rename News _ _ _ _ => N5
          obtain ⟨u2, F6⟩ := fr_known [(Str.ofString "ahead", .ref AH), (Str.ofString "behind", .ref BH), (Str.ofString "code", .ref CO), (Str.ofString "head", _), (Str.ofString "body", _)] F5 (by walk_at "c ps")
          have hlb : (bodyOf (cv.length : Int) ci ts pts).length < 100 := by
            unfold bodyOf
            simp only [List.length_append, wordOf, List.length_cons, List.length_nil]
            omega
          have hps : (pts.length : Int) = si.sum := by omega
          have hmk : ∀ m ∈ pts.map Pt.mark, 0 ≤ m ∧ m < 248 := fun m hm => by
            obtain ⟨p, hp, rfl⟩ := List.mem_map.mp hm
            exact ⟨(mark_bits (hok p hp)).2.2.2.2.1, (mark_bits (hok p hp)).2.2.2.2.2⟩
          have rO : ∀ n ∈ bodyOf (cv.length : Int) ci ts pts, 0 ≤ n ∧ n < 256 := body_in rC (told_in hTo hmk (by rw [List.length_map]; omega)) hok
          have hn : (cv.length : Int) = ci.length := by rw [lC']
          have hls : si.length < 10 := by omega
          subst hei
          refine' stageD (tl := tl) (x := a3) (y := b3) (hi := wordOf (cv.length : Int) ++ ci) (boi := bodyOf (cv.length : Int) ci ts pts) (vs0 := vs0) (rr := rows pts) (dr := cutG (rows pts) 0 (endsOf si)) hB K1 hroom hun KX T F6 (news_sub N5 ?nn) d1 d2 d3 (by assumption) hb3.1 hb3.2 iA iB iC (IntsAre.cons _ _ (IntsAre.cons _ _ iC)) ((((IntsAre.cons _ _ (IntsAre.cons _ _ iC)).append iT).append iD).append iP) iS iE rB rA rC ?rH rO lB lA lC ?lH hlb hls (endsOf_length si) ?lP (ends_back hsi) hTI (hcs_of hsi hps hTI) ?aS (p1_of hn lC hsi hls hps hok hTo) (p2_of hn lC hsi hls hps hok hTo rO) (p3_of hsi hls _) (p4_of hn lC) (fun h' tk' m' led F N => k h' tk' m' led F N)
          case nn =>
            repeat (refine List.forall_mem_cons.mpr ⟨by k_mem, ?_⟩)
            walk_at "c tail"
          case rH => exact fun n hn => (List.mem_append.mp hn).elim (word_in n) (rC n)
          case lH =>
            simp only [List.length_append, wordOf, List.length_cons, List.length_nil]
            omega
          case lP => rw [hTI.length, rows_length]; omega
          case aS =>
            repeat (refine List.forall_mem_cons.mpr ⟨by (try dsimp only); k_ne, ?_⟩)
            exact tS
end
section
open PySem PySem.W PySem.Calls PyProof.Rows PySem.SeqAt
-- XStC1
set_option maxRecDepth 100000
theorem lnXStC1_1 : True := by
  w_top off
  k_with_none
  (k_with "c enter" => (refine wpAny_call ?_; k_dflt (refine' enter (by assumption) (by first | assumption | exact use_nil) (by k_is) (by k_is) (by walk_at "c room") (by exact BindsTo.of_eq rfl) (by exact locs rfl) ?_ (by exact rfl) (by exact rfl) (by exact rfl) (by decide); k_whole; intro _ _ _ _ _ _ _ _ _ _ _ _ _ _; (try dsimp only); (try k_fold))))
  (k_with "c room" => first | assumption | decide | ((try simp only [depth_under_make, depth_under_kw, depth_in1, depth_deeper, depth_caller]); (try dsimp only [Ar]); first | exact room2 (by assumption) (by decide) | exact room1 (by assumption) (by decide) | exact room0 (by assumption) | omega))
  (k_with "c pick" => first | exact Pick.head | exact Pick.tail (by walk_at "c pick"))
  (k_with "c go" => repeat' (first | ((fail_if_success (with_reducible show wpAny _ _ (pyIter (Value.ref _)) _ _ _)); (fail_if_success (with_reducible show wpAny _ _ (exec (Stmt.While _ _ _ _) _) _ _ _)); first | (k_unfold; (try dsimp only)) | walk1 | (dsimp only; walk1))))
  (k_with "subscriptTail Name Constant ref int" => (k_here; (with_reducible show wpAny _ _ (subscriptTail _ _ (Value.ref _) (Value.int _ _)) _ _ _); (with_unfolding_all refine' my_item (by is_list) (by decide) (by decide) (by rfl) ?_ (by with_unfolding_all rfl); k_whole)))
  (k_with "call builtin:len" => (k_here; (with_reducible show wpAny _ _ (call (Value.builtin "len") [Value.ref _]) _ _ _); k_dflt (refine' my_len (by is_list) (by walk_at "c fit") ?_; k_whole)))
  (k_with "c via1" => (k_dflt (refine' via1 (by assumption) (by assumption) (by assumption) (by assumption) (by walk_at "c pick") (by k_all) (by first | exact rfl | assumption) ?_)))
  (k_with "c via0" => (k_dflt (refine' via0 (by assumption) (by assumption) (by assumption) (by assumption) (by first | exact rfl | assumption) ?_)))
  (k_with "c num" => first | assumption | decide | exact Int.natCast_nonneg _ | exact Nat.lt_of_lt_of_le (by assumption) (by decide) | exact size2 (by assumption) (by assumption) (by decide) | omega)
  (k_with "call ref" => (k_here; (with_reducible show wpAny _ _ (call (Value.ref 218) [Value.ref _, Value.int _ _]) _ _ _); walk_at "c via1"; intro cC cS cK; k_dflt (refine' take_spec cC cS (by walk_at "c num") (by walk_at "c num") (by walk_at "c num") (by walk_at "c num") (by walk_at "c room") ?_); clear cC cS; intro _ _ _ _ _ _ _ _ _ _ _ _ zzS zzW; (refine And.elim (fun _ zzN => ?_) (cK _ _ zzS zzW)); clear cK zzS zzW; (try dsimp only [List.cons_append, List.nil_append] at zzN); (try dsimp only); (try k_sweep)))
  (k_with "c fit" => first | assumption | exact Nat.le_of_ble_eq_true rfl | exact Nat.lt_of_lt_of_le (by assumption) (by decide) | exact size2 (by assumption) (by assumption) (by decide) | omega | ((simp only [List.length_cons, List.length_append, List.length_nil]); omega))
  (k_with "c itemN" => (k_here; (with_reducible show wpAny _ _ (subscriptTail _ _ (Value.ref _) (Value.int _ _)) _ _ _); (with_unfolding_all refine' my_itemN (by is_list) (by walk_at "c num") (by walk_at "c num") (by walk_at "c fit") ?_ (by with_unfolding_all rfl); k_whole)))
  (k_with "c end" => ((try k_unfold); (try dsimp only)))
  (k_with "c same" => exact same_of (by assumption) (by assumption))
  (k_with "c sub" => first | exact List.forall_mem_nil _ | exact fun _ h => h | exact List.forall_mem_cons.mpr ⟨by k_mem, by walk_at "c sub"⟩)
  (k_with "c now" => first | exact now_of (by assumption) (by assumption) | exact now_sub (by assumption) (by assumption) (by walk_at "c sub"))
  (k_with "c ints" => first | assumption | exact IntsAre.nil | exact IntsAre.cons _ _ IntsAre.nil | exact IntsAre.cons _ _ (IntsAre.cons _ _ IntsAre.nil) | exact IntsAre.cons _ _ (IntsAre.cons _ _ (IntsAre.cons _ _ IntsAre.nil)))
  (k_with "k_all" => first | exact all_ltS (by assumption) (by walk_at "c tail") | fail)
  (k_with "k_all" => first | exact List.forall_mem_nil _ | (refine' List.forall_mem_cons.mpr ⟨(by k_ne), (by k_all)⟩))
  (k_with "k_all" => first | (with_reducible assumption) | exact all_lt (by with_reducible assumption) | fail)
  (k_with "c lt" => first | assumption | exact lt_mem (by assumption) (by k_mem) | exact lt_mem2 (by assumption) (by assumption) (by k_mem) | exact Nat.lt_succ_self _ | exact Nat.lt_succ_of_lt (by walk_at "c lt"))
  (k_with "k_ne" => first | exact Apt.ne (by assumption) | exact (Apt.ne (by assumption)).symm | exact NewAt.ne (by assumption) (by k_mem) | exact (NewAt.ne (by assumption) (by k_mem)).symm | exact ne_gt (by assumption) (by k_mem) | exact ne_lt (by assumption) (by k_mem) | exact Nat.ne_of_gt (by walk_at "c lt") | exact Nat.ne_of_lt (by walk_at "c lt") | (refine neN ?_; (try dsimp only); omega))
  (k_with "k_mem" => first | exact lm0 | exact lm1 | exact lm2 | exact lm3 | (refine' lm4 ?_; k_mem))
  (k_with "le" => k_dflt (exact Nat.le_of_ble_eq_true rfl))
  (k_with "lt" => k_dflt (exact Nat.le_of_ble_eq_true rfl))
  (k_with "c size" => first | assumption | exact Nat.le_of_ble_eq_true rfl | exact Nat.lt_of_lt_of_le (by assumption) (by decide) | exact size2 (by assumption) (by assumption) (by decide) | omega | ((simp only [List.length_cons, List.length_append, List.length_nil]); omega))
  (k_with "call builtin:list.append" => (k_here; (with_reducible show wpAny _ _ (call (Value.builtin "list.append") [Value.ref _, _]) _ _ _); k_dflt (refine' my_append (by k_asm) (by k_asm) (by k_upd) (by walk_at "c size") ?_; k_whole); intro _ _ _; (try k_sweep)))
  (k_with "binaryOp Add ref ref" => (k_here; (with_reducible show wpAny _ _ (binaryOp Operator.Add (Value.ref _) (Value.ref _)) _ _ _); k_dflt (refine' my_addL (by k_asm) (by k_asm) (by is_list) (by is_list) (by walk_at "c size") ?_; k_whole); intro _ _ _ _ _; (try k_sweep)))
  (k_with "c tail" => (intro _ zzhp; repeat (first | exact zzhp | refine List.mem_cons_of_mem _ ?_)))
  (k_with "c rest" => (intro _ zzq1 zzq2 zzq3; (repeat (first | refine upd_ne zzq1 ?_ | refine upd_ne (ne_stored zzq3 (by decide +kernel)) ?_ | refine upd_ne (zzq2 (_, _) (by k_mem)) ?_ | exact kst_end zzq3 | refine kst_mid (not_in_cons (ne_stored zzq3 (by decide +kernel)) not_in_nil) ?_ | refine kst_ne (ne_stored zzq3 (by decide +kernel)) ?_ | refine kst_ne (zzq2 (_, _) (by k_mem)) ?_))))
  (k_with "c restW" => (intro _ zzq2 zzq3; (repeat (first | refine upd_ne (ne_stored zzq3 (by decide +kernel)) ?_ | refine upd_ne (zzq2 (_, _) (by k_mem)) ?_ | exact kst_end zzq3 | refine kst_mid (not_in_cons (ne_stored zzq3 (by decide +kernel)) not_in_nil) ?_ | refine kst_ne (ne_stored zzq3 (by decide +kernel)) ?_ | refine kst_ne (zzq2 (_, _) (by k_mem)) ?_))))
  (k_with "c ps" => first | exact List.forall_mem_nil _ | exact List.forall_mem_cons.mpr ⟨rfl, by walk_at "c ps"⟩)
  (k_with "c itemI" => (k_here; (with_reducible show wpAny _ _ (subscriptTail _ _ (Value.ref _) (Value.int _ _)) _ _ _); (with_unfolding_all refine' my_itemI (by is_list) (by with_reducible assumption) (by walk_at "c num") (by walk_at "c num") (by walk_at "c fit") ?_ (by with_unfolding_all rfl); k_whole); intro _))
  (k_with "exec Raise some none" => (k_here; k_dflt (refine' font_raise (by assumption) (by assumption) (by assumption) (by exact rfl) (by walk_at "c room") (by exact rfl) (by exact rfl) (by decide +kernel) ?_; intro _ _ _ _ _ _ _ _; (try k_unfold); (try dsimp only); refine' font_leave (by assumption) (by assumption) (by assumption) (by assumption) (by assumption) ?_ (by exact rfl); intro _ _ _; (try dsimp only))))
  (k_with "call type:bytes cons nil bytes" => (k_here; refine bb_call ?_))
  (k_with "call type:bytes" => (k_here; (with_reducible show wpAny _ _ (call (Value.type "bytes") [Value.bytes _ _]) _ _ _); refine bb_call ?_))
  (k_with "leaving ref" => (k_here; k_dflt (refine' leave_onSX (by assumption) (by assumption) (by assumption) (by assumption) ?_; k_whole); intro _ zzR zzU; (try dsimp only at zzR zzU ⊢)))
  (k_with "storeName" => (dsimp only; walk_at "storeName"))
  (k_with "execs cons" => (k_here; k_fold))
  (k_with "exec Assign" => (k_here; k_fold))
  (k_with "call ref" => (k_here; (with_reducible show wpAny _ _ (call (Value.ref 225) [Value.ref _, Value.ref _]) _ _ _); walk_at "c via1"; intro cC cS cK; k_dflt (refine' one_specI cC cS (by is_list) (by k_ne) (by walk_at "c fit") (by walk_at "c fit") (by rfl) (by walk_at "c num") (by walk_at "c num") (by walk_at "c room") ?_); clear cC cS; intro _ _ _ _ _ _ _ _ zzzm _ _ zzS zzW; (refine And.elim (fun _ zzN => ?_) (cK _ _ zzS zzW)); clear cK zzS zzW; (try simp only [List.filterMap_cons, List.filterMap_nil, intOf?, List.mem_cons, List.not_mem_nil, or_false] at zzzm); (try dsimp only [List.cons_append, List.nil_append] at zzN); (try dsimp only); (try k_sweep)))
  (k_with "c enterC" => (refine wpAny_call ?_; k_dflt (refine' enterC (by assumption) (by first | assumption | exact use_nil) (by k_is) (by k_is) (by walk_at "c room") (by exact BindsTo.of_eq rfl) (by exact rfl) (by decide +kernel) ?_ (by exact rfl) (by exact rfl) (by exact rfl); k_whole; intro _ _ _ _ _ _ _ _ _ _ _ _ zzN zzY _ _ _ _; k_cells zzY; (try dsimp only [List.cons_append, List.nil_append] at zzN); (try dsimp only); (try k_fold))))
  (k_with "c init" => (refine' code_def (by k_asm) (by k_asm) (by k_asm) (by k_asm) (by k_asm) (by exact rfl) (by exact rfl) (by exact rfl) (by k_is) (by k_is) (by walk_at "c room") (by first | exact BindsTo.of_eq rfl | exact binds_K (by k_in) rfl (by k_is) rfl rfl rfl) (by exact locs rfl) ?_ (by exact rfl) (by exact rfl) (by exact rfl) (by decide); k_whole; intro _ _ _ _ _ _ zzB _ _; (try dsimp only); (try k_lift zzB); (try k_fold)))
  (k_with "call ref" => (k_here; k_dflt (refine' call_cls (by k_asm) (by k_asm) (by k_asm) (by k_is) (by k_is) (by k_is) ?_; k_whole; intro _ _ _ _ _ _ _; (try k_sweep); walk_at "c init")))
  (k_with "call ref" => (k_here; (with_reducible show wpAny _ _ (call (Value.ref 199) [Value.ref _, Value.int _ _]) _ _ _); walk_at "c via2E"; intro cC cO cD cn cF cK; (refine' ends_spec cC cO cD cn (by assumption) (by walk_at "c num") (by walk_at "c num") (by walk_at "c num") (by walk_at "c num") (by walk_at "c num") (by walk_at "c room") (by walk_at "c units") ?_ ?_); (all_goals first | (intro _ _ _ _ _ _ _ _ _ _ _ _ _ _ zzS zzW zzfO zzfd; (with_reducible rename News _ _ _ _ => zznO); (have zzhn1 := NewAt.mk (apart_new zznO (now_atU zzW (.tail _ (.tail _ (.head _))) (notin2 zzfO zzfd)))); (try dsimp only at zzhn1); (refine And.elim (fun _ zzN => ?_) (cK _ _ zzS zzW)); clear cK cC cO cD cn cF zzS zzW zznO; (try dsimp only [List.cons_append, List.nil_append] at zzN); (try dsimp only); (try k_sweep)) | (clear cC cO cD cn cK; walk_at "c fault"))))
  (k_with "call ref" => (k_here; (with_reducible show wpAny _ _ (call (Value.ref 185) [Value.ref _, Value.int _ _]) _ _ _); walk_at "c via2E"; intro cC cO cD cn cF cK; (refine' flags_spec cC cO cD cn (by assumption) (by walk_at "c num") (by walk_at "c num") (by walk_at "c num") (by walk_at "c num") (by walk_at "c num") (by walk_at "c room") ?_ ?_); (all_goals first | (intro _ _ _ _ _ _ _ _ _ _ _ _ _ zzS zzW zzfO zzfd; (with_reducible rename News _ _ _ _ => zznO); (have zzhn1 := NewAt.mk (apart_new zznO (now_atU zzW (.tail _ (.tail _ (.head _))) (notin2 zzfO zzfd)))); (try dsimp only at zzhn1); (refine And.elim (fun _ zzN => ?_) (cK _ _ zzS zzW)); clear cK cC cO cD cn cF zzS zzW zznO; (try dsimp only [List.cons_append, List.nil_append] at zzN); (try dsimp only); (try k_sweep)) | (clear cC cO cD cn cK; walk_at "c fault"))))
  (k_with "call ref" => (k_here; (with_reducible show wpAny _ _ (call (Value.ref 192) [Value.ref _, Value.ref _, Value.int _ _, Value.int _ _]) _ _ _); walk_at "c via2E"; intro cC cO cD cn cF cK; (refine' deltas_spec cC cO cD cn (by assumption) (by walk_at "c num") (by walk_at "c num") (by walk_at "c num") (by is_list) (by exact ⟨by k_ne, by k_ne⟩) (by with_reducible assumption) (by walk_at "c num") (by walk_at "c room") ?_ ?_); (all_goals first | (intro _ _ _ _ _ _ _ _ _ _ _ _ _ zzS zzW zzfO zzfd; (with_reducible rename News _ _ _ _ => zznO); (have zzhn1 := NewAt.mk (apart_new zznO (now_atU zzW (.tail _ (.tail _ (.head _))) (notin2 zzfO zzfd)))); (try dsimp only at zzhn1); (refine And.elim (fun _ zzN => ?_) (cK _ _ zzS zzW)); clear cK cC cO cD cn cF zzS zzW zznO; (try dsimp only [List.cons_append, List.nil_append] at zzN); (try dsimp only); (try k_sweep)) | (clear cC cO cD cn cK; walk_at "c fault"))))
  (k_with "c units" => (dsimp only [Around.deeper, Ar]; first | exact room2 (by assumption) (by decide) | exact room1 (by assumption) (by decide) | omega))
  (k_with "eval Name" => (k_here; (with_reducible show wpAny _ _ (eval (PySem.Expr.Name _ _) (compEnvC _ _ _ _)) _ _ _); k_dflt (refine' blkB (by rfl) (by rfl) (by rfl) (by rfl) (by decide) (by k_asm) (by k_asm) (by k_asm) (by k_is) (by boot_by_name) (by decide) ?_; k_whole)))
  (k_with "eval Name" => (k_here; (with_reducible show wpAny _ _ (eval (PySem.Expr.Name _ _) (compEnvC _ _ _ _)) _ _ _); k_dflt (refine' blkK (by rfl) (by rfl) (by rfl) (by decide) (by k_asm) (by k_asm) (by k_asm) (by k_is) ?_; k_whole)))
  (k_with "eval Name" => (k_here; (with_reducible show wpAny _ _ (eval (PySem.Expr.Name _ _) (compEnvC _ _ _ _)) _ _ _); k_dflt (refine' blkC (by rfl) (by rfl) (by decide) (by k_asm) (by rfl) (by k_mem) (by k_asm) ?_; k_whole)))
  (k_with "eval Name" => (k_here; (with_reducible show wpAny _ _ (eval (PySem.Expr.Name _ _) (compEnvC _ _ _ _)) _ _ _); k_dflt (refine' blkL (by rfl) (by rfl) (by decide) (by k_asm) (by with_reducible assumption) (by k_mem) (by exact if_pos rfl) ?_; k_whole)))
  (k_with "compareOp NotEq ref ref" => (k_here; (with_reducible show wpAny _ _ (compareOp CmpOp.NotEq (Value.ref _) (Value.ref _)) _ _ _); (with_unfolding_all refine' ne_intsK (by is_list) (by with_reducible assumption) (by is_list) (by exact IntsAre.nil) (by dsimp only [Around.deeper, Ar]; first | exact room2 (by assumption) (by decide) | exact room1 (by assumption) (by decide) | omega) ?_; k_whole)))
  (k_with "subscriptTail Name" => (k_here; (with_reducible show wpAny _ _ (subscriptTail _ _ (Value.ref _) (Value.int (-1) _)) _ _ _); k_dflt (with_unfolding_all refine' my_lastI (by is_list) (by with_reducible assumption) (by refine List.length_pos_iff.mpr ?_; simp_all only [Bool.not_eq_true', decide_eq_false_iff_not, ne_eq, not_false_eq_true]) (by omega) ?_ (by with_unfolding_all rfl); k_whole); intro _))
  (k_with "exec Assign cons ListComp" => (k_here; k_dflt (refine' comp_assign (by with_unfolding_all rfl) (by with_unfolding_all rfl) (by rfl) (by decide) ?_ (by intro _; with_unfolding_all rfl); k_whole)))
  (k_with "eval ListComp" => (k_here; k_dflt (refine' comp_open (by with_unfolding_all rfl) (by rfl) (by decide) ?_ (by intro _; with_unfolding_all rfl); k_whole)))
  (k_with "c goI" => repeat' (first | ((fail_if_success (with_reducible show wpAny _ _ (pyIter (Value.ref _)) _ _ _)); (fail_if_success (with_reducible show wpAny _ _ (exec (Stmt.While _ _ _ _) _) _ _ _)); (fail_if_success (with_reducible show wpAny _ _ (eval (PySem.Expr.IfExp _ _ _ _) _) _ _ _)); first | (k_unfold; (try dsimp only)) | walk1 | (dsimp only; walk1))))
  (k_with "call ref" => (k_here; (with_reducible show wpAny _ _ (call (Value.ref 232) [Value.int _ _]) _ _ _); walk_at "c via0"; intro cC cK; k_dflt (refine' word_spec cC (by walk_at "c room") ?_); clear cC; intro _ _ _ _ _ zzS zzW; (with_reducible rename News _ _ _ _ => zznO); (have zzhn1 := NewAt.mk (apart_new zznO (now_new zzW))); (try dsimp only at zzhn1); (refine And.elim (fun _ zzN => ?_) (cK _ _ zzS zzW)); clear cK zzS zzW zznO; (try dsimp only [List.cons_append, List.nil_append] at zzN); (try dsimp only); (try k_sweep)))
  (k_with "call ref" => (k_here; (with_reducible show wpAny _ _ (call (Value.ref 211) [Value.ref _]) _ _ _); walk_at "c via0"; intro cC cK; (refine' pool_spec cC (by is_list) (by with_reducible assumption) (by walk_at "c num") (by walk_at "c room") ?_); clear cC; intro _ _ _ _ _ _ _ _ _ zzS zzW; (with_reducible rename News _ _ _ _ => zznO); (have zzhn1 := NewAt.mk (apart_new zznO (now_new zzW))); (try dsimp only at zzhn1); (refine And.elim (fun _ zzN => ?_) (cK _ _ zzS zzW)); clear cK zzS zzW zznO; (try dsimp only [List.cons_append, List.nil_append] at zzN); (try dsimp only); (try k_sweep)))
  (k_with "c goL" => repeat' (first | ((fail_if_success (with_reducible show wpAny _ _ (pyIter (Value.ref _)) _ _ _)); (fail_if_success (with_reducible show wpAny _ _ (call (Value.ref 267) _) _ _ _));  first | (k_unfold; (try dsimp only)) | walk1 | (dsimp only; walk1))))
  (k_with "subscriptTail Name Slice ref ref" => k_dflt (k_here; (with_reducible show wpAny _ _ (subscriptTail _ (PySem.Expr.Slice _ _ none _) (Value.ref _) (Value.ref _)) _ _ _); k_dflt (refine' my_slice (by k_asm) (by k_asm) (by is_list) (by kmk_part) (by kmk_part) (by first | exact take_pick (by walk_at "c num") | exact mid_pick (by walk_at "c num") (by walk_at "c num") | exact but1_pick | exact last2_pick) ?_ (by with_unfolding_all rfl) (by walk_at "c fit")); intro _ _ _ zzN _; (try simp only [Int.reduceNeg] at zzN); (try k_sweep)))
  (k_with "subscriptTail List Slice ref ref" => k_dflt (k_here; (with_reducible show wpAny _ _ (subscriptTail _ (PySem.Expr.Slice _ _ none _) (Value.ref _) (Value.ref _)) _ _ _); k_dflt (refine' my_slice (by k_asm) (by k_asm) (by is_list) (by kmk_part) (by kmk_part) (by first | exact take_pick (by walk_at "c num") | exact mid_pick (by walk_at "c num") (by walk_at "c num") | exact but1_pick | exact last2_pick) ?_ (by with_unfolding_all rfl) (by walk_at "c fit")); intro _ _ _ zzN _; (try simp only [Int.reduceNeg] at zzN); (try k_sweep)))
  (k_with "subscriptTail" => k_dflt (k_here; (with_reducible show wpAny _ _ (subscriptTail _ (PySem.Expr.Slice _ _ none _) (Value.ref _) (Value.ref _)) _ _ _); k_dflt (refine' my_slice (by k_asm) (by k_asm) (by is_list) (by kmk_part) (by kmk_part) (by first | exact take_pick (by walk_at "c num") | exact mid_pick (by walk_at "c num") (by walk_at "c num") | exact but1_pick | exact last2_pick) ?_ (by with_unfolding_all rfl) (by walk_at "c fit")); intro _ _ _ zzN _; (try simp only [Int.reduceNeg] at zzN); (try k_sweep)))
  (k_with "c goM" => repeat' (first | ((fail_if_success (with_reducible show wpAny _ _ (pyIter (Value.ref _)) _ _ _)); (fail_if_success (with_reducible show wpAny _ _ (call (Value.ref 267) _) _ _ _)); (fail_if_success (with_reducible show wpAny _ _ (eval (PySem.Expr.IfExp _ _ _ _) _) _ _ _)); first | (k_unfold; (try dsimp only)) | walk1 | (dsimp only; walk1))))
  (k_with "c goS" => repeat' (first | ((fail_if_success (with_reducible show wpAny _ _ (pyIter (Value.ref _)) _ _ _)); (fail_if_success (with_reducible show wpAny _ _ (execs (Stmt.If _ _ _ _ :: _) _) _ _ _)); first | (k_unfold; (try dsimp only)) | walk1 | (dsimp only; walk1))))
  (k_with "c goQ" => repeat' (first | ((fail_if_success (with_reducible show wpAny _ _ (pyIter (Value.ref _)) _ _ _)); (fail_if_success (with_reducible show wpAny _ _ (execs (Stmt.Assign [PySem.Expr.Tuple [_, _, _, _] _ _] _ _ :: _) _) _ _ _)); first | (k_unfold; (try dsimp only)) | walk1 | (dsimp only; walk1))))
  trivial
abbrev natOf {r : Int} (_ : r < 4) : Nat := r.toNat
set_option maxHeartbeats 3000000 in
theorem stageC1 {w : World} {mean : ExcName → Option Value} {mg mb : Str → Option Value} {base : Heap} {s : Shared} {L fa S AH BH CO T3 : Addr} {cd : Value} {dp un : Nat} {gd : Option (List Code)} {Q : Flow → Shared → Prop} {E : Value → Shared → Prop} {u : Str → Option Value}
  {x y : Int} {tx ty t1 t2 t3 : Tok} {nS nA nB nC : Nat} {av bv cv : List Value} {ai bi ci : List Int} {o1 o2 o3 o4 : Obj} {v3 v4 : Option Value}
  (hB : Bs w mean mg mb base) (K1 : Below (Ar dp un gd []) base [] base) (hroom : dp + 60 < recursionLimit) (hun : un + 1000 < cLine)
  (KX : (hd.heap_1 w.params).In base) (T : Top hd.view_39 (looseW hd.view_39 [Str.ofString "Outline"]) mean mg mb base)
  (F0 : Fr base L s.heap (kstB u [(Str.ofString "ahead", .ref AH), (Str.ofString "behind", .ref BH), (Str.ofString "code", .ref CO)]))
  (N0 : News base L s.heap ((S, listOf #[Value.int x tx, Value.int y ty] nS) :: (AH, listOf av.toArray nA) :: (BH, listOf bv.toArray nB) :: (CO, listOf cv.toArray nC) :: (T3, listOf #[Value.int 1 t1, Value.int 2 t2, Value.int 3 t3] 0) :: (L + 1, o1) :: (L + 1 + 1, o2) :: (L + 1 + 1 + 1, o3) :: (L + 1 + 1 + 1 + 1, o4) :: []))
  (d1 : o1.data = .cell (some (.ref S))) (d2 : o2.data = .cell (some (.ref T3))) (d3 : o3.data = .cell v3) (d4 : o4.data = .cell v4) (y0 : 0 ≤ y) (y1 : y < 2147483647)
  (iA : IntsAre av ai) (iB : IntsAre bv bi) (iC : IntsAre cv ci)
  (rB : ∀ n ∈ bi, 0 ≤ n ∧ n < 256) (rA : ∀ n ∈ ai, 0 ≤ n ∧ n < 256) (rC : ∀ n ∈ ci, 0 ≤ n ∧ n < 256)
  (lB : bi.length < 10) (lA : ai.length < 10) (lC : ci.length < 10)
  (aS : ∀ p ∈ (AH, listOf av.toArray nA) :: (BH, listOf bv.toArray nB) :: (CO, listOf cv.toArray nC) :: (T3, listOf #[Value.int 1 t1, Value.int 2 t2, Value.int 3 t3] 0) :: (L + 1, o1) :: (L + 1 + 1, o2) :: (L + 1 + 1 + 1, o3) :: (L + 1 + 1 + 1 + 1, o4) :: [], p.1 ≠ S)
  (a0 : @LT.lt Nat _ (L + 1 + 1 + 1 + 1) AH ∧ @LT.lt Nat _ (L + 1 + 1 + 1 + 1) BH ∧ @LT.lt Nat _ (L + 1 + 1 + 1 + 1) CO ∧ @LT.lt Nat _ (L + 1 + 1 + 1 + 1) T3)
  (k : ∀ h' tk' m' led, Fr base L h' m' → News base L h' led → Q (.ret (.bool true)) { s with heap := h', toks := tk' }) :
  wpAny (model PySem.Challenge.rw_xm0719_01.row.prog w) ((Ar dp un gd []).deeper (envOfC (Str.ofString "law") (lawScope w.params) L fa cd)) (execs ((lawBody w.params).drop 5) (envOfC (Str.ofString "law") (lawScope w.params) L fa cd)) Q E s := by
  have e1 := (rfl : lawScope w.params = lawScope w.params)
  conv at e1 => rhs; whnf
  have e2 := (rfl : (lawBody w.params).drop 5 = (lawBody w.params).drop 5)
  conv at e2 => rhs; whnf
  rw [e1, e2]
  clear e1 e2
  replace aS := NewAt.mk aS
  obtain ⟨b1, b2, b3, b4⟩ := a0
  have lA' := iA.length
  have lB' := iB.length
  have lC' := iC.length
  walk_at "c goQ"
  rename IsRange _ _ _ _ _ _ _ _ => hrg
  rename Fr _ _ _ _ => F7
  rename News _ _ _ _ => N7
  rename _ < (4 : Int) => hr4
  refine' blk_range (n := natOf hr4) (J := fun i ys nx => ∃ zs a b ta tb, nx = (S, listOf #[Value.int a ta, Value.int b tb] nS) :: ((AH, listOf av.toArray nA) :: (BH, listOf bv.toArray nB) :: (CO, listOf cv.toArray nC) :: (T3, listOf #[Value.int 1 t1, Value.int 2 t2, Value.int 3 t3] 0) :: (L + 1, o1) :: (L + 1 + 1, o2) :: (L + 1 + 1 + 1, o3) :: (L + 1 + 1 + 1 + 1, o4) :: []) ∧ (0 ≤ b ∧ b < 2147483647) ∧ IntsAre ys zs ∧ zs.length = i ∧ ∀ z ∈ zs, 1 ≤ z ∧ z ≤ 3) rfl hrg ?b3 ?b4 ?b5 ?b6 ?b7 F7 N7 ?hj ?hJl ?turn ?done
  case b3 => simp only [natOf]; omega
  case b4 => simp only [natOf]; omega
  case b5 => decide
  case b6 => rfl
  case b7 => rfl
  case hj => exact ⟨[], _, _, _, _, rfl, ⟨by assumption, by assumption⟩, .nil, rfl, fun _ q => nomatch q⟩
  case hJl =>
    rintro i ys nx ⟨zs, a, b, ta, tb, rfl, _, hZ, hzl, _⟩
    rw [hZ.length, hzl]
  case turn =>
    rintro i t ys k' nx h tk' I oI C' oC D mC hi nCo hCI hDI hCD aI aC aD ⟨zs, a, b, ta, tb, rfl, hb, hZ, hzl, hz3⟩ F9 N9 E'
    obtain ⟨hb0, hb1⟩ := hb
    have bI := NewAt.mk aI
    have bC := NewAt.mk aC
    have bD := NewAt.mk aD
    have c1 : Apt C' I := ⟨hCI⟩
    have c2 : Apt D I := ⟨hDI⟩
    have c3 : Apt C' D := ⟨hCD⟩
    clear F7 N7
    walk_at "c go"
    refine' BPost.intro ((S, listOf #[Value.int _ _, Value.int _ _] nS) :: ((AH, listOf av.toArray nA) :: (BH, listOf bv.toArray nB) :: (CO, listOf cv.toArray nC) :: (T3, listOf #[Value.int 1 t1, Value.int 2 t2, Value.int 3 t3] 0) :: (L + 1, o1) :: (L + 1 + 1, o2) :: (L + 1 + 1 + 1, o3) :: (L + 1 + 1 + 1 + 1, o4) :: [])) (by assumption) (by assumption) ?hs ?aI ?aC ?aD ⟨zs ++ [_], _, _, _, _, rfl, ?hbb, hZ.append (.cons _ _ .nil), by simp [hzl], ?hz⟩
    case hs =>
      repeat (refine List.forall_mem_cons.mpr ⟨by k_mem, ?_⟩)
      exact fun _ q => nomatch q
    case hbb => exact ⟨by assumption, by assumption⟩
    case aI => exact List.forall_mem_cons.mpr ⟨aI (S, listOf #[Value.int a ta, Value.int b tb] nS) (.head _), fun p hp => aI p (.tail _ hp)⟩
    case aC => exact List.forall_mem_cons.mpr ⟨aC (S, listOf #[Value.int a ta, Value.int b tb] nS) (.head _), fun p hp => aC p (.tail _ hp)⟩
    case aD => exact List.forall_mem_cons.mpr ⟨aD (S, listOf #[Value.int a ta, Value.int b tb] nS) (.head _), fun p hp => aD p (.tail _ hp)⟩
    case hz =>
      intro z hz
      rcases List.mem_append.mp hz with hz | hz
      · exact hz3 z hz
      · rw [List.mem_singleton.mp hz]
        omega
  case done =>
    rintro ys k' nx h tk' D C' oC mC ⟨zs, a, b, ta, tb, rfl, hb, hZ, hzl, hz3⟩ nCo hCD aC aD F9 N9
    k_dflt (refine' cp_none nCo hCD aC F9 N9 ?kk)
    case kk =>
      intro h8 F8 N8
      have bD := NewAt.mk aD
      clear F7 N7 F9 N9
      simp only [natOf] at hzl
      have lz := hZ.length
      have lz4 : zs.length < 4 := by omega
      walk_at "c goQ"
      rename IsRange _ _ _ _ _ _ _ _ => hrg2
      rename IntsAre ys zs => hZ
      rename Fr _ _ _ _ => F7
      rename News _ _ _ _ => N7
      refine' blk_range (n := zs.length) (J := fun i es nx => ∃ o9 : Obj, o9.data = .cell (some (.ref D)) ∧ nx = (D, listOf ys.toArray k') :: (S, listOf #[Value.int a ta, Value.int b tb] nS) :: (AH, listOf av.toArray nA) :: (BH, listOf bv.toArray nB) :: (CO, listOf cv.toArray nC) :: (T3, listOf #[Value.int 1 t1, Value.int 2 t2, Value.int 3 t3] 0) :: (L + 1, o1) :: (L + 1 + 1, o9) :: (L + 1 + 1 + 1, o3) :: (L + 1 + 1 + 1 + 1, o4) :: [] ∧ IntsAre es ((List.range i).map fun j => (zs.take (j + 1)).sum - 1)) rfl hrg2 rfl ?b4 ?b5 ?b6 ?b7 F7 N7 ?hj ?hJl ?turn2 ?done2
      case b4 => omega
      case b5 => decide
      case b6 => rfl
      case b7 => rfl
      case hj => exact ⟨_, by assumption, rfl, .nil⟩
      case hJl =>
        rintro i es nx ⟨o9, _, rfl, hE⟩
        rw [hE.length, List.length_map, List.length_range]
      case turn2 =>
        rintro i t es k2 nx h tk2 I oI C2 oC2 D2 mC2 hi2 nC2 hCI hDI hCD2 aI aC2 aD2 ⟨o9, d9, rfl, hE⟩ F9 N9 E'
        have bI := NewAt.mk aI
        have bC := NewAt.mk aC2
        have bD2 := NewAt.mk aD2
        have c1 : Apt C2 I := ⟨hCI⟩
        have c2 : Apt D2 I := ⟨hDI⟩
        have c3 : Apt C2 D2 := ⟨hCD2⟩
        clear F7 N7
        have iTk := hZ.take ((i : Int) + 1).toNat
        walk_at "c go"
        refine' BPost.intro ((D, listOf ys.toArray k') :: (S, listOf #[Value.int a ta, Value.int b tb] nS) :: (AH, listOf av.toArray nA) :: (BH, listOf bv.toArray nB) :: (CO, listOf cv.toArray nC) :: (T3, listOf #[Value.int 1 t1, Value.int 2 t2, Value.int 3 t3] 0) :: (L + 1, o1) :: (L + 1 + 1, o9) :: (L + 1 + 1 + 1, o3) :: (L + 1 + 1 + 1 + 1, o4) :: []) (by assumption) (by assumption) ?hs aI aC2 aD2 ⟨o9, d9, rfl, ?hE2⟩
        case hs =>
          repeat (refine List.forall_mem_cons.mpr ⟨by k_mem, ?_⟩)
          exact fun _ q => nomatch q
        case hE2 =>
          have hi1 : ((i : Int) + 1).toNat = i + 1 := by omega
          rw [List.range_succ, List.map_append]
          (try rw [hi1])
          exact hE.append (.cons _ _ .nil)
      case done2 =>
        rintro es k2 nx h tk2 D2 C2 oC2 mC2 ⟨o9, d9, rfl, hE⟩ nC2 hCD2 aC2 aD2 F9 N9
        k_dflt (refine' cp_none nC2 hCD2 aC2 F9 N9 ?kk2)
        case kk2 =>
          intro h10 F10 N10
          have bD2 := NewAt.mk aD2
          clear F7 N7 F9 N9
          walk_at "c goQ"
          rename Fr _ _ _ _ => F5
          rename News _ _ _ _ => N5
          refine' stageC2 (si := zs) (ei := (List.range zs.length).map fun j => (zs.take (j + 1)).sum - 1) hB K1 hroom hun KX T F5 (news_sub N5 ?nn) d1 d9 (by assumption) d4 hb.1 hb.2 iA iB iC hZ hE rB rA rC lB lA lC lz4 hz3 rfl ?aS ?a4 (fun h' tk' m' led F N => k h' tk' m' led F N)
          case nn =>
            repeat (refine List.forall_mem_cons.mpr ⟨by k_mem, ?_⟩)
            exact fun _ q => nomatch q
          case aS =>
            repeat (refine List.forall_mem_cons.mpr ⟨by (try dsimp only); k_ne, ?_⟩)
            exact fun _ q => nomatch q
          case a4 =>
            refine ⟨?_, ?_, ?_, ?_, ?_⟩ <;> first | k_ne | omega
end
section
open PySem PySem.W PySem.Calls PyProof.Rows PySem.SeqAt
-- XLawW
set_option maxRecDepth 100000
theorem lnXLawW_1 : True := by
  w_top off
  k_with_none
  (k_with "c enter" => (refine wpAny_call ?_; k_dflt (refine' enter (by assumption) (by first | assumption | exact use_nil) (by k_is) (by k_is) (by walk_at "c room") (by exact BindsTo.of_eq rfl) (by exact locs rfl) ?_ (by exact rfl) (by exact rfl) (by exact rfl) (by decide); k_whole; intro _ _ _ _ _ _ _ _ _ _ _ _ _ _; (try dsimp only); (try k_fold))))
  (k_with "c room" => first | assumption | decide | ((try simp only [depth_under_make, depth_under_kw, depth_in1, depth_deeper, depth_caller]); (try dsimp only [Ar]); first | exact room2 (by assumption) (by decide) | exact room1 (by assumption) (by decide) | exact room0 (by assumption) | omega))
  (k_with "c pick" => first | exact Pick.head | exact Pick.tail (by walk_at "c pick"))
  (k_with "c go" => repeat' (first | ((fail_if_success (with_reducible show wpAny _ _ (pyIter (Value.ref _)) _ _ _)); (fail_if_success (with_reducible show wpAny _ _ (exec (Stmt.While _ _ _ _) _) _ _ _)); first | (k_unfold; (try dsimp only)) | walk1 | (dsimp only; walk1))))
  (k_with "subscriptTail Name Constant ref int" => (k_here; (with_reducible show wpAny _ _ (subscriptTail _ _ (Value.ref _) (Value.int _ _)) _ _ _); (with_unfolding_all refine' my_item (by is_list) (by decide) (by decide) (by rfl) ?_ (by with_unfolding_all rfl); k_whole)))
  (k_with "call builtin:len" => (k_here; (with_reducible show wpAny _ _ (call (Value.builtin "len") [Value.ref _]) _ _ _); k_dflt (refine' my_len (by is_list) (by walk_at "c fit") ?_; k_whole)))
  (k_with "c via1" => (k_dflt (refine' via1 (by assumption) (by assumption) (by assumption) (by assumption) (by walk_at "c pick") (by k_all) (by first | exact rfl | assumption) ?_)))
  (k_with "c via0" => (k_dflt (refine' via0 (by assumption) (by assumption) (by assumption) (by assumption) (by first | exact rfl | assumption) ?_)))
  (k_with "c num" => first | assumption | decide | exact Int.natCast_nonneg _ | exact Nat.lt_of_lt_of_le (by assumption) (by decide) | exact size2 (by assumption) (by assumption) (by decide) | omega)
  (k_with "call ref" => (k_here; (with_reducible show wpAny _ _ (call (Value.ref 218) [Value.ref _, Value.int _ _]) _ _ _); walk_at "c via1"; intro cC cS cK; k_dflt (refine' take_spec cC cS (by walk_at "c num") (by walk_at "c num") (by walk_at "c num") (by walk_at "c num") (by walk_at "c room") ?_); clear cC cS; intro _ _ _ _ _ _ _ _ _ _ _ _ zzS zzW; (refine And.elim (fun _ zzN => ?_) (cK _ _ zzS zzW)); clear cK zzS zzW; (try dsimp only [List.cons_append, List.nil_append] at zzN); (try dsimp only); (try k_sweep)))
  (k_with "c fit" => first | assumption | exact Nat.le_of_ble_eq_true rfl | exact Nat.lt_of_lt_of_le (by assumption) (by decide) | exact size2 (by assumption) (by assumption) (by decide) | omega | ((simp only [List.length_cons, List.length_append, List.length_nil]); omega))
  (k_with "c itemN" => (k_here; (with_reducible show wpAny _ _ (subscriptTail _ _ (Value.ref _) (Value.int _ _)) _ _ _); (with_unfolding_all refine' my_itemN (by is_list) (by walk_at "c num") (by walk_at "c num") (by walk_at "c fit") ?_ (by with_unfolding_all rfl); k_whole)))
  (k_with "c end" => ((try k_unfold); (try dsimp only)))
  (k_with "c same" => exact same_of (by assumption) (by assumption))
  (k_with "c sub" => first | exact List.forall_mem_nil _ | exact fun _ h => h | exact List.forall_mem_cons.mpr ⟨by k_mem, by walk_at "c sub"⟩)
  (k_with "c now" => first | exact now_of (by assumption) (by assumption) | exact now_sub (by assumption) (by assumption) (by walk_at "c sub"))
  (k_with "c ints" => first | assumption | exact IntsAre.nil | exact IntsAre.cons _ _ IntsAre.nil | exact IntsAre.cons _ _ (IntsAre.cons _ _ IntsAre.nil) | exact IntsAre.cons _ _ (IntsAre.cons _ _ (IntsAre.cons _ _ IntsAre.nil)))
  (k_with "k_all" => first | exact all_ltS (by assumption) (by walk_at "c tail") | fail)
  (k_with "k_all" => first | exact List.forall_mem_nil _ | (refine' List.forall_mem_cons.mpr ⟨(by k_ne), (by k_all)⟩))
  (k_with "k_all" => first | (with_reducible assumption) | exact all_lt (by with_reducible assumption) | fail)
  (k_with "c lt" => first | assumption | exact lt_mem (by assumption) (by k_mem) | exact lt_mem2 (by assumption) (by assumption) (by k_mem) | exact Nat.lt_succ_self _ | exact Nat.lt_succ_of_lt (by walk_at "c lt"))
  (k_with "k_ne" => first | exact Apt.ne (by assumption) | exact (Apt.ne (by assumption)).symm | exact NewAt.ne (by assumption) (by k_mem) | exact (NewAt.ne (by assumption) (by k_mem)).symm | exact ne_gt (by assumption) (by k_mem) | exact ne_lt (by assumption) (by k_mem) | exact Nat.ne_of_gt (by walk_at "c lt") | exact Nat.ne_of_lt (by walk_at "c lt") | (refine neN ?_; (try dsimp only); omega))
  (k_with "k_mem" => first | exact lm0 | exact lm1 | exact lm2 | exact lm3 | (refine' lm4 ?_; k_mem))
  (k_with "le" => k_dflt (exact Nat.le_of_ble_eq_true rfl))
  (k_with "lt" => k_dflt (exact Nat.le_of_ble_eq_true rfl))
  (k_with "c size" => first | assumption | exact Nat.le_of_ble_eq_true rfl | exact Nat.lt_of_lt_of_le (by assumption) (by decide) | exact size2 (by assumption) (by assumption) (by decide) | omega | ((simp only [List.length_cons, List.length_append, List.length_nil]); omega))
  (k_with "call builtin:list.append" => (k_here; (with_reducible show wpAny _ _ (call (Value.builtin "list.append") [Value.ref _, _]) _ _ _); k_dflt (refine' my_append (by k_asm) (by k_asm) (by k_upd) (by walk_at "c size") ?_; k_whole); intro _ _ _; (try k_sweep)))
  (k_with "binaryOp Add ref ref" => (k_here; (with_reducible show wpAny _ _ (binaryOp Operator.Add (Value.ref _) (Value.ref _)) _ _ _); k_dflt (refine' my_addL (by k_asm) (by k_asm) (by is_list) (by is_list) (by walk_at "c size") ?_; k_whole); intro _ _ _ _ _; (try k_sweep)))
  (k_with "c tail" => (intro _ zzhp; repeat (first | exact zzhp | refine List.mem_cons_of_mem _ ?_)))
  (k_with "c rest" => (intro _ zzq1 zzq2 zzq3; (repeat (first | refine upd_ne zzq1 ?_ | refine upd_ne (ne_stored zzq3 (by decide +kernel)) ?_ | refine upd_ne (zzq2 (_, _) (by k_mem)) ?_ | exact kst_end zzq3 | refine kst_mid (not_in_cons (ne_stored zzq3 (by decide +kernel)) not_in_nil) ?_ | refine kst_ne (ne_stored zzq3 (by decide +kernel)) ?_ | refine kst_ne (zzq2 (_, _) (by k_mem)) ?_))))
  (k_with "c restW" => (intro _ zzq2 zzq3; (repeat (first | refine upd_ne (ne_stored zzq3 (by decide +kernel)) ?_ | refine upd_ne (zzq2 (_, _) (by k_mem)) ?_ | exact kst_end zzq3 | refine kst_mid (not_in_cons (ne_stored zzq3 (by decide +kernel)) not_in_nil) ?_ | refine kst_ne (ne_stored zzq3 (by decide +kernel)) ?_ | refine kst_ne (zzq2 (_, _) (by k_mem)) ?_))))
  (k_with "c ps" => first | exact List.forall_mem_nil _ | exact List.forall_mem_cons.mpr ⟨rfl, by walk_at "c ps"⟩)
  (k_with "c itemI" => (k_here; (with_reducible show wpAny _ _ (subscriptTail _ _ (Value.ref _) (Value.int _ _)) _ _ _); (with_unfolding_all refine' my_itemI (by is_list) (by with_reducible assumption) (by walk_at "c num") (by walk_at "c num") (by walk_at "c fit") ?_ (by with_unfolding_all rfl); k_whole); intro _))
  (k_with "exec Raise some none" => (k_here; k_dflt (refine' font_raise (by assumption) (by assumption) (by assumption) (by exact rfl) (by walk_at "c room") (by exact rfl) (by exact rfl) (by decide +kernel) ?_; intro _ _ _ _ _ _ _ _; (try k_unfold); (try dsimp only); refine' font_leave (by assumption) (by assumption) (by assumption) (by assumption) (by assumption) ?_ (by exact rfl); intro _ _ _; (try dsimp only))))
  (k_with "call type:bytes cons nil bytes" => (k_here; refine bb_call ?_))
  (k_with "call type:bytes" => (k_here; (with_reducible show wpAny _ _ (call (Value.type "bytes") [Value.bytes _ _]) _ _ _); refine bb_call ?_))
  (k_with "leaving ref" => (k_here; k_dflt (refine' leave_onSX (by assumption) (by assumption) (by assumption) (by assumption) ?_; k_whole); intro _ zzR zzU; (try dsimp only at zzR zzU ⊢)))
  (k_with "storeName" => (dsimp only; walk_at "storeName"))
  (k_with "execs cons" => (k_here; k_fold))
  (k_with "exec Assign" => (k_here; k_fold))
  (k_with "call ref" => (k_here; (with_reducible show wpAny _ _ (call (Value.ref 225) [Value.ref _, Value.ref _]) _ _ _); walk_at "c via1"; intro cC cS cK; k_dflt (refine' one_specI cC cS (by is_list) (by k_ne) (by walk_at "c fit") (by walk_at "c fit") (by rfl) (by walk_at "c num") (by walk_at "c num") (by walk_at "c room") ?_); clear cC cS; intro _ _ _ _ _ _ _ _ zzzm _ _ zzS zzW; (refine And.elim (fun _ zzN => ?_) (cK _ _ zzS zzW)); clear cK zzS zzW; (try simp only [List.filterMap_cons, List.filterMap_nil, intOf?, List.mem_cons, List.not_mem_nil, or_false] at zzzm); (try dsimp only [List.cons_append, List.nil_append] at zzN); (try dsimp only); (try k_sweep)))
  (k_with "c enterC" => (refine wpAny_call ?_; k_dflt (refine' enterC (by assumption) (by first | assumption | exact use_nil) (by k_is) (by k_is) (by walk_at "c room") (by exact BindsTo.of_eq rfl) (by exact rfl) (by decide +kernel) ?_ (by exact rfl) (by exact rfl) (by exact rfl); k_whole; intro _ _ _ _ _ _ _ _ _ _ _ _ zzN zzY _ _ _ _; k_cells zzY; (try dsimp only [List.cons_append, List.nil_append] at zzN); (try dsimp only); (try k_fold))))
  (k_with "c init" => (refine' code_def (by k_asm) (by k_asm) (by k_asm) (by k_asm) (by k_asm) (by exact rfl) (by exact rfl) (by exact rfl) (by k_is) (by k_is) (by walk_at "c room") (by first | exact BindsTo.of_eq rfl | exact binds_K (by k_in) rfl (by k_is) rfl rfl rfl) (by exact locs rfl) ?_ (by exact rfl) (by exact rfl) (by exact rfl) (by decide); k_whole; intro _ _ _ _ _ _ zzB _ _; (try dsimp only); (try k_lift zzB); (try k_fold)))
  (k_with "call ref" => (k_here; k_dflt (refine' call_cls (by k_asm) (by k_asm) (by k_asm) (by k_is) (by k_is) (by k_is) ?_; k_whole; intro _ _ _ _ _ _ _; (try k_sweep); walk_at "c init")))
  (k_with "call ref" => (k_here; (with_reducible show wpAny _ _ (call (Value.ref 199) [Value.ref _, Value.int _ _]) _ _ _); walk_at "c via2E"; intro cC cO cD cn cF cK; (refine' ends_spec cC cO cD cn (by assumption) (by walk_at "c num") (by walk_at "c num") (by walk_at "c num") (by walk_at "c num") (by walk_at "c num") (by walk_at "c room") (by walk_at "c units") ?_ ?_); (all_goals first | (intro _ _ _ _ _ _ _ _ _ _ _ _ _ _ zzS zzW zzfO zzfd; (with_reducible rename News _ _ _ _ => zznO); (have zzhn1 := NewAt.mk (apart_new zznO (now_atU zzW (.tail _ (.tail _ (.head _))) (notin2 zzfO zzfd)))); (try dsimp only at zzhn1); (refine And.elim (fun _ zzN => ?_) (cK _ _ zzS zzW)); clear cK cC cO cD cn cF zzS zzW zznO; (try dsimp only [List.cons_append, List.nil_append] at zzN); (try dsimp only); (try k_sweep)) | (clear cC cO cD cn cK; walk_at "c fault"))))
  (k_with "call ref" => (k_here; (with_reducible show wpAny _ _ (call (Value.ref 185) [Value.ref _, Value.int _ _]) _ _ _); walk_at "c via2E"; intro cC cO cD cn cF cK; (refine' flags_spec cC cO cD cn (by assumption) (by walk_at "c num") (by walk_at "c num") (by walk_at "c num") (by walk_at "c num") (by walk_at "c num") (by walk_at "c room") ?_ ?_); (all_goals first | (intro _ _ _ _ _ _ _ _ _ _ _ _ _ zzS zzW zzfO zzfd; (with_reducible rename News _ _ _ _ => zznO); (have zzhn1 := NewAt.mk (apart_new zznO (now_atU zzW (.tail _ (.tail _ (.head _))) (notin2 zzfO zzfd)))); (try dsimp only at zzhn1); (refine And.elim (fun _ zzN => ?_) (cK _ _ zzS zzW)); clear cK cC cO cD cn cF zzS zzW zznO; (try dsimp only [List.cons_append, List.nil_append] at zzN); (try dsimp only); (try k_sweep)) | (clear cC cO cD cn cK; walk_at "c fault"))))
  (k_with "call ref" => (k_here; (with_reducible show wpAny _ _ (call (Value.ref 192) [Value.ref _, Value.ref _, Value.int _ _, Value.int _ _]) _ _ _); walk_at "c via2E"; intro cC cO cD cn cF cK; (refine' deltas_spec cC cO cD cn (by assumption) (by walk_at "c num") (by walk_at "c num") (by walk_at "c num") (by is_list) (by exact ⟨by k_ne, by k_ne⟩) (by with_reducible assumption) (by walk_at "c num") (by walk_at "c room") ?_ ?_); (all_goals first | (intro _ _ _ _ _ _ _ _ _ _ _ _ _ zzS zzW zzfO zzfd; (with_reducible rename News _ _ _ _ => zznO); (have zzhn1 := NewAt.mk (apart_new zznO (now_atU zzW (.tail _ (.tail _ (.head _))) (notin2 zzfO zzfd)))); (try dsimp only at zzhn1); (refine And.elim (fun _ zzN => ?_) (cK _ _ zzS zzW)); clear cK cC cO cD cn cF zzS zzW zznO; (try dsimp only [List.cons_append, List.nil_append] at zzN); (try dsimp only); (try k_sweep)) | (clear cC cO cD cn cK; walk_at "c fault"))))
  (k_with "c units" => (dsimp only [Around.deeper, Ar]; first | exact room2 (by assumption) (by decide) | exact room1 (by assumption) (by decide) | omega))
  (k_with "eval Name" => (k_here; (with_reducible show wpAny _ _ (eval (PySem.Expr.Name _ _) (compEnvC _ _ _ _)) _ _ _); k_dflt (refine' blkB (by rfl) (by rfl) (by rfl) (by rfl) (by decide) (by k_asm) (by k_asm) (by k_asm) (by k_is) (by boot_by_name) (by decide) ?_; k_whole)))
  (k_with "eval Name" => (k_here; (with_reducible show wpAny _ _ (eval (PySem.Expr.Name _ _) (compEnvC _ _ _ _)) _ _ _); k_dflt (refine' blkK (by rfl) (by rfl) (by rfl) (by decide) (by k_asm) (by k_asm) (by k_asm) (by k_is) ?_; k_whole)))
  (k_with "eval Name" => (k_here; (with_reducible show wpAny _ _ (eval (PySem.Expr.Name _ _) (compEnvC _ _ _ _)) _ _ _); k_dflt (refine' blkC (by rfl) (by rfl) (by decide) (by k_asm) (by rfl) (by k_mem) (by k_asm) ?_; k_whole)))
  (k_with "eval Name" => (k_here; (with_reducible show wpAny _ _ (eval (PySem.Expr.Name _ _) (compEnvC _ _ _ _)) _ _ _); k_dflt (refine' blkL (by rfl) (by rfl) (by decide) (by k_asm) (by with_reducible assumption) (by k_mem) (by exact if_pos rfl) ?_; k_whole)))
  (k_with "compareOp NotEq ref ref" => (k_here; (with_reducible show wpAny _ _ (compareOp CmpOp.NotEq (Value.ref _) (Value.ref _)) _ _ _); (with_unfolding_all refine' ne_intsK (by is_list) (by with_reducible assumption) (by is_list) (by exact IntsAre.nil) (by dsimp only [Around.deeper, Ar]; first | exact room2 (by assumption) (by decide) | exact room1 (by assumption) (by decide) | omega) ?_; k_whole)))
  (k_with "subscriptTail Name" => (k_here; (with_reducible show wpAny _ _ (subscriptTail _ _ (Value.ref _) (Value.int (-1) _)) _ _ _); k_dflt (with_unfolding_all refine' my_lastI (by is_list) (by with_reducible assumption) (by refine List.length_pos_iff.mpr ?_; simp_all only [Bool.not_eq_true', decide_eq_false_iff_not, ne_eq, not_false_eq_true]) (by omega) ?_ (by with_unfolding_all rfl); k_whole); intro _))
  (k_with "exec Assign cons ListComp" => (k_here; k_dflt (refine' comp_assign (by with_unfolding_all rfl) (by with_unfolding_all rfl) (by rfl) (by decide) ?_ (by intro _; with_unfolding_all rfl); k_whole)))
  (k_with "eval ListComp" => (k_here; k_dflt (refine' comp_open (by with_unfolding_all rfl) (by rfl) (by decide) ?_ (by intro _; with_unfolding_all rfl); k_whole)))
  (k_with "c goI" => repeat' (first | ((fail_if_success (with_reducible show wpAny _ _ (pyIter (Value.ref _)) _ _ _)); (fail_if_success (with_reducible show wpAny _ _ (exec (Stmt.While _ _ _ _) _) _ _ _)); (fail_if_success (with_reducible show wpAny _ _ (eval (PySem.Expr.IfExp _ _ _ _) _) _ _ _)); first | (k_unfold; (try dsimp only)) | walk1 | (dsimp only; walk1))))
  (k_with "call ref" => (k_here; (with_reducible show wpAny _ _ (call (Value.ref 232) [Value.int _ _]) _ _ _); walk_at "c via0"; intro cC cK; k_dflt (refine' word_spec cC (by walk_at "c room") ?_); clear cC; intro _ _ _ _ _ zzS zzW; (with_reducible rename News _ _ _ _ => zznO); (have zzhn1 := NewAt.mk (apart_new zznO (now_new zzW))); (try dsimp only at zzhn1); (refine And.elim (fun _ zzN => ?_) (cK _ _ zzS zzW)); clear cK zzS zzW zznO; (try dsimp only [List.cons_append, List.nil_append] at zzN); (try dsimp only); (try k_sweep)))
  (k_with "call ref" => (k_here; (with_reducible show wpAny _ _ (call (Value.ref 211) [Value.ref _]) _ _ _); walk_at "c via0"; intro cC cK; (refine' pool_spec cC (by is_list) (by with_reducible assumption) (by walk_at "c num") (by walk_at "c room") ?_); clear cC; intro _ _ _ _ _ _ _ _ _ zzS zzW; (with_reducible rename News _ _ _ _ => zznO); (have zzhn1 := NewAt.mk (apart_new zznO (now_new zzW))); (try dsimp only at zzhn1); (refine And.elim (fun _ zzN => ?_) (cK _ _ zzS zzW)); clear cK zzS zzW zznO; (try dsimp only [List.cons_append, List.nil_append] at zzN); (try dsimp only); (try k_sweep)))
  (k_with "c goL" => repeat' (first | ((fail_if_success (with_reducible show wpAny _ _ (pyIter (Value.ref _)) _ _ _)); (fail_if_success (with_reducible show wpAny _ _ (call (Value.ref 267) _) _ _ _));  first | (k_unfold; (try dsimp only)) | walk1 | (dsimp only; walk1))))
  (k_with "subscriptTail Name Slice ref ref" => k_dflt (k_here; (with_reducible show wpAny _ _ (subscriptTail _ (PySem.Expr.Slice _ _ none _) (Value.ref _) (Value.ref _)) _ _ _); k_dflt (refine' my_slice (by k_asm) (by k_asm) (by is_list) (by kmk_part) (by kmk_part) (by first | exact take_pick (by walk_at "c num") | exact mid_pick (by walk_at "c num") (by walk_at "c num") | exact but1_pick | exact last2_pick) ?_ (by with_unfolding_all rfl) (by walk_at "c fit")); intro _ _ _ zzN _; (try simp only [Int.reduceNeg] at zzN); (try k_sweep)))
  (k_with "subscriptTail List Slice ref ref" => k_dflt (k_here; (with_reducible show wpAny _ _ (subscriptTail _ (PySem.Expr.Slice _ _ none _) (Value.ref _) (Value.ref _)) _ _ _); k_dflt (refine' my_slice (by k_asm) (by k_asm) (by is_list) (by kmk_part) (by kmk_part) (by first | exact take_pick (by walk_at "c num") | exact mid_pick (by walk_at "c num") (by walk_at "c num") | exact but1_pick | exact last2_pick) ?_ (by with_unfolding_all rfl) (by walk_at "c fit")); intro _ _ _ zzN _; (try simp only [Int.reduceNeg] at zzN); (try k_sweep)))
  (k_with "subscriptTail" => k_dflt (k_here; (with_reducible show wpAny _ _ (subscriptTail _ (PySem.Expr.Slice _ _ none _) (Value.ref _) (Value.ref _)) _ _ _); k_dflt (refine' my_slice (by k_asm) (by k_asm) (by is_list) (by kmk_part) (by kmk_part) (by first | exact take_pick (by walk_at "c num") | exact mid_pick (by walk_at "c num") (by walk_at "c num") | exact but1_pick | exact last2_pick) ?_ (by with_unfolding_all rfl) (by walk_at "c fit")); intro _ _ _ zzN _; (try simp only [Int.reduceNeg] at zzN); (try k_sweep)))
  (k_with "c goM" => repeat' (first | ((fail_if_success (with_reducible show wpAny _ _ (pyIter (Value.ref _)) _ _ _)); (fail_if_success (with_reducible show wpAny _ _ (call (Value.ref 267) _) _ _ _)); (fail_if_success (with_reducible show wpAny _ _ (eval (PySem.Expr.IfExp _ _ _ _) _) _ _ _)); first | (k_unfold; (try dsimp only)) | walk1 | (dsimp only; walk1))))
  (k_with "c goS" => repeat' (first | ((fail_if_success (with_reducible show wpAny _ _ (pyIter (Value.ref _)) _ _ _)); (fail_if_success (with_reducible show wpAny _ _ (execs (Stmt.If _ _ _ _ :: _) _) _ _ _)); first | (k_unfold; (try dsimp only)) | walk1 | (dsimp only; walk1))))
  trivial
theorem exp_first : Exp 1 [0, 2, 0, 1, 7, 59, 1, 20, 10, 10, 5] 0 [[(10, 0, true), (20, 0, true), (20, -5, false)]] [7] 11 := by
  refine .inr ⟨fun h => (by decide : (1 : Nat) ≠ 0) h.1, ⟨[2], [7], [59, 59, 20], [10, 20, 20], [0, 0, -5]⟩, [], ?_, ?_, ?_, ?_⟩
  · rfl
  · decide
  · rfl
  · rfl
theorem lnXLawW_2 : True := by
  (k_with "c goX" => repeat' (first | ((fail_if_success (with_reducible show wpAny _ _ (execs (Stmt.Assign [_] (PySem.Expr.ListComp _ [_] _ _) _ :: _) _) _ _ _)); first | (k_unfold; (try dsimp only)) | walk1 | (dsimp only; walk1))))
  trivial
set_option maxHeartbeats 3000000 in
theorem law_walk : PySem.Challenge.rw_xm0719_01.Holds := by
  refine hd ?_
  k_go0
  all_goals try k_fold
  rename Frag.In _ _ => KX
  rename Top _ _ _ _ _ _ => T
  rename Below _ _ _ _ => K0
  rename IntsAre _ _ => hI
  rename Heap.IsList _ _ _ => hL
  rename CellsAre _ _ _ => X0
  rename Fr _ _ _ _ => F0
  rename News _ _ _ _ => N0
  rename ¬_ < _ => hlen
  have hB : Bs _ _ _ _ _ := ⟨KX, T⟩
  have K1 := below_at F0 K0
  clear K0
  obtain ⟨dp, un, gd, eA, hroom, hun⟩ : ∃ dp un gd, callerA = Ar dp un gd [] ∧ dp + 60 < recursionLimit ∧ un + 1000 < cLine := ⟨_, _, _, rfl, by decide +kernel, by decide +kernel⟩
  rw [eA] at K1
  rw [eA]
  walk_at "c goL"
  rename Fr _ _ _ _ => F1
  rename News _ _ _ _ => N1
  k_dflt (refine' viaT hB ?hBB F1 N1 ?hk1 ?kk1)
  case hBB => exact K1
  case hk1 => exact rfl
  case kk1 =>
    intro cC cK
    have M1 := fun p (hp : p ∈ _) => (N1 p hp).1
    refine' is_read_spec (N := 1) (ti := [0, 2, 0, 1, 7, 59, 1, 20, 10, 10, 5]) cC ?hT ?hI ?hr ?hlen ?ha0 ?ha1 ?hN ?hN1 ?hroom ?hun ?hdue ?kfin
    case hT => exact ⟨_, M1 (_, listOf _ 0) (by k_mem), rfl, _, rfl⟩
    case hI => repeat constructor
    case hr => decide
    case hlen => decide
    case ha0 => decide
    case ha1 => decide
    case hN => rfl
    case hN1 => decide
    case hroom => walk_at "c room"
    case hun => walk_at "c units"
    case hdue =>
      refine .inr ⟨_, _, _, _, rfl, ⟨_, _, _, _, _, _, isTuple_of (vs := [_, _]) (M1 (_, tupOf [_, _] 0) (by k_mem)), isTuple_of (vs := [_, _]) (M1 (_, tupOf [_, _] 0) (by k_mem)), ?_, isTuple_of (vs := [_]) (M1 (_, tupOf [_] 0) (by k_mem)), .cons ⟨_, _, rfl, isTuple_of (vs := [_, _, _]) (M1 (_, tupOf [_, _, _] 0) (by k_mem)), .cons ⟨_, _, _, rfl, isTuple_of (vs := [_, _, _]) (M1 (_, tupOf [_, _, _] 0) (by k_mem))⟩ (.cons ⟨_, _, _, rfl, isTuple_of (vs := [_, _, _]) (M1 (_, tupOf [_, _, _] 0) (by k_mem))⟩ (.cons ⟨_, _, _, rfl, isTuple_of (vs := [_, _, _]) (M1 (_, tupOf [_, _, _] 0) (by k_mem))⟩ .nil))⟩ .nil⟩, exp_first⟩
      rfl
    case kfin =>
      intro h2 tk2 S2
      obtain ⟨F2, N2⟩ := cK _ S2
      clear cC cK M1 N1 F1
      iterate 9 (replace N2 := news_tl N2)
      walk_at "c goX"
      rename Fr _ _ _ _ => F4
      rename News _ _ _ _ => N4
      obtain ⟨u, F5⟩ := fr_known [(Str.ofString "ahead", .ref _), (Str.ofString "behind", .ref _), (Str.ofString "code", .ref _)] F4 (by refine List.forall_mem_cons.mpr ⟨rfl, List.forall_mem_cons.mpr ⟨rfl, List.forall_mem_cons.mpr ⟨rfl, fun _ q => nomatch q⟩⟩⟩)
      refine' stageC1 (iA := IntsAre.take (.cons 9 _ (.cons 9 _ .nil)) _) (iB := IntsAre.take (.cons 9 _ (.cons 9 _ .nil)) _) (iC := IntsAre.take (.cons 176 _ (.cons 1 _ (.cons 2 _ .nil))) _) hB K1 hroom hun KX T F5 (news_sub N4 ?nn) ?d1 ?d2 ?d3 ?d4 ?y0 ?y1 ?rB ?rA ?rC ?lB ?lA ?lC ?aS ?a0 ?kf
      case nn =>
        repeat (refine List.forall_mem_cons.mpr ⟨by k_mem, ?_⟩)
        exact fun _ q => nomatch q
      case d1 => assumption
      case d2 => assumption
      case d3 => assumption
      case d4 => assumption
      case y0 => assumption
      case y1 => assumption
      case rB =>
        intro n hn
        have q := List.mem_of_mem_take hn
        simp only [List.mem_cons, List.not_mem_nil, or_false] at q
        omega
      case rA =>
        intro n hn
        have q := List.mem_of_mem_take hn
        simp only [List.mem_cons, List.not_mem_nil, or_false] at q
        omega
      case rC =>
        intro n hn
        have q := List.mem_of_mem_take hn
        simp only [List.mem_cons, List.not_mem_nil, or_false] at q
        omega
      case lB => simp only [List.length_take, List.length_cons, List.length_nil]; omega
      case lA => simp only [List.length_take, List.length_cons, List.length_nil]; omega
      case lC => simp only [List.length_take, List.length_cons, List.length_nil]; omega
      case aS =>
        repeat (refine List.forall_mem_cons.mpr ⟨by (try dsimp only); k_ne, ?_⟩)
        exact fun _ q => nomatch q
      case a0 =>
        refine ⟨?_, ?_, ?_, ?_⟩ <;> first | walk_at "c lt" | omega | assumption
      case kf =>
        intro h' tk' m' led F N
        show GoodW _ _ _ _ _ (.ok (.ret (.bool true))) _
        first | (refine goodW_bool F (by assumption) (raisesW_false ?_) ?_; (· wrow_none_raised); (· kc_post)) | (refine goodW_bool F (by assumption) (raisesW_false ?_) ?_)
end
end Mine
set_option maxRecDepth 100000 in
set_option maxHeartbeats 8000000 in
theorem PySem.Challenge.cw_xm0719_01_holds : PySem.Challenge.rw_xm0719_01.Holds :=
  Mine.law_walk
