import PyProof.Rows.All
import Wide.All
import OpenK.AllK
import Wide.FinOn
import PyProof.ExcInit
import PyProof.ExcBaseAll.Exception
import PyProof.InstStoreFacts
import PySem.Challenge.RW_pb0236_01
set_option Elab.async false
set_option maxRecDepth 100000
set_option linter.all false
section
open PySem PySem.W PyProof.Rows
namespace Mine
set_option maxHeartbeats 8000000
theorem left_of_tree {p q : Program} {loose : List Str} {Xt : Shared → Bool} {α : Type} {Yf : Shared → α} {Ya : World → α} {N n₁ n₂ n₃ m₀ : Nat} {g0 : Bool} {ann : Option Value} {env : Env} {b : List Stmt} {c : Code} {pos q₀ : Pos} {sA : World → OsState → SharedT}
    (e : opening p = plainProg p.main.scope.names) (hN : Nat.ble 600 N = true) (f : ∀ s, fenceModules? p s = some s) (hc : c = .body b env)
    (size : ∀ w : World, ((boot_heap w.params).isNs mainGlobals && (Array.mk [] : Array GenState).size == 0, (boot_heap w.params).objs.size, (boot_heap w.params).nsMap mainGlobals "__annotations__") = (true, m₀, ann))
    (le : Nat.ble (n₁ + (1 + (n₂ + n₃))) N = true)
    (pre : ∀ w os, topGo treeTable p w m₀ ann n₁ ⟨boot_heap w.params, Array.mk [], boot_drawn, boot_toks, os⟩ (topStub p) = some ((sA w os).abs, ⟨denote treeTable (.body b env), c, pos, [topFrame q₀]⟩))
    (block : ∀ w os, segRun treeTable p w m₀ ann 1 1 (sA w os).abs (blockOf b env c pos [topFrame q₀]) = some (.next, (sA w os).abs, c, pos))
    (run : ∀ w os, ((segRunT treeTable p w m₀ ann 1 n₂ (sA w os) ⟨(execs b env).wrap doneF deadEnd id id, c, pos, [topFrame q₀]⟩).bind fun r => topRun treeTable p w m₀ ann n₃ r.2.1.abs ⟨doneF r.1, r.2.2.1, r.2.2.2, [topFrame q₀]⟩).map
      (fun s => ((staticsOk (importedModules p.main.body) (boot_heap w.params) s.heap && namesBound p s.heap && gensDone s && laidKept (boot_heap w.params) s.heap), openSeen q loose (importedModules p.main.body) Xt g0 s, Yf s)) = some (true, openGood q loose, Ya w)) :
    LeftO p q loose Xt Yf Ya N g0 := fun w => by
  subst hc
  obtain ⟨⟨h, gs, d, k, os⟩, o1, o2⟩ := Option.map_eq_some_iff.mp (boot_open e hN f w)
  obtain ⟨rfl, rfl, rfl, rfl⟩ : h = boot_heap w.params ∧ gs = Array.mk [] ∧ d = boot_drawn ∧ k = boot_toks := by simpa using o2
  obtain ⟨z1, z2, z3⟩ : _ ∧ _ ∧ _ := by simpa only [Prod.mk.injEq] using size w
  obtain ⟨s, r1, r2⟩ := Option.map_eq_some_iff.mp (run w os)
  obtain ⟨⟨fl, sT, c', p'⟩, r3, r4⟩ := Option.bind_eq_some_iff.mp r1
  obtain ⟨l1, l2, l3⟩ : _ ∧ _ ∧ _ := by simpa only [Prod.mk.injEq] using r2
  obtain ⟨a, ha, hr⟩ := seg_top (res := id) (K' := doneF) (H' := leaveH env) (B := [topFrame q₀]) rfl n₂ (sA w os).abs (piecesOf b env (.body b env) pos [topFrame q₀])
    (restOf b env (.body b env) pos [topFrame q₀]) _ _ _ _ ⟨rfl, rfl, .inl ⟨rfl, rfl, _, rfl, rfl⟩⟩ (segRun_of r3)
  obtain rfl : a = fl := ha
  have t := go_top (pre w os) (piece_block (block w os) (hr _ _ r4))
  have t := topRun_mono (N - (n₁ + (1 + (n₂ + n₃)))) _ _ _ _ t
  rw [show n₁ + (1 + (n₂ + n₃)) + (N - (n₁ + (1 + (n₂ + n₃)))) = N by have := Nat.le_of_ble_eq_true le; omega] at t
  have t : topFrom treeTable p w N ⟨boot_heap w.params, Array.mk [], boot_drawn, boot_toks, os⟩ = some s := by
    unfold topFrom
    dsimp only
    rw [z1, z2, z3, t]
    show (match staticsOk (importedModules p.main.body) (boot_heap w.params) s.heap && namesBound p s.heap && gensDone s && laidKept (boot_heap w.params) s.heap with | true => _ | false => _) = _
    rw [l1]
  unfold openEnds
  rw [o1]
  show (topFrom treeTable p w N _).map _ = _
  rw [t]
  exact congrArg some (Prod.ext l2 l3)
def pr : Program := Challenge.rw_pb0236_01.row.toRowW.prog
def bd : List Stmt := behindTheImports Challenge.rw_pb0236_01.row.toRowW.prog
def p0 : Pos := { line := 0, col := 0, endLine := 0, endCol := 0 }
def o11 : Obj := { cls := .type "tuple", data := .seq (Array.mk []) }
def o12 : Obj := { cls := .none, data := .fields (Array.mk []) }
def o13 : Obj := { cls := .type "code", data := .fields (Array.mk [.str "<module>" 182, .str "<module>" 183, .str "/claim/cut.py" 184, .int 1 0, .int 0 0, .int 0 0, .int 0 0, .int 0 0, .ref 11, .bool false, .int 181 0, .ref 12, .none, .none, .none, .none, .int 185 0, .int 1 0, .str "/claim/cut.py" 186]) }
def o14 : Obj := { cls := .type "frame", slots := Array.mk [some (.ref 13), some (.ref 3), some (.ref 3), none, some (.str "__main__" 164), none, some (.ref 0)] }
noncomputable def t15 (P : Params) : BT := .node (boot_o_0 P)
  (.node (boot_o_1 P) (.node (boot_o_3 P) (.node (boot_o_7 P) .nil .nil) (.node o11 .nil .nil)) (.node (boot_o_5 P) (.node (boot_o_9 P) .nil .nil) (.node o13 .nil .nil)))
  (.node (boot_o_2 P) (.node (boot_o_4 P) (.node (boot_o_8 P) .nil .nil) (.node o12 .nil .nil)) (.node (boot_o_6 P) (.node (boot_o_10 P) .nil .nil) (.node o14 .nil .nil)))
noncomputable def sA (w : World) (os : OsState) : SharedT := ⟨t15 w.params, 15, {}, Array.mk [], {}, 187, os⟩
def env : Env := { scope := Challenge.rw_pb0236_01.row.toRowW.prog.main.scope, locals := mainNs, globals := mainNs, cells := [], code := .ref 13, frame := some 14 }
theorem h1 : opening Challenge.rw_pb0236_01.row.toRowW.prog = plainProg Challenge.rw_pb0236_01.row.toRowW.prog.main.scope.names := rfl
theorem h2 : ∀ s, fenceModules? Challenge.rw_pb0236_01.row.toRowW.prog s = some s := fun _ => rfl
theorem h3 : ∀ w : World, ((boot_heap w.params).isNs mainGlobals && (Array.mk [] : Array GenState).size == 0, (boot_heap w.params).objs.size, (boot_heap w.params).nsMap mainGlobals "__annotations__") = (true, 11, some (Value.ref 6)) := fun w => by kernel_rfl
theorem h4 : ∀ w os, topGo treeTable Challenge.rw_pb0236_01.row.toRowW.prog w 11 (some (Value.ref 6)) 12 ⟨boot_heap w.params, Array.mk [], boot_drawn, boot_toks, os⟩ (topStub Challenge.rw_pb0236_01.row.toRowW.prog) = some ((sA w os).abs, ⟨denote treeTable (.body bd env), .body bd env, p0, [topFrame p0]⟩) := fun w os => by
  rw [PySem.W.Fast.te14364793385576792824]; kernel_rfl
theorem h5 : ∀ w os, segRun treeTable Challenge.rw_pb0236_01.row.toRowW.prog w 11 (some (Value.ref 6)) 1 1 (sA w os).abs (blockOf bd env (.body bd env) p0 [topFrame p0]) = some (.next, (sA w os).abs, .body bd env, p0) := fun w os => by kernel_rfl
def view : Program := { (Challenge.rw_pb0236_01.row.toRowW.prog) with main := { (Challenge.rw_pb0236_01.row.toRowW.prog).main with body := [1, 2, 4, 5, 6, 7, 9, 10, 11, 12, 13, 14, 16, 17, 19, 20, 21, 22, 23, 24, 26, 28, 30, 31, 32, 33].filterMap fun i => (Challenge.rw_pb0236_01.row.toRowW.prog).main.body[i]? } }
set_option hygiene false in
local macro_rules | `(tactic| o_head $H) => `(tactic| (refine holds_open (q := Mine.view) (loose := [Str.ofString "LedgerError", Str.ofString "decimal", Str.ofString "quotient"]) (Xt := fun s => xlAt Mine.view [] s && recOk (RowW.records (Challenge.rw_pb0236_01.row.toRowW)) s) (XP := XL Mine.view []) (Yf := Hook.obs $H) (Ya := Hook.val $H) (YP := Hook.says $H) (N := 4320) ?hl (Hook.of $H) (Hook.keeps $H) (fun s e => xl_of s (Bool.and_eq_true_iff.mp e).1) XL.keeps (by rfl) (by rfl) (by rfl) (fun s e => recFacts_of (Bool.and_eq_true_iff.mp e).2) (by rfl) (by first | assumption | decide +kernel) (by decide +kernel) ⟨rfl, rfl, rfl, rfl, rfl, by decide +kernel⟩ ?hw ?hc; (case hl => (refine left_of_tree (n₁ := 12) (n₂ := 2200) (n₃ := 50) h1 rfl h2 rfl h3 rfl h4 h5 ?_; intro w os; rw [PySem.W.Fast.te10110043849684766642, PySem.W.Fast.te14082659384304107361, PySem.W.Fast.te14364793385576792824, PySem.W.Fast.te12563942051412417395, PySem.W.Fast.te4187177175401517315, PySem.W.Fast.te5923862056798008813]; kernel_rfl))))
open_top hd for PySem.Challenge.rw_pb0236_01
end Mine
end
section
open PySem PySem.W PyProof.Rows PySem.Calls
namespace Mine
section
variable {M : Model} {A : Around} {E : Value → Shared → Prop} {env : Env} {K : Frag}
theorem raise_inst {s : Shared} {x : Sem Value} {C : Addr} {Q : Flow → Shared → Prop} (q : ktsIn K C "BaseException" = true) (hh : A.handled = none)
    (h : wpAny M A x (fun v s₁ => ∃ e oe t, v = .ref e ∧ K.In s₁.heap ∧ s₁.heap.get? e = some oe ∧ oe.cls = .ref C ∧ oe.data = .fields #[.ref t, .none, .none, .none, .bool false, .none] ∧ E (.ref e) s₁) E s) :
    wpAny M A (raiseStmt env (some x) none) Q E s := by
  unfold raiseStmt
  refine wpAny_bind (wpAny_mono h (fun v s₁ h₁ => ?_) fun _ _ x => x)
  obtain ⟨e, ⟨oc, od, odt, osl⟩, t, rfl, X, he, hcls, hdat, hE⟩ := h₁
  dsimp only at hcls hdat
  subst hcls hdat
  obtain ⟨nm, qn, N, bs, bm, hdct, sn, sub, ab, col, dd, k0, k1, k2, k3, k5, newId, hC, hb, _⟩ := kts_cls X q
  have hcB : (Value.ref C :: bm).contains (.type "BaseException") = true := by rw [List.contains_cons, hb, Bool.or_true]
  obtain ⟨hp, g, d, tk, os⟩ := s₁
  repeat (first | with_reducible refine wpAny_loadPart_at he ?_ | with_reducible refine wpAny_loadPart_at hC ?_ | (with_reducible refine wpAny_isSubtype_exc hC ?_; rw [hcB]) | wp_step)
  exact wpAny_raiseNew_none hh hE
end
end Mine
end
section
open PySem PySem.W PyProof.Rows PySem.Calls
namespace Mine
section
variable {prog : Program} {w : World} {A : Around} {R : Result → Shared → Prop} {E : Value → Shared → Prop} {h : Heap} {g : Array GenState} {d : Drawn} {t : Nat} {os : OsState}
variable {nm q : Str} {C N : Addr} {bs bm bmB : List Value} {hdct : Bool} {sn : List Str} {sub : List Value} {ab : Bool} {col : Option Bool} {dd : Option Addr} {k0 k1 k2 k3 k5 : Option Value} {B newId initId : String}

theorem exc_new (F : ExcBaseFacts B newId initId bmB) (hb : bm.contains (.type B) = true) (ha : bm.contains (.type "AttributeError") = false) (hn : bm.contains (.type "NameError") = false) {rest : List Value}
    (hC : h.get? C = some (excClassObj nm q C N bs bm hdct sn sub ab col dd k0 k1 k2 k3 k5 newId))
    (hq : R (.ok (.ret (.ref (h.objs.size + 1)))) ⟨(h.push { cls := .type "tuple", data := .seq rest.toArray }).push
      { cls := .ref C, data := .fields #[.ref h.objs.size, .none, .none, .none, .bool false, .none] }, g, d, t, os⟩) (hrest : rest.length ≤ sizeLine) :
    codeAny (model prog w) A (.call (.builtin newId) ⟨.ref C :: rest, []⟩) R ⟨h, g, d, t, os⟩ := by
  have hends := F.ends
  have hstar := F.noStar
  have cB : (Value.ref C :: bm).contains (.type B) = true := by rw [List.contains_cons, hb, Bool.or_true]
  have cA : (Value.ref C :: bm).contains (.type "AttributeError") = false := by rw [List.contains_cons, ha]; rfl
  have cN : (Value.ref C :: bm).contains (.type "NameError") = false := by rw [List.contains_cons, hn]; rfl
  refine codeAny_call_builtin_code (Code.quiet_builtin _ F.quiet) ?_
  simp only [checkBuiltinCall, F.newKind, F.newSplit, F.newRow]
  repeat (first | refine wpAny_loadPart_at hC ?_ | (refine wpAny_isSubtype_exc hC ?_; rw [cB]) | refine wpAny_staticBase_exc hC ?_ | refine wpAny_madeBy_exc hC ?_ | simp only [bne_self_eq_false, Bool.false_eq_true, if_false] | wp_step)
  refine codeAny_builtinAt F.entry ?_
  unfold Builtin.«BaseException.__new__»
  refine PySem.wpAt_bind ?_
  show PySem.wpAt _ _ _ (stack >>= _) _ _ _
  refine PySem.wpAt_bind (PySem.wpAt_stack fun p below => PySem.wpAt_of_wpAny ?_)
  wp_walk
  refine PySem.wpAt_of_wpAny ?_
  rw [F.owner]
  repeat (first | with_reducible refine wpAny_madeHere_exc F.canon hC ?_ | with_reducible refine wpAny_loadPart_at hC ?_ | (with_reducible refine wpAny_isSubtype_exc hC ?_; first | rw [cB] | rw [cA] | rw [cN]) | wp_step)
  show R _ _
  rw [Heap.size_push]
  exact hq

theorem exc_type_call (F : ExcBaseFacts B newId initId bmB) (hb : bm.contains (.type B) = true) (ha : bm.contains (.type "AttributeError") = false) (hn : bm.contains (.type "NameError") = false) {rest : List Value} {fI : Addr} {oI : Obj} {Q : Fin → Shared → Prop}
    (hC : h.get? C = some (excClassObj nm q C N bs bm hdct sn sub ab col dd k0 k1 k2 k3 k5 newId)) (hl : Looks (model prog w) h (typeLookup (.ref C) "__init__") (some (.ref fI)))
    (hfI : h.get? fI = some oI) (hfc : oI.cls = .type "function") (hrest : rest.length ≤ sizeLine)
    (hq : wpAny (model prog w) A (call (.ref fI) (.ref (h.objs.size + 1) :: rest)) (fun r s' => r = .none ∧ Q (.done (.ret (.ref (h.objs.size + 1)))) s') E
      ⟨(h.push { cls := .type "tuple", data := .seq rest.toArray }).push { cls := .ref C, data := .fields #[.ref h.objs.size, .none, .none, .none, .bool false, .none] }, g, d, t, os⟩) :
    wpAny (model prog w) A (Builtin.«type.__call__» ⟨.ref C :: rest, []⟩) Q E ⟨h, g, d, t, os⟩ := by
  repeat (first | with_reducible refine wpAny_loadPart_at hC ?_ | with_reducible refine wpAny_madeBy_exc hC ?_ | wp_step)
  refine exc_new F hb ha hn hC ?_ hrest
  show wpAny _ _ _ _ _ _
  have up : ∀ b o, h.get? b = some o → ((h.push { cls := .type "tuple", data := .seq rest.toArray }).push { cls := .ref C, data := .fields #[.ref h.objs.size, .none, .none, .none, .bool false, .none] }).get? b = some o := fun b o e => Heap.get?_push_of_some _ (Heap.get?_push_of_some _ e)
  have hC₁ := up _ _ hC
  have hfI₁ := up _ _ hfI
  have hget : ((h.push { cls := .type "tuple", data := .seq rest.toArray }).push
      { cls := .ref C, data := .fields #[.ref h.objs.size, .none, .none, .none, .bool false, .none] }).get? (h.objs.size + 1) = some
      { cls := .ref C, data := .fields #[.ref h.objs.size, .none, .none, .none, .bool false, .none] } := by heap_get
  have hcC : (Value.ref C :: bm).contains (.ref C) = true := by simp
  unfold isInstance
  repeat (first | with_reducible refine wpAny_loadPart_at hget ?_ | (with_reducible refine wpAny_isSubtype_exc hC₁ ?_; rw [hcC]) | wp_step)
  show wpAny _ _ (typeLookup (.ref C) _) _ _ _
  refine (hl.keeps up).here ?_
  refine wpAny_holding (wpAny_bind ?_)
  unfold bindSpecial
  refine wpAny_bind (wpAny_typeOf (T := "function") ⟨_, hfI₁, hfc⟩ ?_)
  rw [if_pos (by decide)]
  refine wpAny_pure (wpAny_bind (wpAny_mono hq (fun r s' hr => ?_) fun _ _ x => x))
  obtain ⟨rfl, hQ⟩ := hr
  wp_walk
  exact hQ

theorem exc_call (F : ExcBaseFacts B newId initId bmB) (hb : bm.contains (.type B) = true) (ha : bm.contains (.type "AttributeError") = false) (hn : bm.contains (.type "NameError") = false) {rest : List Value} {fI : Addr} {oI : Obj} {Q : Value → Shared → Prop}
    (hC : h.get? C = some (excClassObj nm q C N bs bm hdct sn sub ab col dd k0 k1 k2 k3 k5 newId)) (hl : Looks (model prog w) h (typeLookup (.ref C) "__init__") (some (.ref fI)))
    (hfI : h.get? fI = some oI) (hfc : oI.cls = .type "function") (hrest : rest.length ≤ sizeLine)
    (hq : wpAny (model prog w) (A.under (.builtin "type.__call__" ⟨.ref C :: rest, []⟩)) (call (.ref fI) (.ref (h.objs.size + 1) :: rest)) (fun r s' => r = .none ∧ Q (.ref (h.objs.size + 1)) s') E
      ⟨(h.push { cls := .type "tuple", data := .seq rest.toArray }).push { cls := .ref C, data := .fields #[.ref h.objs.size, .none, .none, .none, .bool false, .none] }, g, d, t, os⟩) :
    wpAny (model prog w) A (call (.ref C) rest) Q E ⟨h, g, d, t, os⟩ := by
  have f1 := tc_lookup
  have f2 := tc_bind (.ref C)
  have hT : (⟨h, g, d, t, os⟩ : Shared).TypeIs (.ref C) "type" := ⟨_, hC, rfl⟩
  refine wpAny_call (codeAny_of_tree ?_)
  show wpAny _ _ (callAny (.ref C) _) _ _ _
  repeat (any_goals (first | assumption | with_reducible refine wpAny_loadPart_at hC ?_ | wp_step))
  refine ⟨rfl, ?_⟩
  exact codeAny_call_builtin_at (Code.quiet_builtin _ (by decide +kernel)) entry_typeCall (wpAny_check_type_call_sub hC (exc_type_call F hb ha hn hC hl hfI hfc hrest hq))
end
end Mine
end
section
open PySem PySem.W PyProof.Rows PySem.Calls
namespace Mine
set_option maxHeartbeats 8000000
abbrev lz : List Str := [Str.ofString "LedgerError", Str.ofString "decimal", Str.ofString "quotient"]
def excMk (K : Frag) (C : Addr) : Bool := match K.lookup C with
  | some ⟨.type "type", _, .cls cd, sl⟩ => (match cd.mro, sl.toList with
    | .ref C' :: bm, [_, _, _, _, some (.builtin n), _] => C' == C && n == "Exception.__new__" && !cd.hasDel && bm.contains (.type "Exception") && !bm.contains (.type "AttributeError") && !bm.contains (.type "NameError")
    | _, _ => false)
  | _ => false
theorem excMk_obj {K : Frag} {h : Heap} {C : Addr} (X : K.In h) (q : excMk K C = true) : ∃ nm qn N bs bm hdct sn sub ab col dd k0 k1 k2 k3 k5,
    h.get? C = some (excClassObj nm qn C N bs bm hdct sn sub ab col dd k0 k1 k2 k3 k5 "Exception.__new__") ∧ bm.contains (.type "Exception") = true ∧ bm.contains (.type "AttributeError") = false ∧ bm.contains (.type "NameError") = false := by
  unfold excMk at q
  split at q
  · rename_i dd cd sl ho
    split at q
    · rename_i C' bm k0 k1 k2 k3 n k5 hm hs
      simp only [Bool.and_eq_true, beq_iff_eq, Bool.not_eq_true'] at q
      obtain ⟨⟨⟨⟨⟨rfl, rfl⟩, hdel⟩, hb⟩, ha⟩, hn⟩ := q
      obtain ⟨nm, bs, mro, ns, qn, hd, sn, sub, ab, col, del⟩ := cd
      dsimp only at hm hdel
      subst hm hdel
      have hsl : sl = #[k0, k1, k2, k3, some (.builtin "Exception.__new__"), k5] := by
        obtain ⟨l⟩ := sl
        simp only at hs
        rw [hs]
      subst hsl
      exact ⟨nm, qn, ns, bs, bm, hd, sn, sub, ab, col, dd, k0, k1, k2, k3, k5, X _ _ ho, hb, ha, hn⟩
    · cases q
  · cases q
theorem fn_obj {K : Frag} {h : Heap} {f : Addr} (X : K.In h) (q : fnIn K f = true) (q2 : isFn K (.ref f) = true) : ∃ o, h.get? f = some o ∧ o.cls = .type "function" := by
  unfold fnIn at q
  split at q
  · rename_i c d fd sl ho
    refine ⟨_, X _ _ ho, ?_⟩
    have := beq_iff_eq.mp q2
    unfold typeIn at this
    simp only [ho] at this
    simpa using this
  · cases q
abbrev excO (C t : Addr) : Obj := { cls := .ref C, data := .fields #[.ref t, .none, .none, .none, .bool false, .none] }
abbrev tupO (vs : List Value) : Obj := { cls := .type "tuple", data := .seq vs.toArray }

section
variable {prog : Program} {w : World} {A : Around} {K : Frag} {C : Addr} {s : Shared} {h₀ : Heap} {L : Addr} {m : Str → Option Value} {news : List (Addr × Obj)} {Q : Value → Shared → Prop} {E : Value → Shared → Prop}
theorem exc_call_K {rest : List Value} {fI : Addr} (F : Fr h₀ L s.heap m) (X₀ : K.In h₀) (N : News h₀ L s.heap news) (hm : excMk K C = true)
    (hi : findIn K (.ref C) "__init__" = some (some (.ref fI))) (hf : isFn K (.ref fI) = true) (hf2 : fnIn K fI = true) (hrest : rest.length ≤ sizeLine)
    (h : ∀ x t h', Fr h₀ L h' m → News h₀ L h' ((x, excO C t) :: (t, tupO rest) :: news) → (∀ p ∈ news, p.1 < t) → t < x →
      codeAny (model prog w) (A.under (.builtin "type.__call__" ⟨.ref C :: rest, []⟩)) (.call (.ref fI) ⟨.ref x :: rest, []⟩) (InitBack x fun r s' => match r with | .ok (.ret v) => Q v s' | .ok _ => False | .error e => E e s') { s with heap := h' }) :
    wpAny (model prog w) A (call (.ref C) rest) Q E s := by
  have X := X₀.keeps F.keep
  obtain ⟨hh, g, d, t, os⟩ := s
  obtain ⟨nm, qn, N', bs, bm, hdct, sn, sub, ab, col, dd, k0, k1, k2, k3, k5, hC, hb, ha, hn⟩ := excMk_obj X hm
  obtain ⟨oI, hfI, hfc⟩ := fn_obj X hf2 hf
  have N₂ := (N.push F (tupO rest)).push (F.push _) (excO C hh.objs.size)
  rw [Heap.size_push] at N₂
  refine exc_call PySem.F.excBase_Exception hb ha hn hC (looks_findIn X hi) hfI hfc hrest (wpAny_call (codeAny_mono (h _ hh.objs.size _ ((F.push _).push _) N₂ (fun p hp => Heap.lt_size (N p hp).1) (Nat.lt_succ_self _)) fun r s' z => ?_))
  rcases r with e | (v | _ | _ | _) <;> first | exact z | exact z.elim | skip
end
end Mine
end
section
open PySem PySem.W PyProof.Rows PySem.Calls Builtin Builtin.ObjectAttr
namespace Mine
abbrev excD (C t dx : Addr) : Obj := { cls := .ref C, dict := some dx, data := .fields #[.ref t, .none, .none, .none, .bool false, .none] }

section
variable {prog : Program} {w : World} {A : Around} {K : Frag} {C x : Addr} {s : Shared} {h₀ : Heap} {L : Addr} {m : Str → Option Value} {news : List (Addr × Obj)} {R : Result → Shared → Prop} {E : Value → Shared → Prop}

/-- BaseException.__init__ upon an exception of an own class: the tuple of the arguments made anew -/
theorem exc_init {rest : List Value} {Q : Value → Shared → Prop} {t₀ e : Nat} {v₀ : List Value} (F : Fr h₀ L s.heap m) (X₀ : K.In h₀) (N : News h₀ L s.heap ((e, excO C t₀) :: (t₀, tupO v₀) :: news)) (hm : excMk K C = true)
    (l1 : ∀ p ∈ news, p.1 < t₀) (l2 : t₀ < e) (hrest : rest.length ≤ sizeLine)
    (h : ∀ t h', Fr h₀ L h' m → News h₀ L h' ((e, excO C t) :: (t, tupO rest) :: news) → (∀ p ∈ news, p.1 < e) → e < t → Q .none { s with heap := h' }) :
    wpAny (model prog w) A (call (.builtin "Exception.__init__") (.ref e :: rest)) Q E s := by
  have X := X₀.keeps F.keep
  obtain ⟨hh, g, d, t, os⟩ := s
  obtain ⟨nm, qn, N', bs, bm, hdct, sn, sub, ab, col, dd, k0, k1, k2, k3, k5, hC, hb, ha, hn⟩ := excMk_obj X hm
  have BF := PySem.F.excBase_Exception
  have he := (N _ (.head _)).1
  dsimp only at he
  have cB : (Value.ref C :: bm).contains (.type "Exception") = true := by rw [List.contains_cons, hb, Bool.or_true]
  have hshort := BF.noStar
  have chk : ∀ (A' : Around) (E' : Value → Shared → Prop) (Q' : Unit → Shared → Prop), Q' () ⟨hh, g, d, t, os⟩ → wpAny (model prog w) A' (checkBuiltinCall "Exception.__init__" ⟨.ref e :: rest, []⟩) Q' E' ⟨hh, g, d, t, os⟩ := by
    intro A' E' Q' hq
    simp only [checkBuiltinCall, BF.initKind, BF.initSplit, BF.initRow]
    repeat (first | (with_reducible refine wpAny_loadPart_at he ?_; dsimp only) | with_reducible refine wpAny_loadPart_at hC ?_ | (with_reducible refine wpAny_isSubtype_exc hC ?_; rw [cB]) | wp_step)
    refine wpAny_onRaise ?_
    rw [show ∀ (a b : String) (n : Nat), Bind.check ⟨.positional, "*", "Exception", .self, [⟨"args", .varPos, false⟩]⟩ a b n (List.map (fun x => x.fst) ({ pos := Value.ref e :: rest } : Args).kw) = pure () from
      fun a b n => check_star_args _ _ _ _ _ _]
    exact wpAny_pure hq
  have N₁ := N.push F (tupO rest)
  have F₁ := F.push (tupO rest)
  have hlt : e < hh.objs.size := Heap.lt_size he
  have low : ∀ p ∈ news, p.1 < e := fun p hp => Nat.lt_trans (l1 p hp) l2
  obtain ⟨F₂, N₂⟩ := news_upd (pre := [(hh.objs.size, tupO rest)]) (d := e) (o := excO C t₀) (o' := excO C hh.objs.size) (f := Obj.mapFields (·.setIfInBounds 0 (.ref hh.objs.size))) F₁ N₁
    (fun p hp => by rw [List.mem_singleton.mp hp]; exact Nat.ne_of_gt hlt)
    (fun p hp => by
      rcases List.mem_cons.mp hp with rfl | hp
      · exact Nat.ne_of_lt l2
      · exact Nat.ne_of_lt (low p hp)) rfl rfl
  refine wpAny_call (codeAny_call_builtin BF.init.plain BF.initEntry (chk _ _ _ ?_))
  wp_walk
  refine h hh.objs.size _ F₂ (fun p hp => N₂ p ?_) low hlt
  rcases List.mem_cons.mp hp with rfl | hp
  · exact .tail _ (.head _)
  · rcases List.mem_cons.mp hp with rfl | hp
    · exact .head _
    · exact .tail _ (.tail _ (.tail _ hp))
end
end Mine
end
section
open PySem PySem.W PyProof.Rows PySem.Calls Builtin Builtin.ObjectAttr
namespace Mine

def excPlain (K : Frag) (C D : Addr) : Bool := (clsIn K C).any fun cd => cd.hasDict && cd.mro == [.ref C, .ref D, .type "Exception", .type "BaseException", .type "object"]
section
variable {prog : Program} {w : World} {A : Around} {K : Frag} {C D x : Addr} {s : Shared} {h₀ : Heap} {L : Addr} {m : Str → Option Value} {news : List (Addr × Obj)} {R : Result → Shared → Prop} {E : Value → Shared → Prop}

/-- a store into an attribute of an exception of an own class comes down to its own dict -/
theorem exc_store {ox : Obj} {od : Option Obj} {name : Str} {tk : Tok} {v : Value} (X : K.In s.heap) (I : InstAt s.heap x ox C od) (hp : excPlain K C D = true) (ht : takerIn K C name = some none)
    (h : ∀ b, wpAny (model prog w) A.in1 (storeInOwnDict (.ref x) (.ref C) (.str name tk) name v b)
      (fun fin s' => match fin with | .done f => R (.ok f) s' | .again c' => c'.quiet = true ∧ codeAny (model prog w) A c' R s') (fun e s' => R (.error e) s') s) :
    codeAny (model prog w) A (.call (.builtin "object.__setattr__") ⟨[.ref x, .str name tk, v], []⟩) R s := by
  have SF := PySem.F.store_Exception
  obtain ⟨cd, hc, ho⟩ := any_some hp
  obtain ⟨-, hmro⟩ := Bool.and_eq_true_iff.mp ho
  have hmro := beq_iff_eq.mp hmro
  have sub : Looks (model prog w) s.heap (isInstance (.ref x) (.type "object")) true := I.type.andThen (looks_mroIn X (by unfold mroIn; rw [hc, Option.bind_some, hmro]; simp))
  refine codeAny_call_builtin SF.slot.plain SF.entry (@check_slot (model prog w) _ _ s "object.__setattr__" "object" "__setattr__" (.ref x) [.str name tk, v] [] _ SF.kind SF.split sub (SF.args (.ref x) (.str name tk) v) ?_)
  obtain ⟨attr, ha, hr⟩ := Option.bind_eq_some_iff.mp ht
  have hm : Looks (model prog w) s.heap (mroOf (.ref C)) cd.mro := (looks_clsIn X hc).andThen .now
  have L3 : Looks (model prog w) s.heap (storeTaker? attr) none := by
    cases attr with
    | none => exact .now
    | some a =>
      obtain ⟨b, hb, e⟩ := Option.map_eq_some_iff.mp hr
      refine (looks_takesIn X hb).andThen ?_
      cases b with
      | true => cases e
      | false => exact .now
  rw [osa_eq, refuse_eq]
  refine wpAny_bind (wpAny_bind (I.type.here (wpAny_bind (hm.here ?_))))
  rw [hmro, refuseLoop_ref, refuseLoop_ref, SF.passes]
  refine wpAny_pure (wpAny_bind (I.type.here (wpAny_bind ((looks_findIn X ha).here (wpAny_bind (L3.here ?_))))))
  exact h _

theorem store_here {dx : Addr} {od od' : Obj} {name : Str} {tk : Tok} {v : Value} {pre post : List (Addr × Obj)} {es : List DictEntry} {n : Nat} {Q : PySem.Fin → Shared → Prop} (F : Fr h₀ L s.heap m) (N : News h₀ L s.heap (pre ++ (dx, od) :: post))
    (hl : (lookIn name od).isSome = true) (h1 : ∀ p ∈ pre, p.1 ≠ dx) (h2 : ∀ p ∈ post, p.1 ≠ dx)
    (e : Obj.putName name (PyData.keyHash w.params name) (.str name s.toks) v od = od') (e' : od'.data = .dict es.toArray n) (hz : es.length ≤ 1000)
    (h : ∀ h', Fr h₀ L h' m → News h₀ L h' (pre ++ (dx, od') :: post) → Q (.done (.ret .none)) { s with heap := h', toks := s.toks + 1 }) :
    wpAny (model prog w) A (storeInDict dx (.str name tk) name v) Q E s := by
  obtain ⟨U1, U2⟩ := news_upd (f := Obj.putName name (PyData.keyHash w.params name) (.str name s.toks) v) F N h1 h2 e (by obtain ⟨_, _, dd, _⟩ := od'; cases e'; rfl)
  have Dh := (N (dx, od) (by simp)).1
  have Dh' := (U2 (dx, od') (by simp)).1
  refine wpAny_bind (wpAny_pure (wpAny_bind ?_))
  unfold nsSet
  refine wpAny_bind (wpAny_bind (wpAny_askSetting (wpAny_pure (wpAny_bind (wpAny_mkText (wpAny_bind (wpAny_loadPart Dh ?_)))))))
  unfold lookIn at hl
  split at hl
  · rename_i es₀ n₀ q
    rw [q]
    dsimp only
    have c : (!es₀.any (·.key.isStr name) && es₀.any (·.refKey)) = false := by
      rw [← Array.any_toList, ← Array.any_toList]
      split at hl
      · rename_i en he
        rw [List.any_eq_true.mpr ⟨en, List.mem_of_find?_eq_some he, List.find?_some he⟩]; rfl
      · split at hl
        · cases hl
        · rename_i z; rw [Bool.not_eq_true] at z; rw [z, Bool.and_false]
    rw [aRefKeyMayBeTheName_at, c]
    refine wpAny_updatePart Dh ?_
    refine wpAny_bind (wpAny_lookBehind Dh' (by rw [e']; exact pastItsLine_dict (by rw [List.size_toArray, sizeLine_eq]; omega)) ?_)
    exact wpAny_pure (h _ U1 U2)
  · cases hl

/-- the first attribute: the dict is made -/
theorem exc_set1 {name : Str} {v : Value} {Q : Unit → Shared → Prop} {t e : Nat} (F : Fr h₀ L s.heap m) (X₀ : K.In h₀) (N : News h₀ L s.heap ((e, excO C t) :: news)) (l1 : ∀ p ∈ news, p.1 ≠ e)
    (hs : findIn K (.ref C) "__setattr__" = some (some (.builtin "object.__setattr__"))) (hp : excPlain K C D = true) (ht : takerIn K C name = some none)
    (h : ∀ dx h' tk, Fr h₀ L h' m → News h₀ L h' ((e, excD C t dx) :: (dx, dictOf [⟨PyData.keyHash w.params name, .str name tk, v⟩] 1) :: news) → (∀ p ∈ news, p.1 < dx) → e < dx → Q () { s with heap := h', toks := s.toks + 2 }) :
    wpAny (model prog w) A (setAttr (.ref e) name v) Q E s := by
  have X := X₀.keeps F.keep
  have he := (N _ (.head _)).1
  have I : InstAt s.heap e (excO C t) C none := ⟨he, rfl, rfl, trivial⟩
  refine set_plain X I hs (exc_store (D := D) (s := { s with toks := s.toks + 1 }) X I hp ht fun b => ?_)
  obtain ⟨cd, hc, ho⟩ := any_some hp
  obtain ⟨hd, -⟩ := Bool.and_eq_true_iff.mp ho
  refine wpAny_bind (wpAny_pure (wpAny_bind (wpAny_bind (wpAny_loadPart he (wpAny_bind (looks_clsIn X hc _ _ _ _ (fun _ _ e => e) ?_))))))
  rw [hd]
  dsimp only [excO]
  rw [if_neg (by decide), if_neg (by simp [typeHasDict])]
  have N₁ := N.push F emptyDict
  have F₁ := F.push emptyDict
  have hlt : e < s.heap.objs.size := Heap.lt_size he
  obtain ⟨F₂, N₂⟩ := news_upd (pre := [(s.heap.objs.size, emptyDict)]) (d := e) (o := excO C t) (o' := excD C t s.heap.objs.size) (f := fun o => { o with dict := some s.heap.objs.size }) F₁ N₁
    (fun p hp => by rw [List.mem_singleton.mp hp]; exact Nat.ne_of_gt hlt) l1 rfl rfl
  have up : (s.heap.push emptyDict).get? e = some (excO C t) := Heap.get?_push_of_some _ he
  refine wpAny_bind (wpAny_alloc (wpAny_bind (wpAny_update (s := { s with heap := s.heap.push emptyDict, toks := s.toks + 1 }) up ?_)))
  refine wpAny_pure ?_
  have low : ∀ p ∈ news, p.1 < s.heap.objs.size := fun p hp => Heap.lt_size (N p (.tail _ hp)).1
  refine store_here (s := { s with heap := (s.heap.push emptyDict).update e fun o => { o with dict := some s.heap.objs.size }, toks := s.toks + 1 }) (pre := []) (es := [⟨PyData.keyHash w.params name, .str name (s.toks + 1), v⟩]) (n := 1) F₂ N₂ ?_ (fun p hp => nomatch hp) (fun p hp => ?_) (putName_dict name _ _ v [] 0) rfl (by simp) fun h' F' N' => ?_
  · rfl
  · rcases List.mem_cons.mp hp with rfl | hp
    · exact Nat.ne_of_lt hlt
    · exact Nat.ne_of_lt (low p hp)
  · refine h s.heap.objs.size h' (s.toks + 1) F' (fun p hp => N' p ?_) low hlt
    rcases List.mem_cons.mp hp with rfl | hp
    · exact .tail _ (.head _)
    · rcases List.mem_cons.mp hp with rfl | hp
      · exact .head _
      · exact .tail _ (.tail _ hp)

/-- an attribute more -/
theorem exc_set2 {name : Str} {v : Value} {Q : Unit → Shared → Prop} {t e dx : Nat} {es es' : List DictEntry} {n n' : Nat} (F : Fr h₀ L s.heap m) (X₀ : K.In h₀) (N : News h₀ L s.heap ((e, excD C t dx) :: (dx, dictOf es n) :: news)) (l1 : ∀ p ∈ news, p.1 < dx) (l2 : e < dx)
    (hs : findIn K (.ref C) "__setattr__" = some (some (.builtin "object.__setattr__"))) (hp : excPlain K C D = true) (ht : takerIn K C name = some none) (hl : (getL name es).isSome = true)
    (he' : (putL name (PyData.keyHash w.params name) (.str name (s.toks + 1)) v es, putN name es n) = (es', n')) (hz : es'.length ≤ 1000)
    (h : ∀ h', Fr h₀ L h' m → News h₀ L h' ((e, excD C t dx) :: (dx, dictOf es' n') :: news) → Q () { s with heap := h', toks := s.toks + 2 }) :
    wpAny (model prog w) A (setAttr (.ref e) name v) Q E s := by
  have X := X₀.keeps F.keep
  have he := (N _ (.head _)).1
  have hdx := (N _ (.tail _ (.head _))).1
  have I : InstAt s.heap e (excD C t dx) C (some (dictOf es n)) := ⟨he, rfl, rfl, hdx⟩
  refine set_plain X I hs (exc_store (D := D) (s := { s with toks := s.toks + 1 }) X I hp ht fun b => ?_)
  obtain ⟨cd, hc, ho⟩ := any_some hp
  obtain ⟨hd, -⟩ := Bool.and_eq_true_iff.mp ho
  refine wpAny_bind (wpAny_pure (wpAny_bind (wpAny_bind (wpAny_loadPart he (wpAny_bind (looks_clsIn X hc _ _ _ _ (fun _ _ e => e) ?_))))))
  rw [hd]
  dsimp only [excD]
  refine wpAny_pure ?_
  obtain ⟨e1, e2⟩ := Prod.mk.inj he'
  refine store_here (s := { s with toks := s.toks + 1 }) (pre := [(e, excD C t dx)]) (es := es') (n := n') F N (by rw [lookIn_dict]; exact hl) (fun p hp => by rw [List.mem_singleton.mp hp]; exact Nat.ne_of_lt l2) (fun p hp => Nat.ne_of_lt (l1 p hp)) (by rw [putName_dict, e1, e2]) rfl hz fun h' F' N' => h h' F' N'
end
end Mine
end
section
open PySem PySem.W PyProof.Rows PySem.Calls
namespace Mine
set_option maxHeartbeats 8000000
theorem mk53 (P : Params) : excMk (Mine.hd.heap_39 P) 53 = true := by kernel_rfl
theorem pl53 (P : Params) : excPlain (Mine.hd.heap_39 P) 53 40 = true := by kernel_rfl
theorem meta_exc : typeOf (.type "Exception") = pure (.type "type") := by
  show pure (Value.type ((Manifest.find? "Exception").elim "type" fun x => x.metatype)) = _
  rw [show ((Manifest.find? "Exception").elim "type" fun x => x.metatype) = "type" from by kernel_rfl]
theorem apart1 {news : List (Addr × Obj)} {e t : Nat} {o : Obj} (lo : ∀ p ∈ news, p.1 < e) (lt : e < t) : ∀ p ∈ ((t, o) : Addr × Obj) :: news, p.1 ≠ e := fun p hp => by
  rcases List.mem_cons.mp hp with rfl | hp
  · exact Nat.ne_of_gt lt
  · exact Nat.ne_of_lt (lo p hp)
local macro_rules | `(tactic| k_room) => `(tactic| ktr_room)

theorem drop2 {h₀ h : Heap} {L : Addr} {a b c : Addr × Obj} {news : List (Addr × Obj)} (N : News h₀ L h (a :: b :: c :: news)) : News h₀ L h (a :: c :: news) := fun p hp => N p (by
  rcases List.mem_cons.mp hp with rfl | hp
  · exact .head _
  · exact .tail _ (.tail _ hp))
theorem sf_call {w : World} {mean : ExcName → Option Value} {mg mb : Str → Option Value}
    (dp un : Nat) (gd : Option (List Code)) (cn : Str) (cs : Scope) (a : Addr) (ccd : Value) (cells : List (Str × Addr)) (outer : List Env) (A₀ : Around) (base h₀ : Heap) (L : Addr) (m : Str → Option Value) (s : Shared) (Q E : Value → Shared → Prop)
    (x : Str) (kt : Tok) (news : List (Addr × Obj))
    (B : Below A₀ base outer h₀) (F : Fr h₀ L s.heap m) (X : (Mine.hd.heap_39 w.params).In h₀)
    (N : News h₀ L s.heap news)
    (T : Top Mine.view (looseW Mine.view [Str.ofString "LedgerError", Str.ofString "decimal", Str.ofString "quotient"]) mean mg mb h₀) (hk : cs.kind = .function)
    (hd : dp + 10 < recursionLimit) (hu : un + 80 < cLine)
    (ret : ∀ (e t dx : Nat) h' tk', Fr h₀ L h' m → News h₀ L h' ((e, excD 53 t dx) :: (t, tupO [.str x kt]) :: news) → (∀ p ∈ news, p.1 < e) → e < t → Q (.ref e) { s with heap := h', toks := tk' }) :
    wpAny (model Challenge.rw_pb0236_01.row.prog w) (ktrTop dp un gd cn cs L a ccd cells outer) (call (.ref 53) [.str x kt]) Q E s := by
  revert ret
  revert X
  k_fill
  intro X ret
  refine exc_call_K (rest := [.str x kt]) F X N (mk53 _) (by k_is) (by k_is) (by k_is) (by size_fits) fun e t h' F' N' l1 l2 => ?_
  k_dflt (refine' code_def ?k1 ?k2 ?k3 ?k4 ?k5 ?kA ?kF ?kK ?k6 ?k7 ?k8 ?k9 ?kB ?_ ?c2 ?c3 ?c4 ?c5; (case kA => exact rfl); (case kF => exact rfl); (case kK => exact hk); (case k1 => k_asm); (case k2 => k_asm); (case k3 => k_asm); (case k4 => k_asm); (case k5 => k_asm); (case k6 => k_is); (case k7 => k_is); (case k8 => ktr_room); (case k9 => exact binds_K (by k_in) rfl (by k_is) rfl rfl rfl); (case c5 => decide); (case kB => exact locs rfl); (case c2 => exact rfl); (case c3 => exact rfl); (case c4 => exact rfl); k_whole; intro g' L' h' FG' F' N' B' X' T'; (try dsimp only); (try k_fold))
  repeat' (first | (k_here; (with_reducible show wpAny _ _ (setAttr (Value.ref _) (PySem.Str.ofString "at") _) _ _ _); k_dflt (refine' exc_set2 (D := 40) ?F ?X ?N ?l1 ?l2 ?hs ?hp ?ht ?hl ?he ?hz ?_; (case F => k_asm); (case X => k_asm); (case N => k_asm); (case l1 => assumption); (case l2 => assumption); (case hs => k_is); (case hp => exact pl53 _); (case ht => k_is); (case hl => k_get); (case he => k_put); (case hz => exact Nat.le_of_ble_eq_true rfl); k_whole; intro h' F' N'; (try k_sweep))) | (k_here; (with_reducible show wpAny _ _ (setAttr (Value.ref _) (PySem.Str.ofString "what") _) _ _ _); k_dflt (refine' exc_set1 (D := 40) ?F ?X ?N ?l1 ?hs ?hp ?ht ?_; (case F => k_asm); (case X => k_asm); (case N => k_asm); (case l1 => exact apart1 (by assumption) (by assumption)); (case hs => k_is); (case hp => exact pl53 _); (case ht => k_is); k_whole; intro dx' h' tk' F' N' lo' lt'; (try k_sweep))) | (k_here; (with_reducible show wpAny _ _ (call (Value.builtin _) _) _ _ _); k_dflt (refine' exc_init ?F ?X ?N ?mk ?l1 ?l2 ?sz ?_; (case F => k_asm); (case X => k_asm); (case N => k_asm); (case mk => exact mk53 _); (case l1 => assumption); (case l2 => assumption); (case sz => size_fits); k_whole; intro t' h' F' N' lo' lt'; (try k_sweep))) | (k_here; (with_reducible show wpAny _ _ (getMethod (Value.type _) _ _) _ _ _); with_reducible refine' method_type ?F ?X ?m (by decide +kernel) ?e ?h ?_; (case F => k_asm); (case X => k_asm); (case m => exact meta_exc); (case e => k_dflt k_is); (case h => k_handed)) | (k_unfold; (try dsimp only)) | (k_end; wrow_close) | walk1 | (dsimp only; walk1) | (leave1; try dsimp only))
  rename News h₀ _ _ _ => N9
  exact ret _ _ _ _ _ (by assumption) (drop2 N9) (by assumption) (by assumption)
end Mine
end
section
open PySem PySem.W PyProof.Rows PySem.Calls
namespace Mine
def RaiseAt (K : Frag) (C : Addr) (E : Value → Shared → Prop) (v : Value) (s₁ : Shared) : Prop :=
  ∃ e oe t, v = .ref e ∧ K.In s₁.heap ∧ s₁.heap.get? e = some oe ∧ oe.cls = .ref C ∧ oe.data = .fields #[.ref t, .none, .none, .none, .bool false, .none] ∧ E (.ref e) s₁
section
variable {prog : Program} {w : World} {A : Around} {K : Frag} {C : Addr} {s : Shared} {h₀ : Heap} {env : Env} {L : Addr} {m : Str → Option Value} {news : List (Addr × Obj)} {E : Value → Shared → Prop}
theorem Raise_inst {ex : PySem.Expr} {pos : Pos} {Q : Flow → Shared → Prop} (_X : K.In h₀) (q : ktsIn K C "BaseException" = true) (hh : A.handled = none)
    (h : wpAny (model prog w) A (eval ex env) (RaiseAt K C E) E s) : wpAny (model prog w) A (exec (.Raise (some ex) none pos) env) Q E s := by
  rw [arm_exec_Raise]
  simp only [evalOpt, Option.map]
  exact wpAny_bind (wpAny_standAt (raise_inst q hh (wpAny_bind (wpAny_mono h (fun v s₁ h₁ => wpAny_bind (wpAny_standAt (wpAny_pure h₁))) fun _ _ x => x))))
theorem raiseAt_ {e t dx : Addr} (F : Fr h₀ L s.heap m) (X : K.In h₀) (N : News h₀ L s.heap ((e, excD C t dx) :: news)) (h : E (.ref e) s) : RaiseAt K C E (.ref e) s :=
  ⟨e, _, t, rfl, X.keeps F.keep, (N _ (.head _)).1, rfl, rfl, h⟩
end

section
variable {M : Model} {A : Around} {E : Value → Shared → Prop} {s' : Shared} {base g : Heap} {outer : List Env} {L a : Addr} {m : Str → Option Value} {name : Str} {scope : Scope} {cd : Value} {Q : Unit → Shared → Prop} {news : List (Addr × Obj)}
/-- the first frame that an exception of an own class with an own __init__ leaves -/
theorem leave_initS {C dx : Addr} {e t : Nat} {vs : List Value} (K : Below A base outer g) (F : Fr g L s'.heap m) (N : News g L s'.heap ((e, excD C t dx) :: (t, tupO vs) :: news)) (lo : ∀ p ∈ news, p.1 < e) (lt : e < t)
    (hQ : ∀ h', RaisedS base g outer e (.ref C) t vs news h' → RaisedK base outer e (.ref C) t vs news h' → g.UpToSlots h' → Q () { s' with heap := h' }) (hk : scope.kind = .function := by rfl) :
    wpAny M (A.deeper (envOf name scope L a cd)) (leaving (envOf name scope L a cd) (.ref e)) Q E s' := by
  have K' := K.push (name := name) (a := a) (cd := cd) F hk
  let fs := (envOf name scope L a cd :: outer).filterMap (·.frame)
  let B := hideAll s'.heap (e :: t :: fs)
  have hfs : ∀ env ∈ (envOf name scope L a cd :: outer), ∀ b, env.frame = some b → b ∈ e :: t :: fs := fun env he b hb => .tail _ (.tail _ (List.mem_filterMap.mpr ⟨env, he, hb⟩))
  have ge : g.get? e = none := (N _ (.head _)).2.2
  have gt : g.get? t = none := (N _ (.tail _ (.head _))).2.2
  have notIn : ∀ b o, g.get? b = some o → b ∉ outer.filterMap (·.frame) → b ∉ e :: t :: fs := fun b o q nm hm => by
    rcases List.mem_cons.mp hm with rfl | hm
    · rw [ge] at q; cases q
    · rcases List.mem_cons.mp hm with rfl | hm
      · rw [gt] at q; cases q
      · rcases kts_mem hm with z | z
        · rw [z, kts_self F] at q; cases q
        · exact nm z
  have st : base.StaysIn B := fun b o q => hideAll_get _ (K'.stays b o q) (notIn b o (K.stays b o q) fun hm => by
    rw [(K.frames.mem hm).1] at q; cases q)
  have sg : ∀ b o, g.get? b = some o → b ∉ outer.filterMap (·.frame) → B.get? b = some o := fun b o q nm => hideAll_get _ (F.keep b o q) (notIn b o q nm)
  have hl : ∀ q ∈ news, B.get? q.1 = some q.2 ∧ g.get? q.1 = none ∧ base.get? q.1 = none := fun q hq => by
    have z := N q (.tail _ (.tail _ hq))
    refine ⟨hideAll_get _ z.1 fun hm => ?_, z.2.2, fresh_of_stays K.stays z.2.2⟩
    have h1 := lo q hq
    rcases List.mem_cons.mp hm with e1 | hm
    · exact absurd e1 (Nat.ne_of_lt h1)
    · rcases List.mem_cons.mp hm with e1 | hm
      · exact absurd e1 (Nat.ne_of_lt (Nat.lt_trans h1 lt))
      · rcases kts_mem hm with e1 | hm
        · exact z.2.1 e1
        · obtain ⟨_, o, ho, _⟩ := K.frames.mem hm
          rw [z.2.2] at ho; cases ho
  have hen : B.get? e = none := hideAll_none _ (.head _)
  have htn : B.get? t = none := hideAll_none _ (.tail _ (.head _))
  refine wpAny_leaving_firstW (base := B) (a0 := .ref t) K'.stack (funFrames_hide K'.frames hfs) rfl (N _ (.head _)).1 (fun b o q => of_hideAll _ q) hen rfl rfl rfl fun h' hL => ?_
  obtain ⟨k1, ⟨_, _, k2⟩, k3, k4⟩ := hL
  have tup : s'.heap.TupAt t vs := ⟨_, _, (N _ (.tail _ (.head _))).1, rfl, rfl⟩
  have R : RaisedS base g outer e (.ref C) t vs news h' := ⟨⟨B, st, sg, hl, ⟨k1, hen, k2, k3⟩, htn⟩, tup.of_slots k4⟩
  exact hQ h' R R.toK ((Heap.UpToSlots.of_keeps F.keep).trans k4)
end
end Mine
end
section
open PySem PySem.W PyProof.Rows PySem.Calls
namespace Mine
section
variable {prog : Program} {w : World} {A₀ A : Around} {s : Shared} {base h₀ : Heap} {env : Env} {L : Addr} {m : Str → Option Value} {news : List (Addr × Obj)} {K : Frag} {p : Program} {loose : List Str} {mean : ExcName → Option Value} {mg mb : Str → Option Value}
    {R : Result → Shared → Prop} {name qual : Str} {params : Arguments} {body : List Stmt} {scope : Scope} {dV kV doc pm cdv ct oc : Value} {an od : Option Addr} {osl : Array (Option Value)} {f : Addr} {args : Args} {binds : List (Str × Value)}

/-- a def is entered from the outermost frame, whatever its cells: raises that the def catches may turn that frame's slots -/
theorem enter_top (B : Below A₀ base [] h₀) (F : Fr h₀ L s.heap m) (X₀ : K.In h₀) (N : News h₀ L s.heap news) (T : Top p loose mean mg mb h₀) (hA : A.frames = some [env]) (hL : env.frame = some L) (hke : env.scope.kind = .function)
    (ho : K.lookup f = some ⟨oc, od, .func (fnOf name qual params body scope dV kV doc pm an cdv ct), osl⟩) (hcd : codeIn K cdv qual = true) (hroom : A.depth < recursionLimit)
    (hbind : BindsTo s (fnOf name qual params body scope dV kV doc pm an cdv ct) args binds) (hloc : ∀ y ∈ binds, scope.names.lookup y.1 = some .local)
    (h : ∀ g L' h₁, Fr h₀ L g m → Fr g L' h₁ (fun y => binds.reverse.lookup y) → News g L' h₁ news → Below A base [env] g → K.In g → Top p loose mean mg mb g → KtsDicts ([env].filterMap (·.frame)) g →
      wpAny (model prog w) (A.deeper (envOf qual scope L' f cdv)) (execs body (envOf qual scope L' f cdv))
        (fun fl s' => LeaveS0 ([env].filterMap (·.frame)) h₀ L m g R (match fl with | .ret v => v | _ => .none) s')
        (fun e s' => wpAny (model prog w) (A.deeper (envOf qual scope L' f cdv)) (leaving (envOf qual scope L' f cdv) e) (fun _ s'' => R (.error e) s'') (fun e' s'' => R (.error e') s'') s')
        { s with heap := h₁, toks := s.toks + binds.length })
    (hco : scope.isCoroutine = false) (hgen : scope.isGenerator = false) (hk : scope.kind = .function)
    (hcell : ∀ x ∈ scope.names, x.2 ≠ .cell) : codeAny (model prog w) A (.call (.ref f) args) R s := by
  have X := X₀.keeps F.keep
  have fsL : [env].filterMap (·.frame) = [L] := by simp [hL]
  have L0 : h₀.get? L = none := kts_self F
  -- what stays beneath the def: all but the ledger
  let g := hideAll s.heap (news.map (·.1))
  have away : ∀ b o, h₀.get? b = some o → b ∉ news.map (·.1) := fun b o e hm => by
    obtain ⟨q, hq, rfl⟩ := List.mem_map.mp hm
    rw [(N q hq).2.2] at e; cases e
  have st : h₀.StaysIn g := fun b o e => hideAll_get _ (F.keep b o e) (away b o e)
  obtain ⟨oL, es, ep, hLs, hLd, hLk, hLf⟩ := F.ns
  have hLg : g.get? L = some oL := hideAll_get _ hLs fun hm => by
    obtain ⟨q, hq, e⟩ := List.mem_map.mp hm
    exact (N q hq).2.1 e
  have nsAt : ∀ (sl : Array (Option Value)) (h' : Heap), h'.get? L = some { oL with slots := sl } → h'.Ns L m := fun sl h' e => ⟨_, es, ep, e, hLd, hLk, hLf⟩
  have nsg : g.Ns L m := ⟨oL, es, ep, hLg, hLd, hLk, hLf⟩
  have Bg : Below A base [env] g := ⟨hA, fun b o e => st b o (B.stays b o e), .cons (by rw [hke]; decide) hL nsg (by
    cases q : base.get? L with
    | none => rfl
    | some o => have := B.stays L o q; rw [L0] at this; cases this) trivial⟩
  have Dg : KtsDicts ([env].filterMap (·.frame)) g := fun b hb => by
    rw [fsL] at hb
    rw [List.mem_singleton.mp hb]
    exact ⟨oL, es, ep, hLg, hLd⟩
  refine codeAny_call_def (fd := fnOf name qual params body scope dV kV doc pm an cdv ct) (body := body) (binds := binds) hroom (X _ _ ho) rfl (T.nolimit.keeps F.keep) (codeRec_of X hcd) rfl hbind hcell hloc (fun h₁ hns hk₁ => ?_) hco hgen hk
  have Fg : Fr h₀ L g m := ⟨nsg, st, F.above⟩
  have F₁ : Fr g s.heap.objs.size h₁ (fun y => binds.reverse.lookup y) := ⟨hns, fun b o e => hk₁ b o (of_hideAll _ e), Nat.le_of_eq (hideAll_size _ _)⟩
  have N₁ : News g s.heap.objs.size h₁ news := fun q hq => ⟨hk₁ _ _ (N q hq).1, Nat.ne_of_lt (Heap.lt_size (N q hq).1), hideAll_none _ (List.mem_map_of_mem hq)⟩
  refine wpAny_mono (h g s.heap.objs.size h₁ Fg F₁ N₁ Bg (X₀.keeps st) (T.keeps st) Dg) (fun fl s' hl => ?_) fun _ _ y => y
  obtain ⟨g', L', m', news', T', F', N', k⟩ := hl
  rw [fsL] at T'
  obtain ⟨sl, hs⟩ := T'.up hLg
  have keep' : ∀ b o, h₀.get? b = some o → s'.heap.get? b = some o := fun b o e => F'.keep b o (T'.other b o (st b o e) fun hm => by
    rw [List.mem_singleton.mp hm, L0] at e; cases e)
  refine k ⟨nsAt sl _ (F'.keep _ _ hs), keep', F.above⟩ fun q hq => ⟨(N' q hq).1, fun e => ?_, ?_⟩
  · have z := (N' q hq).2.2
    rw [e, hs] at z; cases z
  · cases e : h₀.get? q.1 with
    | none => rfl
    | some o =>
      obtain ⟨sl', hs'⟩ := T'.up (st _ _ e)
      have z := (N' q hq).2.2
      rw [hs'] at z; cases z
end
end Mine
end
section
open PySem PySem.W PyProof.Rows PySem.Calls
namespace Mine
section
variable {prog : Program} {w : World} {A : Around} {E : Value → Shared → Prop} {s' : Shared} {h₀ g : Heap} {env : Env} {L C e t : Addr} {m : Str → Option Value}
  {vs : List Value} {b₀ : Stmt} {suite : List Stmt} {pos np : Pos} {rest : List ExceptHandler} {Q : Flow → Shared → Prop} {news : List (Addr × Obj)} {K : Frag} {x : Str}

/-- an exception of an own class comes up to the outermost frame, whatever its cells, and is caught there by its class's name -/
theorem caught_top (R : RaisedS h₀ g [env] e (.ref C) t vs news s'.heap) (F : Fr h₀ L g m) (U : g.UpToSlots s'.heap) (X : K.In h₀) (hA : A.frames = some [env]) (hL : env.frame = some L) (q : ktsIn K C "BaseException" = true)
    (hname : ∀ h' (E' : Value → Shared → Prop) (Q' : Value → Shared → Prop), Fr h₀ L h' m → Q' (.ref C) { s' with heap := h' } → wpAny (model prog w) (A.mark (some (.ref e))) (eval (.Name x np) env) Q' E' { s' with heap := h' })
    (k : ∀ h', Fr h₀ L h' m → News h₀ L h' news → wpAny (model prog w) (A.mark (some (.ref e))) (execs (b₀ :: suite) env) Q (fun _ _ => False) { s' with heap := h' }) :
    wpAny (model prog w) A (noteFrame (.ref e) env)
      (fun _ s₂ => wpAny (model prog w) A (setFlight (.ref e) none) (fun _ s₃ =>
        wpAny (model prog w) A (handleBy (.ref e) env (.ExceptHandler (some (.Name x np)) none (b₀ :: suite) pos :: rest)) Q E s₃) E s₂) E s' := by
  obtain ⟨⟨B, hB, hBG, hl, hfl, hnew⟩, htup⟩ := R
  have hBL : B.get? L = none := by
    obtain ⟨_, ⟨L', _, hf, hn', _⟩, _⟩ := hfl.2.2.1
    have : L = L' := Option.some.inj (hL.symm.trans hf)
    rw [this]; exact hn'
  have stays : ∀ {h' : Heap}, B.StaysIn h' → g.UpToSlots h' → Fr h₀ L h' m := fun hb hu => F.of_stays (fun b o z => hb b o (hB b o z)) hu
  refine wpAny_looks_onW hA hL hfl fun h₁ held₁ u₁ => ?_
  refine wpAny_landsW held₁ fun h₂ fl₂ u₂ => ?_
  have F₂ := stays fl₂.1 (U.trans (u₁.trans u₂))
  obtain ⟨ob, hob, hobc⟩ := fl₂.there
  obtain ⟨nm, qn, N', bs, bm, hdct, sn, sub, ab, col, dd, k0, k1, k2, k3, k5, newId, hC, hbase, _⟩ := kts_cls (X.keeps F₂.keep) q
  refine wpAny_handleBy_cons (codeAny_handlers_test (hname h₂ _ _ F₂ ?_)) (by intro z; cases z)
  refine wpAny_excMatches_sub_self hC hob hobc hbase (codeAny_handlers_suite ?_)
  refine lands_againW fl₂ fun h₃ fl₃ u₃ => ?_
  have F₃ := stays fl₃.1 (U.trans ((u₁.trans u₂).trans u₃))
  have nL : ∀ z ∈ news, z.1 ≠ L := fun z hz y => by
    have w := (hl z hz).1
    rw [y, hBL] at w
    cases w
  have N₃ : News h₀ L h₃ news := fun z hz => ⟨fl₃.1 _ _ (hl z hz).1, nL z hz, (hl z hz).2.2⟩
  exact wpAny_mono (k h₃ F₃ N₃) (fun _ _ y => y) fun _ _ y => y.elim
end
end Mine
end
section
open PySem PySem.W PyProof.Rows PySem.Calls
namespace Mine
section
variable {prog : Program} {w : World} {A₀ A : Around} {E : Value → Shared → Prop} {s s' : Shared} {base g G : Heap} {outer : List Env} {L a e t C : Addr} {m : Str → Option Value} {name : Str} {scope : Scope} {cd : Value}
  {vs : List Value} {b₀ : Stmt} {suite : List Stmt} {pos np : Pos} {rest : List ExceptHandler} {Q : Flow → Shared → Prop} {news : List (Addr × Obj)} {KF : Frag}
  {p : Program} {loose : List Str} {mean : ExcName → Option Value} {mg mb : Str → Option Value} {x : Str}

/-- caught in a called def, the flight kept: a bare raise may follow -/
theorem caught_keep (R : RaisedS base G (envOf name scope L a cd :: outer) e (.ref C) t vs news s'.heap) (F : Fr g L G m) (K : Below A₀ base outer g) (hsm : G.UpToSlots s'.heap) (XB : KF.In base) (TB : Top p loose mean mg mb base)
    (D : KtsDicts (outer.filterMap (·.frame)) g) (ex : nsIn KF mainGlobals x = some (some (.ref C))) (q : ktsIn KF C "BaseException" = true)
    (k : ∀ h' g', KtsTurn (outer.filterMap (·.frame)) g g' → Fr g' L h' m → News g' L h' news → Below A₀ base outer g' → KF.In g' → Top p loose mean mg mb g' → KtsDicts (outer.filterMap (·.frame)) g' →
      RaisedS base G (envOf name scope L a cd :: outer) e (.ref C) t vs news h' → G.UpToSlots h' →
      wpAny (model prog w) ((A₀.deeper (envOf name scope L a cd)).mark (some (.ref e))) (execs (b₀ :: suite) (envOf name scope L a cd)) Q E { s' with heap := h' })
    (hk : scope.kind = .function := by rfl) (hx : (envOf name scope L a cd).kindOf x = some .globalImplicit := by rfl) (hd : (x == ("__debug__" : Str)) = false := by decide)
    (hE : PassesOwnAt (model prog w) ((A₀.deeper (envOf name scope L a cd)).mark (some (.ref e))) (A₀.deeper (envOf name scope L a cd)) (envOf name scope L a cd) E := by passes_own) :
    wpAny (model prog w) (A₀.deeper (envOf name scope L a cd)) (noteFrame (.ref e) (envOf name scope L a cd))
      (fun _ s₂ => wpAny (model prog w) (A₀.deeper (envOf name scope L a cd)) (setFlight (.ref e) none) (fun _ s₃ =>
        wpAny (model prog w) (A₀.deeper (envOf name scope L a cd)) (handleBy (.ref e) (envOf name scope L a cd) (.ExceptHandler (some (.Name x np)) none (b₀ :: suite) pos :: rest)) Q E s₃) E s₂) E s' := by
  obtain ⟨⟨B, hB, hBG, hl, hfl, hnew⟩, htup⟩ := R
  have hBL : B.get? L = none := by
    obtain ⟨_, ⟨L', _, hf, hn', _⟩, _⟩ := hfl.2.2.1
    obtain rfl : L = L' := Option.some.inj hf
    exact hn'
  refine wpAny_looks_onW (Around.frames_deeper K.stack) rfl hfl fun h₁ held₁ u₁ => ?_
  refine wpAny_landsW held₁ fun h₂ fl₂ u₂ => ?_
  obtain ⟨g₂, T₂, F₂, K₂⟩ := kts_ground K F hBG fl₂.1 (hsm.trans (u₁.trans u₂))
  have X₂ : KF.In g₂ := XB.keeps K₂.stays
  have P₂ : TopRead p loose mg mb g₂ := topRead_of (TB.keeps K₂.stays)
  obtain ⟨ob, hob, hobc⟩ := fl₂.there
  obtain ⟨nm, qn, N', bs, bm, hdct, sn, sub, ab, col, dd, k0, k1, k2, k3, k5, newId, hC, hbase, _⟩ := kts_cls X₂ q
  refine wpAny_handleBy_cons (codeAny_handlers_test (name_K F₂ X₂ P₂ ex ?_ hk hx hd)) (by intro z; cases z)
  refine wpAny_excMatches_sub_self (F₂.keep _ _ hC) hob hobc hbase (codeAny_handlers_suite ?_)
  refine lands_againW fl₂ fun h₃ fl₃ u₃ => ?_
  have U₃ : G.UpToSlots h₃ := hsm.trans ((u₁.trans u₂).trans u₃)
  obtain ⟨g₃, T₃, F₃, K₃⟩ := kts_ground K F hBG fl₃.1 U₃
  have nL : ∀ z ∈ news, z.1 ≠ L := fun z hz y => by
    have w := (hl z hz).1
    rw [y, hBL] at w
    cases w
  have N₃ : News g₃ L h₃ news := fun z hz => ⟨fl₃.1 _ _ (hl z hz).1, nL z hz, T₃.none_ _ (kts_none F.keep (hl z hz).2.1)⟩
  exact wpAny_passesOwnAt hE (k h₃ g₃ T₃ F₃ N₃ K₃ (XB.keeps K₃.stays) (TB.keeps K₃.stays) (D.turn T₃) ⟨⟨B, hB, hBG, hl, fl₃, hnew⟩, ((htup.of_slots u₁).of_slots u₂).of_slots u₃⟩ U₃)

/-- a bare raise while the exception is held: it flies on -/
theorem raise_again {env : Env} (hA : A.handled = some (.ref e)) (hf : env.frame = some L) (R : RaisedS base G (envOf name scope L a cd :: outer) e (.ref C) t vs news s.heap) (U : G.UpToSlots s.heap)
    (k : ∀ h', RaisedH base G (envOf name scope L a cd :: outer) L e (.ref C) t vs news h' → G.UpToSlots h' → E (.ref e) { s with heap := h' }) :
    wpAny (model prog w) A (exec (.Raise none none pos) env) Q E s := by
  obtain ⟨⟨B, hB, hBG, hl, hfl, hnew⟩, htup⟩ := R
  obtain ⟨_, _, _, oe, ws, T, oT, ts, he, hc, hd, h1, _⟩ := id hfl
  rw [arm_exec_Raise]
  refine wpAny_bind (wpAny_standAt ?_)
  unfold raiseStmt
  refine wpAny_bind (wpAny_handled ?_)
  rw [hA]
  refine wpAny_bind (wpAny_rule (wpAny_bind (wpAny_field he hd h1 ?_)))
  rw [if_neg (show ¬ ((Value.ref T == Value.none) = true) from by simp)]
  rw [hf]
  exact wpAny_bind (setFlight_onW hfl fun h' hh hs => wpAny_throw (k h' ⟨⟨B, hB, hBG, hl, hh, hnew⟩, htup.of_slots hs⟩ (U.trans hs)))
end
end Mine
end
section
open PySem PySem.W PyProof.Rows PySem.Calls
namespace Mine
def dn (n : Int) : Dat := .tuple [.int n, .int 0]
abbrev pairO (k : Int) (t t' : Tok) : Obj := { cls := .type "tuple", data := .seq [.int k t, .int 0 t'].toArray }
section
variable {prog : Program} {w : World} {A : Around} {h₀ : Heap} {L : Addr} {m : Str → Option Value} {env : Env} {x : Str} {scope : Scope} {cl : List (Str × Addr)} {s : Shared} {Fin : List Value → List (Addr × Obj) → Prop} {news : List (Addr × Obj)} {p1 p2 p3 : Pos} {k0 kk : Nat}
open LCg

/-- what a list of pairs (n, 0) in the making has laid -/
def Pairs (tls : List (Addr × Obj)) (ys : List Value) (ns : List Int) : Prop := DatAll tls ys (ns.map dn) ∧ ∀ p ∈ tls, p.2.cls = .type "tuple"

end
end Mine
end
section
open PySem PySem.W PyProof.Rows PySem.Calls
namespace Mine
def tupish (o : Obj) : Prop := o.cls = .type "tuple" ∧ ∀ c, o.data ≠ .cell c
section
variable {prog : Program} {w : World} {A : Around} {E : Value → Shared → Prop} {s : Shared} {h₀ h : Heap} {L : Addr} {m : Str → Option Value} {news n1 n2 : List (Addr × Obj)} {Q : Value → Shared → Prop}
theorem dn_ok (ns : List Int) : ∀ d ∈ ns.map dn, kqdOk 8 d = true := fun d hd => by
  obtain ⟨n, -, rfl⟩ := List.mem_map.mp hd
  rfl
/-- the machine's stack beside the law's list of pairs: alike -/
theorem stacks_ne {st D : Addr} {xs ys : List Value} {ka : Nat} {ns : List Int} (N : News h₀ L s.heap news) (ma : (st, W.listOf xs.toArray ka) ∈ news) (Dx : DatAll news xs (ns.map dn))
    (mb : (D, LCg.lst ys) ∈ news) (Dy : Pairs n2 ys ns) (s2 : ∀ p ∈ n2, p ∈ news) (hu : A.units + 64 < cLine) (k : Q (.bool false) s) : wpAny (model prog w) A (compareOp .NotEq (.ref st) (.ref D)) Q E s :=
  kqd_ne N ma rfl rfl Dx (fun _ h => h) mb rfl rfl Dy.1 s2 (dn_ok ns) (dn_ok ns) hu (by simpa using k)
theorem ne_same {a : Int} {t u : Tok} (k : Q (.bool false) s) : wpAny (model prog w) A (compareOp .NotEq (.int a t) (.int a u)) Q E s := by
  refine PyProof.Rows.ne_int ?_
  simpa using k
theorem eq_same {a : Int} {t u : Tok} (k : Q (.bool true) s) : wpAny (model prog w) A (compareOp .Eq (.int a t) (.int a u)) Q E s := by
  refine PyProof.Rows.eq_int ?_
  simpa using k
theorem eq_no {a b : Int} {t u : Tok} (h : a ≠ b) (k : Q (.bool false) s) : wpAny (model prog w) A (compareOp .Eq (.int a t) (.int b u)) Q E s := by
  refine PyProof.Rows.eq_int ?_
  rw [show (a == b) = false from by simpa using h]
  exact k
theorem pop_last (p : List Value) (y : Value) : kl_last (p ++ [y]).toArray.toList = some (p, y) := by
  have e := kpa_last y p
  simpa using e
theorem max00 {t u : Tok} (hh : A.handled = none) (F : Fr h₀ L s.heap m) (N : News h₀ L s.heap news) (k : ∀ h' tk, Fr h₀ L h' m → News h₀ L h' news → Q (.int 0 t) { s with heap := h', toks := tk }) :
    wpAny (model prog w) A (call (.builtin "max") [.int 0 t, .int 0 u]) Q E s := by
  refine max_two_N hh F N fun h' tk F' N' => ?_
  simpa using k h' tk F' N'
theorem sub00 {t u : Tok} (k : Q (.int 0 s.toks) { s with toks := s.toks + 1 }) : wpAny (model prog w) A (binaryOp .Sub (.int 0 t) (.int 0 u)) Q E s := by
  refine PyProof.Rows.sub_int ?_
  simpa using k
theorem add00 {t u : Tok} (k : Q (.int 0 s.toks) { s with toks := s.toks + 1 }) : wpAny (model prog w) A (binaryOp .Add (.int 0 t) (.int 0 u)) Q E s := by
  refine PyProof.Rows.add_int ?_
  simpa using k
theorem pow10_0 {t u : Tok} (k : Q (.int 1 s.toks) { s with toks := s.toks + 1 }) : wpAny (model prog w) A (binaryOp .Pow (.int 10 t) (.int 0 u)) Q E s := by
  refine PyProof.Rows.pow_int_small (by decide) (by decide) (by decide) ?_
  simpa using k
theorem mul_1 {x : Int} {t u : Tok} (k : Q (.int x s.toks) { s with toks := s.toks + 1 }) : wpAny (model prog w) A (binaryOp .Mult (.int x t) (.int 1 u)) Q E s := by
  refine PyProof.Rows.mul_int ?_
  simpa using k
theorem lt_yes {a b : Int} {t u : Tok} (h : a < b) (k : Q (.bool true) s) : wpAny (model prog w) A (compareOp .Lt (.int a t) (.int b u)) Q E s := by
  refine PyProof.Rows.lt_int ?_
  rw [decide_eq_true h]
  exact k
theorem lt_not {a b : Int} {t u : Tok} (h : ¬ a < b) (k : Q (.bool false) s) : wpAny (model prog w) A (compareOp .Lt (.int a t) (.int b u)) Q E s := by
  refine PyProof.Rows.lt_int ?_
  rw [decide_eq_false h]
  exact k
theorem abs_or {a : Int} {t : Tok} (k : ∀ n u tk, 0 ≤ n → (n = a ∨ n = -a) → Q (.int n u) { s with toks := tk }) : wpAny (model prog w) A (call (.builtin "abs") [.int a t]) Q E s := by
  refine PyProof.Rows.call_abs_int fun u tk => ?_
  refine k _ u tk ?_ ?_
  · split <;> omega
  · split <;> simp
theorem abs_pos {a : Int} {t : Tok} (h : 0 ≤ a) (k : ∀ u tk, Q (.int a u) { s with toks := tk }) : wpAny (model prog w) A (call (.builtin "abs") [.int a t]) Q E s := by
  refine PyProof.Rows.call_abs_int fun u tk => ?_
  rw [if_neg (by omega)]
  exact k u tk
theorem abs_neg {a : Int} {t : Tok} (h : a < 0) (k : ∀ u tk, Q (.int (-a) u) { s with toks := tk }) : wpAny (model prog w) A (call (.builtin "abs") [.int a t]) Q E s := by
  refine PyProof.Rows.call_abs_int fun u tk => ?_
  rw [if_pos h]
  exact k u tk
theorem pow10_120 {t u : Tok} (k : Q (.int (10 ^ 120) s.toks) { s with toks := s.toks + 1 }) : wpAny (model prog w) A (binaryOp .Pow (.int 10 t) (.int 120 u)) Q E s := by
  refine PyProof.Rows.pow_int_small (by decide) (by decide) (by decide) ?_
  exact k
theorem pow10_30 {t u : Tok} (k : Q (.int (10 ^ 30) s.toks) { s with toks := s.toks + 1 }) : wpAny (model prog w) A (binaryOp .Pow (.int 10 t) (.int 30 u)) Q E s := by
  refine PyProof.Rows.pow_int_small (by decide) (by decide) (by decide) ?_
  exact k
theorem mul30 {x : Int} {t u : Tok} (hM : IntMulOk x (10 ^ 30)) (k : ∀ M : Int, M = x * 10 ^ 30 → Q (.int M s.toks) { s with toks := s.toks + 1 }) : wpAny (model prog w) A (binaryOp .Mult (.int x t) (.int (10 ^ 30) u)) Q E s :=
  PyProof.Rows.mul_int (k _ rfl) hM
theorem fdiv_1 {a : Int} {t u : Tok} (k : Q (.int a s.toks) { s with toks := s.toks + 1 }) : wpAny (model prog w) A (binaryOp .FloorDiv (.int a t) (.int 1 u)) Q E s := by
  refine PyProof.Rows.floordiv_int (by decide) ?_ (Or.inl (PyProof.noPylong_of_log2 (by decide +kernel)))
  rw [Int.fdiv_one]
  exact k
theorem fdiv_10 {a x : Int} {n : Nat} {t u : Tok} (h : a = x * 10 ^ (n + 1)) (k : ∀ b : Int, b = x * 10 ^ n → Q (.int b s.toks) { s with toks := s.toks + 1 }) : wpAny (model prog w) A (binaryOp .FloorDiv (.int a t) (.int 10 u)) Q E s := by
  refine PyProof.Rows.floordiv_int (by decide) ?_ (Or.inl (PyProof.noPylong_of_log2 (by decide +kernel)))
  refine k _ ?_
  rw [h, Int.pow_succ, ← Int.mul_assoc]
  exact Int.mul_fdiv_cancel _ (by decide)
theorem fmod_10 {a x : Int} {n : Nat} {t u : Tok} (h : a = x * 10 ^ (n + 1)) (k : Q (.int 0 s.toks) { s with toks := s.toks + 1 }) : wpAny (model prog w) A (binaryOp .Mod (.int a t) (.int 10 u)) Q E s := by
  refine PyProof.Rows.mod_int' (by decide) ?_
  have e : a.fmod 10 = 0 := by
    rw [h, Int.pow_succ, ← Int.mul_assoc]
    exact Int.mul_fmod_left _ _
  rw [e]
  exact k
theorem neg_two {a : Int} {t : Tok} (k : Q (.int a s.toks) { s with toks := s.toks + 1 }) : wpAny (model prog w) A (unaryOp .USub (.int (-a) t)) Q E s := by
  refine PyProof.Rows.neg_int ?_
  rw [Int.neg_neg]
  exact k
theorem add30 {t u : Tok} (k : Q (.int 30 s.toks) { s with toks := s.toks + 1 }) : wpAny (model prog w) A (binaryOp .Add (.int 30 t) (.int 0 u)) Q E s := by
  refine PyProof.Rows.add_int ?_
  simpa using k
theorem fdiv_10l {a x : Int} {t u : Tok} (h : a = x * 10 ^ 1) (k : Q (.int x s.toks) { s with toks := s.toks + 1 }) : wpAny (model prog w) A (binaryOp .FloorDiv (.int a t) (.int 10 u)) Q E s := by
  refine fdiv_10 (x := x) (n := 0) h fun b e => ?_
  have e' : b = x := by rw [e]; simp
  rw [e']
  exact k
theorem fr_kst {ps : List (Str × Value)} (F : Fr h₀ L h m) (hp : ∀ p ∈ ps, m p.1 = some p.2) : Fr h₀ L h (kstB m ps) := by
  have e : kstB m ps = m := funext fun z => kstB_eq hp fun _ => rfl
  rw [e]; exact F
theorem dat_snoc {tl : List (Addr × Obj)} {us : List Value} {ns : List Int} {x : Int} {t t' : Tok} {a : Addr} (H : DatAll tl us (ns.map dn)) : DatAll ((a, pairO x t t') :: tl) (us ++ [.ref a]) ((ns ++ [x]).map dn) := by
  rw [List.map_append]
  exact DatAll.append (H.mono fun p hp => .tail _ hp) (.one (.tuple (.head _) (.cons (.int x t) (.cons (.int 0 t') .nil))))
theorem dat_snoc2 {tl news : List (Addr × Obj)} {us : List Value} {ns : List Int} {x : Int} {t t' : Tok} {a : Addr} (H : DatAll tl us (ns.map dn)) (hm : (a, pairO x t t') ∈ news) (hs : ∀ p ∈ tl, p ∈ news) : DatAll news (us ++ [.ref a]) ((ns ++ [x]).map dn) := by
  rw [List.map_append]
  exact DatAll.append (H.mono hs) (.one (.tuple hm (.cons (.int x t) (.cons (.int 0 t') .nil))))
theorem tupish_pair {tl : List (Addr × Obj)} {a : Addr} {x : Int} {t t' : Tok} (H : ∀ p ∈ tl, tupish p.2) : ∀ p ∈ ((a, pairO x t t') : Addr × Obj) :: tl, tupish p.2 := fun p hp => by
  rcases List.mem_cons.mp hp with rfl | hp
  · exact ⟨rfl, fun c e => nomatch e⟩
  · exact H p hp
end
end Mine
end
section
open PySem PySem.W PyProof.Rows PySem.Calls
namespace Mine
section
variable {prog : Program} {w : World} {A : Around} {h₀ : Heap} {L : Addr} {m : Str → Option Value} {env : Env} {x : Str} {scope : Scope} {cl : List (Str × Addr)} {s : Shared} {Fin : List Value → List (Addr × Obj) → Prop} {news : List (Addr × Obj)} {p1 p2 p3 : Pos} {k0 kk : Nat}
open LCg

theorem pairs_rest2 {ax : Addr} {vs : List Value} {ns : List Int} (hi : IntsAre vs ns) (hS : SrcAt h₀ ax vs.toArray news) (hk : ∀ C, (compEnvC scope cl C env).scope.kind = .function) (hl : ∀ C, (compEnvC scope cl C env).kindOf x = some .local) (hd : (x == ("__debug__" : Str)) = false)
    (fin : ∀ ys tls, Pairs tls ys ns → OwnOff tls (news.map (·.1)) → Fin ys (tls ++ news)) :
    CompRest prog w A h₀ L m env (.Tuple [.Name x p1, .Constant (.int 0) k0 p2] kk p3) x scope cl s (SrcAt h₀ ax vs.toArray) (fun i v => vs.toArray[i]? = some v) Fin vs.toArray.size 0 [] news := by
  have len : vs.toArray.size = ns.length := by rw [List.size_toArray]; exact hi.length
  have key : ∀ (j i : Nat) (ys : List Value) (tls : List (Addr × Obj)), i + j = ns.length → Pairs tls ys (ns.take i) → OwnOff tls (news.map (·.1)) →
      CompRest prog w A h₀ L m env (.Tuple [.Name x p1, .Constant (.int 0) k0 p2] kk p3) x scope cl s (SrcAt h₀ ax vs.toArray) (fun i v => vs.toArray[i]? = some v) Fin j i ys (tls ++ news) := by
    intro j
    induction j with
    | zero =>
      intro i ys tls hij hP hO
      have e : i = ns.length := by omega
      rw [e, List.take_length] at hP
      exact CompRest.zero (fin ys tls hP hO)
    | succ j ih =>
      intro i ys tls hij hP hO
      refine CompRest.succ ?_
      intro v I oI C oC D m₂ h tk E' hv hC hx F N off ne
      obtain ⟨k, t, hv', hk'⟩ := IntsAre.at hi i v (by simpa using hv)
      rw [hv'] at hx
      refine Tuple_ (spliced_more (LCgL.ld_own N (.tail _ (.head _)) hC hx ?_ (hk C) (hl C) hd))
      refine spliced_more (wpAny_Constant_int (spliced_none ?_))
      refine newTuple_N F N (fun h' F' N' => ?_) (by rw [sizeLine_eq]; simp)
      have low : ∀ p ∈ (I, oI) :: (C, oC) :: (D, lst ys) :: (tls ++ news), p.1 ≠ h.objs.size := fun p hp => Nat.ne_of_lt (Heap.lt_size (N p hp).1)
      refine ⟨h', _, ((h.objs.size, pairO k t tk) :: tls) ++ news, rfl, F', fun p hp => N' p ?_, ⟨⟨Ne.symm (low _ (.head _)), Ne.symm (low _ (.tail _ (.head _))), Ne.symm (low _ (.tail _ (.tail _ (.head _))))⟩, off⟩, ?_, ih (i + 1) _ _ (by omega) ⟨?_, ?_⟩ ?_⟩
      · rcases List.mem_cons.mp hp with rfl | hp
        · exact .tail _ (.head _)
        · rcases List.mem_cons.mp hp with rfl | hp
          · exact .tail _ (.tail _ (.head _))
          · rcases List.mem_cons.mp hp with rfl | hp
            · exact .tail _ (.tail _ (.tail _ (.head _)))
            · rcases List.mem_cons.mp hp with rfl | hp
              · exact .head _
              · exact .tail _ (.tail _ (.tail _ (.tail _ hp)))
      · rcases hS with q | ⟨o, hm, q⟩
        · exact .inl q
        · exact .inr ⟨o, List.mem_append.mpr (.inr hm), q⟩
      · rw [List.take_add_one, hk', List.map_append]
        refine DatAll.append (hP.1.mono fun p hp => .tail _ hp) ?_
        exact .one (.tuple (.head _) (.cons (.int k t) (.cons (.int 0 tk) .nil)))
      · intro p hp
        rcases List.mem_cons.mp hp with rfl | hp
        · rfl
        · exact hP.2 p hp
      · intro p hp b hb
        rcases List.mem_cons.mp hp with rfl | hp
        · obtain ⟨q, hq, rfl⟩ := List.mem_map.mp hb
          exact Ne.symm (low q (.tail _ (.tail _ (.tail _ (List.mem_append.mpr (.inr hq))))))
        · exact hO p hp b hb
  rw [len]
  exact key ns.length 0 [] [] (by omega) ⟨by simp only [List.take_zero, List.map_nil]; exact .nil, fun _ hp => nomatch hp⟩ (fun _ hp => nomatch hp)

theorem pairs_comp2 {E : Value → Shared → Prop} {y : Str} {px py pos : Pos} {Q : Value → Shared → Prop} {pl n : Nat} {vs : List Value} {ns : List Int} (hh : A.handled = none) (F : Fr h₀ L s.heap m) (N : News h₀ L s.heap news) (hm : (pl, W.listOf vs.toArray n) ∈ news) (hi : IntsAre vs ns) (hz : ns.length ≤ 1000)
    (hname : ∀ Q' : Value → Shared → Prop, Q' (.ref pl) s → wpAny (model prog w) A (eval (.Name y py) env) Q' E s)
    (hclos : closureFor scope env = pure cl) (hcell : ∀ y ∈ scope.names, y.2 ≠ .cell) (hkind : scope.kind = .function)
    (hnames : ∀ y ∈ scope.names, y.2 = .local → scope.names.lookup y.1 = some .local) (hx : scope.names.lookup x = some .local)
    (hk : ∀ C, (compEnvC scope cl C env).scope.kind = .function) (hl : ∀ C, (compEnvC scope cl C env).kindOf x = some .local) (hd : (x == ("__debug__" : Str)) = false)
    (h : ∀ D h' tk' ys tls, Fr h₀ L h' m → News h₀ L h' ((D, lst ys) :: (news ++ tls)) → Pairs tls ys ns → OwnOff tls (news.map (·.1)) → (∀ p ∈ tls ++ news, @Ne Nat p.1 D) → Q (.ref D) { s with heap := h', toks := tk' })
    (hs : ∀ x, foldedSetIterable (.Name y py) env x = pure x := by intro _; rfl) :
    wpAny (model prog w) A (eval (.ListComp (.Tuple [.Name x p1, .Constant (.int 0) k0 p2] kk p3) [⟨.Name x px, .Name y py, [], 0⟩] scope pos) env) Q E s := by
  refine ListComp_U F hclos hcell hkind hnames hx (hname _ ?_) hs
  refine CompSrc.ledger hh F N hm (by rw [List.size_toArray, hi.length, sizeLine_eq]; omega) fun g => ?_
  refine pairs_rest2 hi (.inr ⟨_, hm, rfl, _, rfl⟩) hk hl hd fun ys tls hP hO => ?_
  intro D h' tk F' N' o1
  have apart : ∀ {l : List (Addr × Obj)}, Off1 D l → ∀ p ∈ l, p.1 ≠ D := by
    intro l
    induction l with
    | nil => intro _ p hp; cases hp
    | cons q r ih =>
      intro o p hp
      rcases List.mem_cons.mp hp with rfl | hp
      · exact o.1
      · exact ih o.2 p hp
  refine h D h' tk ys tls F' (fun p hp => N' p ?_) hP hO (apart o1)
  rcases List.mem_cons.mp hp with rfl | hp
  · exact .head _
  · rcases List.mem_append.mp hp with hp | hp
    · exact .tail _ (List.mem_append.mpr (.inr hp))
    · exact .tail _ (List.mem_append.mpr (.inl hp))
end
end Mine
end
section
open PySem PySem.W PyProof.Rows PySem.Calls
namespace Mine
set_option maxHeartbeats 8000000

/-- the frame of a call: opaque but for what its rules ask -/
def TupC (w : World) (D U : Nat) (f : Nat) (args : List Value) (pre : List (Addr × Obj)) (z : Int) : Prop :=
  ∀ {mean : ExcName → Option Value} {mg mb : Str → Option Value} {dp un : Nat} {gd : Option (List Code)} {cn : Str} {cs : Scope} {a : Addr} {ccd : Value} {cells : List (Str × Addr)} {outer : List Env} {A₀ : Around} {base h₀ : Heap} {L : Addr} {m : Str → Option Value} {s : Shared} {Q E : Value → Shared → Prop} {news : List (Addr × Obj)},
    Below A₀ base outer h₀ → Fr h₀ L s.heap m → (Mine.hd.heap_39 w.params).In h₀ → News h₀ L s.heap news →
    Top Mine.view (looseW Mine.view [Str.ofString "LedgerError", Str.ofString "decimal", Str.ofString "quotient"]) mean mg mb h₀ → cs.kind = .function → dp + D < recursionLimit → un + U < cLine → (∀ p ∈ pre, p ∈ news) →
    (∀ (b : Nat) (t t' : Tok) h' tk', Fr h₀ L h' m → News h₀ L h' ((b, pairO z t t') :: news) → Q (.ref b) { s with heap := h', toks := tk' }) →
    wpAny (model Challenge.rw_pb0236_01.row.prog w) (ktrTop dp un gd cn cs L a ccd cells outer) (call (.ref f) args) Q E s

theorem dec_end {u x k k1 : Int} {n : Nat} (hkn : k = n) (hux : u = x * 10 ^ n) (a : k1 ≤ k) (b : min k 0 ≤ k1)
    (c : (if 0 < k1 then if ((accDown (fun (_ : Int) (x : Int) => x.fdiv 10) k u k1).fmod 10 == 0) = true then true else false else false) = false) : k1 = 0 ∧ accDown (fun (_ : Int) (x : Int) => x.fdiv 10) k u k1 = x := by
  have b' : 0 ≤ k1 := by omega
  have e : accDown (fun (_ : Int) (x : Int) => x.fdiv 10) k u k1 = x * 10 ^ k1.toNat := by
    refine accDown_eq (P := fun j : Int => x * 10 ^ j.toNat) a ?_ fun j h1 h2 => ?_
    · rw [hkn, hux, Int.toNat_natCast]
    · have e2 : j.toNat = (j - 1).toNat + 1 := by omega
      show x * 10 ^ (j - 1).toNat = (x * 10 ^ j.toNat).fdiv 10
      rw [e2, Int.pow_succ, ← Int.mul_assoc, Int.mul_fdiv_cancel _ (by decide)]
  have z : k1 = 0 := by
    refine Decidable.byContradiction fun h => ?_
    have e2 : k1.toNat = (k1.toNat - 1) + 1 := by omega
    rw [if_pos (by omega), e, e2, Int.pow_succ, ← Int.mul_assoc, Int.mul_fmod_left] at c
    exact Bool.noConfusion c
  refine ⟨z, ?_⟩
  rw [e, z]
  exact Int.mul_one x
theorem dec_fin {h₀ h : Heap} {L b : Nat} {news : List (Addr × Obj)} {x y k : Int} {t t' : Tok} (e : k = 0 ∧ y = x) (N : News h₀ L h ((b, { cls := .type "tuple", data := .seq #[.int y t, .int k t'] }) :: news)) : News h₀ L h ((b, pairO x t t') :: news) := by
  obtain ⟨rfl, rfl⟩ := e
  exact N
theorem dec (w : World) (u x k : Int) (n : Nat) (hkn : k = n) (hux : u = x * 10 ^ n) (t t' : Tok) : TupC w 1 8 70 [.int u t, .int k t'] [] x := by
  intro mean mg mb dp un gd cn cs a9 ccd cells outer A₀ base h₀ L m s Q E news B F X N T hk hd hu hp ret
  revert ret
  revert X
  k_fill
  intro X ret
  refine wpAny_call ?_
  k_dflt (refine' code_def ?k1 ?k2 ?k3 ?k4 ?k5 ?kA ?kF ?kK ?k6 ?k7 ?k8 ?k9 ?kB ?_ ?c2 ?c3 ?c4 ?c5; (case kA => exact rfl); (case kF => exact rfl); (case kK => exact hk); (case k1 => k_asm); (case k2 => k_asm); (case k3 => k_asm); (case k4 => k_asm); (case k5 => k_asm); (case k6 => k_is); (case k7 => k_is); (case k8 => ktr_room); (case k9 => first | exact BindsTo.of_eq rfl | exact binds_K (by k_in) rfl (by k_is) rfl rfl rfl); (case c5 => decide); (case kB => exact locs rfl); (case c2 => exact rfl); (case c3 => exact rfl); (case c4 => exact rfl); k_whole; intro g' L' h' FG' F' N' B' X' T'; (try dsimp only); (try k_fold))
  repeat' (first | (k_unfold; (try dsimp only)) | (k_end; wrow_close) | walk1 | (dsimp only; walk1) | (leave1; try dsimp only))
  exact ret _ _ _ _ _ (by assumption) (dec_fin (dec_end hkn hux (by assumption) (by assumption) (by assumption)) (by assumption))
end Mine
end
section
open PySem PySem.W PyProof.Rows PySem.Calls
namespace Mine
set_option maxHeartbeats 8000000

theorem rm1 {x d D R : Nat} (h : x + D < R) (e : 1 + d ≤ D) : x + 1 + d < R := Nat.lt_of_le_of_lt (by rw [Nat.add_assoc]; exact Nat.add_le_add_left e x) h
theorem rm3 {x d D R : Nat} (h : x + D < R) (e : 3 + d ≤ D) : x + 3 + d < R := Nat.lt_of_le_of_lt (by rw [Nat.add_assoc]; exact Nat.add_le_add_left e x) h
theorem nprep {h₀ h : Heap} {L : Nat} {pre news : List (Addr × Obj)} (N : News h₀ L h news) (hp : ∀ p ∈ pre, p ∈ news) : News h₀ L h (pre ++ news) := fun p h => N p ((List.mem_append.mp h).elim (hp p) id)
theorem ndrop {h₀ h : Heap} {L : Nat} {q : Addr × Obj} {pre news : List (Addr × Obj)} (N : News h₀ L h (q :: (pre ++ news))) : News h₀ L h (q :: news) := fun p h => N p ((List.mem_cons.mp h).elim (fun e => e ▸ .head _) fun h => .tail _ (List.mem_append_right _ h))
theorem nsub {h₀ h : Heap} {L : Addr} {l l' : List (Addr × Obj)} (N : News h₀ L h l) (k : ∀ p ∈ l', p ∈ l) : News h₀ L h l' := fun p hp => N p (k p hp)
theorem ncons {p : Addr × Obj} {l l' : List (Addr × Obj)} (a : p ∈ l) (k : ∀ p ∈ l', p ∈ l) : ∀ q ∈ p :: l', q ∈ l := fun q hq => (List.mem_cons.mp hq).elim (fun e => e ▸ a) (k q)
abbrev pairN (n : Nat) (k : Int) (t t' : Tok) : Obj := { cls := .type "tuple", data := .seq [.int k t, .int 0 t'].toArray n }
abbrev triO (x y z : Int) (t t' t'' : Tok) : Obj := { cls := .type "tuple", data := .seq [.int x t, .int y t', .int z t''].toArray }
def TriC (w : World) (D U : Nat) (f : Nat) (args : List Value) (pre : List (Addr × Obj)) (x y z : Int) : Prop :=
  ∀ {mean : ExcName → Option Value} {mg mb : Str → Option Value} {dp un : Nat} {gd : Option (List Code)} {cn : Str} {cs : Scope} {a : Addr} {ccd : Value} {cells : List (Str × Addr)} {outer : List Env} {A₀ : Around} {base h₀ : Heap} {L : Addr} {m : Str → Option Value} {s : Shared} {Q E : Value → Shared → Prop} {news : List (Addr × Obj)},
    Below A₀ base outer h₀ → Fr h₀ L s.heap m → (Mine.hd.heap_39 w.params).In h₀ → News h₀ L s.heap news →
    Top Mine.view (looseW Mine.view [Str.ofString "LedgerError", Str.ofString "decimal", Str.ofString "quotient"]) mean mg mb h₀ → cs.kind = .function → dp + D < recursionLimit → un + U < cLine → (∀ p ∈ pre, p ∈ news) →
    (∀ (b : Nat) (t t' t'' : Tok) h' tk', Fr h₀ L h' m → News h₀ L h' ((b, triO x y z t t' t'') :: news) → Q (.ref b) { s with heap := h', toks := tk' }) →
    wpAny (model Challenge.rw_pb0236_01.row.prog w) (ktrTop dp un gd cn cs L a ccd cells outer) (call (.ref f) args) Q E s
theorem units_c (w : World) {a b na nb : Nat} {x y : Int} {ta ta' tb tb' : Tok} : TriC w 1 16 84 [.ref a, .ref b] [(a, pairN na x ta ta'), (b, pairN nb y tb tb')] x y 0 := by
  intro mean mg mb dp un gd cn cs a9 ccd cells outer A₀ base h₀ L m s Q E news B F X N T hk hd hu hp ret
  replace N : News h₀ L s.heap ((a, pairN na x ta ta') :: (b, pairN nb y tb tb') :: news) := nprep N hp
  clear hp
  revert ret
  revert X
  k_fill
  intro X ret
  refine wpAny_call ?_
  k_dflt (refine' code_def ?k1 ?k2 ?k3 ?k4 ?k5 ?kA ?kF ?kK ?k6 ?k7 ?k8 ?k9 ?kB ?_ ?c2 ?c3 ?c4 ?c5; (case kA => exact rfl); (case kF => exact rfl); (case kK => exact hk); (case k1 => k_asm); (case k2 => k_asm); (case k3 => k_asm); (case k4 => k_asm); (case k5 => k_asm); (case k6 => k_is); (case k7 => k_is); (case k8 => ktr_room); (case k9 => first | exact BindsTo.of_eq rfl | exact binds_K (by k_in) rfl (by k_is) rfl rfl rfl); (case c5 => decide); (case kB => exact locs rfl); (case c2 => exact rfl); (case c3 => exact rfl); (case c4 => exact rfl); k_whole; intro g' L' h' FG' F' N' B' X' T'; (try dsimp only); (try k_fold))
  repeat' (first | (k_here; (with_reducible show wpAny _ _ (call (Value.builtin "max") _) _ _ _); k_dflt (refine' max00 ?hh ?F ?N ?_; (case hh => rfl); (case F => k_asm); (case N => k_asm); k_whole); intro h' tk' F' N'; (try k_sweep)) | (k_here; with_reducible refine sub00 ?_) | (k_here; with_reducible refine pow10_0 ?_) | (k_here; with_reducible refine mul_1 ?_) | (k_unfold; (try dsimp only)) | (k_end; wrow_close) | walk1 | (dsimp only; walk1) | (leave1; try dsimp only))
  exact ret _ _ _ _ _ _ (by assumption) (ndrop (pre := [_, _]) (by assumption))
theorem plus_c (w : World) {a b na nb : Nat} {x y : Int} {ta ta' tb tb' : Tok} : TupC w 2 24 91 [.ref a, .ref b] [(a, pairN na x ta ta'), (b, pairN nb y tb tb')] (x + y) := by
  intro mean mg mb dp un gd cn cs a9 ccd cells outer A₀ base h₀ L m s Q E news B F X N T hk hd hu hp ret
  replace N : News h₀ L s.heap ((a, pairN na x ta ta') :: (b, pairN nb y tb tb') :: news) := nprep N hp
  clear hp
  revert ret
  revert X
  k_fill
  intro X ret
  refine wpAny_call ?_
  k_dflt (refine' code_def ?k1 ?k2 ?k3 ?k4 ?k5 ?kA ?kF ?kK ?k6 ?k7 ?k8 ?k9 ?kB ?_ ?c2 ?c3 ?c4 ?c5; (case kA => exact rfl); (case kF => exact rfl); (case kK => exact hk); (case k1 => k_asm); (case k2 => k_asm); (case k3 => k_asm); (case k4 => k_asm); (case k5 => k_asm); (case k6 => k_is); (case k7 => k_is); (case k8 => ktr_room); (case k9 => first | exact BindsTo.of_eq rfl | exact binds_K (by k_in) rfl (by k_is) rfl rfl rfl); (case c5 => decide); (case kB => exact locs rfl); (case c2 => exact rfl); (case c3 => exact rfl); (case c4 => exact rfl); k_whole; intro g' L' h' FG' F' N' B' X' T'; (try dsimp only); (try k_fold))
  repeat' (first | (k_here; (with_reducible show wpAny _ _ (call (Value.ref 84) [Value.ref _, Value.ref _]) _ _ _); k_dflt (refine' (units_c w) ?B ?F ?X ?N ?T ?hk ?hd ?hu ?hp ?_; (case B => k_asm); (case F => k_asm); (case X => k_asm); (case N => k_asm); (case T => k_asm); (case hk => exact rfl); (case hd => (first | exact rm1 hd (Nat.le_of_ble_eq_true rfl) | exact Nat.le_of_ble_eq_true rfl)); (case hu => (first | exact rm3 hu (Nat.le_of_ble_eq_true rfl) | exact Nat.le_of_ble_eq_true rfl)); (case hp => exact (ncons (by k_mem) (ncons (by k_mem) (fun _ hp9 => nomatch hp9)))); k_whole); intro b9 t9 t9' t9'' h9 tk9 F9 N9; (try dsimp only); (try k_sweep)) | (k_here; (with_reducible show wpAny _ _ (call (Value.ref 70) [Value.int _ _, Value.int _ _]) _ _ _); k_dflt (refine' (dec w _ _ 0 0 rfl (Int.mul_one _).symm _ _) ?B ?F ?X ?N ?T ?hk ?hd ?hu ?hp ?_; (case B => k_asm); (case F => k_asm); (case X => k_asm); (case N => k_asm); (case T => k_asm); (case hk => exact rfl); (case hd => (first | exact rm1 hd (Nat.le_of_ble_eq_true rfl) | exact Nat.le_of_ble_eq_true rfl)); (case hu => (first | exact rm3 hu (Nat.le_of_ble_eq_true rfl) | exact Nat.le_of_ble_eq_true rfl)); (case hp => exact (fun _ hp9 => nomatch hp9)); k_whole); intro b9 t9 t9' h9 tk9 F9 N9; (try dsimp only); (try k_sweep)) | (k_unfold; (try dsimp only)) | (k_end; wrow_close) | walk1 | (dsimp only; walk1) | (leave1; try dsimp only))
  exact ret _ _ _ _ _ (by assumption) (nsub (by assumption) (ncons (by k_mem) (fun _ h9 => .tail _ (.tail _ (.tail _ (.tail _ h9))))))
end Mine
end
section
open PySem PySem.W PyProof.Rows PySem.Calls
namespace Mine
set_option maxHeartbeats 8000000
def lawFn : Stmt := (Challenge.rw_pb0236_01.row.prog.main.body.getLast?).getD (.Pass ⟨0,0,0,0⟩)
def lawSc : Scope := match lawFn with | .FunctionDef _ _ _ _ _ _ sc _ _ _ => sc | _ => default
def lawBody : List Stmt := match lawFn with | .FunctionDef _ _ b _ _ _ _ _ _ _ => b | _ => []
def turnBody : List Stmt := match lawBody with | [_, _, _, _, Stmt.For _ _ b _ _, _] => b | _ => []
def tailBody : List Stmt := match turnBody with | _ :: _ :: _ :: r => r | _ => []
def AtTail (P : Prop) : Prop := P
theorem atTail {P : Prop} (h : AtTail P) : P := h
theorem fr6 {h₀ h : Heap} {L : Addr} {m : Str → Option Value} {o d l p c q : Value} (F : Fr h₀ L h m) (h1 : m (Str.ofString "op") = some o) (h2 : m (Str.ofString "due") = some d) (h3 : m (Str.ofString "label") = some l) (h4 : m (Str.ofString "place") = some p) (h5 : m (Str.ofString "machine") = some c) (h6 : m (Str.ofString "pile") = some q) :
    Fr h₀ L h (kstB m [(Str.ofString "op", o), (Str.ofString "due", d), (Str.ofString "label", l), (Str.ofString "place", p), (Str.ofString "machine", c), (Str.ofString "pile", q)]) :=
  fr_kst F fun x hx => by
    simp only [List.mem_cons, List.not_mem_nil, or_false] at hx
    rcases hx with rfl | rfl | rfl | rfl | rfl | rfl <;> assumption
def big (l : List Int) : Nat := l.foldr (fun x n => max 2 x.natAbs * n) 1
theorem big_cons (x : Int) (r : List Int) : big (x :: r) = max 2 x.natAbs * big r := rfl
theorem big_app (p r : List Int) : big (p ++ r) = big p * big r := by
  induction p with
  | nil => simp [big]
  | cons x p ih => simp only [List.cons_append, big_cons, ih, Nat.mul_assoc]
theorem big_pos (p : List Int) : 1 ≤ big p := by
  induction p with
  | nil => exact Nat.le_refl 1
  | cons x p ih => exact Nat.le_trans ih (Nat.le_mul_of_pos_left _ (by omega))
theorem big_le (p : List Int) (x : Int) : max 2 x.natAbs ≤ big (p ++ [x]) := by
  rw [big_app]
  show _ ≤ big p * (max 2 x.natAbs * 1)
  rw [Nat.mul_one]
  exact Nat.le_mul_of_pos_left _ (big_pos p)
def Grow (p r : List Int) : Prop := r.length ≤ p.length + 1 ∧ big r ≤ 20 * big p
theorem grow_push (p : List Int) {x : Int} (h0 : -9 ≤ x) (h1 : x ≤ 20) : Grow p (p ++ [x]) := by
  refine ⟨by simp, ?_⟩
  rw [big_app, Nat.mul_comm]
  refine Nat.mul_le_mul_right _ ?_
  show max 2 x.natAbs * 1 ≤ 20
  omega
theorem grow_nil (p : List Int) : Grow p [] := ⟨by simp, Nat.le_trans (big_pos p) (Nat.le_mul_of_pos_left _ (by decide))⟩
theorem grow_neg (p : List Int) (y : Int) : Grow (p ++ [y]) (p ++ [-y]) := by
  refine ⟨by simp, ?_⟩
  rw [big_app, big_app]
  show big p * (max 2 (-y).natAbs * 1) ≤ 20 * (big p * (max 2 y.natAbs * 1))
  rw [Int.natAbs_neg]
  exact Nat.le_mul_of_pos_left _ (by decide)
theorem grow_two (p : List Int) (x y z : Int) (h : max 2 z.natAbs ≤ 20 * (max 2 x.natAbs * max 2 y.natAbs)) : Grow (p ++ [x] ++ [y]) (p ++ [z]) := by
  refine ⟨by simp, ?_⟩
  rw [big_app, big_app, big_app]
  show big p * (max 2 z.natAbs * 1) ≤ 20 * (big p * (max 2 x.natAbs * 1) * (max 2 y.natAbs * 1))
  rw [Nat.mul_one, Nat.mul_one, Nat.mul_one, Nat.mul_assoc, Nat.mul_left_comm]
  exact Nat.mul_le_mul_left _ h
theorem two_mul {a b : Nat} : max 2 a + max 2 b ≤ max 2 a * max 2 b := by
  have h1 : 2 ≤ max 2 a := by omega
  have h2 : 2 ≤ max 2 b := by omega
  generalize max 2 a = u at *
  generalize max 2 b = v at *
  obtain ⟨u', rfl⟩ := Nat.exists_eq_add_of_le h1
  obtain ⟨v', rfl⟩ := Nat.exists_eq_add_of_le h2
  simp only [Nat.add_mul, Nat.mul_add]
  omega
theorem grow_add (p : List Int) (x y : Int) : Grow (p ++ [x] ++ [y]) (p ++ [x + y]) := grow_two p x y _ (by
  have h := two_mul (a := x.natAbs) (b := y.natAbs)
  have h2 := Int.natAbs_add_le x y
  omega)
theorem grow_sub (p : List Int) (x y : Int) : Grow (p ++ [x] ++ [y]) (p ++ [x - y]) := grow_two p x y _ (by
  have h := two_mul (a := x.natAbs) (b := y.natAbs)
  omega)
theorem grow_mul (p : List Int) (x y : Int) : Grow (p ++ [x] ++ [y]) (p ++ [x * y]) := grow_two p x y _ (by
  rw [Int.natAbs_mul]
  have h1 : x.natAbs * y.natAbs ≤ max 2 x.natAbs * max 2 y.natAbs := Nat.mul_le_mul (by omega) (by omega)
  have h2 : 1 ≤ max 2 x.natAbs * max 2 y.natAbs := Nat.le_trans (by decide) (Nat.mul_le_mul (Nat.le_max_left 2 x.natAbs) (Nat.le_max_left 2 y.natAbs))
  omega)
theorem grow_div1 (p : List Int) (x y : Int) : Grow (p ++ [x] ++ [y]) (p ++ [x]) := grow_two p x y _ (by
  have h := two_mul (a := x.natAbs) (b := y.natAbs)
  omega)
theorem bound_last (p : List Int) (y : Int) {B : Nat} (h : big (p ++ [y]) ≤ B) : y.natAbs ≤ B := by
  have h2 := big_le p y
  omega
theorem bound_last2 (p : List Int) (x y : Int) {B : Nat} (h : big (p ++ [x] ++ [y]) ≤ B) : x.natAbs ≤ B := by
  rw [big_app] at h
  have h2 : big (p ++ [x]) ≤ B := Nat.le_trans (Nat.le_mul_of_pos_right _ (big_pos [y])) h
  exact bound_last p x h2
theorem bits_of_abs {x : Int} (h : x.natAbs ≤ 20 ^ 15) : Builtin.Int.intBits x ≤ 2 ^ 20 := by
  have h2 : x.natAbs < 2 ^ 70 := Nat.lt_of_le_of_lt h (by decide)
  unfold Builtin.Int.intBits
  have h3 : x.natAbs.log2 ≤ 70 := by
    rcases Nat.eq_zero_or_pos x.natAbs with e | e
    · rw [e]; decide
    · exact Nat.le_of_lt ((Nat.log2_lt (by omega)).mpr h2)
  split <;> omega
theorem mul_ok {x y : Int} (h : x.natAbs ≤ 20 ^ 15) (h2 : y.natAbs ≤ 20 ^ 15) : IntMulOk x y := IntMulOk.of_bits (bits_of_abs h) (bits_of_abs h2)
theorem mul_lt {x y : Int} (h : x.natAbs ≤ 20 ^ 15) (h2 : y.natAbs ≤ 20 ^ 15) : -(10 ^ 120) < x * y ∧ x * y < 10 ^ 120 := by
  have h3 : (x * y).natAbs ≤ 20 ^ 15 * 20 ^ 15 := by
    rw [Int.natAbs_mul]
    exact Nat.mul_le_mul h h2
  have h4 : (20 ^ 15 * 20 ^ 15 : Nat) < 10 ^ 120 := by decide
  omega
end Mine
end
section
open PySem PySem.W PyProof.Rows PySem.Calls
namespace Mine
set_option maxHeartbeats 8000000

/-- a call that gives one value and changes no ledger -/
def ValC (w : World) (D U : Nat) (f : Nat) (args : List Value) (P : Tok → Value) : Prop :=
  ∀ {mean : ExcName → Option Value} {mg mb : Str → Option Value} {dp un : Nat} {gd : Option (List Code)} {cn : Str} {cs : Scope} {a : Addr} {ccd : Value} {cells : List (Str × Addr)} {outer : List Env} {A₀ : Around} {base h₀ : Heap} {L : Addr} {m : Str → Option Value} {s : Shared} {Q E : Value → Shared → Prop} {news : List (Addr × Obj)},
    Below A₀ base outer h₀ → Fr h₀ L s.heap m → (Mine.hd.heap_39 w.params).In h₀ → News h₀ L s.heap news →
    Top Mine.view (looseW Mine.view [Str.ofString "LedgerError", Str.ofString "decimal", Str.ofString "quotient"]) mean mg mb h₀ → cs.kind = .function → dp + D < recursionLimit → un + U < cLine → 
    (∀ t h' tk', Fr h₀ L h' m → News h₀ L h' news → Q (P t) { s with heap := h', toks := tk' }) →
    wpAny (model Challenge.rw_pb0236_01.row.prog w) (ktrTop dp un gd cn cs L a ccd cells outer) (call (.ref f) args) Q E s
theorem minus_c (w : World) {a b na nb : Nat} {x y : Int} {ta ta' tb tb' : Tok} : TupC w 2 24 98 [.ref a, .ref b] [(a, pairN na x ta ta'), (b, pairN nb y tb tb')] (x - y) := by
  intro mean mg mb dp un gd cn cs a9 ccd cells outer A₀ base h₀ L m s Q E news B F X N T hk hd hu hp ret
  replace N : News h₀ L s.heap ((a, pairN na x ta ta') :: (b, pairN nb y tb tb') :: news) := nprep N hp
  clear hp
  revert ret
  revert X
  k_fill
  intro X ret
  refine wpAny_call ?_
  k_dflt (refine' code_def ?k1 ?k2 ?k3 ?k4 ?k5 ?kA ?kF ?kK ?k6 ?k7 ?k8 ?k9 ?kB ?_ ?c2 ?c3 ?c4 ?c5; (case kA => exact rfl); (case kF => exact rfl); (case kK => exact hk); (case k1 => k_asm); (case k2 => k_asm); (case k3 => k_asm); (case k4 => k_asm); (case k5 => k_asm); (case k6 => k_is); (case k7 => k_is); (case k8 => ktr_room); (case k9 => first | exact BindsTo.of_eq rfl | exact binds_K (by k_in) rfl (by k_is) rfl rfl rfl); (case c5 => decide); (case kB => exact locs rfl); (case c2 => exact rfl); (case c3 => exact rfl); (case c4 => exact rfl); k_whole; intro g' L' h' FG' F' N' B' X' T'; (try dsimp only); (try k_fold))
  repeat' (first | (k_here; (with_reducible show wpAny _ _ (call (Value.ref 84) [Value.ref _, Value.ref _]) _ _ _); k_dflt (refine' (units_c w) ?B ?F ?X ?N ?T ?hk ?hd ?hu ?hp ?_; (case B => k_asm); (case F => k_asm); (case X => k_asm); (case N => k_asm); (case T => k_asm); (case hk => exact rfl); (case hd => (first | exact rm1 hd (Nat.le_of_ble_eq_true rfl) | exact Nat.le_of_ble_eq_true rfl)); (case hu => (first | exact rm3 hu (Nat.le_of_ble_eq_true rfl) | exact Nat.le_of_ble_eq_true rfl)); (case hp => exact (ncons (by k_mem) (ncons (by k_mem) (fun _ hp9 => nomatch hp9)))); k_whole); intro b9 t9 t9' t9'' h9 tk9 F9 N9; (try dsimp only); (try k_sweep)) | (k_here; (with_reducible show wpAny _ _ (call (Value.ref 70) [Value.int _ _, Value.int _ _]) _ _ _); k_dflt (refine' (dec w _ _ 0 0 rfl (Int.mul_one _).symm _ _) ?B ?F ?X ?N ?T ?hk ?hd ?hu ?hp ?_; (case B => k_asm); (case F => k_asm); (case X => k_asm); (case N => k_asm); (case T => k_asm); (case hk => exact rfl); (case hd => (first | exact rm1 hd (Nat.le_of_ble_eq_true rfl) | exact Nat.le_of_ble_eq_true rfl)); (case hu => (first | exact rm3 hu (Nat.le_of_ble_eq_true rfl) | exact Nat.le_of_ble_eq_true rfl)); (case hp => exact (fun _ hp9 => nomatch hp9)); k_whole); intro b9 t9 t9' h9 tk9 F9 N9; (try dsimp only); (try k_sweep)) | (k_unfold; (try dsimp only)) | (k_end; wrow_close) | walk1 | (dsimp only; walk1) | (leave1; try dsimp only))
  exact ret _ _ _ _ _ (by assumption) (nsub (by assumption) (ncons (by k_mem) (fun _ h9 => .tail _ (.tail _ (.tail _ (.tail _ h9))))))

theorem fits_c (w : World) {z : Int} {t t' : Tok} (h0 : -(10 ^ 120) < z) (h1 : z < 10 ^ 120) : ValC w 1 8 134 [.int z t, .int 120 t'] (fun _ => .bool true) := by
  intro mean mg mb dp un gd cn cs a9 ccd cells outer A₀ base h₀ L m s Q E news B F X N T hk hd hu ret
  revert ret
  revert X
  k_fill
  intro X ret
  refine wpAny_call ?_
  k_dflt (refine' code_def ?k1 ?k2 ?k3 ?k4 ?k5 ?kA ?kF ?kK ?k6 ?k7 ?k8 ?k9 ?kB ?_ ?c2 ?c3 ?c4 ?c5; (case kA => exact rfl); (case kF => exact rfl); (case kK => exact hk); (case k1 => k_asm); (case k2 => k_asm); (case k3 => k_asm); (case k4 => k_asm); (case k5 => k_asm); (case k6 => k_is); (case k7 => k_is); (case k8 => ktr_room); (case k9 => first | exact BindsTo.of_eq rfl | exact binds_K (by k_in) rfl (by k_is) rfl rfl rfl); (case c5 => decide); (case kB => exact locs rfl); (case c2 => exact rfl); (case c3 => exact rfl); (case c4 => exact rfl); k_whole; intro g' L' h' FG' F' N' B' X' T'; (try dsimp only); (try k_fold))
  repeat' (first | (k_here; (with_reducible show wpAny _ _ (call (Value.builtin "abs") _) _ _ _); refine abs_or ?_; intro n9 u9 tk9 lo9 or9) | (k_here; with_reducible refine pow10_120 ?_) | (k_here; (with_reducible show wpAny _ _ (compareOp CmpOp.Lt (Value.int _ _) (Value.int _ _)) _ _ _); first | refine lt_yes (by omega) ?_ | refine lt_not (by omega) ?_) | (k_unfold; (try dsimp only)) | (k_end; wrow_close) | walk1 | (dsimp only; walk1) | (leave1; try dsimp only))
  exact ret 0 _ _ (by assumption) (by assumption)
theorem kept_c (w : World) {z : Int} {t t' : Tok} (h0 : -(10 ^ 120) < z) (h1 : z < 10 ^ 120) : TupC w 2 24 77 [.int z t, .int 0 t'] [] z := by
  intro mean mg mb dp un gd cn cs a9 ccd cells outer A₀ base h₀ L m s Q E news B F X N T hk hd hu hp ret
  clear hp
  revert ret
  revert X
  k_fill
  intro X ret
  refine wpAny_call ?_
  k_dflt (refine' code_def ?k1 ?k2 ?k3 ?k4 ?k5 ?kA ?kF ?kK ?k6 ?k7 ?k8 ?k9 ?kB ?_ ?c2 ?c3 ?c4 ?c5; (case kA => exact rfl); (case kF => exact rfl); (case kK => exact hk); (case k1 => k_asm); (case k2 => k_asm); (case k3 => k_asm); (case k4 => k_asm); (case k5 => k_asm); (case k6 => k_is); (case k7 => k_is); (case k8 => ktr_room); (case k9 => first | exact BindsTo.of_eq rfl | exact binds_K (by k_in) rfl (by k_is) rfl rfl rfl); (case c5 => decide); (case kB => exact locs rfl); (case c2 => exact rfl); (case c3 => exact rfl); (case c4 => exact rfl); k_whole; intro g' L' h' FG' F' N' B' X' T'; (try dsimp only); (try k_fold))
  repeat' (first | (k_here; (with_reducible show wpAny _ _ (call (Value.ref 134) [Value.int _ _, Value.int _ _]) _ _ _); k_dflt (refine' (fits_c w h0 h1) ?B ?F ?X ?N ?T ?hk ?hd ?hu ?_; (case B => k_asm); (case F => k_asm); (case X => k_asm); (case N => k_asm); (case T => k_asm); (case hk => exact rfl); (case hd => (first | exact rm1 hd (Nat.le_of_ble_eq_true rfl) | exact Nat.le_of_ble_eq_true rfl)); (case hu => (first | exact rm3 hu (Nat.le_of_ble_eq_true rfl) | exact Nat.le_of_ble_eq_true rfl)); k_whole); intro t9 h9 tk9 F9 N9; (try dsimp only); (try k_sweep)) | (k_here; (with_reducible show wpAny _ _ (call (Value.ref 70) [Value.int _ _, Value.int _ _]) _ _ _); k_dflt (refine' (dec w _ _ 0 0 rfl (Int.mul_one _).symm _ _) ?B ?F ?X ?N ?T ?hk ?hd ?hu ?hp ?_; (case B => k_asm); (case F => k_asm); (case X => k_asm); (case N => k_asm); (case T => k_asm); (case hk => exact rfl); (case hd => (first | exact rm1 hd (Nat.le_of_ble_eq_true rfl) | exact Nat.le_of_ble_eq_true rfl)); (case hu => (first | exact rm3 hu (Nat.le_of_ble_eq_true rfl) | exact Nat.le_of_ble_eq_true rfl)); (case hp => exact (fun _ hp9 => nomatch hp9)); k_whole); intro b9 t9 t9' h9 tk9 F9 N9; (try dsimp only); (try k_sweep)) | (k_unfold; (try dsimp only)) | (k_end; wrow_close) | walk1 | (dsimp only; walk1) | (leave1; try dsimp only))
  exact ret _ _ _ _ _ (by assumption) (by assumption)
theorem times_c (w : World) {a b na nb : Nat} {x y : Int} {ta ta' tb tb' : Tok} (hM : IntMulOk x y) (h0 : -(10 ^ 120) < x * y) (h1 : x * y < 10 ^ 120) : TupC w 3 32 105 [.ref a, .ref b] [(a, pairN na x ta ta'), (b, pairN nb y tb tb')] (x * y) := by
  intro mean mg mb dp un gd cn cs a9 ccd cells outer A₀ base h₀ L m s Q E news B F X N T hk hd hu hp ret
  replace N : News h₀ L s.heap ((a, pairN na x ta ta') :: (b, pairN nb y tb tb') :: news) := nprep N hp
  clear hp
  revert ret
  revert X
  k_fill
  intro X ret
  refine wpAny_call ?_
  k_dflt (refine' code_def ?k1 ?k2 ?k3 ?k4 ?k5 ?kA ?kF ?kK ?k6 ?k7 ?k8 ?k9 ?kB ?_ ?c2 ?c3 ?c4 ?c5; (case kA => exact rfl); (case kF => exact rfl); (case kK => exact hk); (case k1 => k_asm); (case k2 => k_asm); (case k3 => k_asm); (case k4 => k_asm); (case k5 => k_asm); (case k6 => k_is); (case k7 => k_is); (case k8 => ktr_room); (case k9 => first | exact BindsTo.of_eq rfl | exact binds_K (by k_in) rfl (by k_is) rfl rfl rfl); (case c5 => decide); (case kB => exact locs rfl); (case c2 => exact rfl); (case c3 => exact rfl); (case c4 => exact rfl); k_whole; intro g' L' h' FG' F' N' B' X' T'; (try dsimp only); (try k_fold))
  repeat' (first | (k_here; with_reducible refine PyProof.Rows.mul_int ?_ (by assumption)) | (k_here; with_reducible refine add00 ?_) | (k_here; (with_reducible show wpAny _ _ (call (Value.ref 77) [Value.int _ _, Value.int _ _]) _ _ _); k_dflt (refine' (kept_c w h0 h1) ?B ?F ?X ?N ?T ?hk ?hd ?hu ?hp ?_; (case B => k_asm); (case F => k_asm); (case X => k_asm); (case N => k_asm); (case T => k_asm); (case hk => exact rfl); (case hd => (first | exact rm1 hd (Nat.le_of_ble_eq_true rfl) | exact Nat.le_of_ble_eq_true rfl)); (case hu => (first | exact rm3 hu (Nat.le_of_ble_eq_true rfl) | exact Nat.le_of_ble_eq_true rfl)); (case hp => exact (fun _ hp9 => nomatch hp9)); k_whole); intro b9 t9 t9' h9 tk9 F9 N9; (try dsimp only); (try k_sweep)) | (k_unfold; (try dsimp only)) | (k_end; wrow_close) | walk1 | (dsimp only; walk1) | (leave1; try dsimp only))
  exact ret _ _ _ _ _ (by assumption) (ndrop (pre := [_, _]) (by assumption))

theorem neg_c (w : World) {b nb : Nat} {y : Int} {tb tb' : Tok} : TupC w 1 8 112 [.ref b] [(b, pairN nb y tb tb')] (-y) := by
  intro mean mg mb dp un gd cn cs a9 ccd cells outer A₀ base h₀ L m s Q E news B F X N T hk hd hu hp ret
  replace N : News h₀ L s.heap ((b, pairN nb y tb tb') :: news) := nprep N hp
  clear hp
  revert ret
  revert X
  k_fill
  intro X ret
  refine wpAny_call ?_
  k_dflt (refine' code_def ?k1 ?k2 ?k3 ?k4 ?k5 ?kA ?kF ?kK ?k6 ?k7 ?k8 ?k9 ?kB ?_ ?c2 ?c3 ?c4 ?c5; (case kA => exact rfl); (case kF => exact rfl); (case kK => exact hk); (case k1 => k_asm); (case k2 => k_asm); (case k3 => k_asm); (case k4 => k_asm); (case k5 => k_asm); (case k6 => k_is); (case k7 => k_is); (case k8 => ktr_room); (case k9 => first | exact BindsTo.of_eq rfl | exact binds_K (by k_in) rfl (by k_is) rfl rfl rfl); (case c5 => decide); (case kB => exact locs rfl); (case c2 => exact rfl); (case c3 => exact rfl); (case c4 => exact rfl); k_whole; intro g' L' h' FG' F' N' B' X' T'; (try dsimp only); (try k_fold))
  repeat' (first | (k_here; with_reducible refine PyProof.Rows.neg_int ?_) | (k_unfold; (try dsimp only)) | (k_end; wrow_close) | walk1 | (dsimp only; walk1) | (leave1; try dsimp only))
  exact ret _ _ _ _ _ (by assumption) (ndrop (pre := [_]) (by assumption))
end Mine
end
section
open PySem PySem.W PyProof.Rows PySem.Calls
namespace Mine
set_option maxHeartbeats 8000000
theorem cut_c (w : World) {M : Int} {t t' : Tok} : ValC w 1 16 62 [.int M t, .int 1 t'] (fun t => .int M t) := by
  intro mean mg mb dp un gd cn cs a9 ccd cells outer A₀ base h₀ L m s Q E news B F X N T hk hd hu ret
  rcases (show M < 0 ∨ 0 ≤ M by omega) with hM | hM
  all_goals
    revert ret
    revert X
    k_fill
    intro X ret
    refine wpAny_call ?_
    k_dflt (refine' code_def ?k1 ?k2 ?k3 ?k4 ?k5 ?kA ?kF ?kK ?k6 ?k7 ?k8 ?k9 ?kB ?_ ?c2 ?c3 ?c4 ?c5; (case kA => exact rfl); (case kF => exact rfl); (case kK => exact hk); (case k1 => k_asm); (case k2 => k_asm); (case k3 => k_asm); (case k4 => k_asm); (case k5 => k_asm); (case k6 => k_is); (case k7 => k_is); (case k8 => ktr_room); (case k9 => first | exact BindsTo.of_eq rfl | exact binds_K (by k_in) rfl (by k_is) rfl rfl rfl); (case c5 => decide); (case kB => exact locs rfl); (case c2 => exact rfl); (case c3 => exact rfl); (case c4 => exact rfl); k_whole; intro g' L' h' FG' F' N' B' X' T'; (try dsimp only); (try k_fold))
    repeat' (first | (k_here; (with_reducible show wpAny _ _ (call (Value.builtin "abs") _) _ _ _); first | (refine abs_pos (by omega) ?_; intro u9 tk9) | (refine abs_neg (by omega) ?_; intro u9 tk9)) | (k_here; with_reducible refine fdiv_1 ?_) | (k_here; with_reducible refine neg_two ?_) | (k_here; (with_reducible show wpAny _ _ (compareOp CmpOp.Lt (Value.int _ _) (Value.int _ _)) _ _ _); first | refine lt_yes (by omega) ?_ | refine lt_not (by omega) ?_) | (k_unfold; (try dsimp only)) | (k_end; wrow_close) | walk1 | (dsimp only; walk1) | (leave1; try dsimp only))
    exact ret _ _ _ (by assumption) (by assumption)
theorem quot_c (w : World) {a b na nb : Nat} {x : Int} {ta ta' tb tb' : Tok} (hM : IntMulOk x (10 ^ 30)) : TupC w 3 32 120 [.ref a, .ref b] [(a, pairN na x ta ta'), (b, pairN nb 1 tb tb')] x := by
  intro mean mg mb dp un gd cn cs a9 ccd cells outer A₀ base h₀ L m s Q E news B F X N T hk hd hu hp ret
  replace N : News h₀ L s.heap ((a, pairN na x ta ta') :: (b, pairN nb 1 tb tb') :: news) := nprep N hp
  clear hp
  revert ret
  revert X
  k_fill
  intro X ret
  refine wpAny_call ?_
  k_dflt (refine' code_def ?k1 ?k2 ?k3 ?k4 ?k5 ?kA ?kF ?kK ?k6 ?k7 ?k8 ?k9 ?kB ?_ ?c2 ?c3 ?c4 ?c5; (case kA => exact rfl); (case kF => exact rfl); (case kK => exact hk); (case k1 => k_asm); (case k2 => k_asm); (case k3 => k_asm); (case k4 => k_asm); (case k5 => k_asm); (case k6 => k_is); (case k7 => k_is); (case k8 => ktr_room); (case k9 => first | exact BindsTo.of_eq rfl | exact binds_K (by k_in) rfl (by k_is) rfl rfl rfl); (case c5 => decide); (case kB => exact locs rfl); (case c2 => exact rfl); (case c3 => exact rfl); (case c4 => exact rfl); k_whole; intro g' L' h' FG' F' N' B' X' T'; (try dsimp only); (try k_fold))
  repeat' (first | (k_here; (with_reducible show wpAny _ _ (compareOp CmpOp.Eq (Value.int _ _) (Value.int _ _)) _ _ _); first | with_reducible refine eq_same ?_ | (refine eq_no (by decide) ?_)) | (k_here; with_reducible refine pow10_30 ?_) | (k_here; with_reducible refine pow10_0 ?_) | (k_here; with_reducible refine add30 ?_) | (k_here; with_reducible refine mul_1 ?_) | (k_here; with_reducible refine mul30 (by assumption) ?_; intro M9 e9) | (k_here; (with_reducible show wpAny _ _ (call (Value.ref 62) [Value.int _ _, Value.int 1 _]) _ _ _); k_dflt (refine' (cut_c w) ?B ?F ?X ?N ?T ?hk ?hd ?hu ?_; (case B => k_asm); (case F => k_asm); (case X => k_asm); (case N => k_asm); (case T => k_asm); (case hk => exact rfl); (case hd => (first | exact rm1 hd (Nat.le_of_ble_eq_true rfl) | exact Nat.le_of_ble_eq_true rfl)); (case hu => (first | exact rm3 hu (Nat.le_of_ble_eq_true rfl) | exact Nat.le_of_ble_eq_true rfl)); k_whole); intro t9 h9 tk9 F9 N9; (try dsimp only); (try k_sweep)) | (k_here; (with_reducible show wpAny _ _ (call (Value.ref 70) [Value.int _ _, Value.int _ _]) _ _ _); k_dflt (refine' (dec w _ _ 30 30 rfl (by assumption) _ _) ?B ?F ?X ?N ?T ?hk ?hd ?hu ?hp ?_; (case B => k_asm); (case F => k_asm); (case X => k_asm); (case N => k_asm); (case T => k_asm); (case hk => exact rfl); (case hd => (first | exact rm1 hd (Nat.le_of_ble_eq_true rfl) | exact Nat.le_of_ble_eq_true rfl)); (case hu => (first | exact rm3 hu (Nat.le_of_ble_eq_true rfl) | exact Nat.le_of_ble_eq_true rfl)); (case hp => exact (fun _ hp9 => nomatch hp9)); k_whole); intro b9 t9 t9' h9 tk9 F9 N9; (try dsimp only); (try k_sweep)) | (k_unfold; (try dsimp only)) | (k_end; wrow_close) | walk1 | (dsimp only; walk1) | (leave1; try dsimp only))
  exact ret _ _ _ _ _ (by assumption) (nsub (by assumption) (ncons (by k_mem) (fun _ h9 => .tail _ (.tail _ (.tail _ h9)))))
theorem calc1 (w : World) {a b na nb : Nat} {x y : Int} {ta ta' tb tb' : Tok} (t : Tok)  : TupC w 4 40 190 [.str (Str.ofString "+") t, .ref a, .ref b] [(a, pairN na x ta ta'), (b, pairN nb y tb tb')] (x + y) := by
  intro mean mg mb dp un gd cn cs a9 ccd cells outer A₀ base h₀ L m s Q E news B F X N T hk hd hu hp ret
  replace N : News h₀ L s.heap ((a, pairN na x ta ta') :: (b, pairN nb y tb tb') :: news) := nprep N hp
  clear hp
  revert ret
  revert X
  k_fill
  intro X ret
  refine wpAny_call ?_
  k_dflt (refine' code_def ?k1 ?k2 ?k3 ?k4 ?k5 ?kA ?kF ?kK ?k6 ?k7 ?k8 ?k9 ?kB ?_ ?c2 ?c3 ?c4 ?c5; (case kA => exact rfl); (case kF => exact rfl); (case kK => exact hk); (case k1 => k_asm); (case k2 => k_asm); (case k3 => k_asm); (case k4 => k_asm); (case k5 => k_asm); (case k6 => k_is); (case k7 => k_is); (case k8 => ktr_room); (case k9 => first | exact BindsTo.of_eq rfl | exact binds_K (by k_in) rfl (by k_is) rfl rfl rfl); (case c5 => decide); (case kB => exact locs rfl); (case c2 => exact rfl); (case c3 => exact rfl); (case c4 => exact rfl); k_whole; intro g' L' h' FG' F' N' B' X' T'; (try dsimp only); (try k_fold))
  repeat' (first | (k_here; (with_reducible show wpAny _ _ (call (Value.ref 91) [Value.ref _, Value.ref _]) _ _ _); k_dflt (refine' (plus_c w) ?B ?F ?X ?N ?T ?hk ?hd ?hu ?hp ?_; (case B => k_asm); (case F => k_asm); (case X => k_asm); (case N => k_asm); (case T => k_asm); (case hk => exact rfl); (case hd => (first | exact rm1 hd (Nat.le_of_ble_eq_true rfl) | exact Nat.le_of_ble_eq_true rfl)); (case hu => (first | exact rm3 hu (Nat.le_of_ble_eq_true rfl) | exact Nat.le_of_ble_eq_true rfl)); (case hp => exact (ncons (by k_mem) (ncons (by k_mem) (fun _ hp9 => nomatch hp9)))); k_whole); intro b9 t9 t9' h9 tk9 F9 N9; (try dsimp only); (try k_sweep)) | (k_unfold; (try dsimp only)) | (k_end; wrow_close) | walk1 | (dsimp only; walk1) | (leave1; try dsimp only))
  exact ret _ _ _ _ _ (by assumption) (nsub (by assumption) (ncons (by k_mem) (fun _ h9 => .tail _ (.tail _ (.tail _ h9)))))
theorem calc2 (w : World) {a b na nb : Nat} {x y : Int} {ta ta' tb tb' : Tok} (t : Tok)  : TupC w 4 40 190 [.str (Str.ofString "-") t, .ref a, .ref b] [(a, pairN na x ta ta'), (b, pairN nb y tb tb')] (x - y) := by
  intro mean mg mb dp un gd cn cs a9 ccd cells outer A₀ base h₀ L m s Q E news B F X N T hk hd hu hp ret
  replace N : News h₀ L s.heap ((a, pairN na x ta ta') :: (b, pairN nb y tb tb') :: news) := nprep N hp
  clear hp
  revert ret
  revert X
  k_fill
  intro X ret
  refine wpAny_call ?_
  k_dflt (refine' code_def ?k1 ?k2 ?k3 ?k4 ?k5 ?kA ?kF ?kK ?k6 ?k7 ?k8 ?k9 ?kB ?_ ?c2 ?c3 ?c4 ?c5; (case kA => exact rfl); (case kF => exact rfl); (case kK => exact hk); (case k1 => k_asm); (case k2 => k_asm); (case k3 => k_asm); (case k4 => k_asm); (case k5 => k_asm); (case k6 => k_is); (case k7 => k_is); (case k8 => ktr_room); (case k9 => first | exact BindsTo.of_eq rfl | exact binds_K (by k_in) rfl (by k_is) rfl rfl rfl); (case c5 => decide); (case kB => exact locs rfl); (case c2 => exact rfl); (case c3 => exact rfl); (case c4 => exact rfl); k_whole; intro g' L' h' FG' F' N' B' X' T'; (try dsimp only); (try k_fold))
  repeat' (first | (k_here; (with_reducible show wpAny _ _ (call (Value.ref 98) [Value.ref _, Value.ref _]) _ _ _); k_dflt (refine' (minus_c w) ?B ?F ?X ?N ?T ?hk ?hd ?hu ?hp ?_; (case B => k_asm); (case F => k_asm); (case X => k_asm); (case N => k_asm); (case T => k_asm); (case hk => exact rfl); (case hd => (first | exact rm1 hd (Nat.le_of_ble_eq_true rfl) | exact Nat.le_of_ble_eq_true rfl)); (case hu => (first | exact rm3 hu (Nat.le_of_ble_eq_true rfl) | exact Nat.le_of_ble_eq_true rfl)); (case hp => exact (ncons (by k_mem) (ncons (by k_mem) (fun _ hp9 => nomatch hp9)))); k_whole); intro b9 t9 t9' h9 tk9 F9 N9; (try dsimp only); (try k_sweep)) | (k_unfold; (try dsimp only)) | (k_end; wrow_close) | walk1 | (dsimp only; walk1) | (leave1; try dsimp only))
  exact ret _ _ _ _ _ (by assumption) (nsub (by assumption) (ncons (by k_mem) (fun _ h9 => .tail _ (.tail _ (.tail _ h9)))))
theorem calc3 (w : World) {a b na nb : Nat} {x y : Int} {ta ta' tb tb' : Tok} (t : Tok) (hM : IntMulOk x y) (h0 : -(10 ^ 120) < x * y) (h1 : x * y < 10 ^ 120) : TupC w 4 40 190 [.str (Str.ofString "*") t, .ref a, .ref b] [(a, pairN na x ta ta'), (b, pairN nb y tb tb')] (x * y) := by
  intro mean mg mb dp un gd cn cs a9 ccd cells outer A₀ base h₀ L m s Q E news B F X N T hk hd hu hp ret
  replace N : News h₀ L s.heap ((a, pairN na x ta ta') :: (b, pairN nb y tb tb') :: news) := nprep N hp
  clear hp
  revert ret
  revert X
  k_fill
  intro X ret
  refine wpAny_call ?_
  k_dflt (refine' code_def ?k1 ?k2 ?k3 ?k4 ?k5 ?kA ?kF ?kK ?k6 ?k7 ?k8 ?k9 ?kB ?_ ?c2 ?c3 ?c4 ?c5; (case kA => exact rfl); (case kF => exact rfl); (case kK => exact hk); (case k1 => k_asm); (case k2 => k_asm); (case k3 => k_asm); (case k4 => k_asm); (case k5 => k_asm); (case k6 => k_is); (case k7 => k_is); (case k8 => ktr_room); (case k9 => first | exact BindsTo.of_eq rfl | exact binds_K (by k_in) rfl (by k_is) rfl rfl rfl); (case c5 => decide); (case kB => exact locs rfl); (case c2 => exact rfl); (case c3 => exact rfl); (case c4 => exact rfl); k_whole; intro g' L' h' FG' F' N' B' X' T'; (try dsimp only); (try k_fold))
  repeat' (first | (k_here; (with_reducible show wpAny _ _ (call (Value.ref 105) [Value.ref _, Value.ref _]) _ _ _); k_dflt (refine' (times_c w hM h0 h1) ?B ?F ?X ?N ?T ?hk ?hd ?hu ?hp ?_; (case B => k_asm); (case F => k_asm); (case X => k_asm); (case N => k_asm); (case T => k_asm); (case hk => exact rfl); (case hd => (first | exact rm1 hd (Nat.le_of_ble_eq_true rfl) | exact Nat.le_of_ble_eq_true rfl)); (case hu => (first | exact rm3 hu (Nat.le_of_ble_eq_true rfl) | exact Nat.le_of_ble_eq_true rfl)); (case hp => exact (ncons (by k_mem) (ncons (by k_mem) (fun _ hp9 => nomatch hp9)))); k_whole); intro b9 t9 t9' h9 tk9 F9 N9; (try dsimp only); (try k_sweep)) | (k_unfold; (try dsimp only)) | (k_end; wrow_close) | walk1 | (dsimp only; walk1) | (leave1; try dsimp only))
  exact ret _ _ _ _ _ (by assumption) (nsub (by assumption) (ncons (by k_mem) (fun _ h9 => .tail _ (.tail _ (.tail _ h9)))))
theorem calc4 (w : World) {a b na nb : Nat} {x : Int} {ta ta' tb tb' : Tok} (t : Tok) (hM : IntMulOk x (10 ^ 30)) : TupC w 4 40 190 [.str (Str.ofString "/") t, .ref a, .ref b] [(a, pairN na x ta ta'), (b, pairN nb 1 tb tb')] (x) := by
  intro mean mg mb dp un gd cn cs a9 ccd cells outer A₀ base h₀ L m s Q E news B F X N T hk hd hu hp ret
  replace N : News h₀ L s.heap ((a, pairN na x ta ta') :: (b, pairN nb 1 tb tb') :: news) := nprep N hp
  clear hp
  revert ret
  revert X
  k_fill
  intro X ret
  refine wpAny_call ?_
  k_dflt (refine' code_def ?k1 ?k2 ?k3 ?k4 ?k5 ?kA ?kF ?kK ?k6 ?k7 ?k8 ?k9 ?kB ?_ ?c2 ?c3 ?c4 ?c5; (case kA => exact rfl); (case kF => exact rfl); (case kK => exact hk); (case k1 => k_asm); (case k2 => k_asm); (case k3 => k_asm); (case k4 => k_asm); (case k5 => k_asm); (case k6 => k_is); (case k7 => k_is); (case k8 => ktr_room); (case k9 => first | exact BindsTo.of_eq rfl | exact binds_K (by k_in) rfl (by k_is) rfl rfl rfl); (case c5 => decide); (case kB => exact locs rfl); (case c2 => exact rfl); (case c3 => exact rfl); (case c4 => exact rfl); k_whole; intro g' L' h' FG' F' N' B' X' T'; (try dsimp only); (try k_fold))
  repeat' (first | (k_here; (with_reducible show wpAny _ _ (call (Value.ref 120) [Value.ref _, Value.ref _]) _ _ _); k_dflt (refine' (quot_c w hM) ?B ?F ?X ?N ?T ?hk ?hd ?hu ?hp ?_; (case B => k_asm); (case F => k_asm); (case X => k_asm); (case N => k_asm); (case T => k_asm); (case hk => exact rfl); (case hd => (first | exact rm1 hd (Nat.le_of_ble_eq_true rfl) | exact Nat.le_of_ble_eq_true rfl)); (case hu => (first | exact rm3 hu (Nat.le_of_ble_eq_true rfl) | exact Nat.le_of_ble_eq_true rfl)); (case hp => exact (ncons (by k_mem) (ncons (by k_mem) (fun _ hp9 => nomatch hp9)))); k_whole); intro b9 t9 t9' h9 tk9 F9 N9; (try dsimp only); (try k_sweep)) | (k_unfold; (try dsimp only)) | (k_end; wrow_close) | walk1 | (dsimp only; walk1) | (leave1; try dsimp only))
  exact ret _ _ _ _ _ (by assumption) (nsub (by assumption) (ncons (by k_mem) (fun _ h9 => .tail _ (.tail _ (.tail _ h9)))))
end Mine
end
section
open PySem PySem.W PyProof.Rows PySem.Calls
namespace Mine
set_option maxHeartbeats 1000000

abbrev mdE (P : Params) (co de fr : Nat) (q : Nat → Tok) (q3 q4 : Tok) (pv : Value) (st : Nat) : Obj := dictOf [⟨PyData.keyHash P (Str.ofString "code"), .str (Str.ofString "code") (q 1), .ref co⟩, ⟨PyData.keyHash P (Str.ofString "deeds"), .str (Str.ofString "deeds") (q 2), .ref de⟩, ⟨PyData.keyHash P (Str.ofString "place"), .str (Str.ofString "place") q3, pv⟩, ⟨PyData.keyHash P (Str.ofString "stack"), .str (Str.ofString "stack") q4, .ref st⟩, ⟨PyData.keyHash P (Str.ofString "frames"), .str (Str.ofString "frames") (q 5), .ref fr⟩, ⟨PyData.keyHash P (Str.ofString "key"), .str (Str.ofString "key") (q 6), .str (Str.ofString "") (q 7)⟩, ⟨PyData.keyHash P (Str.ofString "word"), .str (Str.ofString "word") (q 8), .str (Str.ofString "") (q 9)⟩] 7
abbrev ddE (P : Params) (q : Nat → Tok) : Obj := dictOf [⟨PyData.keyHash P (Str.ofString "do"), .str (Str.ofString "do") (q 1), .none⟩, ⟨PyData.keyHash P (Str.ofString "test"), .str (Str.ofString "test") (q 2), .none⟩, ⟨PyData.keyHash P (Str.ofString "number"), .str (Str.ofString "number") (q 3), .ref 267⟩, ⟨PyData.keyHash P (Str.ofString "put"), .str (Str.ofString "put") (q 4), .none⟩] 4
/-- worth_by gives (z, 0) and leaves xs' of the stack's xs -/
def WorthC (w : World) (D U : Nat) (o mc md st : Nat) (opO mdO : Obj) (xs xs' : List Value) (n n' : Nat) (rest : List (Addr × Obj)) (z : Int) : Prop :=
  ∀ {mean : ExcName → Option Value} {mg mb : Str → Option Value} {dp un : Nat} {gd : Option (List Code)} {cn : Str} {cs : Scope} {a9 : Addr} {ccd : Value} {cells : List (Str × Addr)} {outer : List Env} {A₀ : Around} {base h₀ : Heap} {L : Addr} {m : Str → Option Value} {s : Shared} {Q E : Value → Shared → Prop},
    Below A₀ base outer h₀ → Fr h₀ L s.heap m → (Mine.hd.heap_39 w.params).In h₀ → News h₀ L s.heap ((o, opO) :: (mc, instObj 179 md) :: (md, mdO) :: (st, W.listOf xs.toArray n) :: rest) →
    Top Mine.view (looseW Mine.view [Str.ofString "LedgerError", Str.ofString "decimal", Str.ofString "quotient"]) mean mg mb h₀ → cs.kind = .function → dp + D < recursionLimit → un + U < cLine →
    (∀ (b : Nat) (t t' : Tok) h' tk', Fr h₀ L h' m → News h₀ L h' ((b, pairO z t t') :: (o, opO) :: (mc, instObj 179 md) :: (md, mdO) :: (st, W.listOf xs'.toArray n') :: rest) → Q (.ref b) { s with heap := h', toks := tk' }) →
    wpAny (model Challenge.rw_pb0236_01.row.prog w) (ktrTop dp un gd cn cs L a9 ccd cells outer) (call (.ref 197) [.ref mc, .ref o]) Q E s
theorem offst {st : Nat} {l : List (Addr × Obj)} (h : ∀ p ∈ l, @Ne Nat p.1 st) : ∀ p ∈ l, p.1 ≠ st := h

theorem num_c (w : World) {x : Int} {t : Tok} : TupC w 1 8 267 [.int x t] [] x := by
  intro mean mg mb dp un gd cn cs a9 ccd cells outer A₀ base h₀ L m s Q E news B F X N T hk hd hu hp ret
  clear hp
  revert ret
  revert X
  k_fill
  intro X ret
  refine wpAny_call ?_
  k_dflt (refine' code_def ?k1 ?k2 ?k3 ?k4 ?k5 ?kA ?kF ?kK ?k6 ?k7 ?k8 ?k9 ?kB ?_ ?c2 ?c3 ?c4 ?c5; (case kA => exact rfl); (case kF => exact rfl); (case kK => exact hk); (case k1 => k_asm); (case k2 => k_asm); (case k3 => k_asm); (case k4 => k_asm); (case k5 => k_asm); (case k6 => k_is); (case k7 => k_is); (case k8 => ktr_room); (case k9 => first | exact BindsTo.of_eq rfl | exact binds_K (by k_in) rfl (by k_is) rfl rfl rfl); (case c5 => decide); (case kB => exact locs rfl); (case c2 => exact rfl); (case c3 => exact rfl); (case c4 => exact rfl); k_whole; intro g' L' h' FG' F' N' B' X' T'; (try dsimp only); (try k_fold))
  repeat' (first | (k_unfold; (try dsimp only)) | (k_end; wrow_close) | walk1 | (dsimp only; walk1) | (leave1; try dsimp only))
  exact ret _ _ _ _ _ (by assumption) (by assumption)

theorem worth_push (w : World) {o mc md st co de fr dd : Nat} {q r : Nat → Tok} {q3 q4 : Tok} {pv : Value} {x lb : Int} {o1 o2 o3 : Tok} {xs : List Value} {n : Nat} {rest : List (Addr × Obj)} (hde : (de, instObj 249 dd) ∈ rest) (hdd : (dd, ddE w.params r) ∈ rest) :
    WorthC w 5 48 o mc md st (tupO [.str (Str.ofString "push") o1, .int x o2, .int lb o3]) (mdE w.params co de fr q q3 q4 pv st) xs xs n n rest x := by
  intro mean mg mb dp un gd cn cs a9 ccd cells outer A₀ base h₀ L m s Q E B F X N T hk hd hu ret
  replace N := nprep (pre := [(de, instObj 249 dd), (dd, ddE w.params r)]) N (ncons (.tail _ (.tail _ (.tail _ (.tail _ hde)))) (ncons (.tail _ (.tail _ (.tail _ (.tail _ hdd)))) (fun _ hp9 => nomatch hp9)))
  dsimp only [List.cons_append, List.nil_append] at N
  revert ret
  revert X
  k_fill
  intro X ret
  refine wpAny_call ?_
  k_dflt (refine' code_def ?k1 ?k2 ?k3 ?k4 ?k5 ?kA ?kF ?kK ?k6 ?k7 ?k8 ?k9 ?kB ?_ ?c2 ?c3 ?c4 ?c5; (case kA => exact rfl); (case kF => exact rfl); (case kK => exact hk); (case k1 => k_asm); (case k2 => k_asm); (case k3 => k_asm); (case k4 => k_asm); (case k5 => k_asm); (case k6 => k_is); (case k7 => k_is); (case k8 => ktr_room); (case k9 => first | exact BindsTo.of_eq rfl | exact binds_K (by k_in) rfl (by k_is) rfl rfl rfl); (case c5 => decide); (case kB => exact locs rfl); (case c2 => exact rfl); (case c3 => exact rfl); (case c4 => exact rfl); k_whole; intro g' L' h' FG' F' N' B' X' T'; (try dsimp only); (try k_fold))
  repeat' (first | (k_here; (with_reducible show wpAny _ _ (getMethod (Value.ref _) (PySem.Str.ofString "number") _) _ _ _); k_dflt (refine' kmu_own ?k1 ?k2 ?k3 ?k4 ?k5 ?_; (case k1 => k_asm); (case k2 => k_asm); (case k3 => k_inst); (case k4 => k_is); (case k5 => k_is); k_whole)) | (k_here; (with_reducible show wpAny _ _ (call (Value.ref 267) [_]) _ _ _); k_dflt (refine' (num_c w) ?B ?F ?X ?N ?T ?hk ?hd ?hu ?hp ?_; (case B => k_asm); (case F => k_asm); (case X => k_asm); (case N => k_asm); (case T => k_asm); (case hk => exact rfl); (case hd => (first | exact rm1 hd (Nat.le_of_ble_eq_true rfl) | exact Nat.le_of_ble_eq_true rfl)); (case hu => (first | exact rm3 hu (Nat.le_of_ble_eq_true rfl) | exact Nat.le_of_ble_eq_true rfl)); (case hp => exact (fun _ hp9 => nomatch hp9)); k_whole); intro b9 t9 t9' h9 tk9 F9 N9; (try dsimp only); (try k_sweep)) | (k_unfold; (try dsimp only)) | (k_end; wrow_close) | walk1 | (dsimp only; walk1) | (leave1; try dsimp only))
  exact ret _ _ _ _ _ (by assumption) (ndrop (pre := [_, _]) (by assumption))
theorem worth_neg (w : World) {o mc md st co de fr b nb : Nat} {q : Nat → Tok} {q3 q4 : Tok} {pv : Value} {y lb : Int} {o1 o2 o3 tb tb' : Tok} {us : List Value} {n : Nat} {rest : List (Addr × Obj)} (hul : us.length ≤ 15)
    (hb : (b, pairN nb y tb tb') ∈ rest) (ho : o ≠ st) (hm : mc ≠ st) (hn : md ≠ st) (hr : ∀ p ∈ rest, p.1 ≠ st) :
    WorthC w 5 48 o mc md st (tupO [.str (Str.ofString "calc") o1, .str (Str.ofString "neg") o2, .int lb o3]) (mdE w.params co de fr q q3 q4 pv st) (us ++ [Value.ref b]) us n (n + 1) rest (-y) := by
  intro mean mg mb dp un gd cn cs a9 ccd cells outer A₀ base h₀ L m s Q E B F X N T hk hd hu ret
  revert ret
  revert X
  k_fill
  intro X ret
  refine wpAny_call ?_
  k_dflt (refine' code_def ?k1 ?k2 ?k3 ?k4 ?k5 ?kA ?kF ?kK ?k6 ?k7 ?k8 ?k9 ?kB ?_ ?c2 ?c3 ?c4 ?c5; (case kA => exact rfl); (case kF => exact rfl); (case kK => exact hk); (case k1 => k_asm); (case k2 => k_asm); (case k3 => k_asm); (case k4 => k_asm); (case k5 => k_asm); (case k6 => k_is); (case k7 => k_is); (case k8 => ktr_room); (case k9 => first | exact BindsTo.of_eq rfl | exact binds_K (by k_in) rfl (by k_is) rfl rfl rfl); (case c5 => decide); (case kB => exact locs rfl); (case c2 => exact rfl); (case c3 => exact rfl); (case c4 => exact rfl); k_whole; intro g' L' h' FG' F' N' B' X' T'; (try dsimp only); (try k_fold))
  repeat' (first | (k_here; (with_reducible show wpAny _ _ (call (Value.builtin "list.pop") _) _ _ _); k_dflt (refine' kl_pop ?F ?N ?e ?U ?z ?_; (case F => k_asm); (case N => k_asm); (case U => exact .tail ho (.tail hm (.tail hn (.head hr)))); (case e => exact pop_last _ _); (case z => (simp only [List.length_append, List.length_cons, List.length_nil, PySem.sizeLine_eq]; omega)); k_whole); intro h' F' N'; (try k_sweep)) | (k_here; (with_reducible show wpAny _ _ (call (Value.ref 112) [_]) _ _ _); k_dflt (refine' (neg_c w) ?B ?F ?X ?N ?T ?hk ?hd ?hu ?hp ?_; (case B => k_asm); (case F => k_asm); (case X => k_asm); (case N => k_asm); (case T => k_asm); (case hk => exact rfl); (case hd => (first | exact rm1 hd (Nat.le_of_ble_eq_true rfl) | exact Nat.le_of_ble_eq_true rfl)); (case hu => (first | exact rm3 hu (Nat.le_of_ble_eq_true rfl) | exact Nat.le_of_ble_eq_true rfl)); (case hp => exact (ncons (.tail _ (.tail _ (.tail _ (.tail _ hb)))) (fun _ hp9 => nomatch hp9))); k_whole); intro b9 t9 t9' h9 tk9 F9 N9; (try dsimp only); (try k_sweep)) | (k_unfold; (try dsimp only)) | (k_end; wrow_close) | walk1 | (dsimp only; walk1) | (leave1; try dsimp only))
  exact ret _ _ _ _ _ (by assumption) (by assumption)
theorem eqs_no {prog : Program} {w : World} {A : Around} {E : Value → Shared → Prop} {s : Shared} {Q : Value → Shared → Prop} {x y : Str} {t u : Tok} (h : (x == y) = false) (k : Q (.bool false) s) : wpAny (model prog w) A (compareOp .Eq (.str x t) (.str y u)) Q E s := by
  refine PyProof.Rows.eq_str ?_
  rw [h]
  exact k
theorem worth_calc (w : World) {o mc md st co de fr a b na nb : Nat} {q : Nat → Tok} {q3 q4 : Tok} {pv : Value} {x y z lb : Int} {sg : Str} {o1 o2 o3 ta ta' tb tb' : Tok} {us : List Value} {n : Nat} {rest : List (Addr × Obj)} (hul : us.length ≤ 15) (hs : (sg == Str.ofString "neg") = false)
    (ha : (a, pairN na x ta ta') ∈ rest) (hb : (b, pairN nb y tb tb') ∈ rest) (ho : o ≠ st) (hm : mc ≠ st) (hn : md ≠ st) (hr : ∀ p ∈ rest, p.1 ≠ st) (C : TupC w 4 40 190 [.str sg o2, .ref a, .ref b] [(a, pairN na x ta ta'), (b, pairN nb y tb tb')] z) :
    WorthC w 5 48 o mc md st (tupO [.str (Str.ofString "calc") o1, .str sg o2, .int lb o3]) (mdE w.params co de fr q q3 q4 pv st) (us ++ [Value.ref a] ++ [Value.ref b]) us n (n + 1 + 1) rest z := by
  intro mean mg mb dp un gd cn cs a9 ccd cells outer A₀ base h₀ L m s Q E B F X N T hk hd hu ret
  revert ret
  revert X
  k_fill
  intro X ret
  refine wpAny_call ?_
  k_dflt (refine' code_def ?k1 ?k2 ?k3 ?k4 ?k5 ?kA ?kF ?kK ?k6 ?k7 ?k8 ?k9 ?kB ?_ ?c2 ?c3 ?c4 ?c5; (case kA => exact rfl); (case kF => exact rfl); (case kK => exact hk); (case k1 => k_asm); (case k2 => k_asm); (case k3 => k_asm); (case k4 => k_asm); (case k5 => k_asm); (case k6 => k_is); (case k7 => k_is); (case k8 => ktr_room); (case k9 => first | exact BindsTo.of_eq rfl | exact binds_K (by k_in) rfl (by k_is) rfl rfl rfl); (case c5 => decide); (case kB => exact locs rfl); (case c2 => exact rfl); (case c3 => exact rfl); (case c4 => exact rfl); k_whole; intro g' L' h' FG' F' N' B' X' T'; (try dsimp only); (try k_fold))
  repeat' (first | (k_here; (with_reducible show wpAny _ _ (call (Value.builtin "list.pop") _) _ _ _); k_dflt (refine' kl_pop ?F ?N ?e ?U ?z ?_; (case F => k_asm); (case N => k_asm); (case U => exact .tail ho (.tail hm (.tail hn (.head hr)))); (case e => exact pop_last _ _); (case z => (simp only [List.length_append, List.length_cons, List.length_nil, PySem.sizeLine_eq]; omega)); k_whole); intro h' F' N'; (try k_sweep)) | (k_here; with_reducible refine eqs_no hs ?_) | (k_here; (with_reducible show wpAny _ _ (call (Value.ref 190) [_, _, _]) _ _ _); k_dflt (refine' C ?B ?F ?X ?N ?T ?hk ?hd ?hu ?hp ?_; (case B => k_asm); (case F => k_asm); (case X => k_asm); (case N => k_asm); (case T => k_asm); (case hk => exact rfl); (case hd => (first | exact rm1 hd (Nat.le_of_ble_eq_true rfl) | exact Nat.le_of_ble_eq_true rfl)); (case hu => (first | exact rm3 hu (Nat.le_of_ble_eq_true rfl) | exact Nat.le_of_ble_eq_true rfl)); (case hp => exact (ncons (.tail _ (.tail _ (.tail _ (.tail _ ha)))) (ncons (.tail _ (.tail _ (.tail _ (.tail _ hb)))) (fun _ hp9 => nomatch hp9)))); k_whole); intro b9 t9 t9' h9 tk9 F9 N9; (try dsimp only); (try k_sweep)) | (k_unfold; (try dsimp only)) | (k_end; wrow_close) | walk1 | (dsimp only; walk1) | (leave1; try dsimp only))
  exact ret _ _ _ _ _ (by assumption) (by assumption)
end Mine
end
section
open PySem PySem.W PyProof.Rows PySem.Calls
namespace Mine
set_option maxHeartbeats 1000000

theorem rs_sub {base G h : Heap} {l : List Env} {e t : Addr} {cls : Value} {vs : List Value} {n1 n2 : List (Addr × Obj)} (R : RaisedS base G l e cls t vs n1 h) (k : ∀ p ∈ n2, p ∈ n1) : RaisedS base G l e cls t vs n2 h :=
  R.elim (fun ⟨B, b1, b2, b3, b4, b5⟩ c => ⟨⟨B, b1, b2, fun q hq => b3 q (k q hq), b4, b5⟩, c⟩)

def RaiC (w : World) (D U : Nat) (f : Nat) (args : List Value) (pre : List (Addr × Obj)) : Prop :=
  ∀ {mean : ExcName → Option Value} {mg mb : Str → Option Value} {dp un : Nat} {gd : Option (List Code)} {cn : Str} {cs : Scope} {a9 : Addr} {ccd : Value} {cells : List (Str × Addr)} {outer : List Env} {A₀ : Around} {base h₀ : Heap} {L : Addr} {m : Str → Option Value} {s : Shared} {Q E : Value → Shared → Prop} {rest : List (Addr × Obj)},
    Below A₀ base outer h₀ → Fr h₀ L s.heap m → (Mine.hd.heap_39 w.params).In h₀ → News h₀ L s.heap rest →
    Top Mine.view (looseW Mine.view [Str.ofString "LedgerError", Str.ofString "decimal", Str.ofString "quotient"]) mean mg mb h₀ → cs.kind = .function → dp + D < recursionLimit → un + U < cLine → (∀ p ∈ pre, p ∈ rest) →
    (∀ (e t : Nat) (x : Str) (kt : Tok) (g h' : Heap) (tk' : Nat), Fr h₀ L g m → RaisedS base g (envX cn cs L a9 ccd cells :: outer) e (.ref 53) t [.str x kt] rest h' → g.UpToSlots h' → E (.ref e) { s with heap := h', toks := tk' }) →
    wpAny (model Challenge.rw_pb0236_01.row.prog w) (ktrTop dp un gd cn cs L a9 ccd cells outer) (call (.ref f) args) Q E s

def WorthR (w : World) (D U : Nat) (o mc md st : Nat) (opO mdO : Obj) (xs xs' : List Value) (n n' : Nat) (rest : List (Addr × Obj)) : Prop :=
  ∀ {mean : ExcName → Option Value} {mg mb : Str → Option Value} {dp un : Nat} {gd : Option (List Code)} {cn : Str} {cs : Scope} {a9 : Addr} {ccd : Value} {cells : List (Str × Addr)} {outer : List Env} {A₀ : Around} {base h₀ : Heap} {L : Addr} {m : Str → Option Value} {s : Shared} {Q E : Value → Shared → Prop},
    Below A₀ base outer h₀ → Fr h₀ L s.heap m → (Mine.hd.heap_39 w.params).In h₀ → News h₀ L s.heap ((o, opO) :: (mc, instObj 179 md) :: (md, mdO) :: (st, W.listOf xs.toArray n) :: rest) →
    Top Mine.view (looseW Mine.view [Str.ofString "LedgerError", Str.ofString "decimal", Str.ofString "quotient"]) mean mg mb h₀ → cs.kind = .function → dp + D < recursionLimit → un + U < cLine →
    (∀ (e t : Nat) (x : Str) (kt : Tok) (g h' : Heap) (tk' : Nat), Fr h₀ L g m → RaisedS base g (envX cn cs L a9 ccd cells :: outer) e (.ref 53) t [.str x kt] ((o, opO) :: (mc, instObj 179 md) :: (md, mdO) :: (st, W.listOf xs'.toArray n') :: rest) h' → g.UpToSlots h' → E (.ref e) { s with heap := h', toks := tk' }) →
    wpAny (model Challenge.rw_pb0236_01.row.prog w) (ktrTop dp un gd cn cs L a9 ccd cells outer) (call (.ref 197) [.ref mc, .ref o]) Q E s

theorem num_r (w : World) {t : Tok} : RaiC w 12 96 267 [.str (Str.ofString "none") t] [] := by
  intro mean mg mb dp un gd cn cs a9 ccd cells outer A₀ base h₀ L m s Q E rest B F X N T hk hd hu hp ret
  revert ret
  revert X
  k_fill
  intro X ret
  refine wpAny_call ?_
  k_dflt (refine' code_def ?k1 ?k2 ?k3 ?k4 ?k5 ?kA ?kF ?kK ?k6 ?k7 ?k8 ?k9 ?kB ?_ ?c2 ?c3 ?c4 ?c5; (case kA => exact rfl); (case kF => exact rfl); (case kK => exact hk); (case k1 => k_asm); (case k2 => k_asm); (case k3 => k_asm); (case k4 => k_asm); (case k5 => k_asm); (case k6 => k_is); (case k7 => k_is); (case k8 => ktr_room); (case k9 => first | exact BindsTo.of_eq rfl | exact binds_K (by k_in) rfl (by k_is) rfl rfl rfl); (case c5 => decide); (case kB => exact locs rfl); (case c2 => exact rfl); (case c3 => exact rfl); (case c4 => exact rfl); k_whole; intro g' L' h' FG' F' N' B' X' T'; (try dsimp only); (try k_fold))
  repeat' (first | (k_here; (with_reducible show wpAny _ _ (exec (Stmt.Raise (some _) none _) _) _ _ _); (with_unfolding_all refine' Raise_inst (C := 53) ?X ?q ?hh ?_; (case X => k_asm); (case q => kts_isx); (case hh => rfl); k_whole)) | (k_here; (with_reducible show wpAny _ _ (call (Value.ref 53) [_]) _ _ _); k_dflt (refine' sf_call _ _ _ _ _ _ _ _ _ _ _ _ _ _ _ _ _ _ _ _ ?B ?F ?X ?N ?T ?hk ?hd ?hu ?_; (case B => k_asm); (case F => k_asm); (case X => k_asm); (case N => k_asm); (case T => k_asm); (case hk => exact rfl); (case hd => (first | exact rm1 hd (Nat.le_of_ble_eq_true rfl) | exact Nat.le_of_ble_eq_true rfl)); (case hu => (first | exact rm3 hu (Nat.le_of_ble_eq_true rfl) | exact Nat.le_of_ble_eq_true rfl)); k_whole); intro e' t' dx' h' tk' F' N' lo' lt'; (try dsimp only); (try k_sweep)) | (k_here; refine raiseAt_ (by k_asm) (by k_asm) (by k_asm) ?_; (try dsimp only)) | (k_here; (with_reducible show wpAny _ _ (leaving _ _) _ _ _); k_dflt (refine' leave_initS ?k1 ?k2 ?k3 ?k4 ?k5 ?_; (case k2 => assumption); (case k1 => assumption); (case k3 => assumption); (case k4 => assumption); (case k5 => assumption); k_whole; intro h' S' R' U'; (try dsimp only at S' R' U' ⊢))) | (k_unfold; (try dsimp only)) | (k_end; wrow_close) | walk1 | (dsimp only; walk1) | (leave1; try dsimp only))
  exact ret _ _ _ _ _ _ _ (by assumption) (by assumption) (by assumption)
theorem quot_r (w : World) {a b nb : Nat} {tb tb' : Tok} : RaiC w 12 96 120 [.ref a, .ref b] [(b, pairN nb 0 tb tb')] := by
  intro mean mg mb dp un gd cn cs a9 ccd cells outer A₀ base h₀ L m s Q E rest B F X N T hk hd hu hp ret
  replace N : News h₀ L s.heap ((b, pairN nb 0 tb tb') :: rest) := nprep N hp
  clear hp
  revert ret
  revert X
  k_fill
  intro X ret
  refine wpAny_call ?_
  k_dflt (refine' code_def ?k1 ?k2 ?k3 ?k4 ?k5 ?kA ?kF ?kK ?k6 ?k7 ?k8 ?k9 ?kB ?_ ?c2 ?c3 ?c4 ?c5; (case kA => exact rfl); (case kF => exact rfl); (case kK => exact hk); (case k1 => k_asm); (case k2 => k_asm); (case k3 => k_asm); (case k4 => k_asm); (case k5 => k_asm); (case k6 => k_is); (case k7 => k_is); (case k8 => ktr_room); (case k9 => first | exact BindsTo.of_eq rfl | exact binds_K (by k_in) rfl (by k_is) rfl rfl rfl); (case c5 => decide); (case kB => exact locs rfl); (case c2 => exact rfl); (case c3 => exact rfl); (case c4 => exact rfl); k_whole; intro g' L' h' FG' F' N' B' X' T'; (try dsimp only); (try k_fold))
  repeat' (first | (k_here; (with_reducible show wpAny _ _ (compareOp CmpOp.Eq (Value.int _ _) (Value.int _ _)) _ _ _); first | with_reducible refine eq_same ?_ | (refine eq_no (by decide) ?_)) | (k_here; (with_reducible show wpAny _ _ (exec (Stmt.Raise (some _) none _) _) _ _ _); (with_unfolding_all refine' Raise_inst (C := 53) ?X ?q ?hh ?_; (case X => k_asm); (case q => kts_isx); (case hh => rfl); k_whole)) | (k_here; (with_reducible show wpAny _ _ (call (Value.ref 53) [_]) _ _ _); k_dflt (refine' sf_call _ _ _ _ _ _ _ _ _ _ _ _ _ _ _ _ _ _ _ _ ?B ?F ?X ?N ?T ?hk ?hd ?hu ?_; (case B => k_asm); (case F => k_asm); (case X => k_asm); (case N => k_asm); (case T => k_asm); (case hk => exact rfl); (case hd => (first | exact rm1 hd (Nat.le_of_ble_eq_true rfl) | exact Nat.le_of_ble_eq_true rfl)); (case hu => (first | exact rm3 hu (Nat.le_of_ble_eq_true rfl) | exact Nat.le_of_ble_eq_true rfl)); k_whole); intro e' t' dx' h' tk' F' N' lo' lt'; (try dsimp only); (try k_sweep)) | (k_here; refine raiseAt_ (by k_asm) (by k_asm) (by k_asm) ?_; (try dsimp only)) | (k_here; (with_reducible show wpAny _ _ (leaving _ _) _ _ _); k_dflt (refine' leave_initS ?k1 ?k2 ?k3 ?k4 ?k5 ?_; (case k2 => assumption); (case k1 => assumption); (case k3 => assumption); (case k4 => assumption); (case k5 => assumption); k_whole; intro h' S' R' U'; (try dsimp only at S' R' U' ⊢))) | (k_unfold; (try dsimp only)) | (k_end; wrow_close) | walk1 | (dsimp only; walk1) | (leave1; try dsimp only))
  exact ret _ _ _ _ _ _ _ (by assumption) (rs_sub (by assumption) fun p hp9 => List.mem_append_right [_] hp9) (by assumption)
theorem calc_r (w : World) {a b nb : Nat} {t tb tb' : Tok} : RaiC w 13 104 190 [.str (Str.ofString "/") t, .ref a, .ref b] [(b, pairN nb 0 tb tb')] := by
  intro mean mg mb dp un gd cn cs a9 ccd cells outer A₀ base h₀ L m s Q E rest B F X N T hk hd hu hp ret
  revert ret
  revert X
  k_fill
  intro X ret
  refine wpAny_call ?_
  k_dflt (refine' code_def ?k1 ?k2 ?k3 ?k4 ?k5 ?kA ?kF ?kK ?k6 ?k7 ?k8 ?k9 ?kB ?_ ?c2 ?c3 ?c4 ?c5; (case kA => exact rfl); (case kF => exact rfl); (case kK => exact hk); (case k1 => k_asm); (case k2 => k_asm); (case k3 => k_asm); (case k4 => k_asm); (case k5 => k_asm); (case k6 => k_is); (case k7 => k_is); (case k8 => ktr_room); (case k9 => first | exact BindsTo.of_eq rfl | exact binds_K (by k_in) rfl (by k_is) rfl rfl rfl); (case c5 => decide); (case kB => exact locs rfl); (case c2 => exact rfl); (case c3 => exact rfl); (case c4 => exact rfl); k_whole; intro g' L' h' FG' F' N' B' X' T'; (try dsimp only); (try k_fold))
  repeat' (first | (k_here; (with_reducible show wpAny _ _ (call (Value.ref 120) [_, _]) _ _ _); k_dflt (refine' (quot_r w) ?B ?F ?X ?N ?T ?hk ?hd ?hu ?hp ?_; (case B => k_asm); (case F => k_asm); (case X => k_asm); (case N => k_asm); (case T => k_asm); (case hk => exact rfl); (case hd => (first | exact rm1 hd (Nat.le_of_ble_eq_true rfl) | exact Nat.le_of_ble_eq_true rfl)); (case hu => (first | exact rm3 hu (Nat.le_of_ble_eq_true rfl) | exact Nat.le_of_ble_eq_true rfl)); (case hp => exact hp); k_whole); intro e9 t9 x9 kt9 g9 h9 tk9 F9 S9 U9; (try dsimp only)) | (k_here; (with_reducible show wpAny _ _ (leaving _ _) _ _ _); k_dflt (refine' leave_onS ?k1 ?k2 ?k3 ?k4 ?_; (case k3 => assumption); (case k2 => assumption); (case k1 => assumption); (case k4 => assumption); k_whole; intro h' S' R' U'; (try dsimp only at S' R' U' ⊢))) | (k_unfold; (try dsimp only)) | (k_end; wrow_close) | walk1 | (dsimp only; walk1) | (leave1; try dsimp only))
  exact ret _ _ _ _ _ _ _ (by assumption) (by assumption) (by assumption)
theorem worth_r_push (w : World) {o mc md st co de fr dd : Nat} {q r : Nat → Tok} {q3 q4 : Tok} {pv : Value} {lb : Int} {o1 o2 o3 : Tok} {xs : List Value} {n : Nat} {rest : List (Addr × Obj)} (hde : (de, instObj 249 dd) ∈ rest) (hdd : (dd, ddE w.params r) ∈ rest) :
    WorthR w 14 112 o mc md st (tupO [.str (Str.ofString "push") o1, .str (Str.ofString "none") o2, .int lb o3]) (mdE w.params co de fr q q3 q4 pv st) xs xs n n rest := by
  intro mean mg mb dp un gd cn cs a9 ccd cells outer A₀ base h₀ L m s Q E B F X N T hk hd hu ret
  replace N := nprep (pre := [(de, instObj 249 dd), (dd, ddE w.params r)]) N (ncons (.tail _ (.tail _ (.tail _ (.tail _ hde)))) (ncons (.tail _ (.tail _ (.tail _ (.tail _ hdd)))) (fun _ hp9 => nomatch hp9)))
  dsimp only [List.cons_append, List.nil_append] at N
  revert ret
  revert X
  k_fill
  intro X ret
  refine wpAny_call ?_
  k_dflt (refine' code_def ?k1 ?k2 ?k3 ?k4 ?k5 ?kA ?kF ?kK ?k6 ?k7 ?k8 ?k9 ?kB ?_ ?c2 ?c3 ?c4 ?c5; (case kA => exact rfl); (case kF => exact rfl); (case kK => exact hk); (case k1 => k_asm); (case k2 => k_asm); (case k3 => k_asm); (case k4 => k_asm); (case k5 => k_asm); (case k6 => k_is); (case k7 => k_is); (case k8 => ktr_room); (case k9 => first | exact BindsTo.of_eq rfl | exact binds_K (by k_in) rfl (by k_is) rfl rfl rfl); (case c5 => decide); (case kB => exact locs rfl); (case c2 => exact rfl); (case c3 => exact rfl); (case c4 => exact rfl); k_whole; intro g' L' h' FG' F' N' B' X' T'; (try dsimp only); (try k_fold))
  repeat' (first | (k_here; (with_reducible show wpAny _ _ (getMethod (Value.ref _) (PySem.Str.ofString "number") _) _ _ _); k_dflt (refine' kmu_own ?k1 ?k2 ?k3 ?k4 ?k5 ?_; (case k1 => k_asm); (case k2 => k_asm); (case k3 => k_inst); (case k4 => k_is); (case k5 => k_is); k_whole)) | (k_here; (with_reducible show wpAny _ _ (call (Value.ref 267) [_]) _ _ _); k_dflt (refine' (num_r w) ?B ?F ?X ?N ?T ?hk ?hd ?hu ?hp ?_; (case B => k_asm); (case F => k_asm); (case X => k_asm); (case N => k_asm); (case T => k_asm); (case hk => exact rfl); (case hd => (first | exact rm1 hd (Nat.le_of_ble_eq_true rfl) | exact Nat.le_of_ble_eq_true rfl)); (case hu => (first | exact rm3 hu (Nat.le_of_ble_eq_true rfl) | exact Nat.le_of_ble_eq_true rfl)); (case hp => exact (fun _ hp9 => nomatch hp9)); k_whole); intro e9 t9 x9 kt9 g9 h9 tk9 F9 S9 U9; (try dsimp only)) | (k_here; (with_reducible show wpAny _ _ (leaving _ _) _ _ _); k_dflt (refine' leave_onS ?k1 ?k2 ?k3 ?k4 ?_; (case k3 => assumption); (case k2 => assumption); (case k1 => assumption); (case k4 => assumption); k_whole; intro h' S' R' U'; (try dsimp only at S' R' U' ⊢))) | (k_unfold; (try dsimp only)) | (k_end; wrow_close) | walk1 | (dsimp only; walk1) | (leave1; try dsimp only))
  exact ret _ _ _ _ _ _ _ (by assumption) (rs_sub (by assumption) fun p hp9 => List.mem_append_right [_, _] hp9) (by assumption)
theorem worth_r_div (w : World) {o mc md st co de fr a b nb : Nat} {q : Nat → Tok} {q3 q4 : Tok} {pv : Value} {lb : Int} {o1 o2 o3 tb tb' : Tok} {us : List Value} {n : Nat} {rest : List (Addr × Obj)} (hul : us.length ≤ 15)
    (hb : (b, pairN nb 0 tb tb') ∈ rest) (ho : o ≠ st) (hm : mc ≠ st) (hn : md ≠ st) (hr : ∀ p ∈ rest, p.1 ≠ st) :
    WorthR w 14 112 o mc md st (tupO [.str (Str.ofString "calc") o1, .str (Str.ofString "/") o2, .int lb o3]) (mdE w.params co de fr q q3 q4 pv st) (us ++ [Value.ref a] ++ [Value.ref b]) us n (n + 1 + 1) rest := by
  intro mean mg mb dp un gd cn cs a9 ccd cells outer A₀ base h₀ L m s Q E B F X N T hk hd hu ret
  revert ret
  revert X
  k_fill
  intro X ret
  refine wpAny_call ?_
  k_dflt (refine' code_def ?k1 ?k2 ?k3 ?k4 ?k5 ?kA ?kF ?kK ?k6 ?k7 ?k8 ?k9 ?kB ?_ ?c2 ?c3 ?c4 ?c5; (case kA => exact rfl); (case kF => exact rfl); (case kK => exact hk); (case k1 => k_asm); (case k2 => k_asm); (case k3 => k_asm); (case k4 => k_asm); (case k5 => k_asm); (case k6 => k_is); (case k7 => k_is); (case k8 => ktr_room); (case k9 => first | exact BindsTo.of_eq rfl | exact binds_K (by k_in) rfl (by k_is) rfl rfl rfl); (case c5 => decide); (case kB => exact locs rfl); (case c2 => exact rfl); (case c3 => exact rfl); (case c4 => exact rfl); k_whole; intro g' L' h' FG' F' N' B' X' T'; (try dsimp only); (try k_fold))
  repeat' (first | (k_here; (with_reducible show wpAny _ _ (call (Value.builtin "list.pop") _) _ _ _); k_dflt (refine' kl_pop ?F ?N ?e ?U ?z ?_; (case F => k_asm); (case N => k_asm); (case U => exact .tail ho (.tail hm (.tail hn (.head hr)))); (case e => exact pop_last _ _); (case z => (simp only [List.length_append, List.length_cons, List.length_nil, PySem.sizeLine_eq]; omega)); k_whole); intro h' F' N'; (try k_sweep)) | (k_here; (with_reducible show wpAny _ _ (call (Value.ref 190) [_, _, _]) _ _ _); k_dflt (refine' (calc_r w) ?B ?F ?X ?N ?T ?hk ?hd ?hu ?hp ?_; (case B => k_asm); (case F => k_asm); (case X => k_asm); (case N => k_asm); (case T => k_asm); (case hk => exact rfl); (case hd => (first | exact rm1 hd (Nat.le_of_ble_eq_true rfl) | exact Nat.le_of_ble_eq_true rfl)); (case hu => (first | exact rm3 hu (Nat.le_of_ble_eq_true rfl) | exact Nat.le_of_ble_eq_true rfl)); (case hp => exact (ncons (.tail _ (.tail _ (.tail _ (.tail _ hb)))) (fun _ hp9 => nomatch hp9))); k_whole); intro e9 t9 x9 kt9 g9 h9 tk9 F9 S9 U9; (try dsimp only)) | (k_here; (with_reducible show wpAny _ _ (leaving _ _) _ _ _); k_dflt (refine' leave_onS ?k1 ?k2 ?k3 ?k4 ?_; (case k3 => assumption); (case k2 => assumption); (case k1 => assumption); (case k4 => assumption); k_whole; intro h' S' R' U'; (try dsimp only at S' R' U' ⊢))) | (k_unfold; (try dsimp only)) | (k_end; wrow_close) | walk1 | (dsimp only; walk1) | (leave1; try dsimp only))
  exact ret _ _ _ _ _ _ _ (by assumption) (by assumption) (by assumption)
end Mine
end
section
open PySem PySem.W PyProof.Rows PySem.Calls
namespace Mine
set_option maxHeartbeats 1000000

theorem tup_ne {h₀ h : Heap} {L : Addr} {l : List (Addr × Obj)} {a b n : Nat} {xs : Array Value} {d : Data} {od : Option Addr} {sl : Array (Option Value)} (N : News h₀ L h l) (ha : (a, ⟨.type "tuple", od, d, sl⟩) ∈ l) (hb : (b, W.listOf xs n) ∈ l) : a ≠ b := fun e => by
  have h2 := (N _ hb).1.symm.trans ((congrArg h.get? e).symm.trans (N _ ha).1)
  injection h2 with h3
  have h4 := congrArg Obj.cls h3
  injection h4 with h5
  exact absurd h5 (by decide)
theorem low4 {a b c d : Addr × Obj} {l : List (Addr × Obj)} {n : Nat} (h : ∀ p ∈ a :: b :: c :: d :: l, @LT.lt Nat _ p.1 n) : ∀ p ∈ l, p.1 < n := fun p hp => h p (.tail _ (.tail _ (.tail _ (.tail _ hp))))
theorem ld_ne {h₀ h : Heap} {L : Addr} {l : List (Addr × Obj)} {a b n k : Nat} {xs : Array Value} {es : List DictEntry} (N : News h₀ L h l) (ha : (a, W.listOf xs n) ∈ l) (hb : (b, dictOf es k) ∈ l) : a ≠ b := fun e => by
  have h2 := (N _ hb).1.symm.trans ((congrArg h.get? e).symm.trans (N _ ha).1)
  injection h2 with h3
  have h4 := congrArg Obj.cls h3
  injection h4 with h5
  exact absurd h5 (by decide)
theorem do_ok {w : World} {mean : ExcName → Option Value} {mg mb : Str → Option Value} {h₀ : Heap} {L fa : Nat} {cd : Value} {m : Str → Option Value} {s : Shared} {Q E : Value → Shared → Prop} {o mc md st co de fr : Nat} {q : Nat → Tok} {q3 q4 : Tok} {pv : Value} {opO : Obj} {xs xs' : List Value} {n n' : Nat} {rest : List (Addr × Obj)} {z : Int}
    (X : (Mine.hd.heap_39 w.params).In h₀) (T : Top Mine.view (looseW Mine.view [Str.ofString "LedgerError", Str.ofString "decimal", Str.ofString "quotient"]) mean mg mb h₀) (K0 : Below callerA h₀ [] h₀) (F : Fr h₀ L s.heap m) (N : News h₀ L s.heap ((o, opO) :: (mc, instObj 179 md) :: (md, mdE w.params co de fr q q3 q4 pv st) :: (st, W.listOf xs.toArray n) :: rest)) (ho : o ≠ st) (hm : mc ≠ st) (hn : md ≠ st) (hr : ∀ p ∈ rest, p.1 ≠ st) (hul : xs'.length ≤ 15)
    (C : WorthC w 5 48 o mc md st opO (mdE w.params co de fr q q3 q4 pv st) xs xs' n n' rest z)
    (ret : ∀ (b k : Nat) (t t' : Tok) h' tk', Fr h₀ L h' m → News h₀ L h' ((b, pairO z t t') :: (o, opO) :: (mc, instObj 179 md) :: (md, mdE w.params co de fr q q3 q4 pv st) :: (st, W.listOf (xs' ++ [Value.ref b]).toArray k) :: rest) → Q .none { s with heap := h', toks := tk' }) :
    wpAny (model Challenge.rw_pb0236_01.row.prog w) (callerA.deeper (envOfC (Str.ofString "law") lawSc L fa cd)) (call (.ref 204) [.ref mc, .ref o]) Q E s := by
  revert ret
  revert X
  k_fill
  intro X ret
  refine wpAny_call ?_
  k_dflt (refine' enter_top ?k1 ?k2 ?k3 ?k4 ?k5 ?kA ?kL ?kK ?k6 ?k7 ?k8 ?k9 ?kB ?_ ?c2 ?c3 ?c4 ?c5; (case kA => exact rfl); (case kL => exact rfl); (case kK => exact rfl); (case k2 => k_asm); (case k1 => k_asm); (case k3 => k_asm); (case k4 => k_asm); (case k5 => k_asm); (case k6 => k_is); (case k7 => k_is); (case k8 => k_room); (case k9 => exact BindsTo.of_eq rfl); (case kB => exact locs rfl); (case c2 => exact rfl); (case c3 => exact rfl); (case c4 => exact rfl); (case c5 => decide); k_whole; intro g' L' h' FG' F' N' B' X' T' D'; (try dsimp only); (try k_fold))
  repeat' (first | (k_here; (with_reducible show wpAny _ _ (call (Value.ref 197) _) _ _ _); k_dflt (refine' C ?B ?F ?X ?N ?T ?hk ?hd ?hu ?_; (case B => k_asm); (case F => k_asm); (case X => k_asm); (case N => k_asm); (case T => k_asm); (case hk => exact rfl); (case hd => exact Nat.le_of_ble_eq_true rfl); (case hu => exact Nat.le_of_ble_eq_true rfl); k_whole); intro b9 t9 t9' h9 tk9 F9 N9; (try dsimp only); (try k_sweep)) | (k_here; (with_reducible show wpAny _ _ (call (Value.builtin _) [Value.ref _, _]) _ _ _); k_dflt (refine' append_K ?k1 ?k2 ?k3 ?_ ?z; (case k1 => k_asm); (case k2 => k_asm); (case k3 => exact .tail (tup_ne (by assumption) (.head _) (.tail _ (.tail _ (.tail _ (.tail _ (.head _)))))) (.tail ho (.tail hm (.tail hn (.head hr))))); (case z => (rw [List.size_toArray, PySem.sizeLine_eq]; omega)); k_whole); intro h' F' N'; (try simp only [List.push_toArray] at N'); (try k_sweep)) | (k_unfold; (try dsimp only)) | (k_end; wrow_close) | walk1 | (dsimp only; walk1) | (leave1; try dsimp only))
  exact ret _ _ _ _ _ _ (by assumption) (by assumption)
theorem do_r1 {w : World} {mean : ExcName → Option Value} {mg mb : Str → Option Value} {h₀ : Heap} {L fa : Nat} {cd : Value} {m : Str → Option Value} {s : Shared} {Q E : Value → Shared → Prop} {o mc md st co de fr : Nat} {q : Nat → Tok} {q3 q4 : Tok} {pv : Value} {o1 o3 : Tok} {x1 : Str} {x2 : Value} {xs xs' : List Value} {n n' : Nat} {rest : List (Addr × Obj)}
    (X : (Mine.hd.heap_39 w.params).In h₀) (T : Top Mine.view (looseW Mine.view [Str.ofString "LedgerError", Str.ofString "decimal", Str.ofString "quotient"]) mean mg mb h₀) (K0 : Below callerA h₀ [] h₀) (F : Fr h₀ L s.heap m) (N : News h₀ L s.heap ((o, tupO [.str x1 o1, x2, .int (-1) o3]) :: (mc, instObj 179 md) :: (md, mdE w.params co de fr q q3 q4 pv st) :: (st, W.listOf xs.toArray n) :: rest))
    (C : WorthR w 14 112 o mc md st (tupO [.str x1 o1, x2, .int (-1) o3]) (mdE w.params co de fr q q3 q4 pv st) xs xs' n n' rest)
    (ret : ∀ (e t : Nat) (x : Str) (kt : Tok) (g h' : Heap) (tk' : Nat), Fr h₀ L g m → RaisedS h₀ g [envOfC (Str.ofString "law") lawSc L fa cd] e (.ref 53) t [.str x kt] ((o, tupO [.str x1 o1, x2, .int (-1) o3]) :: (mc, instObj 179 md) :: (md, mdE w.params co de fr q q3 q4 pv st) :: (st, W.listOf xs'.toArray n') :: rest) h' → g.UpToSlots h' → E (.ref e) { s with heap := h', toks := tk' }) :
    wpAny (model Challenge.rw_pb0236_01.row.prog w) (callerA.deeper (envOfC (Str.ofString "law") lawSc L fa cd)) (call (.ref 204) [.ref mc, .ref o]) Q E s := by
  revert ret
  revert X
  k_fill
  intro X ret
  refine wpAny_call ?_
  k_dflt (refine' enter_top ?k1 ?k2 ?k3 ?k4 ?k5 ?kA ?kL ?kK ?k6 ?k7 ?k8 ?k9 ?kB ?_ ?c2 ?c3 ?c4 ?c5; (case kA => exact rfl); (case kL => exact rfl); (case kK => exact rfl); (case k2 => k_asm); (case k1 => k_asm); (case k3 => k_asm); (case k4 => k_asm); (case k5 => k_asm); (case k6 => k_is); (case k7 => k_is); (case k8 => k_room); (case k9 => exact BindsTo.of_eq rfl); (case kB => exact locs rfl); (case c2 => exact rfl); (case c3 => exact rfl); (case c4 => exact rfl); (case c5 => decide); k_whole; intro g' L' h' FG' F' N' B' X' T' D'; (try dsimp only); (try k_fold))
  repeat' (first | (k_here; (with_reducible show wpAny _ _ (call (Value.ref 197) _) _ _ _); k_dflt (refine' C ?B ?F ?X ?N ?T ?hk ?hd ?hu ?_; (case B => k_asm); (case F => k_asm); (case X => k_asm); (case N => k_asm); (case T => k_asm); (case hk => exact rfl); (case hd => exact Nat.le_of_ble_eq_true rfl); (case hu => exact Nat.le_of_ble_eq_true rfl); k_whole); intro e9 t9 x9 kt9 g9 h9 tk9 F9 S9 U9; (try dsimp only)) | (k_here; (with_reducible show wpAny _ _ (noteFrame _ _) _ _ _); k_dflt (refine' caught_keep ?R ?F ?K ?U ?XB ?TB ?D ?ex ?q ?_; (case R => assumption); (case F => assumption); (case K => assumption); (case U => assumption); (case XB => assumption); (case TB => assumption); (case D => assumption); (case ex => k_is); (case q => kts_isx); k_whole); intro h' g' T' F' N' K' X' P' D' R' U'; (try k_lift K')) | (k_here; (with_reducible show wpAny _ _ (exec (Stmt.Raise none none _) _) _ _ _); k_dflt (refine' raise_again ?hA ?hf ?R ?U ?_; (case hA => exact rfl); (case hf => exact rfl); (case R => assumption); (case U => assumption); k_whole); intro h' R' U'; (try dsimp only at R' U' ⊢)) | (k_here; (with_reducible show wpAny _ _ (compareOp CmpOp.Eq (Value.int _ _) (Value.int _ _)) _ _ _); first | with_reducible refine eq_same ?_ | (refine eq_no (by decide) ?_)) | (k_unfold; (try dsimp only)) | (k_end; wrow_close) | walk1 | (dsimp only; walk1) | (leave1; try dsimp only))
  exact ret _ _ _ _ _ _ _ (by assumption) (by assumption) (by assumption)
theorem do_r2 {w : World} {mean : ExcName → Option Value} {mg mb : Str → Option Value} {h₀ : Heap} {L fa : Nat} {cd : Value} {m : Str → Option Value} {s : Shared} {Q E : Value → Shared → Prop} {o mc md st co de fr : Nat} {q : Nat → Tok} {q3 q4 : Tok} {pv : Value} {o1 o3 : Tok} {x1 : Str} {x2 : Value} {lb : Int} {xs xs' : List Value} {n n' : Nat} {rest : List (Addr × Obj)}
    (X : (Mine.hd.heap_39 w.params).In h₀) (T : Top Mine.view (looseW Mine.view [Str.ofString "LedgerError", Str.ofString "decimal", Str.ofString "quotient"]) mean mg mb h₀) (K0 : Below callerA h₀ [] h₀) (F : Fr h₀ L s.heap m) (N : News h₀ L s.heap ((o, tupO [.str x1 o1, x2, .int lb o3]) :: (mc, instObj 179 md) :: (md, mdE w.params co de fr q q3 q4 pv st) :: (st, W.listOf xs.toArray n) :: rest)) (hom : o ≠ md) (hmm : mc ≠ md) (hsm : st ≠ md) (hr2 : ∀ p ∈ rest, p.1 ≠ md) (hlb : 0 ≤ lb)
    (C : WorthR w 14 112 o mc md st (tupO [.str x1 o1, x2, .int lb o3]) (mdE w.params co de fr q q3 q4 pv st) xs xs' n n' rest)
    (ret : ∀ (b : Nat) h' tk', Fr h₀ L h' m → News h₀ L h' ((b, W.listOf #[] 0) :: (o, tupO [.str x1 o1, x2, .int lb o3]) :: (mc, instObj 179 md) :: (md, mdE w.params co de fr q q3 q4 (.int lb o3) b) :: (st, W.listOf xs'.toArray n') :: rest) → (∀ p ∈ rest, p.1 < b) → Q .none { s with heap := h', toks := tk' }) :
    wpAny (model Challenge.rw_pb0236_01.row.prog w) (callerA.deeper (envOfC (Str.ofString "law") lawSc L fa cd)) (call (.ref 204) [.ref mc, .ref o]) Q E s := by
  revert ret
  revert X
  k_fill
  intro X ret
  refine wpAny_call ?_
  k_dflt (refine' enter_top ?k1 ?k2 ?k3 ?k4 ?k5 ?kA ?kL ?kK ?k6 ?k7 ?k8 ?k9 ?kB ?_ ?c2 ?c3 ?c4 ?c5; (case kA => exact rfl); (case kL => exact rfl); (case kK => exact rfl); (case k2 => k_asm); (case k1 => k_asm); (case k3 => k_asm); (case k4 => k_asm); (case k5 => k_asm); (case k6 => k_is); (case k7 => k_is); (case k8 => k_room); (case k9 => exact BindsTo.of_eq rfl); (case kB => exact locs rfl); (case c2 => exact rfl); (case c3 => exact rfl); (case c4 => exact rfl); (case c5 => decide); k_whole; intro g' L' h' FG' F' N' B' X' T' D'; (try dsimp only); (try k_fold))
  repeat' (first | (k_here; (with_reducible show wpAny _ _ (call (Value.ref 197) _) _ _ _); k_dflt (refine' C ?B ?F ?X ?N ?T ?hk ?hd ?hu ?_; (case B => k_asm); (case F => k_asm); (case X => k_asm); (case N => k_asm); (case T => k_asm); (case hk => exact rfl); (case hd => exact Nat.le_of_ble_eq_true rfl); (case hu => exact Nat.le_of_ble_eq_true rfl); k_whole); intro e9 t9 x9 kt9 g9 h9 tk9 F9 S9 U9; (try dsimp only)) | (k_here; (with_reducible show wpAny _ _ (noteFrame _ _) _ _ _); k_dflt (refine' caught_keep ?R ?F ?K ?U ?XB ?TB ?D ?ex ?q ?_; (case R => assumption); (case F => assumption); (case K => assumption); (case U => assumption); (case XB => assumption); (case TB => assumption); (case D => assumption); (case ex => k_is); (case q => kts_isx); k_whole); intro h' g' T' F' N' K' X' P' D' R' U'; (try k_lift K')) | (k_here; (with_reducible show wpAny _ _ (compareOp CmpOp.Eq (Value.int _ _) (Value.int _ _)) _ _ _); refine eq_no (by omega) ?_) | (k_here; (with_reducible show wpAny _ _ (newList _) _ _ _); k_dflt (refine' newList_K ?k1 ?k2 ?_; (case k1 => k_asm); (case k2 => k_asm); k_whole); intro l' h' F' N' l9; (try k_sweep)) | (k_here; (with_reducible show wpAny _ _ (setAttr _ _ _) _ _ _); k_dflt (refine' set_dict ?k1 ?k2 ?k3 ?k4 ?k5 ?k6 ?k7 ?k8 ?k9 ?k10 ?k11 ?k12 ?k13 ?_; (case k1 => k_asm); (case k2 => k_asm); (case k3 => k_asm); (case k4 => k_inst); (case k5 => exact rfl); (case k6 => k_is); (case k7 => k_is); (case k8 => k_is); (case k9 => k_is); (case k10 => k_get); (case k11 => k_put); (case k12 => exact .tail (ld_ne (by assumption) (.head _) (.tail _ (.tail _ (.tail _ (.head _))))) (.tail hom (.tail hmm (.head (List.forall_mem_cons.mpr ⟨hsm, hr2⟩))))); (case k13 => exact Nat.le_of_ble_eq_true rfl); k_whole); intro h' F' N'; (try k_sweep)) | (k_unfold; (try dsimp only)) | (k_end; wrow_close) | walk1 | (dsimp only; walk1) | (leave1; try dsimp only))
  exact ret _ _ _ (by assumption) (by assumption) (low4 (by assumption))
end Mine
end
section
open PySem PySem.W PyProof.Rows PySem.Calls
namespace Mine
set_option maxHeartbeats 1000000

theorem app6 {x a b c d e : Addr × Obj} {l tl : List (Addr × Obj)} : ∀ p ∈ a :: b :: c :: d :: e :: l, p ∈ x :: a :: b :: c :: d :: e :: (l ++ tl) := fun _ h => .tail _ (List.mem_append_left tl h)
theorem app7 {x a b c d e f : Addr × Obj} {l tl : List (Addr × Obj)} : ∀ p ∈ a :: b :: c :: d :: e :: f :: l, p ∈ x :: a :: b :: c :: d :: e :: f :: (l ++ tl) := fun _ h => .tail _ (List.mem_append_left tl h)
theorem tail_ok {w : World} {mean : ExcName → Option Value} {mg mb : Str → Option Value} {h₀ : Heap} {L fa : Nat} {cd : Value} {u : Str → Option Value} {s : Shared} {Q : Flow → Shared → Prop} {E : Value → Shared → Prop} {o mc md st co de fr : Nat} {q : Nat → Tok} {q3 q4 : Tok} {pv lb : Int} {pt pt2 lt : Tok} {pl du : Nat} {opO : Obj} {xs xs' : List Value} {n n' : Nat} {rest : List (Addr × Obj)} {z : Int} {ds : List Value} {n5 : Nat} {pile : List Int}
    (X : (Mine.hd.heap_39 w.params).In h₀) (T : Top Mine.view (looseW Mine.view [Str.ofString "LedgerError", Str.ofString "decimal", Str.ofString "quotient"]) mean mg mb h₀) (K0 : Below callerA h₀ [] h₀) (F : Fr h₀ L s.heap (kstB u [(Str.ofString "op", .ref o), (Str.ofString "due", .ref du), (Str.ofString "label", .int lb lt), (Str.ofString "place", .int pv pt2), (Str.ofString "machine", .ref mc), (Str.ofString "pile", .ref pl)])) (N : News h₀ L s.heap ((o, opO) :: (mc, instObj 179 md) :: (md, mdE w.params co de fr q q3 q4 (.int pv pt) st) :: (st, W.listOf xs.toArray n) :: rest)) (ho : o ≠ st) (hm : mc ≠ st) (hn : md ≠ st) (hr : ∀ p ∈ rest, p.1 ≠ st) (hul : xs'.length ≤ 15)
    (C : WorthC w 5 48 o mc md st opO (mdE w.params co de fr q q3 q4 (.int pv pt) st) xs xs' n n' rest z)
    (hdu : (du, W.listOf ds.toArray n5) ∈ rest) (hD : IntsAre ds (pile ++ [z])) (hlen : (pile ++ [z]).length ≤ 1000) (hS : DatAll rest xs' (pile.map dn))
    (next : ∀ (b k : Nat) (t t' : Tok) h' tk' m', Fr h₀ L h' m' → m' (Str.ofString "machine") = some (.ref mc) → m' (Str.ofString "pile") = some (.ref du) → News h₀ L h' ((b, pairO z t t') :: (o, opO) :: (mc, instObj 179 md) :: (md, mdE w.params co de fr q q3 q4 (.int pv pt) st) :: (st, W.listOf (xs' ++ [Value.ref b]).toArray k) :: rest) → Q .next { s with heap := h', toks := tk' }) :
    wpAny (model Challenge.rw_pb0236_01.row.prog w) (callerA.deeper (envOfC (Str.ofString "law") lawSc L fa cd)) (execs tailBody (envOfC (Str.ofString "law") lawSc L fa cd)) Q E s := by
  revert X
  k_fill
  intro X
  dsimp only [kstB] at F
  conv in tailBody => whnf
  conv in (occs := *) lawSc => all_goals whnf
  repeat' (first | ((with_reducible show wpAny _ _ (exec (Stmt.Try _ (_ :: _) _ [] _) (envOfC _ _ _ _ _)) _ _ _); refine wpAny_Try_except ?_) | (k_here; (with_reducible show wpAny _ _ (call (Value.ref 204) _) _ _ _); k_dflt (refine' do_ok ?X ?T ?K0 ?F ?N ho hm hn hr hul C ?_; (case X => k_asm); (case T => k_asm); (case K0 => assumption); (case F => k_asm); (case N => k_asm); k_whole); intro b9 k9 t9 t9' h9 tk9 F9 N9; (try dsimp only); (try k_sweep)) | (k_here; with_reducible refine ne_same ?_) | (k_here; (with_reducible show wpAny _ _ (compareOp CmpOp.NotEq (Value.ref _) (Value.ref _)) _ _ _); k_dflt (refine' stacks_ne ?N ?ma ?Dx ?mb ?Dy ?s2 ?hu ?_; (case N => k_asm); (case ma => k_mem); (case mb => k_mem); (case Dy => assumption); (case s2 => exact fun p9 hp9 => (.tail _ (.tail _ (.tail _ (.tail _ (.tail _ (.tail _ (List.mem_append_right _ hp9)))))))); (case Dx => exact dat_snoc2 hS (by k_mem) (fun p9 hp9 => (.tail _ (.tail _ (.tail _ (.tail _ (.tail _ (.tail _ (List.mem_append_left _ hp9))))))))); (case hu => ke_room); k_whole)) | (k_here; (with_reducible show wpAny _ _ (eval (Expr.ListComp (Expr.Tuple _ _ _) _ _ _) _) _ _ _); k_dflt (refine' pairs_comp2 ?hh ?F ?N ?hm ?hi ?hz ?hname ?hclos ?hcell ?hkind ?hnames ?hx ?hk ?hl ?hd ?_ ?hs; (case hname => (intro Q9 h9; walk1; exact h9)); (case hh => rfl); (case F => k_asm); (case N => k_asm); (case hm => exact (.tail _ (.tail _ (.tail _ (.tail _ (.tail _ hdu)))))); (case hi => exact hD); (case hz => exact hlen); (case hclos => with_unfolding_all rfl); (case hcell => decide); (case hkind => rfl); (case hnames => decide); (case hx => rfl); (case hk => (intro C9; rfl)); (case hl => (intro C9; rfl)); (case hd => decide); (case hs => (intro x9; rfl)); k_whole); (intro D' h' tk' ys' tls' F' N' hP' o3' o'; (try simp only [List.cons_append] at N'); (try k_sweep))) | (k_unfold; (try dsimp only)) | (k_end; wrow_close) | walk1 | (dsimp only; walk1) | (leave1; try dsimp only))
  exact next _ _ _ _ _ _ _ (by assumption) rfl rfl (nsub (by assumption) app6)
theorem tail_r1 {w : World} {mean : ExcName → Option Value} {mg mb : Str → Option Value} {h₀ : Heap} {L fa : Nat} {cd : Value} {u : Str → Option Value} {s : Shared} {Q : Flow → Shared → Prop} {E : Value → Shared → Prop} {o mc md st co de fr pl : Nat} {q : Nat → Tok} {q3 q4 pt pt2 lt : Tok} {pv : Int} {o1 o3 : Tok} {x1 : Str} {x2 : Value} {xs xs' : List Value} {n n' : Nat} {rest : List (Addr × Obj)}
    (X : (Mine.hd.heap_39 w.params).In h₀) (T : Top Mine.view (looseW Mine.view [Str.ofString "LedgerError", Str.ofString "decimal", Str.ofString "quotient"]) mean mg mb h₀) (K0 : Below callerA h₀ [] h₀) (F : Fr h₀ L s.heap (kstB u [(Str.ofString "op", .ref o), (Str.ofString "due", .none), (Str.ofString "label", .int (-1) lt), (Str.ofString "place", .int pv pt2), (Str.ofString "machine", .ref mc), (Str.ofString "pile", .ref pl)])) (N : News h₀ L s.heap ((o, tupO [.str x1 o1, x2, .int (-1) o3]) :: (mc, instObj 179 md) :: (md, mdE w.params co de fr q q3 q4 (.int pv pt) st) :: (st, W.listOf xs.toArray n) :: rest))
    (C : WorthR w 14 112 o mc md st (tupO [.str x1 o1, x2, .int (-1) o3]) (mdE w.params co de fr q q3 q4 (.int pv pt) st) xs xs' n n' rest)
    (ret : ∀ h' tk' m', Fr h₀ L h' m' → Q (.ret (.bool true)) { s with heap := h', toks := tk' }) :
    wpAny (model Challenge.rw_pb0236_01.row.prog w) (callerA.deeper (envOfC (Str.ofString "law") lawSc L fa cd)) (execs tailBody (envOfC (Str.ofString "law") lawSc L fa cd)) Q E s := by
  revert X
  k_fill
  intro X
  dsimp only [kstB] at F
  conv in tailBody => whnf
  conv in (occs := *) lawSc => all_goals whnf
  repeat' (first | ((with_reducible show wpAny _ _ (exec (Stmt.Try _ (_ :: _) _ [] _) (envOfC _ _ _ _ _)) _ _ _); refine wpAny_Try_except ?_) | (k_here; (with_reducible show wpAny _ _ (call (Value.ref 204) _) _ _ _); k_dflt (refine' do_r1 ?X ?T ?K0 ?F ?N C ?_; (case X => k_asm); (case T => k_asm); (case K0 => assumption); (case F => k_asm); (case N => k_asm); k_whole); intro e9 t9 x9 kt9 g9 h9 tk9 F9 S9 U9; (try dsimp only)) | (k_here; (with_reducible show wpAny _ _ (noteFrame _ _) _ _ _); k_dflt (refine' caught_top ?R ?F ?U ?X ?hA ?hL ?q ?hname ?_; (case hA => exact rfl); (case hL => exact rfl); (case R => assumption); (case F => assumption); (case U => assumption); (case X => assumption); (case q => kts_isx); (case hname => (intro h9 E9 Q9 F9 k9; walk1; exact k9)); k_whole); intro h' F' N'; (try dsimp only); (try k_fold)) | (k_here; (with_reducible show wpAny _ _ (compareOp CmpOp.Eq (Value.int _ _) (Value.int _ _)) _ _ _); first | with_reducible refine eq_same ?_ | (refine eq_no (by decide) ?_)) | (k_unfold; (try dsimp only)) | (k_end; wrow_close) | walk1 | (dsimp only; walk1) | (leave1; try dsimp only))
  exact ret _ _ _ (by assumption)
theorem tail_r2 {w : World} {mean : ExcName → Option Value} {mg mb : Str → Option Value} {h₀ : Heap} {L fa : Nat} {cd : Value} {u : Str → Option Value} {s : Shared} {Q : Flow → Shared → Prop} {E : Value → Shared → Prop} {o mc md st co de fr pl : Nat} {q : Nat → Tok} {q3 q4 pt pt2 lt : Tok} {pv lb : Int} {o1 o3 : Tok} {x1 : Str} {x2 : Value} {xs xs' : List Value} {n n' : Nat} {rest : List (Addr × Obj)}
    (X : (Mine.hd.heap_39 w.params).In h₀) (T : Top Mine.view (looseW Mine.view [Str.ofString "LedgerError", Str.ofString "decimal", Str.ofString "quotient"]) mean mg mb h₀) (K0 : Below callerA h₀ [] h₀) (F : Fr h₀ L s.heap (kstB u [(Str.ofString "op", .ref o), (Str.ofString "due", .none), (Str.ofString "label", .int lb lt), (Str.ofString "place", .int pv pt2), (Str.ofString "machine", .ref mc), (Str.ofString "pile", .ref pl)])) (N : News h₀ L s.heap ((o, tupO [.str x1 o1, x2, .int lb o3]) :: (mc, instObj 179 md) :: (md, mdE w.params co de fr q q3 q4 (.int pv pt) st) :: (st, W.listOf xs.toArray n) :: rest)) (hom : o ≠ md) (hmm : mc ≠ md) (hsm : st ≠ md) (hr2 : ∀ p ∈ rest, p.1 ≠ md) (hlb : 0 ≤ lb)
    (C : WorthR w 14 112 o mc md st (tupO [.str x1 o1, x2, .int lb o3]) (mdE w.params co de fr q q3 q4 (.int pv pt) st) xs xs' n n' rest)
    (next : ∀ (b pl' : Nat) h' tk' m', Fr h₀ L h' m' → m' (Str.ofString "machine") = some (.ref mc) → m' (Str.ofString "pile") = some (.ref pl') → News h₀ L h' ((pl', W.listOf #[] 0) :: (b, W.listOf #[] 0) :: (o, tupO [.str x1 o1, x2, .int lb o3]) :: (mc, instObj 179 md) :: (md, mdE w.params co de fr q q3 q4 (.int lb o3) b) :: (st, W.listOf xs'.toArray n') :: rest) → (∀ p ∈ rest, p.1 < b) →
      (∀ p ∈ (b, W.listOf #[] 0) :: (o, tupO [.str x1 o1, x2, .int lb o3]) :: (mc, instObj 179 md) :: (md, mdE w.params co de fr q q3 q4 (.int lb o3) b) :: (st, W.listOf xs'.toArray n') :: rest, p.1 < pl') → Q .next { s with heap := h', toks := tk' }) :
    wpAny (model Challenge.rw_pb0236_01.row.prog w) (callerA.deeper (envOfC (Str.ofString "law") lawSc L fa cd)) (execs tailBody (envOfC (Str.ofString "law") lawSc L fa cd)) Q E s := by
  revert X
  k_fill
  intro X
  dsimp only [kstB] at F
  conv in tailBody => whnf
  conv in (occs := *) lawSc => all_goals whnf
  repeat' (first | ((with_reducible show wpAny _ _ (exec (Stmt.Try _ (_ :: _) _ [] _) (envOfC _ _ _ _ _)) _ _ _); refine wpAny_Try_except ?_) | (k_here; (with_reducible show wpAny _ _ (call (Value.ref 204) _) _ _ _); k_dflt (refine' do_r2 ?X ?T ?K0 ?F ?N hom hmm hsm hr2 hlb C ?_; (case X => k_asm); (case T => k_asm); (case K0 => assumption); (case F => k_asm); (case N => k_asm); k_whole); intro b9 h9 tk9 F9 N9 lo9; (try dsimp only); (try k_sweep)) | (k_here; (with_reducible show wpAny _ _ (compareOp CmpOp.Eq (Value.int _ _) (Value.int _ _)) _ _ _); refine eq_no (by omega) ?_) | (k_here; (with_reducible show wpAny _ _ (newList _) _ _ _); k_dflt (refine' newList_K ?k1 ?k2 ?_; (case k1 => k_asm); (case k2 => k_asm); k_whole); intro l' h' F' N' l9; (try k_sweep)) | (k_here; with_reducible refine ne_same ?_) | (k_here; (with_reducible show wpAny _ _ (compareOp CmpOp.NotEq (Value.ref _) (Value.ref _)) _ _ _); k_dflt (refine' stacks_ne (xs := []) (ns := []) ?N ?ma ?Dx ?mb ?Dy ?s2 ?hu ?_; (case N => k_asm); (case ma => exact .tail _ (.tail _ (.head _))); (case mb => k_mem); (case Dy => assumption); (case s2 => exact fun p9 hp9 => (.tail _ (.tail _ (.tail _ (.tail _ (.tail _ (.tail _ (.tail _ (List.mem_append_right _ hp9))))))))); (case Dx => exact .nil); (case hu => ke_room); k_whole)) | (k_here; (with_reducible show wpAny _ _ (eval (Expr.ListComp (Expr.Tuple _ _ _) _ _ _) _) _ _ _); k_dflt (refine' pairs_comp2 ?hh ?F ?N ?hm ?hi ?hz ?hname ?hclos ?hcell ?hkind ?hnames ?hx ?hk ?hl ?hd ?_ ?hs; (case hname => (intro Q9 h9; walk1; exact h9)); (case hh => rfl); (case F => k_asm); (case N => k_asm); (case hm => exact (.head _)); (case hi => exact .nil); (case hz => exact Nat.zero_le _); (case hclos => with_unfolding_all rfl); (case hcell => decide); (case hkind => rfl); (case hnames => decide); (case hx => rfl); (case hk => (intro C9; rfl)); (case hl => (intro C9; rfl)); (case hd => decide); (case hs => (intro x9; rfl)); k_whole); (intro D' h' tk' ys' tls' F' N' hP' o3' o'; (try simp only [List.cons_append] at N'); (try k_sweep))) | (k_unfold; (try dsimp only)) | (k_end; wrow_close) | walk1 | (dsimp only; walk1) | (leave1; try dsimp only))
  exact next _ _ _ _ _ (by assumption) rfl rfl (nsub (by assumption) (fun p hp9 => .tail _ (.tail _ hp9))) lo9 l9
end Mine
end
section
open PySem PySem.W PyProof.Rows PySem.Calls
namespace Mine
set_option maxHeartbeats 8000000

theorem base_off {L st tp cl pl de dd : Nat} {a b c d e f : Obj} {l : List (Addr × Obj)} (h1 : st ≠ L + 1) (h2 : st ≠ tp) (h3 : st ≠ cl) (h4 : st ≠ pl) (h5 : st ≠ de) (h6 : st ≠ dd) (h7 : ∀ p ∈ l, p.1 ≠ st) :
    ∀ p ∈ ((L + 1, a) :: (tp, b) :: (cl, c) :: (pl, d) :: (de, e) :: (dd, f) :: l : List (Addr × Obj)), p.1 ≠ st :=
  List.forall_mem_cons.mpr ⟨Ne.symm h1, List.forall_mem_cons.mpr ⟨Ne.symm h2, List.forall_mem_cons.mpr ⟨Ne.symm h3, List.forall_mem_cons.mpr ⟨Ne.symm h4, List.forall_mem_cons.mpr ⟨Ne.symm h5, List.forall_mem_cons.mpr ⟨Ne.symm h6, h7⟩⟩⟩⟩⟩⟩
theorem li_ne {h₀ h : Heap} {L : Addr} {l : List (Addr × Obj)} {a b n k x : Nat} {xs : Array Value} (N : News h₀ L h l) (ha : (a, W.listOf xs n) ∈ l) (hb : (b, instObj k x) ∈ l) : a ≠ b := fun e => by
  have h2 := (N _ hb).1.symm.trans ((congrArg h.get? e).symm.trans (N _ ha).1)
  injection h2 with h3
  have h4 := congrArg Obj.cls h3
  exact Value.noConfusion h4
theorem td_ne {h₀ h : Heap} {L : Addr} {l : List (Addr × Obj)} {a b k : Nat} {d : Data} {od : Option Addr} {sl : Array (Option Value)} {es : List DictEntry} (N : News h₀ L h l) (ha : (a, ⟨.type "tuple", od, d, sl⟩) ∈ l) (hb : (b, dictOf es k) ∈ l) : a ≠ b := fun e => by
  have h2 := (N _ hb).1.symm.trans ((congrArg h.get? e).symm.trans (N _ ha).1)
  injection h2 with h3
  have h4 := congrArg Obj.cls h3
  injection h4 with h5
  exact absurd h5 (by decide)
theorem dm_of {L cl tp dd de md pl : Nat} (d1 : L + 1 < cl) (d2 : cl < tp) (d3 : tp < dd) (d4 : dd < de) (d5 : de < md) (d7 : pl ≠ md ∧ pl ≠ tp) : md ≠ L + 1 ∧ md ≠ tp ∧ md ≠ cl ∧ md ≠ pl ∧ md ≠ de ∧ md ≠ dd := by omega
def NTp (L tp cl mc md st pl de dd : Nat) (l : List (Addr × Obj)) : Prop := (L + 1 ≠ tp ∧ cl ≠ tp ∧ mc ≠ tp ∧ md ≠ tp ∧ st ≠ tp ∧ pl ≠ tp ∧ de ≠ tp ∧ dd ≠ tp) ∧ ∀ p ∈ l, p.1 ≠ tp
def NMd (L tp cl mc md st pl de dd : Nat) (l : List (Addr × Obj)) : Prop := (L + 1 ≠ md ∧ tp ≠ md ∧ cl ≠ md ∧ mc ≠ md ∧ st ≠ md ∧ pl ≠ md ∧ de ≠ md ∧ dd ≠ md) ∧ ∀ p ∈ l, p.1 ≠ md
theorem ntp_of {L tp cl mc md st pl de dd : Nat} {l : List (Addr × Obj)} (d1 : L + 1 < cl) (d2 : cl < tp) (d3 : tp < dd) (d4 : dd < de) (d5 : de < md) (d6 : md < mc) (d7 : pl ≠ md ∧ pl ≠ tp) (h : st ≠ tp) (hoff : ∀ p ∈ l, p.1 ≠ tp) : NTp L tp cl mc md st pl de dd l :=
  ⟨⟨by omega, by omega, by omega, by omega, h, d7.2, by omega, by omega⟩, hoff⟩
theorem nmd_of {L tp cl mc md st pl de dd : Nat} {l : List (Addr × Obj)} (d1 : L + 1 < cl) (d2 : cl < tp) (d3 : tp < dd) (d4 : dd < de) (d5 : de < md) (d6 : md < mc) (d7 : pl ≠ md ∧ pl ≠ tp) (h : st ≠ md) (hoff : ∀ p ∈ l, p.1 ≠ md) : NMd L tp cl mc md st pl de dd l :=
  ⟨⟨by omega, by omega, by omega, by omega, h, d7.1, by omega, by omega⟩, hoff⟩
theorem upd_tp {L tp cl mc md st pl de dd : Nat} {l : List (Addr × Obj)} {a c d e f g h i o o' : Obj} (H : NTp L tp cl mc md st pl de dd l) :
    Upd tp o o' ((L + 1, a) :: (tp, o) :: (cl, c) :: (mc, d) :: (md, e) :: (st, f) :: (pl, g) :: (de, h) :: (dd, i) :: l) ((L + 1, a) :: (tp, o') :: (cl, c) :: (mc, d) :: (md, e) :: (st, f) :: (pl, g) :: (de, h) :: (dd, i) :: l) :=
  H.1.elim fun h1 ⟨h2, h3, h4, h5, h6, h7, h8⟩ => .tail h1 (.head (List.forall_mem_cons.mpr ⟨h2, List.forall_mem_cons.mpr ⟨h3, List.forall_mem_cons.mpr ⟨h4, List.forall_mem_cons.mpr ⟨h5, List.forall_mem_cons.mpr ⟨h6, List.forall_mem_cons.mpr ⟨h7, List.forall_mem_cons.mpr ⟨h8, H.2⟩⟩⟩⟩⟩⟩⟩))
theorem upd_md {L tp cl mc md st pl de dd : Nat} {l : List (Addr × Obj)} {a b c d f g h i o o' : Obj} (H : NMd L tp cl mc md st pl de dd l) :
    Upd md o o' ((L + 1, a) :: (tp, b) :: (cl, c) :: (mc, d) :: (md, o) :: (st, f) :: (pl, g) :: (de, h) :: (dd, i) :: l) ((L + 1, a) :: (tp, b) :: (cl, c) :: (mc, d) :: (md, o') :: (st, f) :: (pl, g) :: (de, h) :: (dd, i) :: l) :=
  H.1.elim fun h1 ⟨h2, h3, h4, h5, h6, h7, h8⟩ => .tail h1 (.tail h2 (.tail h3 (.tail h4 (.head (List.forall_mem_cons.mpr ⟨h5, List.forall_mem_cons.mpr ⟨h6, List.forall_mem_cons.mpr ⟨h7, List.forall_mem_cons.mpr ⟨h8, H.2⟩⟩⟩⟩)))))
theorem off_at {l : List (Addr × Obj)} {bs : List Nat} {b : Nat} (h : OwnOff l bs) (hb : b ∈ bs) : ∀ p ∈ l, p.1 ≠ b := fun p hp => h p hp b hb
theorem perm_in {o mc md st L tp cl pl de dd : Nat} {a b c d e f g h i j : Obj} {ex l : List (Addr × Obj)} :
    ∀ p ∈ ((o, a) :: (mc, b) :: (md, c) :: (st, d) :: (ex ++ ((L + 1, e) :: (tp, f) :: (cl, g) :: (pl, h) :: (de, i) :: (dd, j) :: l)) : List (Addr × Obj)), p ∈ ((o, a) :: (ex ++ ((L + 1, e) :: (tp, f) :: (cl, g) :: (mc, b) :: (md, c) :: (st, d) :: (pl, h) :: (de, i) :: (dd, j) :: l)) : List (Addr × Obj)) := by
  intro p hp
  simp only [List.mem_cons, List.mem_append] at hp ⊢
  rcases hp with h | h | h | h | h | h | h | h | h | h | h | h <;> simp only [h, true_or, or_true]

theorem kind_ok {w : World} {mean : ExcName → Option Value} {mg mb : Str → Option Value} {h₀ : Heap} {L fa : Nat} {cd : Value} {u : Str → Option Value} {s : Shared} {Q : Flow → Shared → Prop} {E : Value → Shared → Prop}
    {tp cl mc md st pl de dd co fr : Nat} {oc : Obj} {vs us ps : List Value} {pile : List Int} {at' pv : Int} {t1 pt q1 q2 q3 q4 q5 q6 q7 e1 e2 r1 r2 r3 r4 : Tok} {n1 n2 n3 n4 : Nat} {tl own : List (Addr × Obj)}
    (X : (Mine.hd.heap_39 w.params).In h₀) (T : Top Mine.view (looseW Mine.view [Str.ofString "LedgerError", Str.ofString "decimal", Str.ofString "quotient"]) mean mg mb h₀) (K0 : Below callerA h₀ [] h₀) {o du : Nat} {z lb : Int} {lt pt2 : Tok} {opO : Obj} {ds us1 : List Value} {n5 n6 : Nat}
    (F : Fr h₀ L s.heap (kstB u [(Str.ofString "op", .ref o), (Str.ofString "due", .ref du), (Str.ofString "label", .int lb lt), (Str.ofString "place", .int pv pt2), (Str.ofString "machine", .ref mc), (Str.ofString "pile", .ref pl)])) (N : News h₀ L s.heap ((o, opO) :: (du, W.listOf ds.toArray n5) :: (L + 1, oc) :: (tp, W.listOf #[.ref cl, .int at' t1] n1) :: (cl, W.listOf vs.toArray n2) :: (mc, instObj 179 md) :: (md, dictOf [⟨PyData.keyHash w.params (Str.ofString "code"), .str (Str.ofString "code") q1, .ref co⟩, ⟨PyData.keyHash w.params (Str.ofString "deeds"), .str (Str.ofString "deeds") q2, .ref de⟩, ⟨PyData.keyHash w.params (Str.ofString "place"), .str (Str.ofString "place") q3, .int pv pt⟩, ⟨PyData.keyHash w.params (Str.ofString "stack"), .str (Str.ofString "stack") q4, .ref st⟩, ⟨PyData.keyHash w.params (Str.ofString "frames"), .str (Str.ofString "frames") q5, .ref fr⟩, ⟨PyData.keyHash w.params (Str.ofString "key"), .str (Str.ofString "key") q6, .str (Str.ofString "") e1⟩, ⟨PyData.keyHash w.params (Str.ofString "word"), .str (Str.ofString "word") q7, .str (Str.ofString "") e2⟩] 7) :: (st, W.listOf (us).toArray n3) :: (pl, W.listOf (ps).toArray n4) :: (de, instObj 249 dd) :: (dd, dictOf [⟨PyData.keyHash w.params (Str.ofString "do"), .str (Str.ofString "do") r1, .none⟩, ⟨PyData.keyHash w.params (Str.ofString "test"), .str (Str.ofString "test") r2, .none⟩, ⟨PyData.keyHash w.params (Str.ofString "number"), .str (Str.ofString "number") r3, .ref 267⟩, ⟨PyData.keyHash w.params (Str.ofString "put"), .str (Str.ofString "put") r4, .none⟩] 4) :: (tl ++ own)))
    (hD : IntsAre ds (pile ++ [z])) (hS : DatAll tl us1 (pile.map dn)) (hlen : pile.length ≤ 15) (hul : us1.length ≤ 15)
    (hm : mc ≠ st) (hn : md ≠ st) (ho : o ≠ st) (hd : st ≠ du) (d8 : st ≠ L + 1 ∧ st ≠ tp ∧ st ≠ cl ∧ st ≠ mc ∧ st ≠ md ∧ st ≠ de ∧ st ≠ dd) (d9 : st ≠ pl) (hoff : OwnOff (tl ++ own) [L + 1, tp, cl, mc, md, st, pl, de, dd]) (d11 : du ≠ md ∧ du ≠ tp)
    (C : ∀ (rest : List (Addr × Obj)), (∀ p ∈ tl, p ∈ rest) → (de, instObj 249 dd) ∈ rest → (dd, ddE w.params (fun i => match i with | 1 => r1 | 2 => r2 | 3 => r3 | 4 => r4 | _ => 0)) ∈ rest → o ≠ st → mc ≠ st → md ≠ st → (∀ p ∈ rest, p.1 ≠ st) → WorthC w 5 48 o mc md st opO (mdE w.params co de fr (fun i => match i with | 1 => q1 | 2 => q2 | 5 => q5 | 6 => q6 | 7 => e1 | 8 => q7 | 9 => e2 | _ => 0) q3 q4 (.int pv pt) st) us us1 n3 n6 rest z)
    (next : ∀ (h' : Heap) (tk' : Nat) (all : List (Addr × Obj)) (st' pl' : Nat) (us' ps' : List Value) (pv' : Int) (pt' t1' : Tok) (n1' n3' n4' : Nat) (m' : Str → Option Value), Fr h₀ L h' m' → m' (Str.ofString "machine") = some (.ref mc) → m' (Str.ofString "pile") = some (.ref pl') → News h₀ L h' all → (∀ p ∈ [(L + 1, oc), (tp, W.listOf #[.ref cl, .int at' t1'] n1'), (cl, W.listOf vs.toArray n2), (mc, instObj 179 md), (md, dictOf [⟨PyData.keyHash w.params (Str.ofString "code"), .str (Str.ofString "code") q1, .ref co⟩, ⟨PyData.keyHash w.params (Str.ofString "deeds"), .str (Str.ofString "deeds") q2, .ref de⟩, ⟨PyData.keyHash w.params (Str.ofString "place"), .str (Str.ofString "place") q3, .int pv' pt'⟩, ⟨PyData.keyHash w.params (Str.ofString "stack"), .str (Str.ofString "stack") q4, .ref st'⟩, ⟨PyData.keyHash w.params (Str.ofString "frames"), .str (Str.ofString "frames") q5, .ref fr⟩, ⟨PyData.keyHash w.params (Str.ofString "key"), .str (Str.ofString "key") q6, .str (Str.ofString "") e1⟩, ⟨PyData.keyHash w.params (Str.ofString "word"), .str (Str.ofString "word") q7, .str (Str.ofString "") e2⟩] 7), (st', W.listOf (us').toArray n3'), (pl', W.listOf (ps').toArray n4'), (de, instObj 249 dd), (dd, dictOf [⟨PyData.keyHash w.params (Str.ofString "do"), .str (Str.ofString "do") r1, .none⟩, ⟨PyData.keyHash w.params (Str.ofString "test"), .str (Str.ofString "test") r2, .none⟩, ⟨PyData.keyHash w.params (Str.ofString "number"), .str (Str.ofString "number") r3, .ref 267⟩, ⟨PyData.keyHash w.params (Str.ofString "put"), .str (Str.ofString "put") r4, .none⟩] 4)], p ∈ all) → (∀ p ∈ own, p ∈ all) → IntsAre ps' (pile ++ [z]) → DatAll all us' ((pile ++ [z]).map dn) → (st' ≠ L + 1 ∧ st' ≠ tp ∧ st' ≠ cl ∧ st' ≠ mc ∧ st' ≠ md ∧ st' ≠ de ∧ st' ≠ dd) → (pl' ≠ md ∧ pl' ≠ tp) → st' ≠ pl' → Q .next { s with heap := h', toks := tk' }) :
    wpAny (model Challenge.rw_pb0236_01.row.prog w) (callerA.deeper (envOfC (Str.ofString "law") lawSc L fa cd)) (execs tailBody (envOfC (Str.ofString "law") lawSc L fa cd)) Q E s := by
  have hr : ∀ p ∈ (du, W.listOf ds.toArray n5) :: (L + 1, oc) :: (tp, W.listOf #[.ref cl, .int at' t1] n1) :: (cl, W.listOf vs.toArray n2) :: (pl, W.listOf ps.toArray n4) :: (de, instObj 249 dd) :: (dd, ddE w.params (fun i => match i with | 1 => r1 | 2 => r2 | 3 => r3 | 4 => r4 | _ => 0)) :: (tl ++ own), p.1 ≠ st := List.forall_mem_cons.mpr ⟨Ne.symm hd, base_off d8.1 d8.2.1 d8.2.2.1 d9 d8.2.2.2.2.2.1 d8.2.2.2.2.2.2 (off_at hoff (.tail _ (.tail _ (.tail _ (.tail _ (.tail _ (.head _)))))))⟩
  refine tail_ok (q := (fun i => match i with | 1 => q1 | 2 => q2 | 5 => q5 | 6 => q6 | 7 => e1 | 8 => q7 | 9 => e2 | _ => 0)) (rest := (du, W.listOf ds.toArray n5) :: (L + 1, oc) :: (tp, W.listOf #[.ref cl, .int at' t1] n1) :: (cl, W.listOf vs.toArray n2) :: (pl, W.listOf ps.toArray n4) :: (de, instObj 249 dd) :: (dd, ddE w.params (fun i => match i with | 1 => r1 | 2 => r2 | 3 => r3 | 4 => r4 | _ => 0)) :: (tl ++ own)) X T K0 F (nsub N (perm_in (ex := [_]))) ho hm hn hr hul (C _ (fun p9 hp9 => (.tail _ (.tail _ (.tail _ (.tail _ (.tail _ (.tail _ (.tail _ (List.mem_append_left _ hp9))))))))) (.tail _ (.tail _ (.tail _ (.tail _ (.tail _ (.head _)))))) (.tail _ (.tail _ (.tail _ (.tail _ (.tail _ (.tail _ (.head _))))))) ho hm hn hr) (.head _) hD (by rw [List.length_append]; exact Nat.le_trans (Nat.add_le_add_right hlen 1) (by decide)) (hS.mono (fun p9 hp9 => (.tail _ (.tail _ (.tail _ (.tail _ (.tail _ (.tail _ (.tail _ (List.mem_append_left _ hp9)))))))))) ?_
  intro b k t t' h' tk' m' F' e1' e2' N'
  exact next h' tk' _ st du (us1 ++ [Value.ref b]) ds pv pt t1 n1 k n5 m' F' e1' e2' N' (ncons (.tail _ (.tail _ (.tail _ (.tail _ (.tail _ (.tail _ (.head _))))))) (ncons (.tail _ (.tail _ (.tail _ (.tail _ (.tail _ (.tail _ (.tail _ (.head _)))))))) (ncons (.tail _ (.tail _ (.tail _ (.tail _ (.tail _ (.tail _ (.tail _ (.tail _ (.head _))))))))) (ncons (.tail _ (.tail _ (.head _))) (ncons (.tail _ (.tail _ (.tail _ (.head _)))) (ncons (.tail _ (.tail _ (.tail _ (.tail _ (.head _))))) (ncons (.tail _ (.tail _ (.tail _ (.tail _ (.tail _ (.head _)))))) (ncons (.tail _ (.tail _ (.tail _ (.tail _ (.tail _ (.tail _ (.tail _ (.tail _ (.tail _ (.tail _ (.head _))))))))))) (ncons (.tail _ (.tail _ (.tail _ (.tail _ (.tail _ (.tail _ (.tail _ (.tail _ (.tail _ (.tail _ (.tail _ (.head _)))))))))))) (fun _ hp9 => nomatch hp9)))))))))) (fun p9 hp9 => (.tail _ (.tail _ (.tail _ (.tail _ (.tail _ (.tail _ (.tail _ (.tail _ (.tail _ (.tail _ (.tail _ (.tail _ (List.mem_append_right _ hp9)))))))))))))) hD (dat_snoc2 hS (.head _) (fun p9 hp9 => (.tail _ (.tail _ (.tail _ (.tail _ (.tail _ (.tail _ (.tail _ (.tail _ (.tail _ (.tail _ (.tail _ (.tail _ (List.mem_append_left _ hp9))))))))))))))) d8 d11 hd
theorem kind_r1 {w : World} {mean : ExcName → Option Value} {mg mb : Str → Option Value} {h₀ : Heap} {L fa : Nat} {cd : Value} {u : Str → Option Value} {s : Shared} {Q : Flow → Shared → Prop} {E : Value → Shared → Prop}
    {tp cl mc md st pl de dd co fr : Nat} {oc : Obj} {vs us ps : List Value} {at' pv : Int} {t1 pt q1 q2 q3 q4 q5 q6 q7 e1 e2 r1 r2 r3 r4 : Tok} {n1 n2 n3 n4 : Nat} {tl own : List (Addr × Obj)}
    (X : (Mine.hd.heap_39 w.params).In h₀) (T : Top Mine.view (looseW Mine.view [Str.ofString "LedgerError", Str.ofString "decimal", Str.ofString "quotient"]) mean mg mb h₀) (K0 : Below callerA h₀ [] h₀) {o : Nat} {lb : Int} {lt pt2 o1 o3 : Tok} {x1 : Str} {x2 : Value} {us1 : List Value} {n6 : Nat}
    (F : Fr h₀ L s.heap (kstB u [(Str.ofString "op", .ref o), (Str.ofString "due", .none), (Str.ofString "label", .int lb lt), (Str.ofString "place", .int pv pt2), (Str.ofString "machine", .ref mc), (Str.ofString "pile", .ref pl)])) (N : News h₀ L s.heap ((o, (tupO [.str x1 o1, x2, .int lb o3])) :: (L + 1, oc) :: (tp, W.listOf #[.ref cl, .int at' t1] n1) :: (cl, W.listOf vs.toArray n2) :: (mc, instObj 179 md) :: (md, dictOf [⟨PyData.keyHash w.params (Str.ofString "code"), .str (Str.ofString "code") q1, .ref co⟩, ⟨PyData.keyHash w.params (Str.ofString "deeds"), .str (Str.ofString "deeds") q2, .ref de⟩, ⟨PyData.keyHash w.params (Str.ofString "place"), .str (Str.ofString "place") q3, .int pv pt⟩, ⟨PyData.keyHash w.params (Str.ofString "stack"), .str (Str.ofString "stack") q4, .ref st⟩, ⟨PyData.keyHash w.params (Str.ofString "frames"), .str (Str.ofString "frames") q5, .ref fr⟩, ⟨PyData.keyHash w.params (Str.ofString "key"), .str (Str.ofString "key") q6, .str (Str.ofString "") e1⟩, ⟨PyData.keyHash w.params (Str.ofString "word"), .str (Str.ofString "word") q7, .str (Str.ofString "") e2⟩] 7) :: (st, W.listOf (us).toArray n3) :: (pl, W.listOf (ps).toArray n4) :: (de, instObj 249 dd) :: (dd, dictOf [⟨PyData.keyHash w.params (Str.ofString "do"), .str (Str.ofString "do") r1, .none⟩, ⟨PyData.keyHash w.params (Str.ofString "test"), .str (Str.ofString "test") r2, .none⟩, ⟨PyData.keyHash w.params (Str.ofString "number"), .str (Str.ofString "number") r3, .ref 267⟩, ⟨PyData.keyHash w.params (Str.ofString "put"), .str (Str.ofString "put") r4, .none⟩] 4) :: (tl ++ own)))
    (hlb : lb = -1) (ho : o ≠ st) (hm : mc ≠ st) (hn : md ≠ st) (d8 : st ≠ L + 1 ∧ st ≠ tp ∧ st ≠ cl ∧ st ≠ mc ∧ st ≠ md ∧ st ≠ de ∧ st ≠ dd) (d9 : st ≠ pl) (hoff : OwnOff (tl ++ own) [L + 1, tp, cl, mc, md, st, pl, de, dd])
    (C : ∀ (rest : List (Addr × Obj)), (∀ p ∈ tl, p ∈ rest) → (de, instObj 249 dd) ∈ rest → (dd, ddE w.params (fun i => match i with | 1 => r1 | 2 => r2 | 3 => r3 | 4 => r4 | _ => 0)) ∈ rest → o ≠ st → mc ≠ st → md ≠ st → (∀ p ∈ rest, p.1 ≠ st) → WorthR w 14 112 o mc md st (tupO [.str x1 o1, x2, .int lb o3]) (mdE w.params co de fr (fun i => match i with | 1 => q1 | 2 => q2 | 5 => q5 | 6 => q6 | 7 => e1 | 8 => q7 | 9 => e2 | _ => 0) q3 q4 (.int pv pt) st) us us1 n3 n6 rest)
    (ret : ∀ (h' : Heap) (tk' : Nat) (m' : Str → Option Value), Fr h₀ L h' m' → Q (.ret (.bool true)) { s with heap := h', toks := tk' }) :
    wpAny (model Challenge.rw_pb0236_01.row.prog w) (callerA.deeper (envOfC (Str.ofString "law") lawSc L fa cd)) (execs tailBody (envOfC (Str.ofString "law") lawSc L fa cd)) Q E s := by
  subst hlb
  have hr : ∀ p ∈ (L + 1, oc) :: (tp, W.listOf #[.ref cl, .int at' t1] n1) :: (cl, W.listOf vs.toArray n2) :: (pl, W.listOf ps.toArray n4) :: (de, instObj 249 dd) :: (dd, ddE w.params (fun i => match i with | 1 => r1 | 2 => r2 | 3 => r3 | 4 => r4 | _ => 0)) :: (tl ++ own), p.1 ≠ st := base_off d8.1 d8.2.1 d8.2.2.1 d9 d8.2.2.2.2.2.1 d8.2.2.2.2.2.2 (off_at hoff (.tail _ (.tail _ (.tail _ (.tail _ (.tail _ (.head _)))))))
  exact tail_r1 (q := (fun i => match i with | 1 => q1 | 2 => q2 | 5 => q5 | 6 => q6 | 7 => e1 | 8 => q7 | 9 => e2 | _ => 0)) (rest := ((L + 1, oc) :: (tp, W.listOf #[.ref cl, .int at' t1] n1) :: (cl, W.listOf vs.toArray n2) :: (pl, W.listOf ps.toArray n4) :: (de, instObj 249 dd) :: (dd, ddE w.params (fun i => match i with | 1 => r1 | 2 => r2 | 3 => r3 | 4 => r4 | _ => 0)) :: (tl ++ own))) X T K0 F (nsub N (perm_in (ex := []))) (C _ (fun p9 hp9 => (.tail _ (.tail _ (.tail _ (.tail _ (.tail _ (.tail _ (List.mem_append_left _ hp9)))))))) (.tail _ (.tail _ (.tail _ (.tail _ (.head _))))) (.tail _ (.tail _ (.tail _ (.tail _ (.tail _ (.head _)))))) ho hm hn hr) ret
theorem kind_r2 {w : World} {mean : ExcName → Option Value} {mg mb : Str → Option Value} {h₀ : Heap} {L fa : Nat} {cd : Value} {u : Str → Option Value} {s : Shared} {Q : Flow → Shared → Prop} {E : Value → Shared → Prop}
    {tp cl mc md st pl de dd co fr : Nat} {oc : Obj} {vs us ps : List Value} {at' pv : Int} {t1 pt q1 q2 q3 q4 q5 q6 q7 e1 e2 r1 r2 r3 r4 : Tok} {n1 n2 n3 n4 : Nat} {tl own : List (Addr × Obj)}
    (X : (Mine.hd.heap_39 w.params).In h₀) (T : Top Mine.view (looseW Mine.view [Str.ofString "LedgerError", Str.ofString "decimal", Str.ofString "quotient"]) mean mg mb h₀) (K0 : Below callerA h₀ [] h₀) {o : Nat} {lb : Int} {lt pt2 o1 o3 : Tok} {x1 : Str} {x2 : Value} {us1 : List Value} {n6 : Nat}
    (F : Fr h₀ L s.heap (kstB u [(Str.ofString "op", .ref o), (Str.ofString "due", .none), (Str.ofString "label", .int lb lt), (Str.ofString "place", .int pv pt2), (Str.ofString "machine", .ref mc), (Str.ofString "pile", .ref pl)])) (N : News h₀ L s.heap ((o, (tupO [.str x1 o1, x2, .int lb o3])) :: (L + 1, oc) :: (tp, W.listOf #[.ref cl, .int at' t1] n1) :: (cl, W.listOf vs.toArray n2) :: (mc, instObj 179 md) :: (md, dictOf [⟨PyData.keyHash w.params (Str.ofString "code"), .str (Str.ofString "code") q1, .ref co⟩, ⟨PyData.keyHash w.params (Str.ofString "deeds"), .str (Str.ofString "deeds") q2, .ref de⟩, ⟨PyData.keyHash w.params (Str.ofString "place"), .str (Str.ofString "place") q3, .int pv pt⟩, ⟨PyData.keyHash w.params (Str.ofString "stack"), .str (Str.ofString "stack") q4, .ref st⟩, ⟨PyData.keyHash w.params (Str.ofString "frames"), .str (Str.ofString "frames") q5, .ref fr⟩, ⟨PyData.keyHash w.params (Str.ofString "key"), .str (Str.ofString "key") q6, .str (Str.ofString "") e1⟩, ⟨PyData.keyHash w.params (Str.ofString "word"), .str (Str.ofString "word") q7, .str (Str.ofString "") e2⟩] 7) :: (st, W.listOf (us).toArray n3) :: (pl, W.listOf (ps).toArray n4) :: (de, instObj 249 dd) :: (dd, dictOf [⟨PyData.keyHash w.params (Str.ofString "do"), .str (Str.ofString "do") r1, .none⟩, ⟨PyData.keyHash w.params (Str.ofString "test"), .str (Str.ofString "test") r2, .none⟩, ⟨PyData.keyHash w.params (Str.ofString "number"), .str (Str.ofString "number") r3, .ref 267⟩, ⟨PyData.keyHash w.params (Str.ofString "put"), .str (Str.ofString "put") r4, .none⟩] 4) :: (tl ++ own)))
    (ho : o ≠ st) (hm : mc ≠ st) (hn : md ≠ st) (d8 : st ≠ L + 1 ∧ st ≠ tp ∧ st ≠ cl ∧ st ≠ mc ∧ st ≠ md ∧ st ≠ de ∧ st ≠ dd) (d9 : st ≠ pl) (hoff : OwnOff (tl ++ own) [L + 1, tp, cl, mc, md, st, pl, de, dd])
    (dm : md ≠ L + 1 ∧ md ≠ tp ∧ md ≠ cl ∧ md ≠ pl ∧ md ≠ de ∧ md ≠ dd) (hom : o ≠ md) (hmm : mc ≠ md) (hlb : 0 ≤ lb)
    (C : ∀ (rest : List (Addr × Obj)), (∀ p ∈ tl, p ∈ rest) → (de, instObj 249 dd) ∈ rest → (dd, ddE w.params (fun i => match i with | 1 => r1 | 2 => r2 | 3 => r3 | 4 => r4 | _ => 0)) ∈ rest → o ≠ st → mc ≠ st → md ≠ st → (∀ p ∈ rest, p.1 ≠ st) → WorthR w 14 112 o mc md st (tupO [.str x1 o1, x2, .int lb o3]) (mdE w.params co de fr (fun i => match i with | 1 => q1 | 2 => q2 | 5 => q5 | 6 => q6 | 7 => e1 | 8 => q7 | 9 => e2 | _ => 0) q3 q4 (.int pv pt) st) us us1 n3 n6 rest)
    (next : ∀ (h' : Heap) (tk' : Nat) (all : List (Addr × Obj)) (st' pl' : Nat) (us' ps' : List Value) (pv' : Int) (pt' t1' : Tok) (n1' n3' n4' : Nat) (m' : Str → Option Value), Fr h₀ L h' m' → m' (Str.ofString "machine") = some (.ref mc) → m' (Str.ofString "pile") = some (.ref pl') → News h₀ L h' all → (∀ p ∈ [(L + 1, oc), (tp, W.listOf #[.ref cl, .int at' t1'] n1'), (cl, W.listOf vs.toArray n2), (mc, instObj 179 md), (md, dictOf [⟨PyData.keyHash w.params (Str.ofString "code"), .str (Str.ofString "code") q1, .ref co⟩, ⟨PyData.keyHash w.params (Str.ofString "deeds"), .str (Str.ofString "deeds") q2, .ref de⟩, ⟨PyData.keyHash w.params (Str.ofString "place"), .str (Str.ofString "place") q3, .int pv' pt'⟩, ⟨PyData.keyHash w.params (Str.ofString "stack"), .str (Str.ofString "stack") q4, .ref st'⟩, ⟨PyData.keyHash w.params (Str.ofString "frames"), .str (Str.ofString "frames") q5, .ref fr⟩, ⟨PyData.keyHash w.params (Str.ofString "key"), .str (Str.ofString "key") q6, .str (Str.ofString "") e1⟩, ⟨PyData.keyHash w.params (Str.ofString "word"), .str (Str.ofString "word") q7, .str (Str.ofString "") e2⟩] 7), (st', W.listOf (us').toArray n3'), (pl', W.listOf (ps').toArray n4'), (de, instObj 249 dd), (dd, dictOf [⟨PyData.keyHash w.params (Str.ofString "do"), .str (Str.ofString "do") r1, .none⟩, ⟨PyData.keyHash w.params (Str.ofString "test"), .str (Str.ofString "test") r2, .none⟩, ⟨PyData.keyHash w.params (Str.ofString "number"), .str (Str.ofString "number") r3, .ref 267⟩, ⟨PyData.keyHash w.params (Str.ofString "put"), .str (Str.ofString "put") r4, .none⟩] 4)], p ∈ all) → (∀ p ∈ own, p ∈ all) → IntsAre ps' ([]) → DatAll all us' (([]).map dn) → (st' ≠ L + 1 ∧ st' ≠ tp ∧ st' ≠ cl ∧ st' ≠ mc ∧ st' ≠ md ∧ st' ≠ de ∧ st' ≠ dd) → (pl' ≠ md ∧ pl' ≠ tp) → st' ≠ pl' → Q .next { s with heap := h', toks := tk' }) :
    wpAny (model Challenge.rw_pb0236_01.row.prog w) (callerA.deeper (envOfC (Str.ofString "law") lawSc L fa cd)) (execs tailBody (envOfC (Str.ofString "law") lawSc L fa cd)) Q E s := by
  have hr : ∀ p ∈ (L + 1, oc) :: (tp, W.listOf #[.ref cl, .int at' t1] n1) :: (cl, W.listOf vs.toArray n2) :: (pl, W.listOf ps.toArray n4) :: (de, instObj 249 dd) :: (dd, ddE w.params (fun i => match i with | 1 => r1 | 2 => r2 | 3 => r3 | 4 => r4 | _ => 0)) :: (tl ++ own), p.1 ≠ st := base_off d8.1 d8.2.1 d8.2.2.1 d9 d8.2.2.2.2.2.1 d8.2.2.2.2.2.2 (off_at hoff (.tail _ (.tail _ (.tail _ (.tail _ (.tail _ (.head _)))))))
  have hr2 : ∀ p ∈ (L + 1, oc) :: (tp, W.listOf #[.ref cl, .int at' t1] n1) :: (cl, W.listOf vs.toArray n2) :: (pl, W.listOf ps.toArray n4) :: (de, instObj 249 dd) :: (dd, ddE w.params (fun i => match i with | 1 => r1 | 2 => r2 | 3 => r3 | 4 => r4 | _ => 0)) :: (tl ++ own), p.1 ≠ md := base_off dm.1 dm.2.1 dm.2.2.1 dm.2.2.2.1 dm.2.2.2.2.1 dm.2.2.2.2.2 (off_at hoff (.tail _ (.tail _ (.tail _ (.tail _ (.head _))))))
  refine tail_r2 (q := (fun i => match i with | 1 => q1 | 2 => q2 | 5 => q5 | 6 => q6 | 7 => e1 | 8 => q7 | 9 => e2 | _ => 0)) (rest := ((L + 1, oc) :: (tp, W.listOf #[.ref cl, .int at' t1] n1) :: (cl, W.listOf vs.toArray n2) :: (pl, W.listOf ps.toArray n4) :: (de, instObj 249 dd) :: (dd, ddE w.params (fun i => match i with | 1 => r1 | 2 => r2 | 3 => r3 | 4 => r4 | _ => 0)) :: (tl ++ own))) X T K0 F (nsub N (perm_in (ex := []))) hom hmm (Ne.symm hn) hr2 hlb (C _ (fun p9 hp9 => (.tail _ (.tail _ (.tail _ (.tail _ (.tail _ (.tail _ (List.mem_append_left _ hp9)))))))) (.tail _ (.tail _ (.tail _ (.tail _ (.head _))))) (.tail _ (.tail _ (.tail _ (.tail _ (.tail _ (.head _)))))) ho hm hn hr) ?_
  intro b pl' h' tk' m' F' e1' e2' N' lo lo2
  have nb : ∀ {a : Nat} {x : Obj}, ((a, x) : Addr × Obj) ∈ ((L + 1, oc) :: (tp, W.listOf #[.ref cl, .int at' t1] n1) :: (cl, W.listOf vs.toArray n2) :: (pl, W.listOf ps.toArray n4) :: (de, instObj 249 dd) :: (dd, ddE w.params (fun i => match i with | 1 => r1 | 2 => r2 | 3 => r3 | 4 => r4 | _ => 0)) :: (tl ++ own)) → b ≠ a := fun h9 => Ne.symm (Nat.ne_of_lt (lo _ h9))
  have np : ∀ {a : Nat} {x : Obj}, ((a, x) : Addr × Obj) ∈ (b, W.listOf #[] 0) :: (o, (tupO [.str x1 o1, x2, .int lb o3])) :: (mc, instObj 179 md) :: (md, (mdE w.params co de fr (fun i => match i with | 1 => q1 | 2 => q2 | 5 => q5 | 6 => q6 | 7 => e1 | 8 => q7 | 9 => e2 | _ => 0) q3 q4 (.int lb o3) b)) :: (st, W.listOf us1.toArray n6) :: (L + 1, oc) :: (tp, W.listOf #[.ref cl, .int at' t1] n1) :: (cl, W.listOf vs.toArray n2) :: (pl, W.listOf ps.toArray n4) :: (de, instObj 249 dd) :: (dd, ddE w.params (fun i => match i with | 1 => r1 | 2 => r2 | 3 => r3 | 4 => r4 | _ => 0)) :: (tl ++ own) → pl' ≠ a := fun h9 => Ne.symm (Nat.ne_of_lt (lo2 _ h9))
  exact next h' tk' _ b pl' [] [] lb o3 t1 n1 0 0 m' F' e1' e2' N' (ncons (.tail _ (.tail _ (.tail _ (.tail _ (.tail _ (.tail _ (.head _))))))) (ncons (.tail _ (.tail _ (.tail _ (.tail _ (.tail _ (.tail _ (.tail _ (.head _)))))))) (ncons (.tail _ (.tail _ (.tail _ (.tail _ (.tail _ (.tail _ (.tail _ (.tail _ (.head _))))))))) (ncons (.tail _ (.tail _ (.tail _ (.head _)))) (ncons (.tail _ (.tail _ (.tail _ (.tail _ (.head _))))) (ncons (.tail _ (.head _)) (ncons (.head _) (ncons (.tail _ (.tail _ (.tail _ (.tail _ (.tail _ (.tail _ (.tail _ (.tail _ (.tail _ (.tail _ (.head _))))))))))) (ncons (.tail _ (.tail _ (.tail _ (.tail _ (.tail _ (.tail _ (.tail _ (.tail _ (.tail _ (.tail _ (.tail _ (.head _)))))))))))) (fun _ hp9 => nomatch hp9)))))))))) (fun p9 hp9 => (.tail _ (.tail _ (.tail _ (.tail _ (.tail _ (.tail _ (.tail _ (.tail _ (.tail _ (.tail _ (.tail _ (.tail _ (List.mem_append_right _ hp9)))))))))))))) .nil .nil
    ⟨nb (.head _), nb (.tail _ (.head _)), nb (.tail _ (.tail _ (.head _))), li_ne N' (.tail _ (.head _)) (.tail _ (.tail _ (.tail _ (.head _)))), ld_ne N' (.tail _ (.head _)) (.tail _ (.tail _ (.tail _ (.tail _ (.head _))))), nb (.tail _ (.tail _ (.tail _ (.tail _ (.head _))))), nb (.tail _ (.tail _ (.tail _ (.tail _ (.tail _ (.head _))))))⟩ ⟨np (.tail _ (.tail _ (.tail _ (.head _)))), np (.tail _ (.tail _ (.tail _ (.tail _ (.tail _ (.tail _ (.head _)))))))⟩ (Ne.symm (np (.head _)))
end Mine
end
section
open PySem PySem.W PyProof.Rows PySem.Calls
namespace Mine
set_option maxHeartbeats 8000000
theorem dec_lab {h₀ h : Heap} {L : Addr} {m : Str → Option Value} {lb : Int} {lt : Tok} {P : Prop} (_F : Fr h₀ L h m) (_e : m (Str.ofString "label") = some (.int lb lt)) (h1 : lb = -1 → P) (h2 : lb ≠ -1 → P) : P :=
  if h : lb = -1 then h1 h else h2 h
theorem four {P : Int → Prop} {v : Int} (h1 : v < 4) (h0 : 0 ≤ v) (a : P 0) (b : P 1) (c : P 2) (d : P 3) : P v := by
  rcases (show v = 0 ∨ v = 1 ∨ v = 2 ∨ v = 3 by omega) with rfl | rfl | rfl | rfl <;> assumption
theorem getD_le {p : List Int} {B : Nat} (h : ∀ z ∈ p, z.natAbs ≤ B) (i : Nat) : (p.getD i 0).natAbs ≤ B := by
  rw [List.getD_eq_getElem?_getD]
  rcases hh : p[i]? with _ | z
  · simp
  · exact h z (List.mem_of_getElem? hh)
theorem mulL {prog : Program} {w : World} {A : Around} {E : Value → Shared → Prop} {s : Shared} {Q : Value → Shared → Prop} {p : List Int} {i j : Nat} {t u : Tok} (h : ∀ z ∈ p, z.natAbs ≤ 20 ^ 15) (k : Q (.int (p.getD i 0 * p.getD j 0) s.toks) { s with toks := s.toks + 1 }) :
    wpAny (model prog w) A (binaryOp .Mult (.int (p.getD i 0) t) (.int (p.getD j 0) u)) Q E s := PyProof.Rows.mul_int k (mul_ok (getD_le h _) (getD_le h _))
end Mine
end
section
open PySem PySem.W PyProof.Rows
namespace Mine
set_option maxHeartbeats 8000000
theorem draw {w : World} {mean : ExcName → Option Value} {mg mb : Str → Option Value}
    (dp un : Nat) (gd : Option (List Code)) (cn : Str) (cs : Scope) (a : Addr) (ccd : Value) (cells : List (Str × Addr)) (outer : List Env) (A₀ : Around) (base h₀ : Heap) (L : Addr) (m : Str → Option Value) (s : Shared) (Q E : Value → Shared → Prop)
    (tp cl : Addr) (vs : List Value) (ns : List Int) (at' : Int) (t1 kt : Tok) (n1 n2 : Nat) (rest : List (Addr × Obj)) (k : Int)
    (B : Below A₀ base outer h₀) (F : Fr h₀ L s.heap m) (X : (Mine.hd.heap_39 w.params).In h₀)
    (N : News h₀ L s.heap ((tp, W.listOf #[.ref cl, .int at' t1] n1) :: (cl, W.listOf vs.toArray n2) :: rest))
    (T : Top Mine.view (looseW Mine.view [Str.ofString "LedgerError", Str.ofString "decimal", Str.ofString "quotient"]) mean mg mb h₀) (hk : cs.kind = .function)
    (hi : IntsAre vs ns) (h1 : 0 < ns.length) (h2 : ns.length ≤ 50) (h3 : 0 ≤ at') (h4 : at' ≤ 70) (h5 : 1 ≤ k) (h6 : k ≤ 30) (hr : OwnOff rest [tp]) (hc : cl ≠ tp)
    (hd : dp + 1 < recursionLimit) (hu : un + 8 < cLine)
    (ret : ∀ v t' t2 h' tk', 0 ≤ v → v < k → Fr h₀ L h' m → News h₀ L h' ((tp, W.listOf #[.ref cl, .int (at' + 1) t2] n1) :: (cl, W.listOf vs.toArray n2) :: rest) → Q (.int v t') { s with heap := h', toks := tk' }) :
    wpAny (model Challenge.rw_pb0236_01.row.prog w) (ktrTop dp un gd cn cs L a ccd cells outer) (call (.ref 260) [.ref tp, .int k kt]) Q E s := by
  revert ret
  revert X
  k_fill
  intro X ret
  refine wpAny_call ?_
  k_dflt cell_enter
  k_steps; exact ret _ _ _ _ _ (fmod_lo _ (by omega)) (fmod_hi _ (by omega)) (by assumption) (by assumption)
end Mine
end
section
open PySem PySem.W PyProof.Rows
namespace Mine
set_option maxHeartbeats 8000000
theorem draw_at {w : World} {mean : ExcName → Option Value} {mg mb : Str → Option Value}
    (dp un : Nat) (gd : Option (List Code)) (cn : Str) (cs : Scope) (a : Addr) (ccd : Value) (cells : List (Str × Addr)) (outer : List Env) (A₀ : Around) (base h₀ : Heap) (L : Addr) (m : Str → Option Value) (s : Shared) (Q E : Value → Shared → Prop)
    (tp cl : Nat) (vs : List Value) (ns : List Int) (at' : Int) (t1 kt : Tok) (n1 n2 : Nat) (news : List (Addr × Obj)) (news' : Tok → List (Addr × Obj)) (k : Int)
    (B : Below A₀ base outer h₀) (F : Fr h₀ L s.heap m) (X : (Mine.hd.heap_39 w.params).In h₀)
    (N : News h₀ L s.heap news)
    (T : Top Mine.view (looseW Mine.view [Str.ofString "LedgerError", Str.ofString "decimal", Str.ofString "quotient"]) mean mg mb h₀) (hk : cs.kind = .function)
    (hne : cl ≠ tp) (hU : ∀ t2, Upd tp (W.listOf #[.ref cl, .int at' t1] n1) (W.listOf #[.ref cl, .int (at' + 1) t2] n1) news (news' t2)) (hcl : (cl, W.listOf vs.toArray n2) ∈ news)
    (hi : IntsAre vs ns) (h1 : 0 < ns.length) (h2 : ns.length ≤ 50) (h3 : 0 ≤ at') (h4 : at' ≤ 70) (h5 : 1 ≤ k) (h6 : k ≤ 30)
    (hd : dp + 1 < recursionLimit) (hu : un + 8 < cLine)
    (ret : ∀ v t' t2 h' tk', 0 ≤ v → v < k → Fr h₀ L h' m → News h₀ L h' (news' t2) → Q (.int v t') { s with heap := h', toks := tk' }) :
    wpAny (model Challenge.rw_pb0236_01.row.prog w) (ktrTop dp un gd cn cs L a ccd cells outer) (call (.ref 260) [.ref tp, .int k kt]) Q E s := by
  have hr : OwnOff (news.filter fun p => p.1 ≠ tp) [tp] := by
    intro p hp b hb
    rw [List.mem_singleton.mp hb]
    simpa using (List.mem_filter.mp hp).2
  refine draw dp un gd cn cs a ccd cells outer A₀ base h₀ L m s Q E tp cl vs ns at' t1 kt n1 n2 (news.filter fun p => p.1 ≠ tp) k B F X ?_ T hk hi h1 h2 h3 h4 h5 h6 hr hne hd hu ?_
  · intro p hp
    obtain ⟨pre, post, e1, -, h1', h2'⟩ := (hU 0).split
    rcases List.mem_cons.mp hp with rfl | hp
    · exact N _ (by rw [e1]; simp)
    rcases List.mem_cons.mp hp with rfl | hp
    · exact N _ hcl
    · exact N _ (List.mem_filter.mp hp).1
  · intro v t' t2 h' tk' l1 l2 F' N'
    refine ret v t' t2 h' tk' l1 l2 F' ?_
    obtain ⟨pre, post, e1, e2, h1', h2'⟩ := (hU t2).split
    intro p hp
    rw [e2] at hp
    have key : p.1 ≠ tp → p ∈ news → h'.get? p.1 = some p.2 ∧ p.1 ≠ L ∧ h₀.get? p.1 = none := fun a b => N' p (.tail _ (.tail _ (List.mem_filter.mpr ⟨b, by simpa using a⟩)))
    rcases List.mem_append.mp hp with hp | hp
    · exact key (h1' p hp) (by rw [e1]; exact List.mem_append_left _ hp)
    rcases List.mem_cons.mp hp with rfl | hp
    · exact N' _ (.head _)
    · exact key (h2' p hp) (by rw [e1]; exact List.mem_append_right _ (.tail _ hp))
end Mine
end
section
open PySem PySem.W PyProof.Rows PySem.Calls
namespace Mine
theorem dn_in {tl : List (Addr × Obj)} {v : Value} {y : Int} (h : DatIn tl v (dn y)) : ∃ (b n : Nat) (t t' : Tok), v = .ref b ∧ ((b, pairN n y t t') : Addr × Obj) ∈ tl := by
  unfold dn at h
  cases h with
  | tuple hm hx =>
    cases hx with
    | cons h1 h2 =>
      cases h2 with
      | cons h3 h4 =>
        cases h4
        cases h1
        cases h3
        exact ⟨_, _, _, _, rfl, hm⟩
theorem last_of {α : Type} {l : List α} (h : 1 ≤ l.length) : ∃ p y, l = p ++ [y] := by
  rcases l.eq_nil_or_concat with rfl | ⟨p, y, rfl⟩
  · simp at h
  · exact ⟨p, y, by simp⟩
theorem last1 {tl : List (Addr × Obj)} {us : List Value} {p : List Int} (h : 1 ≤ p.length) (hS : DatAll tl us (p.map dn)) : ∃ (p0 : List Int) (y : Int) (us0 : List Value) (b nb : Nat) (tb tb' : Tok), p = p0 ++ [y] ∧ us = us0 ++ [.ref b] ∧ ((b, pairN nb y tb tb') : Addr × Obj) ∈ tl ∧ DatAll tl us0 (p0.map dn) := by
  have hl := hS.length
  rw [List.length_map] at hl
  obtain ⟨p0, y, rfl⟩ := last_of h
  obtain ⟨us0, v, rfl⟩ := last_of (l := us) (by omega)
  rw [List.map_append] at hS
  obtain ⟨es, d, e, h1, h2⟩ := hS.snoc
  have e2 := List.append_inj' e rfl
  obtain ⟨rfl, e3⟩ := e2
  obtain rfl : dn y = d := by simpa using e3
  obtain ⟨b, nb, t, t', rfl, hm⟩ := dn_in h2
  exact ⟨p0, y, us0, b, nb, t, t', rfl, rfl, hm, h1⟩
theorem last2 {tl : List (Addr × Obj)} {us : List Value} {p : List Int} (h : 2 ≤ p.length) (hS : DatAll tl us (p.map dn)) : ∃ (p0 : List Int) (x y : Int) (us0 : List Value) (a b na nb : Nat) (ta ta' tb tb' : Tok), p = p0 ++ [x] ++ [y] ∧ us = us0 ++ [.ref a] ++ [.ref b] ∧ ((a, pairN na x ta ta') : Addr × Obj) ∈ tl ∧ ((b, pairN nb y tb tb') : Addr × Obj) ∈ tl ∧ DatAll tl us0 (p0.map dn) := by
  obtain ⟨p0, y, us0, b, nb, t, t', rfl, rfl, hm, h1⟩ := last1 (by omega) hS
  obtain ⟨p1, x, us1, a, na, u, u', rfl, rfl, hm2, h2⟩ := last1 (by simp at h; omega) h1
  exact ⟨p1, x, y, us1, a, b, na, nb, u, u', t, t', rfl, rfl, hm2, hm, h2⟩
theorem tlm {l al : List (Addr × Obj)} (k : ∀ p ∈ l, p ∈ al) {p : Addr × Obj} (h : p ∈ l) : p ∈ al := k p h
theorem getD_last {p p0 : List Int} {y : Int} (e : p = p0 ++ [y]) : p.getD (-1 + (p.length : Int)).toNat 0 = y := by
  subst e
  have h : (-1 + ((p0 ++ [y]).length : Int)).toNat = p0.length := by
    simp only [List.length_append, List.length_cons, List.length_nil]
    omega
  rw [h]
  simp [List.getD_eq_getElem?_getD]
theorem getD_prev {p p0 : List Int} {x y : Int} (e : p = p0 ++ [x] ++ [y]) : p.getD (-2 + (p.length : Int)).toNat 0 = x := by
  subst e
  have h : (-2 + ((p0 ++ [x] ++ [y]).length : Int)).toNat = p0.length := by
    simp only [List.length_append, List.length_cons, List.length_nil]
    omega
  rw [h]
  simp [List.getD_eq_getElem?_getD]
theorem take_last {p p0 : List Int} {y : Int} (e : p = p0 ++ [y]) : List.take (p.length - 1) p = p0 := by
  subst e
  simp
theorem take_two {p p0 : List Int} {x y : Int} (e : p = p0 ++ [x] ++ [y]) : List.take (p.length - 2) p = p0 := by
  subst e
  have h : (p0 ++ [x] ++ [y]).length - 2 = p0.length := by
    simp only [List.length_append, List.length_cons, List.length_nil]
    omega
  rw [h, List.append_assoc]
  exact List.take_left' rfl
theorem mul_ok30 {x : Int} (h : x.natAbs ≤ 20 ^ 15) : IntMulOk x (10 ^ 30) := IntMulOk.of_bits (bits_of_abs h) (by decide +kernel)
end Mine
end
section
open PySem PySem.W PyProof.Rows PySem.Calls
namespace Mine
set_option maxHeartbeats 8000000

def pushBody : List Stmt := match turnBody with | _ :: _ :: Stmt.If _ b _ _ :: _ => b | _ => []
theorem fr2 {h₀ h : Heap} {L : Addr} {m : Str → Option Value} {l q : Value} (F : Fr h₀ L h m) (h1 : m (Str.ofString "label") = some l) (h2 : m (Str.ofString "pile") = some q) : Fr h₀ L h (kstB m [(Str.ofString "label", l), (Str.ofString "pile", q)]) :=
  fr_kst F fun x hx => by
    simp only [List.mem_cons, List.not_mem_nil, or_false] at hx
    rcases hx with rfl | rfl <;> assumption
theorem push_part {w : World} {mean : ExcName → Option Value} {mg mb : Str → Option Value} {h₀ : Heap} {L fa : Nat} {cd : Value} {u : Str → Option Value} {s : Shared} {Q : Flow → Shared → Prop} {E : Value → Shared → Prop}
    {tp cl mc md st pl de dd co fr : Nat} {oc : Obj} {vs us ps : List Value} {ns pile : List Int} {at' pv : Int} {t1 pt q1 q2 q3 q4 q5 q6 q7 e1 e2 r1 r2 r3 r4 : Tok} {n1 n2 n3 n4 : Nat} {tl own : List (Addr × Obj)}
    (X : (Mine.hd.heap_39 w.params).In h₀) (T : Top Mine.view (looseW Mine.view [Str.ofString "LedgerError", Str.ofString "decimal", Str.ofString "quotient"]) mean mg mb h₀) (K0 : Below callerA h₀ [] h₀) {lb : Int} {lt : Tok}
    (F : Fr h₀ L s.heap (kstB u [(Str.ofString "label", .int lb lt), (Str.ofString "pile", .ref pl)]))
    (N : News h₀ L s.heap ((L + 1, oc) :: (tp, W.listOf #[.ref cl, .int at' t1] n1) :: (cl, W.listOf vs.toArray n2) :: (mc, instObj 179 md) :: (md, dictOf [⟨PyData.keyHash w.params (Str.ofString "code"), .str (Str.ofString "code") q1, .ref co⟩, ⟨PyData.keyHash w.params (Str.ofString "deeds"), .str (Str.ofString "deeds") q2, .ref de⟩, ⟨PyData.keyHash w.params (Str.ofString "place"), .str (Str.ofString "place") q3, .int pv pt⟩, ⟨PyData.keyHash w.params (Str.ofString "stack"), .str (Str.ofString "stack") q4, .ref st⟩, ⟨PyData.keyHash w.params (Str.ofString "frames"), .str (Str.ofString "frames") q5, .ref fr⟩, ⟨PyData.keyHash w.params (Str.ofString "key"), .str (Str.ofString "key") q6, .str (Str.ofString "") e1⟩, ⟨PyData.keyHash w.params (Str.ofString "word"), .str (Str.ofString "word") q7, .str (Str.ofString "") e2⟩] 7) :: (st, W.listOf (us).toArray n3) :: (pl, W.listOf (ps).toArray n4) :: (de, instObj 249 dd) :: (dd, dictOf [⟨PyData.keyHash w.params (Str.ofString "do"), .str (Str.ofString "do") r1, .none⟩, ⟨PyData.keyHash w.params (Str.ofString "test"), .str (Str.ofString "test") r2, .none⟩, ⟨PyData.keyHash w.params (Str.ofString "number"), .str (Str.ofString "number") r3, .ref 267⟩, ⟨PyData.keyHash w.params (Str.ofString "put"), .str (Str.ofString "put") r4, .none⟩] 4) :: (tl ++ own)))
    (hoc : oc.data = .cell (some (.ref tp))) (hi : IntsAre vs ns) (h1 : 0 < ns.length) (h2 : ns.length ≤ 50) (ha0 : 0 ≤ at') (ha1 : at' ≤ 70) (ha2 : at' ≤ 65) (hP : IntsAre ps pile) (hlen : pile.length ≤ 15)
    (d1 : L + 1 < cl) (d2 : cl < tp) (d3 : tp < dd) (d4 : dd < de) (d5 : de < md) (d6 : md < mc) (d7 : pl ≠ md ∧ pl ≠ tp) (d8 : st ≠ L + 1 ∧ st ≠ tp ∧ st ≠ cl ∧ st ≠ mc ∧ st ≠ md ∧ st ≠ de ∧ st ≠ dd) (d9 : st ≠ pl) (hoff : OwnOff (tl ++ own) [L + 1, tp, cl, mc, md, st, pl, de, dd])
    (num : ∀ (x : Int) (o du : Nat) (o1 o2 t1' xt : Tok) (ds : List Value) (n5 : Nat) h' tk', -9 ≤ x → x ≤ 20 → Fr h₀ L h' (kstB u [(Str.ofString "op", .ref o), (Str.ofString "due", .ref du), (Str.ofString "operand", .int x xt), (Str.ofString "label", .int lb lt), (Str.ofString "pile", .ref pl)]) →
      News h₀ L h' ((o, tupO [.str (Str.ofString "push") o1, .int x o2, .int lb lt]) :: (du, W.listOf ds.toArray n5) :: (L + 1, oc) :: (tp, W.listOf #[.ref cl, .int (at' + 1 + 1) t1'] n1) :: (cl, W.listOf vs.toArray n2) :: (mc, instObj 179 md) :: (md, dictOf [⟨PyData.keyHash w.params (Str.ofString "code"), .str (Str.ofString "code") q1, .ref co⟩, ⟨PyData.keyHash w.params (Str.ofString "deeds"), .str (Str.ofString "deeds") q2, .ref de⟩, ⟨PyData.keyHash w.params (Str.ofString "place"), .str (Str.ofString "place") q3, .int pv pt⟩, ⟨PyData.keyHash w.params (Str.ofString "stack"), .str (Str.ofString "stack") q4, .ref st⟩, ⟨PyData.keyHash w.params (Str.ofString "frames"), .str (Str.ofString "frames") q5, .ref fr⟩, ⟨PyData.keyHash w.params (Str.ofString "key"), .str (Str.ofString "key") q6, .str (Str.ofString "") e1⟩, ⟨PyData.keyHash w.params (Str.ofString "word"), .str (Str.ofString "word") q7, .str (Str.ofString "") e2⟩] 7) :: (st, W.listOf (us).toArray n3) :: (pl, W.listOf (ps).toArray n4) :: (de, instObj 249 dd) :: (dd, dictOf [⟨PyData.keyHash w.params (Str.ofString "do"), .str (Str.ofString "do") r1, .none⟩, ⟨PyData.keyHash w.params (Str.ofString "test"), .str (Str.ofString "test") r2, .none⟩, ⟨PyData.keyHash w.params (Str.ofString "number"), .str (Str.ofString "number") r3, .ref 267⟩, ⟨PyData.keyHash w.params (Str.ofString "put"), .str (Str.ofString "put") r4, .none⟩] 4) :: (tl ++ own)) → IntsAre ds (pile ++ [x]) → o ≠ st → st ≠ du → du ≠ md → du ≠ tp → Q .next { s with heap := h', toks := tk' })
    (non : ∀ (o : Nat) (o1 o2 t1' xt : Tok) h' tk', Fr h₀ L h' (kstB u [(Str.ofString "op", .ref o), (Str.ofString "due", .none), (Str.ofString "operand", .str (Str.ofString "none") xt), (Str.ofString "label", .int lb lt), (Str.ofString "pile", .ref pl)]) →
      News h₀ L h' ((o, tupO [.str (Str.ofString "push") o1, .str (Str.ofString "none") o2, .int lb lt]) :: (L + 1, oc) :: (tp, W.listOf #[.ref cl, .int (at' + 1) t1'] n1) :: (cl, W.listOf vs.toArray n2) :: (mc, instObj 179 md) :: (md, dictOf [⟨PyData.keyHash w.params (Str.ofString "code"), .str (Str.ofString "code") q1, .ref co⟩, ⟨PyData.keyHash w.params (Str.ofString "deeds"), .str (Str.ofString "deeds") q2, .ref de⟩, ⟨PyData.keyHash w.params (Str.ofString "place"), .str (Str.ofString "place") q3, .int pv pt⟩, ⟨PyData.keyHash w.params (Str.ofString "stack"), .str (Str.ofString "stack") q4, .ref st⟩, ⟨PyData.keyHash w.params (Str.ofString "frames"), .str (Str.ofString "frames") q5, .ref fr⟩, ⟨PyData.keyHash w.params (Str.ofString "key"), .str (Str.ofString "key") q6, .str (Str.ofString "") e1⟩, ⟨PyData.keyHash w.params (Str.ofString "word"), .str (Str.ofString "word") q7, .str (Str.ofString "") e2⟩] 7) :: (st, W.listOf (us).toArray n3) :: (pl, W.listOf (ps).toArray n4) :: (de, instObj 249 dd) :: (dd, dictOf [⟨PyData.keyHash w.params (Str.ofString "do"), .str (Str.ofString "do") r1, .none⟩, ⟨PyData.keyHash w.params (Str.ofString "test"), .str (Str.ofString "test") r2, .none⟩, ⟨PyData.keyHash w.params (Str.ofString "number"), .str (Str.ofString "number") r3, .ref 267⟩, ⟨PyData.keyHash w.params (Str.ofString "put"), .str (Str.ofString "put") r4, .none⟩] 4) :: (tl ++ own)) → o ≠ st → o ≠ md → Q .next { s with heap := h', toks := tk' }) :
    wpAny (model Challenge.rw_pb0236_01.row.prog w) (callerA.deeper (envOfC (Str.ofString "law") lawSc L fa cd)) (execs pushBody (envOfC (Str.ofString "law") lawSc L fa cd)) Q E s := by
  have hT := ntp_of d1 d2 d3 d4 d5 d6 d7 d8.2.1 (off_at hoff (.tail _ (.head _)))
  revert X
  k_fill
  intro X
  dsimp only [kstB] at F
  conv in pushBody => whnf
  conv in (occs := *) lawSc => all_goals whnf
  repeat' (first | (k_here; (with_reducible show wpAny _ _ (call (Value.ref 260) [Value.ref _, Value.int _ _]) _ _ _); k_dflt (refine' draw_at _ _ _ _ _ _ _ _ _ _ _ _ _ _ _ _ _ _ _ _ _ _ _ _ _ _ _ _ _ ?B ?F ?X ?N ?T ?hk ?hne ?hU ?hcl ?hi ?h1 ?h2 ?h3 ?h4 ?h5 ?h6 ?hd ?hu ?_; (case B => k_asm); (case F => k_asm); (case X => k_asm); (case N => k_asm); (case T => k_asm); (case hk => exact rfl); (case hU => (intro t2; (first | exact upd_tp hT | (refine' Upd.tail ?a9 ?b9; (case a9 => k_ne); (case b9 => (first | exact upd_tp hT | (refine' Upd.tail ?a9 ?b9; (case a9 => k_ne); (case b9 => (first | exact upd_tp hT | (refine' Upd.tail ?a9 ?b9; (case a9 => k_ne); (case b9 => (first | exact upd_tp hT | (refine' Upd.tail ?a9 ?b9; (case a9 => k_ne); (case b9 => exact upd_tp hT)))))))))))))); (case hcl => k_mem); (case hne => exact hT.1.2.1); (case hi => assumption); (case h1 => omega); (case h2 => omega); (case h3 => omega); (case h4 => omega); (case h5 => decide); (case h6 => decide); (case hd => decide); (case hu => (first | decide | simp; decide)); k_whole); intro v' t' t2' h' tk' lo' hi' F' N'; (try dsimp only); (try k_sweep)) | (k_unfold; (try dsimp only)) | (k_end; wrow_close) | walk1 | (dsimp only; walk1) | (leave1; try dsimp only))
  · exact num (v' - 9) _ _ _ _ _ _ _ _ _ _ (by omega) (by omega) (by assumption) (nsub (by assumption) (ncons (by k_mem) (ncons (by k_mem) (ncons (by k_mem) (ncons (by k_mem) (ncons (by k_mem) (ncons (by k_mem) (ncons (by k_mem) (ncons (by k_mem) (ncons (by k_mem) (ncons (by k_mem) (ncons (by k_mem) (by kcf_all))))))))))))) (by assumption) (by omega) (by omega) (by omega) (by omega)
  · exact non _ _ _ _ _ _ _ (by assumption) (nsub (by assumption) (ncons (by k_mem) (ncons (by k_mem) (ncons (by k_mem) (ncons (by k_mem) (ncons (by k_mem) (ncons (by k_mem) (ncons (by k_mem) (ncons (by k_mem) (ncons (by k_mem) (ncons (by k_mem) (by kcf_all)))))))))))) (by omega) (by omega)
end Mine
end
section
open PySem PySem.W PyProof.Rows PySem.Calls
namespace Mine
set_option maxHeartbeats 8000000

theorem turn_nil {w : World} {mean : ExcName → Option Value} {mg mb : Str → Option Value} {h₀ : Heap} {L fa : Nat} {cd : Value} {u : Str → Option Value} {s : Shared} {Q : Flow → Shared → Prop} {E : Value → Shared → Prop}
    {tp cl mc md st pl de dd co fr : Nat} {oc : Obj} {vs us ps : List Value} {ns pile : List Int} {at' pv : Int} {t1 pt q1 q2 q3 q4 q5 q6 q7 e1 e2 r1 r2 r3 r4 : Tok} {n1 n2 n3 n4 : Nat} {tl own : List (Addr × Obj)}
    (X : (Mine.hd.heap_39 w.params).In h₀) (T : Top Mine.view (looseW Mine.view [Str.ofString "LedgerError", Str.ofString "decimal", Str.ofString "quotient"]) mean mg mb h₀) (K0 : Below callerA h₀ [] h₀) {kt : Tok} {tn : Int} 
    (F : Fr h₀ L s.heap (kstB u [(Str.ofString "turn", .int tn kt), (Str.ofString "machine", .ref mc), (Str.ofString "pile", .ref pl)]))
    (N : News h₀ L s.heap ((L + 1, oc) :: (tp, W.listOf #[.ref cl, .int at' t1] n1) :: (cl, W.listOf vs.toArray n2) :: (mc, instObj 179 md) :: (md, dictOf [⟨PyData.keyHash w.params (Str.ofString "code"), .str (Str.ofString "code") q1, .ref co⟩, ⟨PyData.keyHash w.params (Str.ofString "deeds"), .str (Str.ofString "deeds") q2, .ref de⟩, ⟨PyData.keyHash w.params (Str.ofString "place"), .str (Str.ofString "place") q3, .int pv pt⟩, ⟨PyData.keyHash w.params (Str.ofString "stack"), .str (Str.ofString "stack") q4, .ref st⟩, ⟨PyData.keyHash w.params (Str.ofString "frames"), .str (Str.ofString "frames") q5, .ref fr⟩, ⟨PyData.keyHash w.params (Str.ofString "key"), .str (Str.ofString "key") q6, .str (Str.ofString "") e1⟩, ⟨PyData.keyHash w.params (Str.ofString "word"), .str (Str.ofString "word") q7, .str (Str.ofString "") e2⟩] 7) :: (st, W.listOf (([] : List Value)).toArray n3) :: (pl, W.listOf (([] : List Value)).toArray n4) :: (de, instObj 249 dd) :: (dd, dictOf [⟨PyData.keyHash w.params (Str.ofString "do"), .str (Str.ofString "do") r1, .none⟩, ⟨PyData.keyHash w.params (Str.ofString "test"), .str (Str.ofString "test") r2, .none⟩, ⟨PyData.keyHash w.params (Str.ofString "number"), .str (Str.ofString "number") r3, .ref 267⟩, ⟨PyData.keyHash w.params (Str.ofString "put"), .str (Str.ofString "put") r4, .none⟩] 4) :: (tl ++ own)))
    (hoc : oc.data = .cell (some (.ref tp))) (hi : IntsAre vs ns) (h1 : 0 < ns.length) (h2 : ns.length ≤ 50) (ha0 : 0 ≤ at') (ha1 : at' ≤ 70) (ha2 : at' ≤ 60)
    (hP : IntsAre [] []) (hS : DatAll tl [] (([] : List Int).map dn))
    (d1 : L + 1 < cl) (d2 : cl < tp) (d3 : tp < dd) (d4 : dd < de) (d5 : de < md) (d6 : md < mc) (d7 : pl ≠ md ∧ pl ≠ tp) (d8 : st ≠ L + 1 ∧ st ≠ tp ∧ st ≠ cl ∧ st ≠ mc ∧ st ≠ md ∧ st ≠ de ∧ st ≠ dd) (d9 : st ≠ pl) (hoff : OwnOff (tl ++ own) [L + 1, tp, cl, mc, md, st, pl, de, dd])
    (next : ∀ (at2 : Int) (pile2 : List Int), at' ≤ at2 → at2 ≤ at' + 5 → Grow (([] : List Int)) pile2 → ∀ (h' : Heap) (tk' : Nat) (all : List (Addr × Obj)) (st' pl' : Nat) (us' ps' : List Value) (pv' : Int) (pt' t1' : Tok) (n1' n3' n4' : Nat) (m' : Str → Option Value), Fr h₀ L h' m' → m' (Str.ofString "machine") = some (.ref mc) → m' (Str.ofString "pile") = some (.ref pl') → News h₀ L h' all → (∀ p ∈ [(L + 1, oc), (tp, W.listOf #[.ref cl, .int at2 t1'] n1'), (cl, W.listOf vs.toArray n2), (mc, instObj 179 md), (md, dictOf [⟨PyData.keyHash w.params (Str.ofString "code"), .str (Str.ofString "code") q1, .ref co⟩, ⟨PyData.keyHash w.params (Str.ofString "deeds"), .str (Str.ofString "deeds") q2, .ref de⟩, ⟨PyData.keyHash w.params (Str.ofString "place"), .str (Str.ofString "place") q3, .int pv' pt'⟩, ⟨PyData.keyHash w.params (Str.ofString "stack"), .str (Str.ofString "stack") q4, .ref st'⟩, ⟨PyData.keyHash w.params (Str.ofString "frames"), .str (Str.ofString "frames") q5, .ref fr⟩, ⟨PyData.keyHash w.params (Str.ofString "key"), .str (Str.ofString "key") q6, .str (Str.ofString "") e1⟩, ⟨PyData.keyHash w.params (Str.ofString "word"), .str (Str.ofString "word") q7, .str (Str.ofString "") e2⟩] 7), (st', W.listOf (us').toArray n3'), (pl', W.listOf (ps').toArray n4'), (de, instObj 249 dd), (dd, dictOf [⟨PyData.keyHash w.params (Str.ofString "do"), .str (Str.ofString "do") r1, .none⟩, ⟨PyData.keyHash w.params (Str.ofString "test"), .str (Str.ofString "test") r2, .none⟩, ⟨PyData.keyHash w.params (Str.ofString "number"), .str (Str.ofString "number") r3, .ref 267⟩, ⟨PyData.keyHash w.params (Str.ofString "put"), .str (Str.ofString "put") r4, .none⟩] 4)], p ∈ all) → (∀ p ∈ own, p ∈ all) → IntsAre ps' (pile2) → DatAll all us' ((pile2).map dn) → (st' ≠ L + 1 ∧ st' ≠ tp ∧ st' ≠ cl ∧ st' ≠ mc ∧ st' ≠ md ∧ st' ≠ de ∧ st' ≠ dd) → (pl' ≠ md ∧ pl' ≠ tp) → st' ≠ pl' → Q .next { s with heap := h', toks := tk' })
    (ret : ∀ (h' : Heap) (tk' : Nat) (m' : Str → Option Value), Fr h₀ L h' m' → Q (.ret (.bool true)) { s with heap := h', toks := tk' }) :
    wpAny (model Challenge.rw_pb0236_01.row.prog w) (callerA.deeper (envOfC (Str.ofString "law") lawSc L fa cd)) (execs turnBody (envOfC (Str.ofString "law") lawSc L fa cd)) Q E s := by
  have hT := ntp_of d1 d2 d3 d4 d5 d6 d7 d8.2.1 (off_at hoff (.tail _ (.head _)))
  have hM := nmd_of d1 d2 d3 d4 d5 d6 d7 d8.2.2.2.2.1 (off_at hoff (.tail _ (.tail _ (.tail _ (.tail _ (.head _))))))
  revert X
  k_fill
  intro X
  dsimp only [kstB] at F
  conv in turnBody => whnf
  conv in (occs := *) lawSc => all_goals whnf
  repeat' ((fail_if_success (with_reducible show wpAny _ _ (execs (Stmt.Try _ _ _ _ _ :: _) _) _ _ _)); first | (k_here; (with_reducible show wpAny _ _ (execs (Stmt.Assign _ _ _ :: Stmt.If _ _ _ _ :: _) _) _ _ _); exfalso; omega) | (k_here; (with_reducible show wpAny _ _ (execs (Stmt.Assign _ (PySem.Expr.IfExp ..) _ :: Stmt.Assign _ _ _ :: []) _) _ _ _); k_dflt (refine' push_part X T K0 (fr2 ?F ?e1 ?e2) (nsub ?N ?sb) hoc hi h1 h2 ?a0 ?a1 ?a2 hP ?hl d1 d2 d3 d4 d5 d6 d7 d8 d9 hoff ?_ ?_; (case F => assumption); (case e1 => exact rfl); (case e2 => exact rfl); (case N => assumption); (case sb => exact (ncons (by k_mem) (ncons (by k_mem) (ncons (by k_mem) (ncons (by k_mem) (ncons (by k_mem) (ncons (by k_mem) (ncons (by k_mem) (ncons (by k_mem) (ncons (by k_mem) (by kcf_all))))))))))); (case a0 => omega); (case a1 => omega); (case a2 => omega); (case hl => first | assumption | exact Nat.zero_le _)); all_goals (first | (intro x9 o9 du9 o91 o92 t91 xt9 ds9 n59 h9 tk9 lo9 hi9 F9 N9 hI9 c1 c2 c3 c4; (try dsimp only [kstB] at F9); (try k_sweep)) | (intro o9 o91 o92 t91 xt9 h9 tk9 F9 N9 c1 c2; (try dsimp only [kstB] at F9); (try k_sweep)))) | (k_here; (with_reducible show wpAny _ _ (setAttr _ _ _) _ _ _); k_dflt (refine' set_dict ?k1 ?k2 ?k3 ?k4 ?k5 ?k6 ?k7 ?k8 ?k9 ?k10 ?k11 ?k12 ?k13 ?_; (case k1 => k_asm); (case k2 => k_asm); (case k3 => k_asm); (case k4 => k_inst); (case k5 => exact rfl); (case k6 => k_is); (case k7 => k_is); (case k8 => k_is); (case k9 => k_is); (case k10 => k_get); (case k11 => k_put); (case k12 => (first | exact upd_md hM | (refine' Upd.tail ?a9 ?b9; (case a9 => k_ne); (case b9 => exact upd_md hM)))); (case k13 => exact Nat.le_of_ble_eq_true rfl); k_whole); intro h' F' N'; (try k_sweep)) | (k_here; (with_reducible show wpAny _ _ (call (Value.ref 260) [Value.ref _, Value.int _ _]) _ _ _); k_dflt (refine' draw_at _ _ _ _ _ _ _ _ _ _ _ _ _ _ _ _ _ _ _ _ _ _ _ _ _ _ _ _ _ ?B ?F ?X ?N ?T ?hk ?hne ?hU ?hcl ?hi ?h1 ?h2 ?h3 ?h4 ?h5 ?h6 ?hd ?hu ?_; (case B => k_asm); (case F => k_asm); (case X => k_asm); (case N => k_asm); (case T => k_asm); (case hk => exact rfl); (case hU => (intro t2; (first | exact upd_tp hT | (refine' Upd.tail ?a9 ?b9; (case a9 => k_ne); (case b9 => (first | exact upd_tp hT | (refine' Upd.tail ?a9 ?b9; (case a9 => k_ne); (case b9 => (first | exact upd_tp hT | (refine' Upd.tail ?a9 ?b9; (case a9 => k_ne); (case b9 => (first | exact upd_tp hT | (refine' Upd.tail ?a9 ?b9; (case a9 => k_ne); (case b9 => exact upd_tp hT)))))))))))))); (case hcl => k_mem); (case hne => exact hT.1.2.1); (case hi => assumption); (case h1 => omega); (case h2 => omega); (case h3 => omega); (case h4 => omega); (case h5 => decide); (case h6 => decide); (case hd => decide); (case hu => (first | decide | simp; decide)); k_whole); intro v' t' t2' h' tk' lo' hi' F' N'; (try dsimp only); (try k_sweep)) | (k_here; (with_reducible show wpAny _ _ (subscriptTail _ _ (Value.ref _) (Value.int _ _)) _ _ _); refine four (P := fun v => wpAny _ _ (subscriptTail _ _ (Value.ref _) (Value.int v _)) _ _ _) (by assumption) (by assumption) ?_ ?_ ?_ ?_ <;> (try dsimp only)) | (k_here; (with_reducible show wpAny _ _ (binaryOp _ (Value.int _ _) (Value.int _ _)) _ _ _); with_reducible refine mulL (by assumption) ?_) | (k_unfold; (try dsimp only)) | (k_end; wrow_close) | walk1 | (dsimp only; walk1) | (leave1; try dsimp only))
  all_goals (show wpAny _ _ _ _ _ _; first | (refine dec_lab (by assumption) rfl (fun hlb => ?_) (fun hlb => ?_); (refine kind_r1 X T K0 (fr6 (by assumption) rfl rfl rfl rfl rfl rfl) (nsub (by assumption) (ncons (by k_mem) (ncons (by k_mem) (ncons (by k_mem) (ncons (by k_mem) (ncons (by k_mem) (ncons (by k_mem) (ncons (by k_mem) (ncons (by k_mem) (ncons (by k_mem) (ncons (by k_mem) (by kcf_all)))))))))))) hlb (by first | assumption | omega) (Ne.symm d8.2.2.2.1) (Ne.symm d8.2.2.2.2.1) d8 d9 hoff (fun _ _ c2 c3 _ _ _ _ => worth_r_push w c2 c3) ret); (refine kind_r2 X T K0 (fr6 (by assumption) rfl rfl rfl rfl rfl rfl) (nsub (by assumption) (ncons (by k_mem) (ncons (by k_mem) (ncons (by k_mem) (ncons (by k_mem) (ncons (by k_mem) (ncons (by k_mem) (ncons (by k_mem) (ncons (by k_mem) (ncons (by k_mem) (ncons (by k_mem) (by kcf_all)))))))))))) (by first | assumption | omega) (Ne.symm d8.2.2.2.1) (Ne.symm d8.2.2.2.2.1) d8 d9 hoff (dm_of d1 d2 d3 d4 d5 d7) (by first | assumption | omega) (Nat.ne_of_gt d6) (by omega) (fun _ _ c2 c3 _ _ _ _ => worth_r_push w c2 c3) (fun h' tk' all st' pl' us' ps' pv' pt' t1' n1' n3' n4' m' a b c d e f g i j k l => next _ _ (by omega) (by omega) (grow_nil _) h' tk' all st' pl' us' ps' pv' pt' t1' n1' n3' n4' m' a b c d e f g i j k l))) | (refine kind_ok X T K0 (fr6 (by assumption) rfl rfl rfl rfl rfl rfl) (nsub (by assumption) (ncons (by k_mem) (ncons (by k_mem) (ncons (by k_mem) (ncons (by k_mem) (ncons (by k_mem) (ncons (by k_mem) (ncons (by k_mem) (ncons (by k_mem) (ncons (by k_mem) (ncons (by k_mem) (ncons (by k_mem) (by kcf_all))))))))))))) (by first | assumption | exact .cons _ _ .nil | exact .cons _ _ (.cons _ _ .nil)) hS (by first | omega | (simp only [List.length_append, List.length_cons, List.length_nil]; omega)) (by simp) (Ne.symm d8.2.2.2.1) (Ne.symm d8.2.2.2.2.1) (by first | assumption | omega) (by first | assumption | omega) d8 d9 hoff ⟨(by first | assumption | omega), (by first | assumption | omega)⟩ (fun _ _ c2 c3 _ _ _ _ => worth_push w c2 c3) (fun h' tk' all st' pl' us' ps' pv' pt' t1' n1' n3' n4' m' a b c d e f g i j k l => next _ _ (by omega) (by omega) (grow_push _ (by omega) (by omega)) h' tk' all st' pl' us' ps' pv' pt' t1' n1' n3' n4' m' a b c d e f g i j k l)))
end Mine
end
section
open PySem PySem.W PyProof.Rows PySem.Calls
namespace Mine
set_option maxHeartbeats 8000000

theorem turn_more {w : World} {mean : ExcName → Option Value} {mg mb : Str → Option Value} {h₀ : Heap} {L fa : Nat} {cd : Value} {u : Str → Option Value} {s : Shared} {Q : Flow → Shared → Prop} {E : Value → Shared → Prop}
    {tp cl mc md st pl de dd co fr : Nat} {oc : Obj} {vs us ps : List Value} {ns pile : List Int} {at' pv : Int} {t1 pt q1 q2 q3 q4 q5 q6 q7 e1 e2 r1 r2 r3 r4 : Tok} {n1 n2 n3 n4 : Nat} {tl own : List (Addr × Obj)}
    (X : (Mine.hd.heap_39 w.params).In h₀) (T : Top Mine.view (looseW Mine.view [Str.ofString "LedgerError", Str.ofString "decimal", Str.ofString "quotient"]) mean mg mb h₀) (K0 : Below callerA h₀ [] h₀) {kt : Tok} {tn : Int} 
    (F : Fr h₀ L s.heap (kstB u [(Str.ofString "turn", .int tn kt), (Str.ofString "machine", .ref mc), (Str.ofString "pile", .ref pl)]))
    (N : News h₀ L s.heap ((L + 1, oc) :: (tp, W.listOf #[.ref cl, .int at' t1] n1) :: (cl, W.listOf vs.toArray n2) :: (mc, instObj 179 md) :: (md, dictOf [⟨PyData.keyHash w.params (Str.ofString "code"), .str (Str.ofString "code") q1, .ref co⟩, ⟨PyData.keyHash w.params (Str.ofString "deeds"), .str (Str.ofString "deeds") q2, .ref de⟩, ⟨PyData.keyHash w.params (Str.ofString "place"), .str (Str.ofString "place") q3, .int pv pt⟩, ⟨PyData.keyHash w.params (Str.ofString "stack"), .str (Str.ofString "stack") q4, .ref st⟩, ⟨PyData.keyHash w.params (Str.ofString "frames"), .str (Str.ofString "frames") q5, .ref fr⟩, ⟨PyData.keyHash w.params (Str.ofString "key"), .str (Str.ofString "key") q6, .str (Str.ofString "") e1⟩, ⟨PyData.keyHash w.params (Str.ofString "word"), .str (Str.ofString "word") q7, .str (Str.ofString "") e2⟩] 7) :: (st, W.listOf (us).toArray n3) :: (pl, W.listOf (ps).toArray n4) :: (de, instObj 249 dd) :: (dd, dictOf [⟨PyData.keyHash w.params (Str.ofString "do"), .str (Str.ofString "do") r1, .none⟩, ⟨PyData.keyHash w.params (Str.ofString "test"), .str (Str.ofString "test") r2, .none⟩, ⟨PyData.keyHash w.params (Str.ofString "number"), .str (Str.ofString "number") r3, .ref 267⟩, ⟨PyData.keyHash w.params (Str.ofString "put"), .str (Str.ofString "put") r4, .none⟩] 4) :: (tl ++ own)))
    (hoc : oc.data = .cell (some (.ref tp))) (hi : IntsAre vs ns) (h1 : 0 < ns.length) (h2 : ns.length ≤ 50) (ha0 : 0 ≤ at') (ha1 : at' ≤ 70) (ha2 : at' ≤ 60)
    (hP : IntsAre ps pile) (hS : DatAll tl us (pile.map dn)) (hlen : pile.length ≤ 15) (h1l : 1 ≤ pile.length) (hbig : ∀ z ∈ pile, z.natAbs ≤ 20 ^ 15)
    (d1 : L + 1 < cl) (d2 : cl < tp) (d3 : tp < dd) (d4 : dd < de) (d5 : de < md) (d6 : md < mc) (d7 : pl ≠ md ∧ pl ≠ tp) (d8 : st ≠ L + 1 ∧ st ≠ tp ∧ st ≠ cl ∧ st ≠ mc ∧ st ≠ md ∧ st ≠ de ∧ st ≠ dd) (d9 : st ≠ pl) (hoff : OwnOff (tl ++ own) [L + 1, tp, cl, mc, md, st, pl, de, dd])
    (next : ∀ (at2 : Int) (pile2 : List Int), at' ≤ at2 → at2 ≤ at' + 5 → Grow (pile) pile2 → ∀ (h' : Heap) (tk' : Nat) (all : List (Addr × Obj)) (st' pl' : Nat) (us' ps' : List Value) (pv' : Int) (pt' t1' : Tok) (n1' n3' n4' : Nat) (m' : Str → Option Value), Fr h₀ L h' m' → m' (Str.ofString "machine") = some (.ref mc) → m' (Str.ofString "pile") = some (.ref pl') → News h₀ L h' all → (∀ p ∈ [(L + 1, oc), (tp, W.listOf #[.ref cl, .int at2 t1'] n1'), (cl, W.listOf vs.toArray n2), (mc, instObj 179 md), (md, dictOf [⟨PyData.keyHash w.params (Str.ofString "code"), .str (Str.ofString "code") q1, .ref co⟩, ⟨PyData.keyHash w.params (Str.ofString "deeds"), .str (Str.ofString "deeds") q2, .ref de⟩, ⟨PyData.keyHash w.params (Str.ofString "place"), .str (Str.ofString "place") q3, .int pv' pt'⟩, ⟨PyData.keyHash w.params (Str.ofString "stack"), .str (Str.ofString "stack") q4, .ref st'⟩, ⟨PyData.keyHash w.params (Str.ofString "frames"), .str (Str.ofString "frames") q5, .ref fr⟩, ⟨PyData.keyHash w.params (Str.ofString "key"), .str (Str.ofString "key") q6, .str (Str.ofString "") e1⟩, ⟨PyData.keyHash w.params (Str.ofString "word"), .str (Str.ofString "word") q7, .str (Str.ofString "") e2⟩] 7), (st', W.listOf (us').toArray n3'), (pl', W.listOf (ps').toArray n4'), (de, instObj 249 dd), (dd, dictOf [⟨PyData.keyHash w.params (Str.ofString "do"), .str (Str.ofString "do") r1, .none⟩, ⟨PyData.keyHash w.params (Str.ofString "test"), .str (Str.ofString "test") r2, .none⟩, ⟨PyData.keyHash w.params (Str.ofString "number"), .str (Str.ofString "number") r3, .ref 267⟩, ⟨PyData.keyHash w.params (Str.ofString "put"), .str (Str.ofString "put") r4, .none⟩] 4)], p ∈ all) → (∀ p ∈ own, p ∈ all) → IntsAre ps' (pile2) → DatAll all us' ((pile2).map dn) → (st' ≠ L + 1 ∧ st' ≠ tp ∧ st' ≠ cl ∧ st' ≠ mc ∧ st' ≠ md ∧ st' ≠ de ∧ st' ≠ dd) → (pl' ≠ md ∧ pl' ≠ tp) → st' ≠ pl' → Q .next { s with heap := h', toks := tk' })
    (ret : ∀ (h' : Heap) (tk' : Nat) (m' : Str → Option Value), Fr h₀ L h' m' → Q (.ret (.bool true)) { s with heap := h', toks := tk' }) :
    wpAny (model Challenge.rw_pb0236_01.row.prog w) (callerA.deeper (envOfC (Str.ofString "law") lawSc L fa cd)) (execs turnBody (envOfC (Str.ofString "law") lawSc L fa cd)) Q E s := by
  have hT := ntp_of d1 d2 d3 d4 d5 d6 d7 d8.2.1 (off_at hoff (.tail _ (.head _)))
  have hM := nmd_of d1 d2 d3 d4 d5 d6 d7 d8.2.2.2.2.1 (off_at hoff (.tail _ (.tail _ (.tail _ (.tail _ (.head _))))))
  revert X
  k_fill
  intro X
  dsimp only [kstB] at F
  conv in turnBody => whnf
  conv in (occs := *) lawSc => all_goals whnf
  repeat' ((fail_if_success (with_reducible show wpAny _ _ (execs (Stmt.Try _ _ _ _ _ :: _) _) _ _ _)); first | (k_here; (with_reducible show wpAny _ _ (execs (Stmt.Assign _ _ _ :: Stmt.If _ _ _ _ :: _) _) _ _ _); exfalso; omega) | (k_here; (with_reducible show wpAny _ _ (execs (Stmt.Assign _ (PySem.Expr.IfExp ..) _ :: Stmt.Assign _ _ _ :: []) _) _ _ _); k_dflt (refine' push_part X T K0 (fr2 ?F ?e1 ?e2) (nsub ?N ?sb) hoc hi h1 h2 ?a0 ?a1 ?a2 hP ?hl d1 d2 d3 d4 d5 d6 d7 d8 d9 hoff ?_ ?_; (case F => assumption); (case e1 => exact rfl); (case e2 => exact rfl); (case N => assumption); (case sb => exact (ncons (by k_mem) (ncons (by k_mem) (ncons (by k_mem) (ncons (by k_mem) (ncons (by k_mem) (ncons (by k_mem) (ncons (by k_mem) (ncons (by k_mem) (ncons (by k_mem) (by kcf_all))))))))))); (case a0 => omega); (case a1 => omega); (case a2 => omega); (case hl => first | assumption | exact Nat.zero_le _)); all_goals (first | (intro x9 o9 du9 o91 o92 t91 xt9 ds9 n59 h9 tk9 lo9 hi9 F9 N9 hI9 c1 c2 c3 c4; (try dsimp only [kstB] at F9); (try k_sweep)) | (intro o9 o91 o92 t91 xt9 h9 tk9 F9 N9 c1 c2; (try dsimp only [kstB] at F9); (try k_sweep)))) | (k_here; (with_reducible show wpAny _ _ (setAttr _ _ _) _ _ _); k_dflt (refine' set_dict ?k1 ?k2 ?k3 ?k4 ?k5 ?k6 ?k7 ?k8 ?k9 ?k10 ?k11 ?k12 ?k13 ?_; (case k1 => k_asm); (case k2 => k_asm); (case k3 => k_asm); (case k4 => k_inst); (case k5 => exact rfl); (case k6 => k_is); (case k7 => k_is); (case k8 => k_is); (case k9 => k_is); (case k10 => k_get); (case k11 => k_put); (case k12 => (first | exact upd_md hM | (refine' Upd.tail ?a9 ?b9; (case a9 => k_ne); (case b9 => exact upd_md hM)))); (case k13 => exact Nat.le_of_ble_eq_true rfl); k_whole); intro h' F' N'; (try k_sweep)) | (k_here; (with_reducible show wpAny _ _ (call (Value.ref 260) [Value.ref _, Value.int _ _]) _ _ _); k_dflt (refine' draw_at _ _ _ _ _ _ _ _ _ _ _ _ _ _ _ _ _ _ _ _ _ _ _ _ _ _ _ _ _ ?B ?F ?X ?N ?T ?hk ?hne ?hU ?hcl ?hi ?h1 ?h2 ?h3 ?h4 ?h5 ?h6 ?hd ?hu ?_; (case B => k_asm); (case F => k_asm); (case X => k_asm); (case N => k_asm); (case T => k_asm); (case hk => exact rfl); (case hU => (intro t2; (first | exact upd_tp hT | (refine' Upd.tail ?a9 ?b9; (case a9 => k_ne); (case b9 => (first | exact upd_tp hT | (refine' Upd.tail ?a9 ?b9; (case a9 => k_ne); (case b9 => (first | exact upd_tp hT | (refine' Upd.tail ?a9 ?b9; (case a9 => k_ne); (case b9 => (first | exact upd_tp hT | (refine' Upd.tail ?a9 ?b9; (case a9 => k_ne); (case b9 => exact upd_tp hT)))))))))))))); (case hcl => k_mem); (case hne => exact hT.1.2.1); (case hi => assumption); (case h1 => omega); (case h2 => omega); (case h3 => omega); (case h4 => omega); (case h5 => decide); (case h6 => decide); (case hd => decide); (case hu => (first | decide | simp; decide)); k_whole); intro v' t' t2' h' tk' lo' hi' F' N'; (try dsimp only); (try k_sweep)) | (k_here; (with_reducible show wpAny _ _ (subscriptTail _ _ (Value.ref _) (Value.int _ _)) _ _ _); refine four (P := fun v => wpAny _ _ (subscriptTail _ _ (Value.ref _) (Value.int v _)) _ _ _) (by assumption) (by assumption) ?_ ?_ ?_ ?_ <;> (try dsimp only)) | (k_here; (with_reducible show wpAny _ _ (binaryOp _ (Value.int _ _) (Value.int _ _)) _ _ _); with_reducible refine mulL (by assumption) ?_) | (k_unfold; (try dsimp only)) | (k_end; wrow_close) | walk1 | (dsimp only; walk1) | (leave1; try dsimp only))
  · show wpAny _ _ _ _ _ _
    refine kind_ok X T K0 (fr6 (by assumption) rfl rfl rfl rfl rfl rfl) (nsub (by assumption) (ncons (by k_mem) (ncons (by k_mem) (ncons (by k_mem) (ncons (by k_mem) (ncons (by k_mem) (ncons (by k_mem) (ncons (by k_mem) (ncons (by k_mem) (ncons (by k_mem) (ncons (by k_mem) (ncons (by k_mem) (by kcf_all))))))))))))) (by first | assumption | exact .cons _ _ .nil | exact .cons _ _ (.cons _ _ .nil)) hS (by first | omega | (simp only [List.length_append, List.length_cons, List.length_nil]; omega)) (by have h9 := hS.length; rw [List.length_map] at h9; omega) (Ne.symm d8.2.2.2.1) (Ne.symm d8.2.2.2.2.1) (by first | assumption | omega) (by first | assumption | omega) d8 d9 hoff ⟨(by first | assumption | omega), (by first | assumption | omega)⟩ (fun _ _ c2 c3 _ _ _ _ => worth_push w c2 c3) (fun h' tk' all st' pl' us' ps' pv' pt' t1' n1' n3' n4' m' a b c d e f g i j k l => next _ _ (by omega) (by omega) (grow_push _ (by omega) (by omega)) h' tk' all st' pl' us' ps' pv' pt' t1' n1' n3' n4' m' a b c d e f g i j k l)
  · show wpAny _ _ _ _ _ _
    (refine dec_lab (by assumption) rfl (fun hlb => ?_) (fun hlb => ?_); (refine kind_r1 X T K0 (fr6 (by assumption) rfl rfl rfl rfl rfl rfl) (nsub (by assumption) (ncons (by k_mem) (ncons (by k_mem) (ncons (by k_mem) (ncons (by k_mem) (ncons (by k_mem) (ncons (by k_mem) (ncons (by k_mem) (ncons (by k_mem) (ncons (by k_mem) (ncons (by k_mem) (by kcf_all)))))))))))) hlb (by first | assumption | omega) (Ne.symm d8.2.2.2.1) (Ne.symm d8.2.2.2.2.1) d8 d9 hoff (fun _ _ c2 c3 _ _ _ _ => worth_r_push w c2 c3) ret); (refine kind_r2 X T K0 (fr6 (by assumption) rfl rfl rfl rfl rfl rfl) (nsub (by assumption) (ncons (by k_mem) (ncons (by k_mem) (ncons (by k_mem) (ncons (by k_mem) (ncons (by k_mem) (ncons (by k_mem) (ncons (by k_mem) (ncons (by k_mem) (ncons (by k_mem) (ncons (by k_mem) (by kcf_all)))))))))))) (by first | assumption | omega) (Ne.symm d8.2.2.2.1) (Ne.symm d8.2.2.2.2.1) d8 d9 hoff (dm_of d1 d2 d3 d4 d5 d7) (by first | assumption | omega) (Nat.ne_of_gt d6) (by omega) (fun _ _ c2 c3 _ _ _ _ => worth_r_push w c2 c3) (fun h' tk' all st' pl' us' ps' pv' pt' t1' n1' n3' n4' m' a b c d e f g i j k l => next _ _ (by omega) (by omega) (grow_nil _) h' tk' all st' pl' us' ps' pv' pt' t1' n1' n3' n4' m' a b c d e f g i j k l)))
  · show wpAny _ _ _ _ _ _
    refine kind_ok X T K0 (fr6 (by assumption) rfl rfl rfl rfl rfl rfl) (nsub (by assumption) (ncons (by k_mem) (ncons (by k_mem) (ncons (by k_mem) (ncons (by k_mem) (ncons (by k_mem) (ncons (by k_mem) (ncons (by k_mem) (ncons (by k_mem) (ncons (by k_mem) (ncons (by k_mem) (ncons (by k_mem) (by kcf_all))))))))))))) (by first | assumption | exact .cons _ _ .nil | exact .cons _ _ (.cons _ _ .nil)) hS (by first | omega | (simp only [List.length_append, List.length_cons, List.length_nil]; omega)) (by have h9 := hS.length; rw [List.length_map] at h9; omega) (Ne.symm d8.2.2.2.1) (Ne.symm d8.2.2.2.2.1) (by first | assumption | omega) (by first | assumption | omega) d8 d9 hoff ⟨(by first | assumption | omega), (by first | assumption | omega)⟩ (fun _ _ c2 c3 _ _ _ _ => worth_push w c2 c3) (fun h' tk' all st' pl' us' ps' pv' pt' t1' n1' n3' n4' m' a b c d e f g i j k l => next _ _ (by omega) (by omega) (grow_push _ (by omega) (by omega)) h' tk' all st' pl' us' ps' pv' pt' t1' n1' n3' n4' m' a b c d e f g i j k l)
  · show wpAny _ _ _ _ _ _
    (refine dec_lab (by assumption) rfl (fun hlb => ?_) (fun hlb => ?_); (refine kind_r1 X T K0 (fr6 (by assumption) rfl rfl rfl rfl rfl rfl) (nsub (by assumption) (ncons (by k_mem) (ncons (by k_mem) (ncons (by k_mem) (ncons (by k_mem) (ncons (by k_mem) (ncons (by k_mem) (ncons (by k_mem) (ncons (by k_mem) (ncons (by k_mem) (ncons (by k_mem) (by kcf_all)))))))))))) hlb (by first | assumption | omega) (Ne.symm d8.2.2.2.1) (Ne.symm d8.2.2.2.2.1) d8 d9 hoff (fun _ _ c2 c3 _ _ _ _ => worth_r_push w c2 c3) ret); (refine kind_r2 X T K0 (fr6 (by assumption) rfl rfl rfl rfl rfl rfl) (nsub (by assumption) (ncons (by k_mem) (ncons (by k_mem) (ncons (by k_mem) (ncons (by k_mem) (ncons (by k_mem) (ncons (by k_mem) (ncons (by k_mem) (ncons (by k_mem) (ncons (by k_mem) (ncons (by k_mem) (by kcf_all)))))))))))) (by first | assumption | omega) (Ne.symm d8.2.2.2.1) (Ne.symm d8.2.2.2.2.1) d8 d9 hoff (dm_of d1 d2 d3 d4 d5 d7) (by first | assumption | omega) (Nat.ne_of_gt d6) (by omega) (fun _ _ c2 c3 _ _ _ _ => worth_r_push w c2 c3) (fun h' tk' all st' pl' us' ps' pv' pt' t1' n1' n3' n4' m' a b c d e f g i j k l => next _ _ (by omega) (by omega) (grow_nil _) h' tk' all st' pl' us' ps' pv' pt' t1' n1' n3' n4' m' a b c d e f g i j k l)))
  · show wpAny _ _ _ _ _ _
    refine kind_ok X T K0 (fr6 (by assumption) rfl rfl rfl rfl rfl rfl) (nsub (by assumption) (ncons (by k_mem) (ncons (by k_mem) (ncons (by k_mem) (ncons (by k_mem) (ncons (by k_mem) (ncons (by k_mem) (ncons (by k_mem) (ncons (by k_mem) (ncons (by k_mem) (ncons (by k_mem) (ncons (by k_mem) (by kcf_all))))))))))))) (by first | assumption | exact .cons _ _ .nil | exact .cons _ _ (.cons _ _ .nil)) hS (by first | omega | (simp only [List.length_append, List.length_cons, List.length_nil]; omega)) (by have h9 := hS.length; rw [List.length_map] at h9; omega) (Ne.symm d8.2.2.2.1) (Ne.symm d8.2.2.2.2.1) (by first | assumption | omega) (by first | assumption | omega) d8 d9 hoff ⟨(by first | assumption | omega), (by first | assumption | omega)⟩ (fun _ _ c2 c3 _ _ _ _ => worth_push w c2 c3) (fun h' tk' all st' pl' us' ps' pv' pt' t1' n1' n3' n4' m' a b c d e f g i j k l => next _ _ (by omega) (by omega) (grow_push _ (by omega) (by omega)) h' tk' all st' pl' us' ps' pv' pt' t1' n1' n3' n4' m' a b c d e f g i j k l)
  · show wpAny _ _ _ _ _ _
    (refine dec_lab (by assumption) rfl (fun hlb => ?_) (fun hlb => ?_); (refine kind_r1 X T K0 (fr6 (by assumption) rfl rfl rfl rfl rfl rfl) (nsub (by assumption) (ncons (by k_mem) (ncons (by k_mem) (ncons (by k_mem) (ncons (by k_mem) (ncons (by k_mem) (ncons (by k_mem) (ncons (by k_mem) (ncons (by k_mem) (ncons (by k_mem) (ncons (by k_mem) (by kcf_all)))))))))))) hlb (by first | assumption | omega) (Ne.symm d8.2.2.2.1) (Ne.symm d8.2.2.2.2.1) d8 d9 hoff (fun _ _ c2 c3 _ _ _ _ => worth_r_push w c2 c3) ret); (refine kind_r2 X T K0 (fr6 (by assumption) rfl rfl rfl rfl rfl rfl) (nsub (by assumption) (ncons (by k_mem) (ncons (by k_mem) (ncons (by k_mem) (ncons (by k_mem) (ncons (by k_mem) (ncons (by k_mem) (ncons (by k_mem) (ncons (by k_mem) (ncons (by k_mem) (ncons (by k_mem) (by kcf_all)))))))))))) (by first | assumption | omega) (Ne.symm d8.2.2.2.1) (Ne.symm d8.2.2.2.2.1) d8 d9 hoff (dm_of d1 d2 d3 d4 d5 d7) (by first | assumption | omega) (Nat.ne_of_gt d6) (by omega) (fun _ _ c2 c3 _ _ _ _ => worth_r_push w c2 c3) (fun h' tk' all st' pl' us' ps' pv' pt' t1' n1' n3' n4' m' a b c d e f g i j k l => next _ _ (by omega) (by omega) (grow_nil _) h' tk' all st' pl' us' ps' pv' pt' t1' n1' n3' n4' m' a b c d e f g i j k l)))
  · show wpAny _ _ _ _ _ _
    obtain ⟨p0, y, us0, b, nb, tb, tb', eP, rfl, mb, hS0⟩ := last1 (by omega) hS
    have hl0 : p0.length ≤ 15 := by have h9 := congrArg List.length eP; simp only [List.length_append, List.length_cons, List.length_nil] at h9; omega
    have hu0 : us0.length ≤ 15 := by have h9 := hS0.length; rw [List.length_map] at h9; omega
    have hy := hbig y (by rw [eP]; simp)
    have g1 := getD_last eP
    have g2 := take_last eP
    rename IntsAre _ (List.take _ _ ++ _) => hI9
    simp only [g1, g2] at hI9
    refine kind_ok X T K0 (fr6 (by assumption) rfl rfl rfl rfl rfl rfl) (nsub (by assumption) (ncons (by k_mem) (ncons (by k_mem) (ncons (by k_mem) (ncons (by k_mem) (ncons (by k_mem) (ncons (by k_mem) (ncons (by k_mem) (ncons (by k_mem) (ncons (by k_mem) (ncons (by k_mem) (ncons (by k_mem) (by kcf_all))))))))))))) hI9 hS0 hl0 hu0 (Ne.symm d8.2.2.2.1) (Ne.symm d8.2.2.2.2.1) (by first | assumption | omega) (by first | assumption | omega) d8 d9 hoff ⟨(by first | assumption | omega), (by first | assumption | omega)⟩ (fun _ c1 _ _ c0 c4 c5 c6 => worth_neg w hu0 (c1 _ mb) c0 c4 c5 c6) (fun h' tk' all st' pl' us' ps' pv' pt' t1' n1' n3' n4' m' a b c d e f g i j k l => next _ _ (by omega) (by omega) (by rw [eP]; exact grow_neg _ _) h' tk' all st' pl' us' ps' pv' pt' t1' n1' n3' n4' m' a b c d e f g i j k l)
  · show wpAny _ _ _ _ _ _
    obtain ⟨p0, y, us0, b, nb, tb, tb', eP, rfl, mb, hS0⟩ := last1 (by omega) hS
    have hl0 : p0.length ≤ 15 := by have h9 := congrArg List.length eP; simp only [List.length_append, List.length_cons, List.length_nil] at h9; omega
    have hu0 : us0.length ≤ 15 := by have h9 := hS0.length; rw [List.length_map] at h9; omega
    have hy := hbig y (by rw [eP]; simp)
    have g1 := getD_last eP
    have g2 := take_last eP
    rename IntsAre _ (List.take _ _ ++ _) => hI9
    simp only [g1, g2] at hI9
    refine kind_ok X T K0 (fr6 (by assumption) rfl rfl rfl rfl rfl rfl) (nsub (by assumption) (ncons (by k_mem) (ncons (by k_mem) (ncons (by k_mem) (ncons (by k_mem) (ncons (by k_mem) (ncons (by k_mem) (ncons (by k_mem) (ncons (by k_mem) (ncons (by k_mem) (ncons (by k_mem) (ncons (by k_mem) (by kcf_all))))))))))))) hI9 hS0 hl0 hu0 (Ne.symm d8.2.2.2.1) (Ne.symm d8.2.2.2.2.1) (by first | assumption | omega) (by first | assumption | omega) d8 d9 hoff ⟨(by first | assumption | omega), (by first | assumption | omega)⟩ (fun _ c1 _ _ c0 c4 c5 c6 => worth_neg w hu0 (c1 _ mb) c0 c4 c5 c6) (fun h' tk' all st' pl' us' ps' pv' pt' t1' n1' n3' n4' m' a b c d e f g i j k l => next _ _ (by omega) (by omega) (by rw [eP]; exact grow_neg _ _) h' tk' all st' pl' us' ps' pv' pt' t1' n1' n3' n4' m' a b c d e f g i j k l)
  · show wpAny _ _ _ _ _ _
    obtain ⟨p0, x, y, us0, a, b, na, nb, ta, ta', tb, tb', eP, rfl, ma, mb, hS0⟩ := last2 (by omega) hS
    have hl0 : p0.length ≤ 15 := by have h9 := congrArg List.length eP; simp only [List.length_append, List.length_cons, List.length_nil] at h9; omega
    have hu0 : us0.length ≤ 15 := by have h9 := hS0.length; rw [List.length_map] at h9; omega
    have hy := hbig y (by rw [eP]; simp)
    have hx := hbig x (by rw [eP]; simp)
    have g1 := getD_last eP
    have g2 := getD_prev eP
    have g3 := take_two eP
    rename IntsAre _ (List.take _ _ ++ _) => hI9
    simp only [g1, g2, g3] at hI9
    refine kind_ok X T K0 (fr6 (by assumption) rfl rfl rfl rfl rfl rfl) (nsub (by assumption) (ncons (by k_mem) (ncons (by k_mem) (ncons (by k_mem) (ncons (by k_mem) (ncons (by k_mem) (ncons (by k_mem) (ncons (by k_mem) (ncons (by k_mem) (ncons (by k_mem) (ncons (by k_mem) (ncons (by k_mem) (by kcf_all))))))))))))) hI9 hS0 hl0 hu0 (Ne.symm d8.2.2.2.1) (Ne.symm d8.2.2.2.2.1) (by first | assumption | omega) (by first | assumption | omega) d8 d9 hoff ⟨(by first | assumption | omega), (by first | assumption | omega)⟩ (fun _ c1 _ _ c0 c4 c5 c6 => worth_calc w hu0 (by decide) (c1 _ ma) (c1 _ mb) c0 c4 c5 c6 (calc1 w _)) (fun h' tk' all st' pl' us' ps' pv' pt' t1' n1' n3' n4' m' a b c d e f g i j k l => next _ _ (by omega) (by omega) (by rw [eP]; exact grow_add _ _ _) h' tk' all st' pl' us' ps' pv' pt' t1' n1' n3' n4' m' a b c d e f g i j k l)
  · show wpAny _ _ _ _ _ _
    obtain ⟨p0, x, y, us0, a, b, na, nb, ta, ta', tb, tb', eP, rfl, ma, mb, hS0⟩ := last2 (by omega) hS
    have hl0 : p0.length ≤ 15 := by have h9 := congrArg List.length eP; simp only [List.length_append, List.length_cons, List.length_nil] at h9; omega
    have hu0 : us0.length ≤ 15 := by have h9 := hS0.length; rw [List.length_map] at h9; omega
    have hy := hbig y (by rw [eP]; simp)
    have hx := hbig x (by rw [eP]; simp)
    have g1 := getD_last eP
    have g2 := getD_prev eP
    have g3 := take_two eP
    rename IntsAre _ (List.take _ _ ++ _) => hI9
    simp only [g1, g2, g3] at hI9
    refine kind_ok X T K0 (fr6 (by assumption) rfl rfl rfl rfl rfl rfl) (nsub (by assumption) (ncons (by k_mem) (ncons (by k_mem) (ncons (by k_mem) (ncons (by k_mem) (ncons (by k_mem) (ncons (by k_mem) (ncons (by k_mem) (ncons (by k_mem) (ncons (by k_mem) (ncons (by k_mem) (ncons (by k_mem) (by kcf_all))))))))))))) hI9 hS0 hl0 hu0 (Ne.symm d8.2.2.2.1) (Ne.symm d8.2.2.2.2.1) (by first | assumption | omega) (by first | assumption | omega) d8 d9 hoff ⟨(by first | assumption | omega), (by first | assumption | omega)⟩ (fun _ c1 _ _ c0 c4 c5 c6 => worth_calc w hu0 (by decide) (c1 _ ma) (c1 _ mb) c0 c4 c5 c6 (calc2 w _)) (fun h' tk' all st' pl' us' ps' pv' pt' t1' n1' n3' n4' m' a b c d e f g i j k l => next _ _ (by omega) (by omega) (by rw [eP]; exact grow_sub _ _ _) h' tk' all st' pl' us' ps' pv' pt' t1' n1' n3' n4' m' a b c d e f g i j k l)
  · show wpAny _ _ _ _ _ _
    obtain ⟨p0, x, y, us0, a, b, na, nb, ta, ta', tb, tb', eP, rfl, ma, mb, hS0⟩ := last2 (by omega) hS
    have hl0 : p0.length ≤ 15 := by have h9 := congrArg List.length eP; simp only [List.length_append, List.length_cons, List.length_nil] at h9; omega
    have hu0 : us0.length ≤ 15 := by have h9 := hS0.length; rw [List.length_map] at h9; omega
    have hy := hbig y (by rw [eP]; simp)
    have hx := hbig x (by rw [eP]; simp)
    have g1 := getD_last eP
    have g2 := getD_prev eP
    have g3 := take_two eP
    rename IntsAre _ (List.take _ _ ++ _) => hI9
    simp only [g1, g2, g3] at hI9
    refine kind_ok X T K0 (fr6 (by assumption) rfl rfl rfl rfl rfl rfl) (nsub (by assumption) (ncons (by k_mem) (ncons (by k_mem) (ncons (by k_mem) (ncons (by k_mem) (ncons (by k_mem) (ncons (by k_mem) (ncons (by k_mem) (ncons (by k_mem) (ncons (by k_mem) (ncons (by k_mem) (ncons (by k_mem) (by kcf_all))))))))))))) hI9 hS0 hl0 hu0 (Ne.symm d8.2.2.2.1) (Ne.symm d8.2.2.2.2.1) (by first | assumption | omega) (by first | assumption | omega) d8 d9 hoff ⟨(by first | assumption | omega), (by first | assumption | omega)⟩ (fun _ c1 _ _ c0 c4 c5 c6 => worth_calc w hu0 (by decide) (c1 _ ma) (c1 _ mb) c0 c4 c5 c6 (calc3 w _ (mul_ok hx hy) (mul_lt hx hy).1 (mul_lt hx hy).2)) (fun h' tk' all st' pl' us' ps' pv' pt' t1' n1' n3' n4' m' a b c d e f g i j k l => next _ _ (by omega) (by omega) (by rw [eP]; exact grow_mul _ _ _) h' tk' all st' pl' us' ps' pv' pt' t1' n1' n3' n4' m' a b c d e f g i j k l)
  · show wpAny _ _ _ _ _ _
    obtain ⟨p0, x, y, us0, a, b, na, nb, ta, ta', tb, tb', eP, rfl, ma, mb, hS0⟩ := last2 (by omega) hS
    have hl0 : p0.length ≤ 15 := by have h9 := congrArg List.length eP; simp only [List.length_append, List.length_cons, List.length_nil] at h9; omega
    have hu0 : us0.length ≤ 15 := by have h9 := hS0.length; rw [List.length_map] at h9; omega
    have hy := hbig y (by rw [eP]; simp)
    have hx := hbig x (by rw [eP]; simp)
    have g1 := getD_last eP
    have g2 := getD_prev eP
    have g3 := take_two eP
    rename List.getD _ _ _ = (0 : Int) => hZ9
    rw [g1] at hZ9
    subst hZ9
    refine dec_lab (by assumption) rfl (fun hlb => ?_) (fun hlb => ?_)
    · refine kind_r1 X T K0 (fr6 (by assumption) rfl rfl rfl rfl rfl rfl) (nsub (by assumption) (ncons (by k_mem) (ncons (by k_mem) (ncons (by k_mem) (ncons (by k_mem) (ncons (by k_mem) (ncons (by k_mem) (ncons (by k_mem) (ncons (by k_mem) (ncons (by k_mem) (ncons (by k_mem) (by kcf_all)))))))))))) hlb (by first | assumption | omega) (Ne.symm d8.2.2.2.1) (Ne.symm d8.2.2.2.2.1) d8 d9 hoff (fun _ c1 _ _ c0 c4 c5 c6 => worth_r_div w hu0 (c1 _ mb) c0 c4 c5 c6) ret
    · refine kind_r2 X T K0 (fr6 (by assumption) rfl rfl rfl rfl rfl rfl) (nsub (by assumption) (ncons (by k_mem) (ncons (by k_mem) (ncons (by k_mem) (ncons (by k_mem) (ncons (by k_mem) (ncons (by k_mem) (ncons (by k_mem) (ncons (by k_mem) (ncons (by k_mem) (ncons (by k_mem) (by kcf_all)))))))))))) (by first | assumption | omega) (Ne.symm d8.2.2.2.1) (Ne.symm d8.2.2.2.2.1) d8 d9 hoff (dm_of d1 d2 d3 d4 d5 d7) (by first | assumption | omega) (Nat.ne_of_gt d6) (by omega) (fun _ c1 _ _ c0 c4 c5 c6 => worth_r_div w hu0 (c1 _ mb) c0 c4 c5 c6) (fun h' tk' all st' pl' us' ps' pv' pt' t1' n1' n3' n4' m' a b c d e f g i j k l => next _ _ (by omega) (by omega) (by rw [eP]; exact grow_nil _) h' tk' all st' pl' us' ps' pv' pt' t1' n1' n3' n4' m' a b c d e f g i j k l)
  · show wpAny _ _ _ _ _ _
    obtain ⟨p0, x, y, us0, a, b, na, nb, ta, ta', tb, tb', eP, rfl, ma, mb, hS0⟩ := last2 (by omega) hS
    have hl0 : p0.length ≤ 15 := by have h9 := congrArg List.length eP; simp only [List.length_append, List.length_cons, List.length_nil] at h9; omega
    have hu0 : us0.length ≤ 15 := by have h9 := hS0.length; rw [List.length_map] at h9; omega
    have hy := hbig y (by rw [eP]; simp)
    have hx := hbig x (by rw [eP]; simp)
    have g1 := getD_last eP
    have g2 := getD_prev eP
    have g3 := take_two eP
    rename IntsAre _ (List.take _ _ ++ _) => hI9
    simp only [g1, g2, g3] at hI9
    rename List.getD _ _ _ ≠ _ => hZ9
    rw [g1] at hZ9
    rename List.any _ _ = true => hA9
    simp only [g1, List.any_cons, List.any_nil, Bool.or_false, Bool.or_eq_true, beq_iff_eq] at hA9
    have hy1 : y = 1 := by omega
    subst hy1
    refine kind_ok X T K0 (fr6 (by assumption) rfl rfl rfl rfl rfl rfl) (nsub (by assumption) (ncons (by k_mem) (ncons (by k_mem) (ncons (by k_mem) (ncons (by k_mem) (ncons (by k_mem) (ncons (by k_mem) (ncons (by k_mem) (ncons (by k_mem) (ncons (by k_mem) (ncons (by k_mem) (ncons (by k_mem) (by kcf_all))))))))))))) hI9 hS0 hl0 hu0 (Ne.symm d8.2.2.2.1) (Ne.symm d8.2.2.2.2.1) (by first | assumption | omega) (by first | assumption | omega) d8 d9 hoff ⟨(by first | assumption | omega), (by first | assumption | omega)⟩ (fun _ c1 _ _ c0 c4 c5 c6 => worth_calc w hu0 (by decide) (c1 _ ma) (c1 _ mb) c0 c4 c5 c6 (calc4 w _ (mul_ok30 hx))) (fun h' tk' all st' pl' us' ps' pv' pt' t1' n1' n3' n4' m' a b c d e f g i j k l => next _ _ (by omega) (by omega) (by rw [eP]; exact grow_div1 _ _ _) h' tk' all st' pl' us' ps' pv' pt' t1' n1' n3' n4' m' a b c d e f g i j k l)
  · show wpAny _ _ _ _ _ _
    obtain ⟨p0, x, y, us0, a, b, na, nb, ta, ta', tb, tb', eP, rfl, ma, mb, hS0⟩ := last2 (by omega) hS
    have hl0 : p0.length ≤ 15 := by have h9 := congrArg List.length eP; simp only [List.length_append, List.length_cons, List.length_nil] at h9; omega
    have hu0 : us0.length ≤ 15 := by have h9 := hS0.length; rw [List.length_map] at h9; omega
    have hy := hbig y (by rw [eP]; simp)
    have hx := hbig x (by rw [eP]; simp)
    have g1 := getD_last eP
    have g2 := getD_prev eP
    have g3 := take_two eP
    rename IntsAre _ (List.take _ _ ++ _) => hI9
    simp only [g1, g2, g3] at hI9
    refine kind_ok X T K0 (fr6 (by assumption) rfl rfl rfl rfl rfl rfl) (nsub (by assumption) (ncons (by k_mem) (ncons (by k_mem) (ncons (by k_mem) (ncons (by k_mem) (ncons (by k_mem) (ncons (by k_mem) (ncons (by k_mem) (ncons (by k_mem) (ncons (by k_mem) (ncons (by k_mem) (ncons (by k_mem) (by kcf_all))))))))))))) hI9 hS0 hl0 hu0 (Ne.symm d8.2.2.2.1) (Ne.symm d8.2.2.2.2.1) (by first | assumption | omega) (by first | assumption | omega) d8 d9 hoff ⟨(by first | assumption | omega), (by first | assumption | omega)⟩ (fun _ c1 _ _ c0 c4 c5 c6 => worth_calc w hu0 (by decide) (c1 _ ma) (c1 _ mb) c0 c4 c5 c6 (calc3 w _ (mul_ok hx hy) (mul_lt hx hy).1 (mul_lt hx hy).2)) (fun h' tk' all st' pl' us' ps' pv' pt' t1' n1' n3' n4' m' a b c d e f g i j k l => next _ _ (by omega) (by omega) (by rw [eP]; exact grow_mul _ _ _) h' tk' all st' pl' us' ps' pv' pt' t1' n1' n3' n4' m' a b c d e f g i j k l)
end Mine
end
section
open PySem PySem.W PyProof.Rows PySem.Calls
namespace Mine
set_option maxHeartbeats 8000000

def isK (c : Value) (o : Obj) : Prop := o.cls = c ∧ ∀ x, o.data ≠ .cell x
theorem dat_sub {al : List (Addr × Obj)} {us : List Value} {pile : List Int} (h : DatAll al us (pile.map dn)) : ∃ tl : List (Addr × Obj), (∀ p ∈ tl, p ∈ al ∧ isK (.type "tuple") p.2) ∧ DatAll tl us (pile.map dn) := by
  induction pile generalizing us with
  | nil =>
    cases h
    exact ⟨[], fun _ hp => (nomatch hp), .nil⟩
  | cons y p ih =>
    cases h with
    | cons h1 h2 =>
      obtain ⟨tl, ht, hd⟩ := ih h2
      obtain ⟨b, n, t, t', rfl, hm⟩ := dn_in h1
      refine ⟨(b, pairN n y t t') :: tl, fun q hq => ?_, ?_⟩
      · rcases List.mem_cons.mp hq with rfl | hq
        · exact ⟨hm, rfl, fun _ e9 => nomatch e9⟩
        · exact ht q hq
      · exact .cons (.tuple (.head _) (.cons (.int y t) (.cons (.int 0 t') .nil))) (hd.mono fun _ hp => .tail _ hp)
theorem clsOff {h₀ h : Heap} {L : Addr} {al tl bs : List (Addr × Obj)} {c : Value} (N : News h₀ L h al) (h1 : ∀ p ∈ tl, p ∈ al ∧ isK c p.2) (h3 : ∀ b ∈ bs, b ∈ al ∧ ¬ isK c b.2) : OwnOff tl (bs.map (·.1)) := by
  intro p hp b hb e
  obtain ⟨q, hq, rfl⟩ := List.mem_map.mp hb
  have a1 := (N p (h1 p hp).1).1
  have a2 := (N q (h3 q hq).1).1
  rw [e, a2] at a1
  have a3 : q.2 = p.2 := Option.some.inj a1
  exact (h3 q hq).2 (by rw [a3]; exact (h1 p hp).2)
theorem cls_list (c : Value) (hc : c ≠ .type "list") (xs : Array Value) (n : Nat) : (W.listOf xs n).cls ≠ c := fun e => hc e.symm
def Jt (w : World) (L tp cl mc md de dd co fr : Nat) (oc : Obj) (vs : List Value) (q1 q2 q3 q4 q5 q6 q7 e1 e2 r1 r2 r3 r4 : Tok) (n2 : Nat) (i : Nat) (m : Str → Option Value) (nx : List (Addr × Obj)) : Prop :=
  ∃ (at' pv : Int) (t1 pt : Tok) (st pl : Nat) (us ps : List Value) (pile : List Int) (n1 n3 n4 : Nat) (tl : List (Addr × Obj)),
    nx = ((L + 1, oc) :: (tp, W.listOf #[.ref cl, .int at' t1] n1) :: (cl, W.listOf vs.toArray n2) :: (mc, instObj 179 md) :: (md, dictOf [⟨PyData.keyHash w.params (Str.ofString "code"), .str (Str.ofString "code") q1, .ref co⟩, ⟨PyData.keyHash w.params (Str.ofString "deeds"), .str (Str.ofString "deeds") q2, .ref de⟩, ⟨PyData.keyHash w.params (Str.ofString "place"), .str (Str.ofString "place") q3, .int pv pt⟩, ⟨PyData.keyHash w.params (Str.ofString "stack"), .str (Str.ofString "stack") q4, .ref st⟩, ⟨PyData.keyHash w.params (Str.ofString "frames"), .str (Str.ofString "frames") q5, .ref fr⟩, ⟨PyData.keyHash w.params (Str.ofString "key"), .str (Str.ofString "key") q6, .str (Str.ofString "") e1⟩, ⟨PyData.keyHash w.params (Str.ofString "word"), .str (Str.ofString "word") q7, .str (Str.ofString "") e2⟩] 7) :: (st, W.listOf (us).toArray n3) :: (pl, W.listOf (ps).toArray n4) :: (de, instObj 249 dd) :: (dd, dictOf [⟨PyData.keyHash w.params (Str.ofString "do"), .str (Str.ofString "do") r1, .none⟩, ⟨PyData.keyHash w.params (Str.ofString "test"), .str (Str.ofString "test") r2, .none⟩, ⟨PyData.keyHash w.params (Str.ofString "number"), .str (Str.ofString "number") r3, .ref 267⟩, ⟨PyData.keyHash w.params (Str.ofString "put"), .str (Str.ofString "put") r4, .none⟩] 4) :: tl) ∧ m (Str.ofString "machine") = some (.ref mc) ∧ m (Str.ofString "pile") = some (.ref pl) ∧ IntsAre ps pile ∧ DatAll tl us (pile.map dn) ∧ (∀ p ∈ tl, isK (.type "tuple") p.2) ∧
    0 ≤ at' ∧ at' ≤ 5 + 5 * (i : Int) ∧ (st ≠ L + 1 ∧ st ≠ tp ∧ st ≠ cl ∧ st ≠ mc ∧ st ≠ md ∧ st ≠ de ∧ st ≠ dd) ∧ (pl ≠ md ∧ pl ≠ tp) ∧ st ≠ pl ∧ pile.length ≤ 3 + i ∧ big pile ≤ 20 ^ (3 + i)
theorem big_mem {p : List Int} {z : Int} (h : z ∈ p) : z.natAbs ≤ big p := by
  induction p with
  | nil => exact nomatch h
  | cons x p ih =>
    rcases List.mem_cons.mp h with rfl | h
    · exact Nat.le_trans (by omega) (Nat.le_mul_of_pos_right (max 2 z.natAbs) (big_pos p))
    · exact Nat.le_trans (ih h) (Nat.le_mul_of_pos_left _ (by omega))
theorem lp_range {prog : Program} {w : World} {A : Around} {E : Value → Shared → Prop} {s : Shared} {env : Env} {h₀ : Heap} {x : Str} {body : List Stmt} {Q : Flow → Shared → Prop} {r : Addr} {a₀ b₀ : Int} {t₀ u₀ v₀ : Tok} {n : Nat} {m₀ : Str → Option Value} {news : List (Addr × Obj)} (J : Nat → (Str → Option Value) → List (Addr × Obj) → Prop)
    (hh : A.handled = none) (hr : IsRange s.heap r a₀ b₀ 1 t₀ u₀ v₀) (hsmall : Builtin.Range.small a₀ b₀ 1 = true) (hsz : Builtin.Range.rangeSize a₀ b₀ 1 = (n : Int)) (F : Fr h₀ env.locals s.heap m₀) (N : News h₀ env.locals s.heap news) (hj : J 0 m₀ news)
    (turn : ∀ (i : Nat) (v : Value) (m₁ : Str → Option Value) (nx : List (Addr × Obj)) (h : Heap) (tk : Nat) (own : List (Addr × Obj)), i < n → (∃ z t, v = .int z t) → (∀ p ∈ own, isK (.type "range_iterator") p.2) → J i m₁ nx → Fr h₀ env.locals h (fun y => if y = x then some v else m₁ y) → News h₀ env.locals h (nx ++ own) →
      wpAny (model prog w) A (execs body env) (InvPostG h₀ env.locals (J (i + 1)) own { s with heap := h, toks := tk } Q) E { s with heap := h, toks := tk })
    (done : ∀ m₁ nx h tk, J n m₁ nx → Fr h₀ env.locals h m₁ → News h₀ env.locals h nx → Q .next { s with heap := h, toks := tk }) :
    wpAny (model prog w) A (pyIter (.ref r)) (fun it s₂ => LoopAtV prog w A h₀ env x body Q E it s₂) E s := by
  refine wpAny_pyIter_range hr hsmall ?_
  have W : Walks prog w A s.heap.objs.size [s.heap.objs.size] [s.heap.objs.size] n (fun i v => i < n ∧ ∃ t, v = .int (a₀ + i * 1) t)
      (fun i h => IsRangeIter h s.heap.objs.size (a₀ + (i : Nat) * 1) ((n : Int) - (i : Nat)) 1) := (Walks.range hh _ a₀ 1 n).bound
  have hb0 : ∀ b ∈ [s.heap.objs.size], h₀.get? b = none := by
    intro b hb
    rw [List.mem_singleton.mp hb]
    exact next_is_new F
  refine ⟨s.heap.objs.size, [s.heap.objs.size], [s.heap.objs.size], n, _, _, m₀, news, J, rfl, W, ?_, hb0, ?_, (by show IsRangeIter _ _ _ _ _; rw [hsz]; simpa using Heap.get?_push_size _ rfl), F.push _, fun p hp => ⟨Heap.get?_push_of_some _ (N p hp).1, (N p hp).2⟩, hj, ?_, ?_⟩
  · intro hm
    exact absurd F.ns.lt ((List.mem_singleton.mp hm) ▸ Nat.lt_irrefl _)
  · intro p hp hI
    exact absurd (Heap.lt_size (N p hp).1) ((List.mem_singleton.mp hI) ▸ Nat.lt_irrefl _)
  · rintro i v m₁ news₁ s₁ own ⟨hh', tk', rfl⟩ hin ⟨_, t, hv⟩ hJ hoff hown hget hmem hst' F₁ N₁
    have hcls : ∀ p ∈ own, isK (.type "range_iterator") p.2 := by
      intro p hp
      have e1 := List.mem_singleton.mp (hown p hp)
      have e2 := hget p hp
      rw [e1] at e2
      have e3 := Option.some.inj (e2.symm.trans hst')
      rw [e3]
      exact ⟨rfl, fun _ e9 => nomatch e9⟩
    have N₂ : News h₀ env.locals hh' (news₁ ++ own) := fun p hp => N₁ p ((List.mem_append.mp hp).elim (fun h => List.mem_append.mpr (.inr h)) fun h => List.mem_append.mpr (.inl h))
    refine wpAny_mono (turn i v m₁ news₁ hh' tk' own hin ⟨_, t, hv⟩ hcls hJ F₁ N₂) (fun f s₂ p => ?_) fun _ _ e => e
    have fin : InvEndG h₀ env.locals (J (i + 1)) own { s with heap := hh', toks := tk' } s₂ → LoopStepU h₀ env.locals [s.heap.objs.size] own (J (i + 1)) { s with heap := hh', toks := tk' } .next s₂ := by
      rintro ⟨h', tk, m', news', nx, e, F', N', hn, ho, ha, hm⟩
      refine ⟨rfl, h', tk, m', nx, e, F', fun p hp => N' p ((List.mem_append.mp hp).elim (ho p) (hn p)), fun p hp hq => ?_, hm⟩
      have hI := hmem s.heap.objs.size (List.mem_singleton.mpr rfl) (hb0 _ (List.mem_singleton.mpr rfl)) _ hst'
      exact ha _ hI p.1 (List.mem_map.mpr ⟨p, hp, rfl⟩) (List.mem_singleton.mp hq).symm
    cases f with
    | ret v => exact .ret p
    | brk => exact .brk p
    | next => exact .next (fin p)
    | cont => exact .cont (fin p)
  · rintro h' tk m' news' F' N' _ hJ
    exact done m' news' h' tk hJ F' N'
end Mine
end
section
open PySem PySem.W PyProof.Rows PySem.Calls
namespace Mine
set_option maxHeartbeats 8000000

theorem base_ne {L cl tp mc md de dd st pl : Nat} {w : World} {co fr : Nat} {oc : Obj} {vs us ps : List Value} {at' : Int} {pv : Value} {t1 q1 q2 q3 q4 q5 q6 q7 e1 e2 r1 r2 r3 r4 : Tok} {n1 n2 n3 n4 : Nat} {c : Value} {z : Option Value} (hoc : oc.data = .cell z) (h1 : Value.type "list" ≠ c) (h2 : Value.type "dict" ≠ c) (h3 : ∀ a, Value.ref a ≠ c) :
    ∀ b ∈ ([(L + 1, oc), (tp, W.listOf #[.ref cl, .int at' t1] n1), (cl, W.listOf vs.toArray n2), (mc, instObj 179 md), (md, dictOf [⟨PyData.keyHash w.params (Str.ofString "code"), .str (Str.ofString "code") q1, .ref co⟩, ⟨PyData.keyHash w.params (Str.ofString "deeds"), .str (Str.ofString "deeds") q2, .ref de⟩, ⟨PyData.keyHash w.params (Str.ofString "place"), .str (Str.ofString "place") q3, pv⟩, ⟨PyData.keyHash w.params (Str.ofString "stack"), .str (Str.ofString "stack") q4, .ref st⟩, ⟨PyData.keyHash w.params (Str.ofString "frames"), .str (Str.ofString "frames") q5, .ref fr⟩, ⟨PyData.keyHash w.params (Str.ofString "key"), .str (Str.ofString "key") q6, .str (Str.ofString "") e1⟩, ⟨PyData.keyHash w.params (Str.ofString "word"), .str (Str.ofString "word") q7, .str (Str.ofString "") e2⟩] 7), (st, W.listOf (us).toArray n3), (pl, W.listOf (ps).toArray n4), (de, instObj 249 dd), (dd, dictOf [⟨PyData.keyHash w.params (Str.ofString "do"), .str (Str.ofString "do") r1, .none⟩, ⟨PyData.keyHash w.params (Str.ofString "test"), .str (Str.ofString "test") r2, .none⟩, ⟨PyData.keyHash w.params (Str.ofString "number"), .str (Str.ofString "number") r3, .ref 267⟩, ⟨PyData.keyHash w.params (Str.ofString "put"), .str (Str.ofString "put") r4, .none⟩] 4)] : List (Addr × Obj)), ¬ isK c b.2 := by
  intro b hb
  simp only [List.mem_cons, List.not_mem_nil, or_false] at hb
  rcases hb with rfl | rfl | rfl | rfl | rfl | rfl | rfl | rfl | rfl
  · exact fun e9 => e9.2 _ hoc
  · exact fun e9 => h1 e9.1
  · exact fun e9 => h1 e9.1
  · exact fun e9 => h3 _ e9.1
  · exact fun e9 => h2 e9.1
  · exact fun e9 => h1 e9.1
  · exact fun e9 => h1 e9.1
  · exact fun e9 => h3 _ e9.1
  · exact fun e9 => h2 e9.1
theorem loop {w : World} {mean : ExcName → Option Value} {mg mb : Str → Option Value} {h₀ : Heap} {L fa : Nat} {cd : Value} {s : Shared} {Q : Flow → Shared → Prop} {E : Value → Shared → Prop}
    {tp cl mc md de dd co fr : Nat} {oc : Obj} {vs : List Value} {ns : List Int} {q1 q2 q3 q4 q5 q6 q7 e1 e2 r1 r2 r3 r4 : Tok} {n2 : Nat} {r : Nat} {b₀ : Int} {t₀ u₀ v₀ : Tok} {n : Nat} {m₀ : Str → Option Value} {news : List (Addr × Obj)}
    (X : (Mine.hd.heap_39 w.params).In h₀) (T : Top Mine.view (looseW Mine.view [Str.ofString "LedgerError", Str.ofString "decimal", Str.ofString "quotient"]) mean mg mb h₀) (K0 : Below callerA h₀ [] h₀)
    (hr : IsRange s.heap r 0 b₀ 1 t₀ u₀ v₀) (hsmall : Builtin.Range.small 0 b₀ 1 = true) (hsz : Builtin.Range.rangeSize 0 b₀ 1 = (n : Int)) (hn : n ≤ 12) (F : Fr h₀ L s.heap m₀) (N : News h₀ L s.heap news)
    (hj : Jt w L tp cl mc md de dd co fr oc vs q1 q2 q3 q4 q5 q6 q7 e1 e2 r1 r2 r3 r4 n2 0 m₀ news)
    (hoc : oc.data = .cell (some (.ref tp))) (hi : IntsAre vs ns) (h1 : 0 < ns.length) (h2 : ns.length ≤ 50)
    (d1 : L + 1 < cl) (d2 : cl < tp) (d3 : tp < dd) (d4 : dd < de) (d5 : de < md) (d6 : md < mc)
    (ret : ∀ (h' : Heap) (tk' : Nat) (m' : Str → Option Value), Fr h₀ L h' m' → Q (.ret (.bool true)) { s with heap := h', toks := tk' })
    (done : ∀ (h' : Heap) (tk' : Nat) (m' : Str → Option Value), Fr h₀ L h' m' → Q .next { s with heap := h', toks := tk' }) :
    wpAny (model Challenge.rw_pb0236_01.row.prog w) (callerA.deeper (envOfC (Str.ofString "law") lawSc L fa cd)) (pyIter (.ref r)) (fun it s₂ => LoopAtV Challenge.rw_pb0236_01.row.prog w (callerA.deeper (envOfC (Str.ofString "law") lawSc L fa cd)) h₀ (envOfC (Str.ofString "law") lawSc L fa cd) (Str.ofString "turn") turnBody Q E it s₂) E s := by
  refine lp_range (Jt w L tp cl mc md de dd co fr oc vs q1 q2 q3 q4 q5 q6 q7 e1 e2 r1 r2 r3 r4 n2) rfl hr hsmall hsz F N hj ?_ ?_
  · intro i v m₁ nx h tk own hin hv hown hJ F₁ N₁
    obtain ⟨z, t, rfl⟩ := hv
    obtain ⟨at', pv, t1, pt, st, pl, us, ps, pile, n1, n3, n4, tl, rfl, hm, hp, hP, hS, ht, ha0, ha1, d8, d7, d9, hl, hb⟩ := hJ
    have hbin : ∀ b ∈ ([(L + 1, oc), (tp, W.listOf #[.ref cl, .int at' t1] n1), (cl, W.listOf vs.toArray n2), (mc, instObj 179 md), (md, dictOf [⟨PyData.keyHash w.params (Str.ofString "code"), .str (Str.ofString "code") q1, .ref co⟩, ⟨PyData.keyHash w.params (Str.ofString "deeds"), .str (Str.ofString "deeds") q2, .ref de⟩, ⟨PyData.keyHash w.params (Str.ofString "place"), .str (Str.ofString "place") q3, .int pv pt⟩, ⟨PyData.keyHash w.params (Str.ofString "stack"), .str (Str.ofString "stack") q4, .ref st⟩, ⟨PyData.keyHash w.params (Str.ofString "frames"), .str (Str.ofString "frames") q5, .ref fr⟩, ⟨PyData.keyHash w.params (Str.ofString "key"), .str (Str.ofString "key") q6, .str (Str.ofString "") e1⟩, ⟨PyData.keyHash w.params (Str.ofString "word"), .str (Str.ofString "word") q7, .str (Str.ofString "") e2⟩] 7), (st, W.listOf (us).toArray n3), (pl, W.listOf (ps).toArray n4), (de, instObj 249 dd), (dd, dictOf [⟨PyData.keyHash w.params (Str.ofString "do"), .str (Str.ofString "do") r1, .none⟩, ⟨PyData.keyHash w.params (Str.ofString "test"), .str (Str.ofString "test") r2, .none⟩, ⟨PyData.keyHash w.params (Str.ofString "number"), .str (Str.ofString "number") r3, .ref 267⟩, ⟨PyData.keyHash w.params (Str.ofString "put"), .str (Str.ofString "put") r4, .none⟩] 4)] : List (Addr × Obj)), b ∈ ((L + 1, oc) :: (tp, W.listOf #[.ref cl, .int at' t1] n1) :: (cl, W.listOf vs.toArray n2) :: (mc, instObj 179 md) :: (md, dictOf [⟨PyData.keyHash w.params (Str.ofString "code"), .str (Str.ofString "code") q1, .ref co⟩, ⟨PyData.keyHash w.params (Str.ofString "deeds"), .str (Str.ofString "deeds") q2, .ref de⟩, ⟨PyData.keyHash w.params (Str.ofString "place"), .str (Str.ofString "place") q3, .int pv pt⟩, ⟨PyData.keyHash w.params (Str.ofString "stack"), .str (Str.ofString "stack") q4, .ref st⟩, ⟨PyData.keyHash w.params (Str.ofString "frames"), .str (Str.ofString "frames") q5, .ref fr⟩, ⟨PyData.keyHash w.params (Str.ofString "key"), .str (Str.ofString "key") q6, .str (Str.ofString "") e1⟩, ⟨PyData.keyHash w.params (Str.ofString "word"), .str (Str.ofString "word") q7, .str (Str.ofString "") e2⟩] 7) :: (st, W.listOf (us).toArray n3) :: (pl, W.listOf (ps).toArray n4) :: (de, instObj 249 dd) :: (dd, dictOf [⟨PyData.keyHash w.params (Str.ofString "do"), .str (Str.ofString "do") r1, .none⟩, ⟨PyData.keyHash w.params (Str.ofString "test"), .str (Str.ofString "test") r2, .none⟩, ⟨PyData.keyHash w.params (Str.ofString "number"), .str (Str.ofString "number") r3, .ref 267⟩, ⟨PyData.keyHash w.params (Str.ofString "put"), .str (Str.ofString "put") r4, .none⟩] 4) :: tl) ++ own := by
      intro b hb9
      simp only [List.mem_cons, List.not_mem_nil, or_false] at hb9
      rcases hb9 with rfl | rfl | rfl | rfl | rfl | rfl | rfl | rfl | rfl <;> simp
    have o1 : OwnOff tl [L + 1, tp, cl, mc, md, st, pl, de, dd] := clsOff (c := .type "tuple") N₁ (fun p hp9 => ⟨by simp only [List.cons_append, List.mem_cons, List.mem_append]; simp [hp9], ht p hp9⟩) (fun b hb9 => ⟨hbin b hb9, base_ne (c := .type "tuple") hoc (by decide) (by decide) (fun _ e9 => nomatch e9) b hb9⟩)
    have o2 : OwnOff own [L + 1, tp, cl, mc, md, st, pl, de, dd] := clsOff (c := .type "range_iterator") N₁ (fun p hp9 => ⟨List.mem_append_right _ hp9, hown p hp9⟩) (fun b hb9 => ⟨hbin b hb9, base_ne (c := .type "range_iterator") hoc (by decide) (by decide) (fun _ e9 => nomatch e9) b hb9⟩)
    have hoff : OwnOff (tl ++ own) [L + 1, tp, cl, mc, md, st, pl, de, dd] := fun p hp9 => (List.mem_append.mp hp9).elim (o1 p) (o2 p)
    have key : ∀ (at2 : Int) (pile2 : List Int), at' ≤ at2 → at2 ≤ at' + 5 → Grow pile pile2 → ∀ (h' : Heap) (tk' : Nat) (all : List (Addr × Obj)) (st' pl' : Nat) (us' ps' : List Value) (pv' : Int) (pt' t1' : Tok) (n1' n3' n4' : Nat) (m' : Str → Option Value),
        Fr h₀ L h' m' → m' (Str.ofString "machine") = some (.ref mc) → m' (Str.ofString "pile") = some (.ref pl') → News h₀ L h' all →
        (∀ p ∈ ([(L + 1, oc), (tp, W.listOf #[.ref cl, .int at2 t1'] n1'), (cl, W.listOf vs.toArray n2), (mc, instObj 179 md), (md, dictOf [⟨PyData.keyHash w.params (Str.ofString "code"), .str (Str.ofString "code") q1, .ref co⟩, ⟨PyData.keyHash w.params (Str.ofString "deeds"), .str (Str.ofString "deeds") q2, .ref de⟩, ⟨PyData.keyHash w.params (Str.ofString "place"), .str (Str.ofString "place") q3, .int pv' pt'⟩, ⟨PyData.keyHash w.params (Str.ofString "stack"), .str (Str.ofString "stack") q4, .ref st'⟩, ⟨PyData.keyHash w.params (Str.ofString "frames"), .str (Str.ofString "frames") q5, .ref fr⟩, ⟨PyData.keyHash w.params (Str.ofString "key"), .str (Str.ofString "key") q6, .str (Str.ofString "") e1⟩, ⟨PyData.keyHash w.params (Str.ofString "word"), .str (Str.ofString "word") q7, .str (Str.ofString "") e2⟩] 7), (st', W.listOf (us').toArray n3'), (pl', W.listOf (ps').toArray n4'), (de, instObj 249 dd), (dd, dictOf [⟨PyData.keyHash w.params (Str.ofString "do"), .str (Str.ofString "do") r1, .none⟩, ⟨PyData.keyHash w.params (Str.ofString "test"), .str (Str.ofString "test") r2, .none⟩, ⟨PyData.keyHash w.params (Str.ofString "number"), .str (Str.ofString "number") r3, .ref 267⟩, ⟨PyData.keyHash w.params (Str.ofString "put"), .str (Str.ofString "put") r4, .none⟩] 4)] : List (Addr × Obj)), p ∈ all) → (∀ p ∈ own, p ∈ all) → IntsAre ps' pile2 → DatAll all us' (pile2.map dn) → (st' ≠ L + 1 ∧ st' ≠ tp ∧ st' ≠ cl ∧ st' ≠ mc ∧ st' ≠ md ∧ st' ≠ de ∧ st' ≠ dd) → (pl' ≠ md ∧ pl' ≠ tp) → st' ≠ pl' →
        InvPostG h₀ L (Jt w L tp cl mc md de dd co fr oc vs q1 q2 q3 q4 q5 q6 q7 e1 e2 r1 r2 r3 r4 n2 (i + 1)) own { s with heap := h, toks := tk } Q .next { ({ s with heap := h, toks := tk } : Shared) with heap := h', toks := tk' } := by
      intro at2 pile2 g1 g2 g3 h' tk' all st' pl' us' ps' pv' pt' t1' n1' n3' n4' m' a b c d e f g i8 j k l
      obtain ⟨tl', ht', hd'⟩ := dat_sub i8
      have hsub : ∀ p ∈ ([(L + 1, oc), (tp, W.listOf #[.ref cl, .int at2 t1'] n1'), (cl, W.listOf vs.toArray n2), (mc, instObj 179 md), (md, dictOf [⟨PyData.keyHash w.params (Str.ofString "code"), .str (Str.ofString "code") q1, .ref co⟩, ⟨PyData.keyHash w.params (Str.ofString "deeds"), .str (Str.ofString "deeds") q2, .ref de⟩, ⟨PyData.keyHash w.params (Str.ofString "place"), .str (Str.ofString "place") q3, .int pv' pt'⟩, ⟨PyData.keyHash w.params (Str.ofString "stack"), .str (Str.ofString "stack") q4, .ref st'⟩, ⟨PyData.keyHash w.params (Str.ofString "frames"), .str (Str.ofString "frames") q5, .ref fr⟩, ⟨PyData.keyHash w.params (Str.ofString "key"), .str (Str.ofString "key") q6, .str (Str.ofString "") e1⟩, ⟨PyData.keyHash w.params (Str.ofString "word"), .str (Str.ofString "word") q7, .str (Str.ofString "") e2⟩] 7), (st', W.listOf (us').toArray n3'), (pl', W.listOf (ps').toArray n4'), (de, instObj 249 dd), (dd, dictOf [⟨PyData.keyHash w.params (Str.ofString "do"), .str (Str.ofString "do") r1, .none⟩, ⟨PyData.keyHash w.params (Str.ofString "test"), .str (Str.ofString "test") r2, .none⟩, ⟨PyData.keyHash w.params (Str.ofString "number"), .str (Str.ofString "number") r3, .ref 267⟩, ⟨PyData.keyHash w.params (Str.ofString "put"), .str (Str.ofString "put") r4, .none⟩] 4)] : List (Addr × Obj)) ++ tl', p ∈ all := fun p hp9 => (List.mem_append.mp hp9).elim (e p) (fun h9 => (ht' p h9).1)
      refine InvEndG.intro (nx := [(L + 1, oc), (tp, W.listOf #[.ref cl, .int at2 t1'] n1'), (cl, W.listOf vs.toArray n2), (mc, instObj 179 md), (md, dictOf [⟨PyData.keyHash w.params (Str.ofString "code"), .str (Str.ofString "code") q1, .ref co⟩, ⟨PyData.keyHash w.params (Str.ofString "deeds"), .str (Str.ofString "deeds") q2, .ref de⟩, ⟨PyData.keyHash w.params (Str.ofString "place"), .str (Str.ofString "place") q3, .int pv' pt'⟩, ⟨PyData.keyHash w.params (Str.ofString "stack"), .str (Str.ofString "stack") q4, .ref st'⟩, ⟨PyData.keyHash w.params (Str.ofString "frames"), .str (Str.ofString "frames") q5, .ref fr⟩, ⟨PyData.keyHash w.params (Str.ofString "key"), .str (Str.ofString "key") q6, .str (Str.ofString "") e1⟩, ⟨PyData.keyHash w.params (Str.ofString "word"), .str (Str.ofString "word") q7, .str (Str.ofString "") e2⟩] 7), (st', W.listOf (us').toArray n3'), (pl', W.listOf (ps').toArray n4'), (de, instObj 249 dd), (dd, dictOf [⟨PyData.keyHash w.params (Str.ofString "do"), .str (Str.ofString "do") r1, .none⟩, ⟨PyData.keyHash w.params (Str.ofString "test"), .str (Str.ofString "test") r2, .none⟩, ⟨PyData.keyHash w.params (Str.ofString "number"), .str (Str.ofString "number") r3, .ref 267⟩, ⟨PyData.keyHash w.params (Str.ofString "put"), .str (Str.ofString "put") r4, .none⟩] 4)] ++ tl') a d ?_ ?_ hsub f
      · refine ⟨at2, pv', t1', pt', st', pl', us', ps', pile2, n1', n3', n4', tl', rfl, b, c, g, hd', fun p hp9 => (ht' p hp9).2, by omega, by push_cast; omega, j, k, l, by have := g3.1; omega, ?_⟩
        refine Nat.le_trans g3.2 ?_
        rw [show 3 + (i + 1) = (3 + i) + 1 from rfl, Nat.pow_succ, Nat.mul_comm]
        exact Nat.mul_le_mul_right _ hb
      · exact clsOff (c := .type "range_iterator") d (fun p hp9 => ⟨f p hp9, hown p hp9⟩) (fun b9 hb9 => ⟨hsub b9 hb9, (List.mem_append.mp hb9).elim (base_ne (c := .type "range_iterator") hoc (by decide) (by decide) (fun _ e9 => nomatch e9) b9) (fun h9 e9 => absurd ((ht' b9 h9).2.1.symm.trans e9.1) (by decide))⟩)
    have F₂ := fr_kst (ps := [(Str.ofString "turn", .int z t), (Str.ofString "machine", .ref mc), (Str.ofString "pile", .ref pl)]) F₁ (fun p hp9 => by
      simp only [List.mem_cons, List.not_mem_nil, or_false] at hp9
      rcases hp9 with rfl | rfl | rfl
      · rfl
      · exact hm
      · exact hp)
    have N₂ : News h₀ L h ((L + 1, oc) :: (tp, W.listOf #[.ref cl, .int at' t1] n1) :: (cl, W.listOf vs.toArray n2) :: (mc, instObj 179 md) :: (md, dictOf [⟨PyData.keyHash w.params (Str.ofString "code"), .str (Str.ofString "code") q1, .ref co⟩, ⟨PyData.keyHash w.params (Str.ofString "deeds"), .str (Str.ofString "deeds") q2, .ref de⟩, ⟨PyData.keyHash w.params (Str.ofString "place"), .str (Str.ofString "place") q3, .int pv pt⟩, ⟨PyData.keyHash w.params (Str.ofString "stack"), .str (Str.ofString "stack") q4, .ref st⟩, ⟨PyData.keyHash w.params (Str.ofString "frames"), .str (Str.ofString "frames") q5, .ref fr⟩, ⟨PyData.keyHash w.params (Str.ofString "key"), .str (Str.ofString "key") q6, .str (Str.ofString "") e1⟩, ⟨PyData.keyHash w.params (Str.ofString "word"), .str (Str.ofString "word") q7, .str (Str.ofString "") e2⟩] 7) :: (st, W.listOf (us).toArray n3) :: (pl, W.listOf (ps).toArray n4) :: (de, instObj 249 dd) :: (dd, dictOf [⟨PyData.keyHash w.params (Str.ofString "do"), .str (Str.ofString "do") r1, .none⟩, ⟨PyData.keyHash w.params (Str.ofString "test"), .str (Str.ofString "test") r2, .none⟩, ⟨PyData.keyHash w.params (Str.ofString "number"), .str (Str.ofString "number") r3, .ref 267⟩, ⟨PyData.keyHash w.params (Str.ofString "put"), .str (Str.ofString "put") r4, .none⟩] 4) :: (tl ++ own)) := N₁
    have hbig : big pile ≤ 20 ^ 15 := Nat.le_trans hb (Nat.pow_le_pow_right (by decide) (by omega))
    rcases pile.eq_nil_or_concat with rfl | ⟨p0, y, hpy⟩
    · cases hP
      cases hS
      exact turn_nil (us := []) (ps := []) (pile := []) X T K0 F₂ N₂ hoc hi h1 h2 ha0 (by omega) (by omega) .nil .nil d1 d2 d3 d4 d5 d6 d7 d8 d9 hoff key (fun h' tk' m' F' => ret h' tk' m' F')
    · have hlen : pile.length ≤ 15 := by omega
      have h1l : 1 ≤ pile.length := by rw [hpy]; simp
      exact turn_more X T K0 F₂ N₂ hoc hi h1 h2 ha0 (by omega) (by omega) hP hS hlen h1l (fun z9 hz9 => Nat.le_trans (big_mem hz9) hbig) d1 d2 d3 d4 d5 d6 d7 d8 d9 hoff key (fun h' tk' m' F' => ret h' tk' m' F')
  · intro m₁ nx h tk _ F' _
    exact done h tk m₁ F'
end Mine
end
section
open PySem PySem.W PyProof.Rows PySem.Calls
namespace Mine
set_option maxHeartbeats 8000000

theorem range_ok {v : Int} (h0 : 0 ≤ v) (h1 : v < 12) : Builtin.Range.small 0 (1 + v) 1 = true ∧ Builtin.Range.rangeSize 0 (1 + v) 1 = ((1 + v).toNat : Int) ∧ (1 + v).toNat ≤ 12 := by
  rcases (show v = 0 ∨ v = 1 ∨ v = 2 ∨ v = 3 ∨ v = 4 ∨ v = 5 ∨ v = 6 ∨ v = 7 ∨ v = 8 ∨ v = 9 ∨ v = 10 ∨ v = 11 by omega) with rfl | rfl | rfl | rfl | rfl | rfl | rfl | rfl | rfl | rfl | rfl | rfl <;> decide
theorem loop0 {w : World} {mean : ExcName → Option Value} {mg mb : Str → Option Value} {h₀ : Heap} {L fa : Nat} {cd : Value} {s : Shared} {Q : Flow → Shared → Prop} {E : Value → Shared → Prop}
    {tp cl mc md de dd co fr : Nat} {oc : Obj} {vs : List Value} {ns : List Int} {q1 q2 q3 q4 q5 q6 q7 e1 e2 r1 r2 r3 r4 : Tok} {n2 : Nat} {r : Nat} {v : Int} {t₀ u₀ v₀ : Tok} {m₀ : Str → Option Value} {st pl : Nat} {us ps : List Value} {pile : List Int} {at' pv : Int} {t1 pt : Tok} {n1 n3 n4 : Nat} {tl : List (Addr × Obj)}
    (X : (Mine.hd.heap_39 w.params).In h₀) (T : Top Mine.view (looseW Mine.view [Str.ofString "LedgerError", Str.ofString "decimal", Str.ofString "quotient"]) mean mg mb h₀) (K0 : Below callerA h₀ [] h₀)
    (hv0 : 0 ≤ v) (hv1 : v < 12) (hr : IsRange s.heap r 0 (1 + v) 1 t₀ u₀ v₀) (F : Fr h₀ L s.heap m₀) (N : News h₀ L s.heap ((L + 1, oc) :: (tp, W.listOf #[.ref cl, .int at' t1] n1) :: (cl, W.listOf vs.toArray n2) :: (mc, instObj 179 md) :: (md, dictOf [⟨PyData.keyHash w.params (Str.ofString "code"), .str (Str.ofString "code") q1, .ref co⟩, ⟨PyData.keyHash w.params (Str.ofString "deeds"), .str (Str.ofString "deeds") q2, .ref de⟩, ⟨PyData.keyHash w.params (Str.ofString "place"), .str (Str.ofString "place") q3, .int pv pt⟩, ⟨PyData.keyHash w.params (Str.ofString "stack"), .str (Str.ofString "stack") q4, .ref st⟩, ⟨PyData.keyHash w.params (Str.ofString "frames"), .str (Str.ofString "frames") q5, .ref fr⟩, ⟨PyData.keyHash w.params (Str.ofString "key"), .str (Str.ofString "key") q6, .str (Str.ofString "") e1⟩, ⟨PyData.keyHash w.params (Str.ofString "word"), .str (Str.ofString "word") q7, .str (Str.ofString "") e2⟩] 7) :: (st, W.listOf (us).toArray n3) :: (pl, W.listOf (ps).toArray n4) :: (de, instObj 249 dd) :: (dd, dictOf [⟨PyData.keyHash w.params (Str.ofString "do"), .str (Str.ofString "do") r1, .none⟩, ⟨PyData.keyHash w.params (Str.ofString "test"), .str (Str.ofString "test") r2, .none⟩, ⟨PyData.keyHash w.params (Str.ofString "number"), .str (Str.ofString "number") r3, .ref 267⟩, ⟨PyData.keyHash w.params (Str.ofString "put"), .str (Str.ofString "put") r4, .none⟩] 4) :: tl))
    (hm : m₀ (Str.ofString "machine") = some (.ref mc)) (hp : m₀ (Str.ofString "pile") = some (.ref pl)) (hP : IntsAre ps pile) (hS : DatAll tl us (pile.map dn))
    (ha0 : 0 ≤ at') (ha1 : at' ≤ 5) (d8 : st ≠ L + 1 ∧ st ≠ tp ∧ st ≠ cl ∧ st ≠ mc ∧ st ≠ md ∧ st ≠ de ∧ st ≠ dd) (d7 : pl ≠ md ∧ pl ≠ tp) (d9 : st ≠ pl) (hl : pile.length ≤ 3) (hb : big pile ≤ 20 ^ 3)
   
    (hoc : oc.data = .cell (some (.ref tp))) (hi : IntsAre vs ns) (h1 : 0 < ns.length) (h2 : ns.length ≤ 50)
    (d1 : L + 1 < cl) (d2 : cl < tp) (d3 : tp < dd) (d4 : dd < de) (d5 : de < md) (d6 : md < mc)
    (ret : ∀ (h' : Heap) (tk' : Nat) (m' : Str → Option Value), Fr h₀ L h' m' → Q (.ret (.bool true)) { s with heap := h', toks := tk' })
    (done : ∀ (h' : Heap) (tk' : Nat) (m' : Str → Option Value), Fr h₀ L h' m' → Q .next { s with heap := h', toks := tk' }) :
    wpAny (model Challenge.rw_pb0236_01.row.prog w) (callerA.deeper (envOfC (Str.ofString "law") lawSc L fa cd)) (pyIter (.ref r)) (fun it s₂ => LoopAtV Challenge.rw_pb0236_01.row.prog w (callerA.deeper (envOfC (Str.ofString "law") lawSc L fa cd)) h₀ (envOfC (Str.ofString "law") lawSc L fa cd) (Str.ofString "turn") turnBody Q E it s₂) E s :=
  have ⟨tl', h8, h9⟩ := dat_sub hS
  loop X T K0 hr (range_ok hv0 hv1).1 (range_ok hv0 hv1).2.1 (range_ok hv0 hv1).2.2 F (nsub N (l' := ((L + 1, oc) :: (tp, W.listOf #[.ref cl, .int at' t1] n1) :: (cl, W.listOf vs.toArray n2) :: (mc, instObj 179 md) :: (md, dictOf [⟨PyData.keyHash w.params (Str.ofString "code"), .str (Str.ofString "code") q1, .ref co⟩, ⟨PyData.keyHash w.params (Str.ofString "deeds"), .str (Str.ofString "deeds") q2, .ref de⟩, ⟨PyData.keyHash w.params (Str.ofString "place"), .str (Str.ofString "place") q3, .int pv pt⟩, ⟨PyData.keyHash w.params (Str.ofString "stack"), .str (Str.ofString "stack") q4, .ref st⟩, ⟨PyData.keyHash w.params (Str.ofString "frames"), .str (Str.ofString "frames") q5, .ref fr⟩, ⟨PyData.keyHash w.params (Str.ofString "key"), .str (Str.ofString "key") q6, .str (Str.ofString "") e1⟩, ⟨PyData.keyHash w.params (Str.ofString "word"), .str (Str.ofString "word") q7, .str (Str.ofString "") e2⟩] 7) :: (st, W.listOf (us).toArray n3) :: (pl, W.listOf (ps).toArray n4) :: (de, instObj 249 dd) :: (dd, dictOf [⟨PyData.keyHash w.params (Str.ofString "do"), .str (Str.ofString "do") r1, .none⟩, ⟨PyData.keyHash w.params (Str.ofString "test"), .str (Str.ofString "test") r2, .none⟩, ⟨PyData.keyHash w.params (Str.ofString "number"), .str (Str.ofString "number") r3, .ref 267⟩, ⟨PyData.keyHash w.params (Str.ofString "put"), .str (Str.ofString "put") r4, .none⟩] 4) :: tl')) (ncons (.head _) (ncons (.tail _ (.head _)) (ncons (.tail _ (.tail _ (.head _))) (ncons (.tail _ (.tail _ (.tail _ (.head _)))) (ncons (.tail _ (.tail _ (.tail _ (.tail _ (.head _))))) (ncons (.tail _ (.tail _ (.tail _ (.tail _ (.tail _ (.head _)))))) (ncons (.tail _ (.tail _ (.tail _ (.tail _ (.tail _ (.tail _ (.head _))))))) (ncons (.tail _ (.tail _ (.tail _ (.tail _ (.tail _ (.tail _ (.tail _ (.head _)))))))) (ncons (.tail _ (.tail _ (.tail _ (.tail _ (.tail _ (.tail _ (.tail _ (.tail _ (.head _))))))))) (fun p hp9 => .tail _ (.tail _ (.tail _ (.tail _ (.tail _ (.tail _ (.tail _ (.tail _ (.tail _ (h8 p hp9).1)))))))))))))))))))
    ⟨at', pv, t1, pt, st, pl, us, ps, pile, n1, n3, n4, tl', rfl, hm, hp, hP, h9, fun p hp9 => (h8 p hp9).2, ha0, by omega, d8, d7, d9, hl, hb⟩ hoc hi h1 h2 d1 d2 d3 d4 d5 d6 ret done
theorem off1_ne {D : Nat} {l : List (Addr × Obj)} {a : Nat} {o : Obj} (h : LCg.Off1 D l) (hm : ((a, o) : Addr × Obj) ∈ l) : D ≠ a := by
  induction l with
  | nil => exact nomatch hm
  | cons q r ih =>
    rcases List.mem_cons.mp hm with rfl | hm
    · exact Ne.symm h.1
    · exact ih h.2 hm
theorem ofn {D : Nat} {tls news : List (Addr × Obj)} {a : Nat} {o : Obj} (h : ∀ p ∈ tls ++ news, @Ne Nat p.1 D) (hm : ((a, o) : Addr × Obj) ∈ news) : D ≠ a := Ne.symm (h _ (List.mem_append_right _ hm))
end Mine
end
section
open PySem PySem.W PyProof.Rows PySem.Calls
namespace Mine
set_option maxHeartbeats 8000000
local macro_rules | `(tactic| k_ne) => `(tactic| (refine neN ?_; (try dsimp only); first | exact off1_ne (by assumption) (by k_mem) | exact Ne.symm (off1_ne (by assumption) (by k_mem)) | omega))
theorem four_or {v : Int} (h0 : 0 ≤ v) (h1 : v < 4) : v = 0 ∨ v = 1 ∨ v = 2 ∨ v = 3 := by omega
theorem big3 {p : List Int} (h : ∀ z ∈ p, -9 ≤ z ∧ z ≤ 20) : big p ≤ 20 ^ p.length := by
  induction p with
  | nil => exact Nat.le_refl 1
  | cons x p ih =>
    have h1 := h x (.head _)
    have h2 := ih fun z hz => h z (.tail _ hz)
    show max 2 x.natAbs * big p ≤ 20 ^ (p.length + 1)
    rw [Nat.pow_succ, Nat.mul_comm]
    exact Nat.mul_le_mul h2 (by omega)
theorem big33 {p : List Int} (h : ∀ z ∈ p, -9 ≤ z ∧ z ≤ 20) (hl : p.length ≤ 3) : big p ≤ 20 ^ 3 := Nat.le_trans (big3 h) (Nat.pow_le_pow_right (by decide) hl)

theorem law_rest {w : World} {mean : ExcName → Option Value} {mg mb : Str → Option Value} {h₀ : Heap} {L fa : Nat} {cd : Value} {s : Shared} {Q : Flow → Shared → Prop} {E : Value → Shared → Prop} {m : Str → Option Value}
    {tp cl : Nat} {oc : Obj} {vs : List Value} {ns : List Int} {t1 : Tok} {n1 n2 : Nat} {v0 : Value}
    (X : (Mine.hd.heap_39 w.params).In h₀) (T : Top Mine.view (looseW Mine.view [Str.ofString "LedgerError", Str.ofString "decimal", Str.ofString "quotient"]) mean mg mb h₀) (K0 : Below callerA h₀ [] h₀)
    (F : Fr h₀ L s.heap (kstB m [(Str.ofString "script", v0)])) (N : News h₀ L s.heap [(L + 1, oc), (tp, W.listOf #[.ref cl, .int 0 t1] n1), (cl, W.listOf vs.toArray n2)])
    (hE : PassesOwn (model Challenge.rw_pb0236_01.row.prog w) (callerA.deeper (envOfC (Str.ofString "law") lawSc L fa cd)) (envOfC (Str.ofString "law") lawSc L fa cd) E) 
    (hoc : oc.data = .cell (some (.ref tp))) (hi : IntsAre vs ns) (h1 : 0 < ns.length) (h2 : ns.length ≤ 50) (d1 : L + 1 < cl) (d2 : cl < tp)
    (ret : ∀ (h' : Heap) (tk' : Nat) (m' : Str → Option Value), Fr h₀ L h' m' → Q (.ret (.bool true)) { s with heap := h', toks := tk' }) :
    wpAny (model Challenge.rw_pb0236_01.row.prog w) (callerA.deeper (envOfC (Str.ofString "law") lawSc L fa cd)) (execs (lawBody.drop 1) (envOfC (Str.ofString "law") lawSc L fa cd)) Q E s := by
  revert X
  k_fill
  intro X
  dsimp only [kstB] at F
  conv in (List.drop 1 lawBody) => whnf
  conv in (occs := *) lawSc => all_goals whnf
  repeat' (first | ((with_reducible show LCg.FinA _ _ _ _ _ _ _ _ ); (unfold LCg.FinA); intro D' h' tk' F' N' o1'; have o2' := o1'; (try simp only [LCg.Off1, and_true] at o1'); (try simp only [List.nil_append, List.cons_append] at N'); (try dsimp only)) | ((with_reducible show LCg.CompEnd _ _ _ _ _ _ _ _ _ _ _ _ _ _ ); refine' LCg.CompEnd.intro ?F ?N _ (fun p hp => hp) ?off ?S ?_; (case F => assumption); (case N => assumption); (case off => (simp only [LCg.Off3, and_true]; assumption)); (case S => trivial)) | (k_here; (with_reducible show LCg.CompSrc _ _ _ _ _ _ _ _ _ _ _ _ _ _ ); k_dflt (refine LCg.CompSrc.range (by rfl) (by k_asm) (by k_asm) (by assumption) (by first | decide | rfl) (by first | rfl | decide) (by first | size_fits | exact Nat.le_of_ble_eq_true rfl) ?_; intro g'; lcg_lit)) | (k_here; (with_reducible show wpAny _ _ (pyIter (Value.ref _)) _ _ _); refine atTail ?_) | (k_here; (with_reducible show wpAny _ _ (exec (Stmt.For _ _ _ _ _) _) _ _ _); (rename Fr _ _ _ _ => lF'); refine' For_invVF lF' ?k1 ?k2 ?_ ?hs ?hE; (case k1 => exact rfl); (case k2 => exact rfl); (case hs => (intro x9; rfl)); (case hE => assumption); k_whole) | (k_here; (with_reducible show wpAny _ _ (eval (Expr.ListComp (Expr.Tuple _ _ _) _ _ _) _) _ _ _); k_dflt (refine' pairs_comp2 ?hh ?F ?N ?hm ?hi ?hz ?hname ?hclos ?hcell ?hkind ?hnames ?hx ?hk ?hl ?hd ?_ ?hs; (case hname => (intro Q9 h9; walk1; exact h9)); (case hh => rfl); (case F => k_asm); (case N => k_asm); (case hm => (repeat (first | exact List.Mem.head _ | apply List.Mem.tail))); (case hi => first | exact .nil | exact .cons _ _ .nil | exact .cons _ _ (.cons _ _ .nil) | exact .cons _ _ (.cons _ _ (.cons _ _ .nil))); (case hz => exact Nat.le_of_ble_eq_true rfl); (case hclos => with_unfolding_all rfl); (case hcell => decide); (case hkind => rfl); (case hnames => decide); (case hx => rfl); (case hk => (intro C9; rfl)); (case hl => (intro C9; rfl)); (case hd => decide); (case hs => (intro x9; rfl)); k_whole); (intro D' h' tk' ys' tls' F' N' hP' o3' o'; (simp only [List.map_cons, List.map_nil] at o3'); have o4' := o'; (simp only [List.forall_mem_append, List.forall_mem_cons, List.not_mem_nil, false_implies, implies_true, and_true] at o4'); have o5' := o4'.2; clear o4'; (try simp only [List.cons_append, List.nil_append] at N'); (try k_sweep))) | (k_here; (with_reducible show wpAny _ _ (call (Value.ref 260) [Value.ref _, Value.int 4 _]) _ _ _); k_dflt (refine' draw_at _ _ _ _ _ _ _ _ _ _ _ _ _ _ _ _ _ _ _ _ _ _ _ _ _ _ _ _ _ ?B ?F ?X ?N ?T ?hk ?hne ?hU ?hcl ?hi ?h1 ?h2 ?h3 ?h4 ?h5 ?h6 ?hd ?hu ?_; (case B => k_asm); (case F => k_asm); (case X => k_asm); (case N => k_asm); (case T => k_asm); (case hk => exact rfl); (case hU => (intro t2; k_upd)); (case hcl => k_mem); (case hne => omega); (case hi => assumption); (case h1 => omega); (case h2 => omega); (case h3 => omega); (case h4 => omega); (case h5 => decide); (case h6 => decide); (case hd => decide); (case hu => (first | decide | simp; decide)); k_whole); intro v' t' t2' h' tk' lo' hi' F' N'; rcases four_or lo' hi' with e9 | e9 | e9 | e9 <;> subst e9 <;> (try dsimp only) <;> (try k_sweep)) | (k_here; (with_reducible show wpAny _ _ (call (Value.ref 260) [Value.ref _, Value.int _ _]) _ _ _); k_dflt (refine' draw_at _ _ _ _ _ _ _ _ _ _ _ _ _ _ _ _ _ _ _ _ _ _ _ _ _ _ _ _ _ ?B ?F ?X ?N ?T ?hk ?hne ?hU ?hcl ?hi ?h1 ?h2 ?h3 ?h4 ?h5 ?h6 ?hd ?hu ?_; (case B => k_asm); (case F => k_asm); (case X => k_asm); (case N => k_asm); (case T => k_asm); (case hk => exact rfl); (case hU => (intro t2; k_upd)); (case hcl => k_mem); (case hne => omega); (case hi => assumption); (case h1 => omega); (case h2 => omega); (case h3 => omega); (case h4 => omega); (case h5 => decide); (case h6 => decide); (case hd => decide); (case hu => (first | decide | simp; decide)); k_whole); intro v' t' t2' h' tk' lo' hi' F' N'; (try dsimp only); (try k_sweep)) | (k_unfold; (try dsimp only)) | (k_end; wrow_close) | walk1 | (dsimp only; walk1) | (leave1; try dsimp only))
  all_goals
    focus
      show wpAny _ _ _ _ _ _
      rename Pairs _ _ _ => hPr
      rename LCg.Off1 _ _ => hOf
      refine loop0 (tl := _) (us := _) (pile := _) X T K0 (by assumption) (by assumption) (by assumption) (by assumption) (nsub (by assumption) (ncons (by k_mem) (ncons (by k_mem) (ncons (by k_mem) (ncons (by k_mem) (ncons (by k_mem) (ncons (by k_mem) (ncons (by k_mem) (ncons (by k_mem) (ncons (by k_mem) (by kcf_all))))))))))) (by rfl) (by rfl) (by first | exact .nil | exact .cons _ _ .nil | exact .cons _ _ (.cons _ _ .nil) | exact .cons _ _ (.cons _ _ (.cons _ _ .nil))) hPr.1 (by omega) (by omega) ⟨(ofn (by assumption) (by k_mem)), (ofn (by assumption) (by k_mem)), (ofn (by assumption) (by k_mem)), (ofn (by assumption) (by k_mem)), (ofn (by assumption) (by k_mem)), (ofn (by assumption) (by k_mem)), (ofn (by assumption) (by k_mem))⟩ ⟨off1_ne hOf (by k_mem), off1_ne hOf (by k_mem)⟩ (ofn (by assumption) (by k_mem)) (Nat.le_of_ble_eq_true rfl) (big33 (by intro z hz; first | (simp at hz; done) | (simp only [List.mem_cons, List.not_mem_nil, or_false] at hz; omega)) (Nat.le_of_ble_eq_true rfl)) (by first | exact hoc | assumption) (by assumption) (by first | exact h1 | assumption) (by first | exact h2 | assumption) (by first | exact d1 | assumption) (by first | exact d2 | assumption) (by omega) (by omega) (by omega) (by omega) (fun h9 k9 m9 F9 => ret h9 k9 m9 F9) ?_
      intro h9 k9 m9 F9
      dsimp only
      k_steps
      exact ret _ _ _ F9
end Mine
end
section
open PySem PySem.W PyProof.Rows PySem.Calls
namespace Mine
set_option maxHeartbeats 8000000
theorem fr_one {h₀ h : Heap} {L : Addr} {m : Str → Option Value} {x : Str} {v : Value} (F : Fr h₀ L h m) (e : m x = some v) : Fr h₀ L h (kstB m [(x, v)]) := fr_kst F (by intro p hp; rw [List.mem_singleton.mp hp]; exact e)
theorem all : PySem.Challenge.rw_pb0236_01.Holds := Mine.hd (by w_strict (k_go0; (all_goals try k_fold); repeat' (first | (k_here; (with_reducible show wpAny _ _ (execs (Stmt.Assign _ _ _ :: Stmt.Assign _ _ _ :: Stmt.Assign _ _ _ :: Stmt.For _ _ _ _ _ :: _) _) _ _ _); k_dflt (refine' law_rest ?X ?T (below_caller _) (fr_one ?F ?hs) (nsub ?N (ncons ?m1 (ncons ?m2 (ncons ?m3 (fun _ hp9 => nomatch hp9))))) ?hE ?hoc ?hi ?h1 ?h2 ?d1 ?d2 ?_; (case X => k_asm); (case T => k_asm); (case F => assumption); (case hs => exact rfl); (case N => assumption); (case m1 => k_mem); (case m2 => k_mem); (case m3 => k_mem); (case hoc => assumption); (case hi => first | assumption | exact .cons _ _ .nil); (case h1 => first | assumption | exact Nat.one_pos); (case h2 => first | omega | exact Nat.le_of_ble_eq_true rfl); (case d1 => omega); (case d2 => omega); (case hE => exact PySem.PassesOwn.leaving)); intro h9 k9 m9 F9) | (k_unfold; (try dsimp only)) | (k_end; wrow_close) | walk1 | (dsimp only; walk1) | (leave1; try dsimp only))))
end Mine
end
theorem PySem.Challenge.cw_pb0236_01_holds : PySem.Challenge.rw_pb0236_01.Holds :=
  Mine.all
