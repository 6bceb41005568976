import PyProof.Rows.All
import Wide.All
import OpenK.AllK
import Wide.FinOn
import Lean
import PySem.Challenge.RW_sj0176_01
open PySem PySem.W PyProof.Rows
set_option Elab.async false
set_option maxRecDepth 100000
set_option maxHeartbeats 8000000
set_option linter.unusedVariables false
set_option genInjectivity false
set_option genSizeOf false
/-- error: Unknown constant `no_such_name_here` -/
#guard_msgs in
lay_quick_some 20 no_such_name_here
namespace Mine
open_top hd for PySem.Challenge.rw_sj0176_01
end Mine
lay_quick_some 1000000 Nat
set_option compiler.extract_closed false
example : True := by
  k_with "own 1" => (show _ < 1000; simp only [depth_under_make, depth_under_kw, depth_in1, depth_deeper, depth_caller]; omega)
  k_with "own 2" => (k_here; k_dflt (refine' setItem_T ?qu ?qF ?qN ?qU ?qo ?qks ?qk ?qz ?_; (case qF => k_asm); (case qN => k_asm); (case qU => k_updF); (case qo => k_asm); (case qks => k_asm); (case qk => k_asm); (case qz => first | with_reducible assumption | exact Nat.le_of_ble_eq_true rfl | omega); (case qu => k_extra "own u"); k_whole))
  k_with "own 3" => (k_here; (with_reducible show wpAny _ _ (getMethod (Value.ref _) (PySem.Str.ofString "pop") _) _ _ _); k_dflt (refine' getMethod_D PySem.F.slot_dict_pop PySem.F.type_dict_pop ?qd ?qo ?_; (case qd => exact News.get (by k_asm) (by k_mem)); (case qo => k_asm); k_whole))
  k_with "own 4" => (k_here; (with_reducible show wpAny _ _ (call (Value.builtin _) [Value.ref _, Value.ref _, _]) _ _ _); k_dflt (refine' pop_T (more := [_]) ?qu ?qF ?qN ?qU ?qlo ?qo ?qks ?qk ?qz ?qm ?_ ?_; (case qF => k_asm); (case qN => k_asm); (case qU => k_updF); (case qlo => k_asm); (case qo => k_asm); (case qks => k_asm); (case qk => k_asm); (case qz => first | with_reducible assumption | exact Nat.le_of_ble_eq_true rfl | omega); (case qm => exact Or.inl ⟨_, rfl⟩); (case qu => k_extra "own u")); (try k_sweep))
  k_with "own 5" => (k_here; (with_reducible show wpAny _ _ (call (Value.builtin _) [Value.ref _]) _ _ _); k_dflt (refine' sorted_D ?qhh ?qF ?qN ?qd ?qlo ?qo ?qx ?qk ?qs ?qz ?_; (case qhh => k_asm); (case qF => k_asm); (case qN => k_asm); (case qd => exact News.get (by k_asm) (by k_mem)); (case qlo => k_asm); (case qo => k_asm); (case qx => k_asm); (case qk => k_asm); (case qs => k_asm); (case qz => k_asm); k_whole))
  k_with "own 6" => (refine' InstAt.of_base ?qF ?qh1 ?qh2; (case qF => k_asm); (case qh1 => with_reducible assumption); (case qh2 => with_reducible assumption))
  k_with "own 7" => (k_here; (with_reducible show wpAny _ _ (subscriptTail _ _ (Value.ref _) (Value.ref _)) _ _ _); k_dflt (refine' subscript_T ?qu ?qF ?qd ?qo ?qks ?qk ?qp ?_; (case qF => k_asm); (case qd => first | exact News.get (by k_asm) (by k_mem) | exact Fr.keep (by k_asm) _ _ (by with_reducible assumption)); (case qo => k_asm); (case qks => k_asm); (case qk => k_asm); (case qp => k_asm); (case qu => k_extra "own u"); k_whole))
  k_with "own 8" => (k_here; (with_reducible show wpAny _ _ (subscriptTail _ _ (Value.ref _) (Value.int _ _)) _ _ _); k_dflt (refine' item_base ?qd ?qa ?qb ?qx ?_; (case qd => first | exact News.get (by k_asm) (by k_mem) | exact Fr.keep (by k_asm) _ _ (by with_reducible assumption)); (case qa => decide); (case qb => decide); (case qx => rfl); k_whole))
  k_with "own 9" => (k_here; (with_reducible show wpAny _ _ (call (Value.builtin _) [Value.ref _, Value.ref _]) _ _ _); k_dflt (refine' pop_T (more := []) ?qu ?qF ?qN ?qU ?qlo ?qo ?qks ?qk ?qz ?qm ?qnn ?_; (case qF => k_asm); (case qN => k_asm); (case qU => k_updF); (case qlo => k_asm); (case qo => k_asm); (case qks => k_asm); (case qk => k_asm); (case qz => first | with_reducible assumption | exact Nat.le_of_ble_eq_true rfl | omega); (case qm => exact Or.inr ⟨rfl, by k_asm⟩); (case qnn => (intro _ _ _ e'; cases e')); (case qu => k_extra "own u")); (try k_sweep))
  k_with "own 10" => (k_here; (with_reducible show wpAny _ _ (subscriptTail _ _ (Value.ref _) (Value.int _ _)) _ _ _); k_dflt (refine' tup_base ?qd ?qa ?qb ?qx ?_; (case qd => first | exact News.get (by k_asm) (by k_mem) | exact Fr.keep (by k_asm) _ _ (by with_reducible assumption)); (case qa => decide); (case qb => decide); (case qx => rfl); k_whole))
  k_with "own 11" => (k_here; (with_reducible show wpAny _ _ (assign (Expr.Tuple [Expr.Attribute _ _ _, _] _ _) _ (Value.ref _)) _ _ _); k_dflt (refine' unpack2 ?qh ?qF ?qN ?qt ?qe ?_; (case qh => k_asm); (case qF => k_asm); (case qN => k_asm); (case qt => exact News.isTup (by k_asm) (by k_mem)); (case qe => rfl); k_whole))
  k_with "own 12" => (k_here; (with_reducible show wpAny _ _ (compareOp CmpOp.NotIn (Value.ref _) (Value.ref _)) _ _ _); k_dflt (refine' notIn_Tb ?qu ?qF ?qd ?qlo ?qo ?qks ?qk ?qb ?_; (case qF => k_asm); (case qd => exact News.get (by k_asm) (by k_mem)); (case qlo => k_asm); (case qo => k_asm); (case qks => k_asm); (case qk => k_asm); (case qb => with_reducible assumption); (case qu => k_extra "own u"); k_whole))
  k_with "own 13" => (k_here; (with_reducible show wpAny _ _ (compareOp CmpOp.NotEq (Value.ref _) (Value.ref _)) _ _ _); k_dflt (refine' medNe_k ?qu ?qF ?qa ?qb ?qma ?qmb ?qe ?_; (case qF => k_asm); (case qma => with_reducible assumption); (case qmb => with_reducible assumption); (case qa => k_asm); (case qb => k_asm); (case qe => with_reducible assumption); (case qu => k_extra "own u"); k_whole))
  k_with "own 14" => (k_here; (with_reducible show wpAny _ _ (getMethod (Value.ref _) (PySem.Str.ofString "get") _) _ _ _); k_dflt (refine' getMethod_D PySem.F.slot_dict_get PySem.F.type_dict_get ?qd ?qo ?_; (case qd => exact News.get (by k_asm) (by k_mem)); (case qo => k_asm); k_whole))
  k_with "own 15" => (k_here; (with_reducible show wpAny _ _ (call (Value.builtin _) [Value.ref _, Value.ref _]) _ _ _); k_dflt (refine' get_T ?qu ?qF ?qd ?qlo ?qo ?qks ?qk ?qp ?_; (case qF => k_asm); (case qd => exact News.get (by k_asm) (by k_mem)); (case qlo => k_asm); (case qo => k_asm); (case qks => k_asm); (case qk => k_asm); (case qp => with_reducible assumption); (case qu => (show _ < 9900; simp only [Around.deeper_units, Around.in1_units]; k_extra "own a")); k_whole))
  k_with "own 16" => (k_here; (with_reducible show wpAny _ _ (assign (Expr.Tuple _ _ _) _ (Value.ref _)) _ _ _); k_dflt (refine' kun_list ?qk1 ?qk2 ?qk3 ?qk4 ?qk5 ?qk6 ?_; (case qk1 => k_asm); (case qk2 => k_asm); (case qk3 => exact ⟨_, Fr.keep (by k_asm) _ _ (by with_reducible assumption), rfl, _, rfl⟩); (case qk4 => k_asm); (case qk5 => exact rfl); (case qk6 => exact rfl); k_whole))
  k_with "own 17" => (k_here; (with_reducible show wpAny _ _ (binaryOp _ (Value.ref _) (Value.ref _)) _ _ _); (with_reducible refine Halt.on ?_))
  k_with "own 18" => (k_here; (with_reducible show wpAny _ _ (compareOp _ (Value.ref _) (Value.ref _)) _ _ _); (with_reducible refine Halt.on ?_))
  k_with "own 19" => (k_here; (first | (with_reducible show wpAny _ _ (call (Value.ref 174) _) _ _ _) | (with_reducible show wpAny _ _ (call (Value.ref 181) _) _ _ _) | (with_reducible show wpAny _ _ (call (Value.ref 188) _) _ _ _) | (with_reducible show wpAny _ _ (call (Value.ref 193) _) _ _ _) | (with_reducible show wpAny _ _ (call (Value.ref 198) _) _ _ _) | (with_reducible show wpAny _ _ (call (Value.ref 160) _) _ _ _) | (with_reducible show wpAny _ _ (call (Value.ref 167) _) _ _ _) | (with_reducible show wpAny _ _ (call (Value.ref 153) _) _ _ _) | (with_reducible show wpAny _ _ (call (Value.ref 47) _) _ _ _) | (with_reducible show wpAny _ _ (call (Value.ref 35) _) _ _ _) | (with_reducible show wpAny _ _ (call (Value.ref 42) _) _ _ _) | (with_reducible show wpAny _ _ (call (Value.ref 113) _) _ _ _) | (with_reducible show wpAny _ _ (call (Value.ref 120) _) _ _ _)); (with_reducible refine Halt.on ?_))
  k_with "own 20" => (k_here; k_dflt (refine' unpackItemsN_ ?qk1 ?qk2 ?qk3 ?qk4 ?qk5 ?_; (case qk1 => k_asm); (case qk2 => k_asm); (case qk3 => kun_tup); (case qk4 => k_asm); (case qk5 => exact rfl); k_whole))
  k_with "own 21" => (k_closed; first | (with_reducible refine ite_pos (by decide) ?_) | (with_reducible refine ite_neg (by decide) ?_))
  k_with "own 22" => (k_here; (with_reducible show wpAny _ _ (subscriptTail _ _ (Value.ref _) (Value.int (1 + _) _)) _ _ _); k_dflt (refine' item_base ?qd ?qa ?qb ?qx ?_; (case qd => exact Fr.keep (by k_asm) _ _ (by with_reducible assumption)); (case qa => with_reducible assumption); (case qb => with_reducible assumption); (case qx => with_reducible assumption); k_whole))
  k_with "own 23" => (k_here; (with_reducible show wpAny _ _ (subscriptTail _ _ (Value.ref _) (Value.int 0 _)) _ _ _); k_dflt (refine' key_item ?qF ?qk ?_; (case qF => k_asm); (case qk => with_reducible assumption); k_whole))
  k_with "own 24" => (k_here; (with_reducible show wpAny _ _ (compareOp CmpOp.NotEq (Value.ref _) (Value.ref _)) _ _ _); k_dflt (refine' medNe_k ?qu ?qF ?qa ?qb ?qma ?qmb ?qe ?_; (case qF => k_asm); (case qma => with_reducible assumption); (case qmb => with_reducible assumption); (case qa => k_asm); (case qb => k_asm); (case qe => with_reducible assumption); (case qu => (show _ < 9900; simp only [Around.deeper_units, Around.in1_units]; k_extra "own a")); k_whole))
  k_with "own 25" => (k_here; (with_reducible show wpAny _ _ (assign (Expr.Tuple _ _ _) _ (Value.ref _)) _ _ _); k_dflt (refine' unpackN_ ?qk1 ?qk2 ?qk3 ?qk4 ?qk5 ?qk6 ?_; (case qk1 => k_asm); (case qk2 => k_asm); (case qk3 => exact News.isTup (by k_asm) (by k_mem)); (case qk4 => k_asm); (case qk5 => exact rfl); (case qk6 => exact rfl); k_whole))
  k_with "own 26" => (k_here; (with_reducible show wpAny _ _ (compareOp CmpOp.NotEq _ _) _ _ _); (with_reducible refine Halt.on ?_))
  k_with "own 27" => (k_here; (with_reducible show wpAny _ _ (call (Value.builtin _) [Value.ref _]) _ _ _); (with_reducible refine Halt.on ?_))
  k_with "own 28" => (k_here; (with_reducible show wpAny _ _ (subscriptTail _ _ (Value.ref _) (Value.int (Int.fmod _ _) _)) _ _ _); (with_reducible refine Halt.on ?_))
  k_with "own 29" => (k_here; (with_reducible show wpAny _ _ (getMethod (Value.ref _) (PySem.Str.ofString "items") _) _ _ _); k_dflt (refine' getMethod_D PySem.F.slot_dict_items PySem.F.type_dict_items ?qd ?qo ?_; (case qd => exact News.get (by k_asm) (by k_mem)); (case qo => k_asm); k_whole))
  k_with "own 30" => (k_here; (first | (with_reducible show wpAny _ _ (storeName _ (PySem.Str.ofString "whole") _) _ _ _) | (with_reducible show wpAny _ _ (storeName _ (PySem.Str.ofString "spot") _) _ _ _) | (with_reducible show wpAny _ _ (storeName _ (PySem.Str.ofString "left") _) _ _ _)); (with_reducible refine Halt.on ?_))
  k_with "own 31" => (k_here; (with_reducible show wpAny _ _ (execs (PySem.Stmt.For (PySem.Expr.Name (PySem.Str.ofString "word") _) _ _ _ _ :: _) _) _ _ _); (with_reducible refine Halt.on ?_))
  k_with "own 32" => (k_here; (with_reducible show wpAny _ _ (execs (PySem.Stmt.For (PySem.Expr.Tuple _ _ _) _ _ _ _ :: _) _) _ _ _); (with_reducible refine Halt.on ?_))
  k_with "own 33" => (k_here; (refine wpAny_Assign_Name ?_ (by with_unfolding_all rfl)))
  k_with "own 34" => (k_here; (with_reducible show wpAny _ _ (execs (PySem.Stmt.For (PySem.Expr.Name (PySem.Str.ofString "one") _) _ _ _ _ :: _) _) _ _ _); (with_reducible refine Halt.on ?_))
  k_with "own 35" => (k_here; (with_reducible show wpAny _ _ (execs (PySem.Stmt.Assign [PySem.Expr.Name (PySem.Str.ofString "due") _] _ _ :: _) _) _ _ _); (with_reducible refine Halt.on ?_))
  k_with "own 36" => (k_here; (with_reducible show wpAny _ _ (execs (PySem.Stmt.Assign [PySem.Expr.Tuple [PySem.Expr.Name (PySem.Str.ofString "rows") _, _] _ _] _ _ :: _) _) _ _ _); (with_reducible refine Halt.on ?_))
  k_with "own 37" => (k_here; (with_reducible show wpAny _ _ (execs (PySem.Stmt.For (PySem.Expr.Name (PySem.Str.ofString "prefix") _) _ _ _ _ :: _) _) _ _ _); (with_reducible refine Halt.on ?_))
  k_with "own 38" => (k_here; (with_reducible show wpAny _ _ (eval (Expr.Name _ _) (compEnvC _ _ _ _)) _ _ _); k_dflt (first | (refine' name_localC ?qF ?qk ?qx ?qm ?_ ?qb; (case qF => k_asm); (case qk => exact rfl); (case qx => exact rfl); (case qm => k_asm); (case qb => decide); k_whole) | (refine' name_cellC ?qF ?qk ?qx ?qc ?qo ?qd ?_ ?qb; (case qF => k_asm); (case qk => exact rfl); (case qx => exact rfl); (case qc => exact rfl); (case qo => k_asm); (case qd => k_asm); (case qb => decide); k_whole)))
  k_with "own 39" => (k_here; (with_reducible show wpAny _ _ (call (Value.builtin _) [Value.ref _, Value.ref _, _]) _ _ _); k_dflt (refine' pop_Tn ?qu ?qF ?qN ?qU ?qlo ?qo ?qks ?qk ?qz ?qp ?_; (case qF => k_asm); (case qN => k_asm); (case qU => k_updF); (case qlo => k_asm); (case qo => k_asm); (case qks => k_asm); (case qk => k_asm); (case qp => with_reducible assumption); (case qz => first | with_reducible assumption | exact Nat.le_of_ble_eq_true rfl | omega); (case qu => k_extra "own u"); k_whole))
  k_with "own 40" => (k_here; (with_reducible show wpAny _ _ (call (Value.builtin _) [Value.ref _, Value.ref _, _]) _ _ _); k_dflt (refine' pop_Ts ?qu ?qF ?qN ?qU ?qlo ?qo ?qks ?qk ?qz ?qp ?_; (case qF => k_asm); (case qN => k_asm); (case qU => k_updF); (case qlo => k_asm); (case qo => k_asm); (case qks => k_asm); (case qk => k_asm); (case qp => with_reducible assumption); (case qz => first | with_reducible assumption | exact Nat.le_of_ble_eq_true rfl | omega); (case qu => k_extra "own u"); k_whole))
  k_with "own 44" => (k_here; (with_reducible show wpAny _ _ (call (Value.builtin _) [Value.ref _, Value.ref _, _]) _ _ _); k_dflt (refine' pop_Td ?qu ?qF ?qN ?qU ?qlo ?qo ?qks ?qk ?qz ?_; (case qF => k_asm); (case qN => k_asm); (case qU => k_updF); (case qlo => k_asm); (case qo => k_asm); (case qks => k_asm); (case qk => k_asm); (case qz => first | with_reducible assumption | exact Nat.le_of_ble_eq_true rfl | omega); (case qu => k_extra "own u"); k_whole))
  k_with "own 45" => (k_here; (with_reducible show wpAny _ _ (execs (PySem.Stmt.If (PySem.Expr.BoolOp _ _ _) _ _ _ :: _) _) _ _ _); (with_reducible refine Halt.on ?_))
  k_with "own 43" => (k_here; (first | (with_reducible show wpAny _ _ (call (Value.ref 85) _) _ _ _) | (with_reducible show wpAny _ _ (call (Value.ref 142) _) _ _ _)); (with_reducible refine Halt.on ?_))
  k_with "own 46" => (k_here; (with_reducible show wpAny _ _ (execs (PySem.Stmt.Assign [PySem.Expr.Name (PySem.Str.ofString "books") _] _ _ :: _) _) _ _ _); (with_reducible refine Halt.on ?_))
  k_with "own h" => (k_here; (with_reducible refine Halt.on ?_))
  k_with "own 41" => (k_here; k_dflt (refine' nameX_L ?qF ?qm ?_; (case qF => k_asm); (case qm => with_reducible assumption); k_whole))
  k_with "own 42" => (k_here; (with_reducible show wpAny _ _ (eval (Expr.BoolOp _ [Expr.Compare (Expr.Attribute _ _ _) _ _ _, _] _) _) _ _ _); (with_reducible refine Halt.on ?_))
  trivial
section
theorem Mine.off_00 : True := by
  w_top off
  trivial
namespace Mine
open PySem PySem.W PySem.Calls PySem.Spec PyProof.Rows

noncomputable abbrev Keep (mo : List Addr) (h h' : Heap) : Prop := ∀ b o, h.get? b = some o → b ∉ mo → h'.get? b = some o

section
variable {prog : Program} {w : World} {A : Around} {s : Shared} {K : Frag} {p : Program} {loose : List Str} {mean : ExcName → Option Value} {mg mb : Str → Option Value} {H₀ : Heap} {R : Result → Shared → Prop}
  {name qual : Str} {params : Arguments} {body : List Stmt} {scope : Scope} {dV kV doc pm cdv ct oc : Value} {an od : Option Addr} {osl : Array (Option Value)} {f : Addr} {args : Args} {binds : List (Str × Value)}

theorem enter {mo : List (Addr × Obj)} (X₀ : K.In H₀) (T₀ : Top p loose mean mg mb H₀) (st : H₀.StaysIn s.heap)
    (hm : ∀ q ∈ mo, s.heap.get? q.1 = some q.2 ∧ H₀.get? q.1 = none)
    (ho : K.lookup f = some ⟨oc, od, .func (fnOf name qual params body scope dV kV doc pm an cdv ct), osl⟩) (hcd : codeIn K cdv qual = true) (hroom : A.depth < recursionLimit)
    (hbind : BindsTo s (fnOf name qual params body scope dV kV doc pm an cdv ct) args binds) (hloc : ∀ y ∈ binds, scope.names.lookup y.1 = some .local)
    (h : ∀ g L h₁, Keep (mo.map (·.1)) s.heap g → L = s.heap.objs.size → Fr g L h₁ (fun y => binds.reverse.lookup y) → News g L h₁ mo → K.In g → Top p loose mean mg mb g → H₀.StaysIn g →
      wpAny (model prog w) (A.deeper (envOf qual scope L f cdv)) (execs body (envOf qual scope L f cdv))
        (fun fl s' => R (.ok (.ret (match fl with | .ret v => v | _ => .none))) s') (fun _ _ => False) { s with heap := h₁, toks := s.toks + binds.length })
    (hco : scope.isCoroutine = false) (hgen : scope.isGenerator = false) (hk : scope.kind = .function) (hcell : ∀ x ∈ scope.names, x.2 ≠ .cell) :
    codeAny (model prog w) A (.call (.ref f) args) R s := by
  have nm : ∀ b o, H₀.get? b = some o → b ∉ mo.map (·.1) := fun b o e q => by
    obtain ⟨p, hp, rfl⟩ := List.mem_map.mp q
    rw [(hm p hp).2] at e; cases e
  have sg : H₀.StaysIn (hideAll s.heap (mo.map (·.1))) := fun b o e => hideAll_get _ (st b o e) (nm b o e)
  have XK : K.In (hideAll s.heap (mo.map (·.1))) := X₀.keeps sg
  have TK : Top p loose mean mg mb (hideAll s.heap (mo.map (·.1))) := T₀.keeps sg
  refine codeAny_call_def (fd := fnOf name qual params body scope dV kV doc pm an cdv ct) (body := body) (binds := binds) hroom (st _ _ (X₀ _ _ ho)) rfl (T₀.nolimit.keeps st) (codeRec_of (X₀.keeps st) hcd) rfl hbind hcell hloc (fun h₁ hns hk₁ => ?_) hco hgen hk
  refine wpAny_mono (h (hideAll s.heap (mo.map (·.1))) s.heap.objs.size h₁ (fun b o e n => hideAll_get _ e n) rfl ⟨hns, fun b o e => hk₁ b o (of_hideAll _ e), Nat.le_of_eq (hideAll_size _ _)⟩
    (fun q hq => ⟨hk₁ _ _ (hm q hq).1, Nat.ne_of_lt (Heap.lt_size (hm q hq).1), hideAll_none _ (List.mem_map_of_mem hq)⟩) XK TK sg) (fun fl s' hl => hl) fun _ _ y => y.elim

theorem enterC {mo : List (Addr × Obj)} (X₀ : K.In H₀) (T₀ : Top p loose mean mg mb H₀) (st : H₀.StaysIn s.heap)
    (hm : ∀ q ∈ mo, s.heap.get? q.1 = some q.2 ∧ H₀.get? q.1 = none)
    (ho : K.lookup f = some ⟨oc, od, .func (fnOf name qual params body scope dV kV doc pm an cdv ct), osl⟩) (hcd : codeIn K cdv qual = true) (hroom : A.depth < recursionLimit)
    (hbind : BindsTo s (fnOf name qual params body scope dV kV doc pm an cdv ct) args binds) (hkind : (binds.all fun y => scope.names.lookup y.1 == some .local || scope.names.lookup y.1 == some .cell) = true)
    (hnd : ((cellsFrom 0 scope.names []).map (·.1)).Nodup)
    (h : ∀ g L h₁ tk cells, Keep (mo.map (·.1)) s.heap g → L = s.heap.objs.size → Fr g L h₁ (bindL (envOfC qual scope L f cdv).kindOf binds fun _ => none) → News g L h₁ (cells ++ mo) →
      CellsAre (bindC (envOfC qual scope L f cdv).kindOf binds fun _ => none) (cellsFrom (L + 1) scope.names []) cells → (∀ q ∈ mo, q.1 < L) → K.In g → Top p loose mean mg mb g → H₀.StaysIn g →
      wpAny (model prog w) (A.deeper (envOfC qual scope L f cdv)) (execs body (envOfC qual scope L f cdv))
        (fun fl s' => R (.ok (.ret (match fl with | .ret v => v | _ => .none))) s') (fun _ _ => False) { s with heap := h₁, toks := tk })
    (hco : scope.isCoroutine = false) (hgen : scope.isGenerator = false) (hk : scope.kind = .function) :
    codeAny (model prog w) A (.call (.ref f) args) R s := by
  have nm : ∀ b o, H₀.get? b = some o → b ∉ mo.map (·.1) := fun b o e q => by
    obtain ⟨p, hp, rfl⟩ := List.mem_map.mp q
    rw [(hm p hp).2] at e; cases e
  have sg : H₀.StaysIn (hideAll s.heap (mo.map (·.1))) := fun b o e => hideAll_get _ (st b o e) (nm b o e)
  have XK : K.In (hideAll s.heap (mo.map (·.1))) := X₀.keeps sg
  have TK : Top p loose mean mg mb (hideAll s.heap (mo.map (·.1))) := T₀.keeps sg
  refine codeAny_call_function hroom (st _ _ (X₀ _ _ ho)) rfl hco hgen rfl (codeRec_of (X₀.keeps st) hcd) (hbind _ _ _ _ ?_)
  refine wpAny_newFunctionEnv_cells hk (kindsX hkind _) fun env' he s' x => ?_
  subst he
  refine ⟨(T₀.nolimit.keeps st).keeps x.toInCall.keep, codeAny_func ?_⟩
  obtain ⟨h₁, tk, rfl, _⟩ := x.done
  have hk₁ := x.toInCall.keep
  obtain ⟨cells, NC, Y⟩ := Cl.news (h₀ := s.heap) (Nat.le_refl _) fun n c hm => ⟨x.cell n c (lookup_of_mem_nodup (cellsFrom_names scope.names 0 (s.heap.objs.size + 1) [] [] rfl ▸ hnd) hm), x.above n c hm⟩
  refine wpAny_mono (h (hideAll s.heap (mo.map (·.1))) s.heap.objs.size h₁ tk cells (fun b o e n => hideAll_get _ e n) rfl ⟨x.toInCall.ns, fun b o e => hk₁ b o (of_hideAll _ e), Nat.le_of_eq (hideAll_size _ _)⟩ (fun p hp => ?_) Y (fun q hq => Heap.lt_size (hm q hq).1) XK TK sg) (fun fl s' hl => hl) fun _ _ y => y.elim
  rcases List.mem_append.mp hp with hp | hp
  · refine ⟨(NC p hp).1, (NC p hp).2.1, ?_⟩
    cases q : (hideAll s.heap (mo.map (·.1))).get? p.1 with
    | none => rfl
    | some o => have := of_hideAll _ q; rw [(NC p hp).2.2] at this; cases this
  · exact ⟨hk₁ _ _ (hm p hp).1, Nat.ne_of_lt (Heap.lt_size (hm p hp).1), hideAll_none _ (List.mem_map_of_mem hp)⟩
end
end Mine
end
section
theorem Mine.off_01 : True := by
  w_top off
  trivial
namespace Mine
open PySem PySem.W PySem.Calls PySem.Spec PyProof.Rows

noncomputable abbrev TK (prog : Program) (w : World) : HeapKind prog w (List Int) := tupleKind (intKind prog w)
noncomputable abbrev KeyAt (prog : Program) (w : World) (h : Heap) (k : List Int) (a : Addr) : Prop := IsTupleKey (intKind prog w) h k a

theorem uniL {a n k l : Nat} (h : a + n ≤ 9000) (q : Nat.ble (k + l) n = true) : a + k + l ≤ 9000 := by
  rw [Nat.add_assoc]; exact Nat.le_trans (Nat.add_le_add_left (Nat.le_of_ble_eq_true q) _) h
theorem depL {a n k l : Nat} (h : a + n ≤ 900) (q : Nat.ble (k + l) n = true) : a + k + l ≤ 900 := by
  rw [Nat.add_assoc]; exact Nat.le_trans (Nat.add_le_add_left (Nat.le_of_ble_eq_true q) _) h
theorem uni1 {a n k : Nat} (h : a + n ≤ 9000) (q : Nat.ble k 899 = true) : a + k < 9900 := by
  have := Nat.le_of_ble_eq_true q; omega
theorem uni2 {a n k l : Nat} (h : a + n ≤ 9000) (q : Nat.ble (k + l) 899 = true) : a + k + l < 9900 := by
  rw [Nat.add_assoc]; exact uni1 h q
theorem uni3 {a n k l m : Nat} (h : a + n ≤ 9000) (q : Nat.ble (k + l + m) 899 = true) : a + k + l + m < 9900 := by
  rw [Nat.add_assoc, Nat.add_assoc, ← Nat.add_assoc k]; exact uni1 h q
theorem dep0 {a n : Nat} (h : a + n ≤ 900) : a < 1000 := Nat.lt_of_le_of_lt (Nat.le_trans (Nat.le_add_right _ _) h) (by decide)
theorem dep1 {a n k : Nat} (h : a + n ≤ 900) (q : Nat.ble k 99 = true) : a + k < 1000 := by
  have := Nat.le_of_ble_eq_true q; omega
theorem dep2 {a n k l : Nat} (h : a + n ≤ 900) (q : Nat.ble (k + l) 99 = true) : a + k + l < 1000 := by
  rw [Nat.add_assoc]; exact dep1 h q
theorem le_one {α : Type} : ∀ {l : List α}, l.length ≤ 1 → l = [] ∨ ∃ x, l = [x]
  | [], _ => .inl rfl
  | [x], _ => .inr ⟨x, rfl⟩
  | _ :: _ :: _, h => absurd (Nat.le_of_succ_le_succ h) (Nat.not_succ_le_zero _)
theorem lp_end {n i : Nat} (h : n - i = 0) (hi : i ≤ n) : i = n := Nat.le_antisymm hi (Nat.le_of_sub_eq_zero h)
theorem lp_lt {n i k : Nat} (h : n - i = k + 1) : i < n := Nat.lt_of_sub_pos (h ▸ Nat.succ_pos k)
theorem lp_step {n i k : Nat} (h : n - i = k + 1) : n - (i + 1) = k := congrArg Nat.pred h
theorem lt_two {k : Nat} (h : k < 2) : k = 0 ∨ k = 1 := (Nat.lt_or_eq_of_le (Nat.le_of_lt_succ h)).imp (fun q => Nat.eq_zero_of_le_zero (Nat.le_of_lt_succ q)) id
theorem lt_or {n m : Nat} (h : n < m + 1) : n < m ∨ n = m := Nat.lt_or_eq_of_le (Nat.le_of_lt_succ h)
theorem lt_three {n : Nat} (h : n < 3) : n = 0 ∨ n = 1 ∨ n = 2 := (lt_or h).elim (fun h => (lt_two h).imp id .inl) fun h => .inr (.inr h)
theorem lt_four {n : Nat} (h : n < 4) : n = 0 ∨ n = 1 ∨ n = 2 ∨ n = 3 := (lt_or h).elim (fun h => (lt_three h).imp id (Or.imp id .inl)) fun h => .inr (.inr (.inr h))
theorem KeyAt.keep {prog : Program} {w : World} {h h' : Heap} {k : List Int} {a : Addr} (x : KeyAt prog w h k a) (e : ∀ o, h.get? a = some o → h'.get? a = some o) : KeyAt prog w h' k a := by
  obtain ⟨o, its, n, ho, r⟩ := x
  exact ⟨o, its, n, e o ho, r⟩

noncomputable def RowsObj (prog : Program) (w : World) (o : Obj) (xs : List (List Int × Addr × Value)) : Prop :=
  ∃ es ep, o.ExactDict ∧ o.data = .dict es ep ∧ es.toList = xs.map (entryOfKey (TK prog w)) ∧ (xs.map (·.1)).Nodup

noncomputable def dropK (xs : List (List Int × Addr × Value)) (k : List Int) : List (List Int × Addr × Value) := xs.filter fun x => !decide (x.1 = k)

theorem hi_none {H : Heap} {a : Addr} (h : H.objs.size ≤ a) : H.get? a = none := Heap.get?_none_of_le h
theorem hi_low {H : Heap} {a : Addr} (x : H.NoLimit) (h : H.objs.size ≤ a) : (a == sysModules) = false :=
  beq_eq_false_iff_ne.mpr (Nat.ne_of_gt (Nat.lt_of_lt_of_le (modules_low x) h))

section
variable {prog : Program} {w : World} {A : Around} {E : Value → Shared → Prop} {s : Shared} {h₀ h : Heap} {L d a : Addr} {m : Str → Option Value} {news : List (Addr × Obj)} {g : Obj → List (Addr × Obj)} {o : Obj} {xs : List (List Int × Addr × Value)} {k : List Int}

theorem RowsObj.dictOf (x : RowsObj prog w o xs) (ho : h.get? d = some o) (hk : ∀ x ∈ xs, KeyAt prog w h x.1 x.2.1) : h.DictOfH (TK prog w) d xs := let ⟨es, ep, a, b, c, e⟩ := x; ⟨o, es, ep, ho, a, b, c, hk, e⟩
theorem RowsObj.of (x : h.DictOfH (TK prog w) d xs) : ∃ o, h.get? d = some o ∧ RowsObj prog w o xs ∧ ∀ x ∈ xs, KeyAt prog w h x.1 x.2.1 := by
  obtain ⟨o, es, ep, ho, a, b, c, hk, e⟩ := x
  exact ⟨o, ho, ⟨es, ep, a, b, c, e⟩, hk⟩
theorem RowsObj.cls (x : RowsObj prog w o xs) : o.cls = .type "dict" := let ⟨_, _, a, _⟩ := x; a.1
theorem RowsObj.noDict (x : RowsObj prog w o xs) : o.dict = none := let ⟨_, _, a, _⟩ := x; a.2.1
theorem RowsObj.nodup (x : RowsObj prog w o xs) : (xs.map (·.1)).Nodup := let ⟨_, _, _, _, _, e⟩ := x; e
theorem RowsObj.typeIs (x : RowsObj prog w o xs) (ho : s.heap.get? d = some o) : s.TypeIs (.ref d) "dict" := ⟨o, ho, x.cls⟩
theorem RowsObj.ref (x : RowsObj prog w o xs) (ho : h.get? d = some o) : ∀ b, Value.ref d = .ref b → ∃ ob, h.get? b = some ob ∧ ob.dict = none := fun b e => by cases e; exact ⟨o, ho, x.noDict⟩

theorem keysKeep {h' : Heap} (hk : ∀ x ∈ xs, KeyAt prog w h x.1 x.2.1) (e : ∀ b o, h.get? b = some o → h'.get? b = some o) : ∀ x ∈ xs, KeyAt prog w h' x.1 x.2.1 := fun x hx => (hk x hx).keep fun o => e _ o

theorem setItem_T {v : Value} {Q : Unit → Shared → Prop} (hu : A.units + 1 < cLine) (F : Fr h₀ L s.heap m) (N : News h₀ L s.heap news) (U : UpdF d o news g) (ho : RowsObj prog w o xs)
    (hks : ∀ x ∈ xs, KeyAt prog w h₀ x.1 x.2.1) (hk : KeyAt prog w h₀ k a) (hz : xs.length ≤ 1000)
    (h : ∀ h' o' t', Fr h₀ L h' m → News h₀ L h' (g o') → RowsObj prog w o' (storedH xs k a v) → Q () { s with heap := h', toks := t' }) :
    wpAny (model prog w) A (setItem (.ref d) (.ref a) v) Q E s := by
  obtain ⟨pre, post, rfl, hg, a1, a2⟩ := U.split
  have hm := N (d, o) (by simp)
  refine wpAny_setItem_heap (knd := TK prog w) (k := k) (xs := xs) hu (hk.keep fun o => F.keep _ o) (ho.dictOf hm.1 (keysKeep hks F.keep)) (fun h' hd hs => ?_) (by rw [sizeLine_eq]; omega)
  obtain ⟨o', ho', hr', _⟩ := RowsObj.of hd
  exact h h' o' _ (F.change hs hm.2.1 hm.2.2) (hg o' ▸ news_set N a1 a2 hs ho') hr'

theorem getItem_T {p : Addr × Value} {Q : Value → Shared → Prop} (hu : A.units + 1 < cLine) (F : Fr h₀ L s.heap m) (hd : s.heap.get? d = some o) (ho : RowsObj prog w o xs)
    (hks : ∀ x ∈ xs, KeyAt prog w h₀ x.1 x.2.1) (hk : KeyAt prog w h₀ k a) (hp : atKey xs k = some p) (h : ∀ t', Q p.2 { s with toks := t' }) : wpAny (model prog w) A (getItem (.ref d) (.ref a)) Q E s :=
  wpAny_getItem_heap (knd := TK prog w) (k := k) (xs := xs) hu (hk.keep fun o => F.keep _ o) (ho.dictOf hd (keysKeep hks F.keep)) hp (h _)

theorem subscript_T {value slice : Expr} {p : Addr × Value} {Q : Value → Shared → Prop} (hu : A.units + 1 < cLine) (F : Fr h₀ L s.heap m) (hd : s.heap.get? d = some o) (ho : RowsObj prog w o xs)
    (hks : ∀ x ∈ xs, KeyAt prog w h₀ x.1 x.2.1) (hk : KeyAt prog w h₀ k a) (hp : atKey xs k = some p) (h : ∀ t', Q p.2 { s with toks := t' })
    (hs : subscripted slice false (.ref d) (.ref a) = operate [.ref d, .ref a] (getItem (.ref d) (.ref a)) := by with_unfolding_all rfl) :
    wpAny (model prog w) A (subscriptTail value slice (.ref d) (.ref a)) Q E s :=
  tail_any (ho.typeIs hd) slot_dict_getitem.lookup (getItem_T hu F hd ho hks hk hp h) hs

theorem in_T {Q : Value → Shared → Prop} (hu : A.units + 1 < cLine) (F : Fr h₀ L s.heap m) (hd : s.heap.get? d = some o) (lo : (d == sysModules) = false) (ho : RowsObj prog w o xs)
    (hks : ∀ x ∈ xs, KeyAt prog w h₀ x.1 x.2.1) (hk : KeyAt prog w h₀ k a) (h : ∀ t', Q (.bool (atKey xs k).isSome) { s with toks := t' }) : wpAny (model prog w) A (compareOp .In (.ref a) (.ref d)) Q E s :=
  wpAny_in_heap (knd := TK prog w) (k := k) (xs := xs) hu (hk.keep fun o => F.keep _ o) lo (ho.dictOf hd (keysKeep hks F.keep)) (h _)

theorem contains_T {Q : Bool → Shared → Prop} (hu : A.units + 1 < cLine) (F : Fr h₀ L s.heap m) (hd : s.heap.get? d = some o) (lo : (d == sysModules) = false) (ho : RowsObj prog w o xs)
    (hks : ∀ x ∈ xs, KeyAt prog w h₀ x.1 x.2.1) (hk : KeyAt prog w h₀ k a) (h : ∀ t', Q (atKey xs k).isSome { s with toks := t' }) : wpAny (model prog w) A (contains (.ref d) (.ref a)) Q E s := by
  have hm := ho.dictOf hd (keysKeep hks F.keep)
  have hkey : KeyAt prog w s.heap k a := hk.keep fun o => F.keep _ o
  unfold contains
  try with_reducible refine wpAny_holding ?_
  refine wpAny_bind (wpAny_specialOf hm.typeIs slot_dict_contains.lookup ?_)
  show wpAny _ _ (if (some (Value.builtin "dict.__contains__") == some Value.none) = true then _ else _) _ E s
  rw [if_neg (by rw [beq_builtin_none]; exact Bool.false_ne_true)]
  refine wpAny_bind (wpAny_callSpecialUnlessNone?_slot (name := Str.ofString "__contains__") hm.typeIs slot_dict_contains
    (wpAny_call_entry slot_dict_contains hm.typeIs entry_dict_contains ?_ (args_dict_contains _ _)))
  show wpAny _ _ (dictGet d (.ref a) >>= _) _ _ s
  refine wpAny_bind (wpAny_dictGet_heap (knd := TK prog w) (k := k) (xs := xs) hu hkey hm ?_)
  cases hf : atKey xs k with
  | some p =>
    rw [hf] at h
    show wpAny _ _ (ret (.bool true)) _ _ _
    exact wpAny_pure ⟨_, rfl, wpAny_truthy_bool (h _)⟩
  | none =>
    rw [hf] at h
    show wpAny _ _ (Builtin.Dict.pendingKey? d (.ref a) >>= _) _ _ _
    exact wpAny_bind (wpAny_pendingKey_other lo (wpAny_pure ⟨_, rfl, wpAny_truthy_bool (h _)⟩))

theorem notIn_T {Q : Value → Shared → Prop} (hu : A.units + 1 < cLine) (F : Fr h₀ L s.heap m) (hd : s.heap.get? d = some o) (lo : (d == sysModules) = false) (ho : RowsObj prog w o xs)
    (hks : ∀ x ∈ xs, KeyAt prog w h₀ x.1 x.2.1) (hk : KeyAt prog w h₀ k a) (h : ∀ t', Q (.bool (!(atKey xs k).isSome)) { s with toks := t' }) : wpAny (model prog w) A (compareOp .NotIn (.ref a) (.ref d)) Q E s := by
  show wpAny _ _ (do return .bool (!(← contains (.ref d) (.ref a)))) Q E s
  exact wpAny_bind (contains_T hu F hd lo ho hks hk fun t' => wpAny_pure (h t'))

theorem getMethod_D {name : Str} {id : String} {pl : Sem Bool} {Q : Value × List Value → Shared → Prop} (slot : Slot "dict" name id) (hty : typeOf (.builtin id) = pure (.type "method_descriptor"))
    (hd : s.heap.get? d = some o) (ho : RowsObj prog w o xs) (h : Q (.builtin id, [.ref d]) s) : wpAny (model prog w) A (getMethod (.ref d) name pl) Q E s :=
  getMethod_builtin (ho.typeIs hd) PySem.F.plainAttrs_dict slot hty (ho.ref hd) h

theorem eraseIdx_mapped {α β : Type} (f : α → β) : ∀ (l : List α) (j : Nat), (l.map f).eraseIdx j = (l.eraseIdx j).map f
  | [], _ => rfl
  | _ :: _, 0 => rfl
  | x :: r, j + 1 => by
    show f x :: (r.map f).eraseIdx j = f x :: (r.eraseIdx j).map f
    rw [eraseIdx_mapped f r j]

theorem takeOut_heap {Q : Option DictEntry → Shared → Prop} (hu : A.units < cLine) (hkey : KeyAt prog w s.heap k a) (hm : s.heap.DictOfH (TK prog w) d xs) (hz : xs.length ≤ 1000)
    (hnone : atKey xs k = none → Q none { s with toks := s.toks + (TK prog w).draws k })
    (hsome : ∀ p e, atKey xs k = some p → e.val = p.2 → ∀ h', h'.DictOfH (TK prog w) d (dropK xs k) → Heap.SameBut d s.heap h' → Q (some e) { s with heap := h', toks := s.toks + (TK prog w).draws k }) :
    wpAny (model prog w) A (Builtin.Dict.takeOut d (.ref a)) Q E s := by
  obtain ⟨o, es, ep, ho, hc, hd, he, his, hn⟩ := hm
  unfold Builtin.Dict.takeOut
  try with_reducible refine wpAny_holding ?_
  refine wpAny_bind ((TK prog w).pyHash hu hkey (wpAny_bind (wpAny_dictFind_heap (knd := TK prog w) (s := { s with toks := s.toks + (TK prog w).draws k }) hu hkey ho hd he his hn ?_ ?_)))
  · intro hno
    exact wpAny_pure (hnone (atKey_none_of_get hno))
  · intro j p hj
    refine wpAny_bind (wpAny_dictEntries (s := { s with toks := s.toks + (TK prog w).draws k }) ho hd ?_)
    have hej : es[j]? = some (entryOfKey (TK prog w) (k, p)) := by rw [entry_at he j, hj]; rfl
    rw [hej]
    have hs := size_of_entries he
    refine wpAny_bind (wpAny_updateDictKeys (hz := by rw [hs, sizeLine_eq]; omega) (s := { s with toks := s.toks + (TK prog w).draws k }) ho hd (wpAny_pure (hsome p _ (atKey_of_get hn hj) rfl _ ⟨_, _, ep + 1, Heap.get?_update_self _ ho (Obj.isFreed_of_dict (Obj.data_mapDictKeys hd _)),
      hc.mapDictKeys _, Obj.data_mapDictKeys hd _, ?_, ?_, ?_⟩ (Heap.SameBut.update ..))) ?_)
    · have hlt : j < xs.length := (List.getElem?_eq_some_iff.mp hj).1
      have e1 : (es.eraseIdxIfInBounds j).toList = es.toList.eraseIdx j := by
        obtain ⟨l⟩ := es
        simp [Array.eraseIdxIfInBounds]
        split
        · simp
        · rename_i q
          simp at hs q
          omega
      rw [e1, he, eraseIdx_mapped]
      congr 1
      have : ∀ (l : List (List Int × Addr × Value)) (j : Nat), (l.map (·.1)).Nodup → l[j]? = some (k, p) → l.eraseIdx j = dropK l k := by
        intro l
        induction l with
        | nil => intro j _ h; simp at h
        | cons x r ih =>
          intro j hn hj
          rw [List.map_cons, List.nodup_cons] at hn
          cases j with
          | zero =>
            simp only [List.getElem?_cons_zero, Option.some.injEq] at hj
            subst hj
            simp only [List.eraseIdx_zero, List.tail_cons, dropK, List.filter_cons, decide_true, Bool.not_true, Bool.false_eq_true, if_false]
            exact (List.filter_eq_self.mpr fun y hy => by simp only [Bool.not_eq_true', decide_eq_false_iff_not]; exact fun q => hn.1 (List.mem_map.mpr ⟨y, hy, q⟩)).symm
          | succ j =>
            simp only [List.getElem?_cons_succ] at hj
            have hne : ¬ x.1 = k := fun q => hn.1 (by rw [q]; exact List.mem_map.mpr ⟨(k, p), List.mem_of_getElem? hj, rfl⟩)
            simp only [List.eraseIdx_cons_succ, dropK, List.filter_cons, hne, decide_false, Bool.not_false, if_true]
            rw [ih j hn.2 hj]; rfl
      exact this xs j hn hj
    · intro x hx
      exact (TK prog w).keeps (his x (List.mem_filter.mp hx).1) ho hd (Heap.SameBut.update ..)
    · exact (List.Sublist.map _ List.filter_sublist).nodup hn
    · have : (es.eraseIdxIfInBounds j).size ≤ es.size := by simp [Array.eraseIdxIfInBounds]; split <;> simp
      exact Nat.le_succ_of_le this

theorem pop_T {more : List Value} {Q : Value → Shared → Prop} (hu : A.units + 1 < cLine) (F : Fr h₀ L s.heap m) (N : News h₀ L s.heap news) (U : UpdF d o news g) (lo : (d == sysModules) = false) (ho : RowsObj prog w o xs)
    (hks : ∀ x ∈ xs, KeyAt prog w h₀ x.1 x.2.1) (hk : KeyAt prog w h₀ k a) (hz : xs.length ≤ 1000)
    (hmore : (∃ v, more = [v]) ∨ (more = [] ∧ (atKey xs k).isSome = true))
    (hnone : ∀ v t', atKey xs k = none → more = [v] → Q v { s with toks := t' })
    (hsome : ∀ p h' o' t', atKey xs k = some p → Fr h₀ L h' m → News h₀ L h' (g o') → RowsObj prog w o' (dropK xs k) → Q p.2 { s with heap := h', toks := t' }) :
    wpAny (model prog w) A (call (.builtin "dict.pop") (.ref d :: .ref a :: more)) Q E s := by
  obtain ⟨pre, post, rfl, hg, a1, a2⟩ := U.split
  have hm := N (d, o) (by simp)
  have hD := ho.dictOf hm.1 (keysKeep hks F.keep)
  have hkey : KeyAt prog w s.heap k a := hk.keep fun o => F.keep _ o
  have hargs : argsOk "dict.pop" ⟨.ref d :: .ref a :: more, []⟩ := by
    rcases hmore with ⟨v, rfl⟩ | ⟨rfl, _⟩
    · exact PySem.F.args_dict_pop_3 _ _ _
    · exact PySem.F.args_dict_pop_2 _ _
  refine call_meetsIn (S := fun A' R s' => A'.units + 1 < cLine ∧ s' = s ∧ R = wants Q E) PySem.F.slot_dict_pop hD.typeIs PySem.F.entry_dict_pop hargs (.of_wp fun A' R s' hS => ?_) ⟨hu, rfl, rfl⟩
  obtain ⟨hu', rfl, rfl⟩ := hS
  unfold Builtin.«dict.pop»
  refine wpAny_bind ?_
  unfold Builtin.Dict.keyAndDefault
  refine wpAny_bind (wpAny_notOrdered_dict hD.typeIs ?_)
  have core : ∀ dflt : Option Value, (dflt = more.head?) → wpAny (model prog w) A'.in1 (do
      let empty ← if (keyPart (.ref a)).isSome then pure false else do pure (← dictEntries d).isEmpty
      let old ← if empty then (do rule "dict.pop.empty"; pure none) else Builtin.Dict.takeOut d (.ref a)
      if old.isNone then Builtin.Dict.missedRemoval d (.ref a)
      match old, dflt with
      | some e, _ => (do letGo [e.key] [e.val]; ret e.val)
      | none, some x => (do rule "dict.pop.default"; ret x)
      | none, none => (do rule "dict.pop.keyerror"; raiseNew (← newExc (.type "KeyError") [.ref a]))) (fun fin s' => ∃ v, fin = .done (.ret v) ∧ wants Q E (.ok (.ret v)) s') (fun e s' => wants Q E (.error e) s') s' := by
    intro dflt hdf
    have miss : atKey xs k = none → ∀ t', wpAny (model prog w) A'.in1 (do
        if (none : Option DictEntry).isNone then Builtin.Dict.missedRemoval d (.ref a)
        match (none : Option DictEntry), dflt with
        | some e, _ => (do letGo [e.key] [e.val]; ret e.val)
        | none, some x => (do rule "dict.pop.default"; ret x)
        | none, none => (do rule "dict.pop.keyerror"; raiseNew (← newExc (.type "KeyError") [.ref a]))) (fun fin s' => ∃ v, fin = .done (.ret v) ∧ wants Q E (.ok (.ret v)) s') (fun e s' => wants Q E (.error e) s') { s' with toks := t' } := by
      intro hno t'
      rcases hmore with ⟨v, rfl⟩ | ⟨_, hy⟩
      · cases hdf
        simp only [Option.isNone_none, if_true]
        refine wpAny_bind (wpAny_missedRemoval_other lo ?_)
        exact wpAny_bind (wpAny_rule (wpAny_pure ⟨v, rfl, hnone v t' hno rfl⟩))
      · rw [hno] at hy; cases hy
    refine wpAny_bind ?_
    obtain ⟨o₂, es, ep, ho₂, hc, hdd, he, his, hn⟩ := id hD
    refine wpAny_dictEntries ho₂ hdd (wpAny_bind (wpAny_pure ?_))
    dsimp only
    by_cases hem : es.isEmpty = true
    · rw [hem]
      simp only [if_true]
      refine wpAny_bind (wpAny_bind (wpAny_rule (wpAny_pure ?_)))
      have : xs = [] := by
        have hs := size_of_entries he
        have : es.size = 0 := by simpa using hem
        exact List.length_eq_zero_iff.mp (by omega)
      subst this
      exact miss rfl s'.toks
    · rw [Bool.not_eq_true] at hem
      rw [hem]
      simp only [Bool.false_eq_true, if_false]
      refine wpAny_bind (takeOut_heap (by show A'.units + 1 < cLine; exact hu') hkey hD hz (fun hno => miss hno _) fun p e hp hev h' hd' hs' => ?_)
      simp only [Option.isNone_some, Bool.false_eq_true, if_false]
      obtain ⟨o', ho', hr', _⟩ := RowsObj.of hd'
      refine wpAny_bind (wpAny_letGo (wpAny_pure ⟨e.val, rfl, ?_⟩))
      rw [hev]
      exact hsome p h' o' _ hp (F.change hs' hm.2.1 hm.2.2) (hg o' ▸ news_set N a1 a2 hs' ho') hr'
  rcases hmore with ⟨v, rfl⟩ | ⟨rfl, hy⟩
  · show wpAny _ _ (pure (d, Value.ref a, some v)) _ _ s'
    exact wpAny_pure (core (some v) rfl)
  · show wpAny _ _ (pure (d, Value.ref a, none)) _ _ s'
    exact wpAny_pure (core none rfl)
theorem pop_Tn {v : Value} {Q : Value → Shared → Prop} (hu : A.units + 1 < cLine) (F : Fr h₀ L s.heap m) (N : News h₀ L s.heap news) (U : UpdF d o news g) (lo : (d == sysModules) = false) (ho : RowsObj prog w o xs)
    (hks : ∀ x ∈ xs, KeyAt prog w h₀ x.1 x.2.1) (hk : KeyAt prog w h₀ k a) (hz : xs.length ≤ 1000) (hno : atKey xs k = none) (h : ∀ t', Q v { s with toks := t' }) :
    wpAny (model prog w) A (call (.builtin "dict.pop") [.ref d, .ref a, v]) Q E s :=
  pop_T (more := [v]) hu F N U lo ho hks hk hz (.inl ⟨_, rfl⟩) (fun v' t' _ e => by cases e; exact h t') fun p _ _ _ e => by rw [hno] at e; cases e
theorem pop_Ts {v : Value} {p : Addr × Value} {Q : Value → Shared → Prop} (hu : A.units + 1 < cLine) (F : Fr h₀ L s.heap m) (N : News h₀ L s.heap news) (U : UpdF d o news g) (lo : (d == sysModules) = false) (ho : RowsObj prog w o xs)
    (hks : ∀ x ∈ xs, KeyAt prog w h₀ x.1 x.2.1) (hk : KeyAt prog w h₀ k a) (hz : xs.length ≤ 1000) (hp : atKey xs k = some p) (h : ∀ h' o' t', Fr h₀ L h' m → News h₀ L h' (g o') → RowsObj prog w o' (dropK xs k) → Q p.2 { s with heap := h', toks := t' }) :
    wpAny (model prog w) A (call (.builtin "dict.pop") [.ref d, .ref a, v]) Q E s :=
  pop_T (more := [v]) hu F N U lo ho hks hk hz (.inl ⟨_, rfl⟩) (fun v' t' e _ => by rw [hp] at e; cases e) fun p' h' o' t' e F' N' r' => by rw [hp] at e; cases e; exact h h' o' t' F' N' r'
theorem notIn_Tb {bb : Bool} {Q : Value → Shared → Prop} (hu : A.units + 1 < cLine) (F : Fr h₀ L s.heap m) (hd : s.heap.get? d = some o) (lo : (d == sysModules) = false) (ho : RowsObj prog w o xs)
    (hks : ∀ x ∈ xs, KeyAt prog w h₀ x.1 x.2.1) (hk : KeyAt prog w h₀ k a) (hb : (atKey xs k).isSome = bb) (h : ∀ t', Q (.bool (!bb)) { s with toks := t' }) : wpAny (model prog w) A (compareOp .NotIn (.ref a) (.ref d)) Q E s :=
  notIn_T hu F hd lo ho hks hk fun t' => by rw [hb]; exact h t'
theorem led_ne {q : Addr} {oq : Obj} (N : News h₀ L h news) (hm : (a, o) ∈ news) (e : h₀.get? q = some oq) : @Ne Nat a q := fun x => by
  have := (N _ hm).2.2
  rw [show (a, o).1 = q from x, e] at this; cases this
end
end Mine
end
section
theorem Mine.off_02 : True := by
  w_top off
  trivial
namespace Mine
open PySem PySem.W PySem.Calls PySem.Spec PyProof.Rows

noncomputable abbrev Pk (i : Nat) : List Int := [4 * (i : Int), 2]
theorem Pk_inj {i j : Nat} : Pk i = Pk j ↔ i = j := by
  constructor
  · intro h; simp only [Pk, List.cons.injEq, and_true] at h; omega
  · rintro rfl; rfl

structure Row where
  i : Nat
  k : Addr
  l : Addr
  a : Addr
  v : Int
  st : Bool

noncomputable def Row.ent (x : Row) : List Int × Addr × Value := (Pk x.i, x.k, .ref x.l)
noncomputable def Row.fresh (x : Row) (l a : Addr) (v : Int) : Row := { x with l := l, a := a, v := v, st := false }

noncomputable def findR (xs : List Row) (i : Nat) : Option Row := xs.find? fun x => x.i == i
noncomputable def putR (xs : List Row) (i : Nat) (k l a : Addr) (v : Int) : List Row :=
  if (findR xs i).isSome then xs.map fun x => if x.i = i then x.fresh l a v else x else xs ++ [⟨i, k, l, a, v, false⟩]
noncomputable def dropR (xs : List Row) (i : Nat) : List Row := xs.filter fun x => !decide (x.i = i)

theorem ents_fst (xs : List Row) : (xs.map Row.ent).map (·.1) = xs.map fun x => Pk x.i := by rw [List.map_map]; rfl
theorem nodup_i {xs : List Row} (h : ((xs.map Row.ent).map (·.1)).Nodup) : (xs.map (·.i)).Nodup := by
  rw [ents_fst] at h
  have : (xs.map (·.i)).map Pk = xs.map fun x => Pk x.i := by rw [List.map_map]; rfl
  rw [← this] at h
  exact List.Pairwise.imp (fun h e => h (by rw [e])) (List.pairwise_map.mp h)

theorem atKey_ent (xs : List Row) (i : Nat) : atKey (xs.map Row.ent) (Pk i) = (findR xs i).map fun x => (x.k, Value.ref x.l) := by
  unfold atKey findR
  induction xs with
  | nil => rfl
  | cons x r ih =>
    rw [List.map_cons, List.find?_cons, List.find?_cons]
    by_cases q : x.i = i
    · have e1 : decide (x.ent.1 = Pk i) = true := decide_eq_true (by show Pk x.i = Pk i; rw [q])
      have e2 : (x.i == i) = true := beq_iff_eq.mpr q
      rw [e1, e2]; rfl
    · have e1 : decide (x.ent.1 = Pk i) = false := decide_eq_false (fun e => q (Pk_inj.mp e))
      have e2 : (x.i == i) = false := beq_eq_false_iff_ne.mpr q
      rw [e1, e2]; exact ih

theorem stored_ent (xs : List Row) (i : Nat) (k l a : Addr) (v : Int) : storedH (xs.map Row.ent) (Pk i) k (.ref l) = (putR xs i k l a v).map Row.ent := by
  unfold storedH putR
  rw [atKey_ent, Option.isSome_map]
  split
  · rw [List.map_map, List.map_map]
    refine List.map_congr_left fun x _ => ?_
    show putAt (Pk i) (Value.ref l) x.ent = Row.ent (if x.i = i then x.fresh l a v else x)
    unfold putAt
    by_cases q : x.i = i
    · rw [if_pos (by show Pk x.i = Pk i; rw [q]), if_pos q]; rfl
    · have e1 : ¬ x.ent.1 = Pk i := fun e => q (Pk_inj.mp e)
      rw [if_neg e1, if_neg q]
  · rw [List.map_append]; rfl

theorem drop_ent (xs : List Row) (i : Nat) : dropK (xs.map Row.ent) (Pk i) = (dropR xs i).map Row.ent := by
  unfold dropK dropR
  rw [List.filter_map]
  congr 1
  refine List.filter_congr fun x _ => ?_
  show (!decide (Pk x.i = Pk i)) = !decide (x.i = i)
  by_cases q : x.i = i
  · rw [decide_eq_true q, decide_eq_true (by rw [q])]
  · rw [decide_eq_false q, decide_eq_false (fun e => q (Pk_inj.mp e))]

noncomputable def IsMed (prog : Program) (w : World) (h : Heap) (a : Addr) (v : Int) : Prop := ∃ o t, h.get? a = some o ∧ o.IsDictOf (strKind prog w) [(Str.ofString "med", Value.int v t)]
theorem IsMed.keep {prog : Program} {w : World} {h h' : Heap} {a : Addr} {v : Int} (x : IsMed prog w h a v) (e : ∀ o, h.get? a = some o → h'.get? a = some o) : IsMed prog w h' a v :=
  let ⟨o, t, ho, r⟩ := x; ⟨o, t, e o ho, r⟩

noncomputable abbrev bkD (w : World) (t1 t2 : Tok) (r : Addr) (u : Value) : List DictEntry :=
  [⟨PyData.keyHash w.params (Str.ofString "rows"), .str (Str.ofString "rows") t1, .ref r⟩, ⟨PyData.keyHash w.params (Str.ofString "until"), .str (Str.ofString "until") t2, u⟩]

theorem put_until {w : World} {t1 t2 : Tok} {r : Addr} {u v k : Value} {hk : Int} {n : Nat} : (putL (Str.ofString "until") hk k v (bkD w t1 t2 r u), putN (Str.ofString "until") (bkD w t1 t2 r u) n) = (bkD w t1 t2 r v, n) := rfl
theorem put_rows {w : World} {t1 t2 : Tok} {r r' : Addr} {u k : Value} {hk : Int} {n : Nat} : (putL (Str.ofString "rows") hk k (.ref r') (bkD w t1 t2 r u), putN (Str.ofString "rows") (bkD w t1 t2 r u) n) = (bkD w t1 t2 r' u, n) := rfl

structure Bs (w : World) (mean : ExcName → Option Value) (mg mb : Str → Option Value) (H₀ : Heap) : Prop where
  X : (hd.heap_39 w.params).In H₀
  T : Top hd.view_39 (looseW hd.view_39 []) mean mg mb H₀

structure Book (prog : Program) (w : World) (P : Addr → Prop) (h : Heap) (b db r : Addr) (u : Value) (xs : List Row) : Prop where
  inst : h.get? b = some (instObj 85 db)
  dict : ∃ t1 t2 n, h.get? db = some (dictOf (bkD w t1 t2 r u) n)
  rows : ∃ o, h.get? r = some o ∧ RowsObj prog w o (xs.map Row.ent)
  keys : ∀ x ∈ xs, KeyAt prog w h (Pk x.i) x.k
  row : ∀ x ∈ xs, h.get? x.l = some (W.listOf #[.ref x.a, .bool x.st] 0)
  med : ∀ x ∈ xs, IsMed prog w h x.a x.v
  small : ∀ x ∈ xs, x.i < 4
  nd : (b :: db :: r :: xs.map (·.l)).Nodup
  own : ∀ a ∈ b :: db :: r :: (xs.map (·.l) ++ (xs.map (·.k) ++ xs.map (·.a))), P a

theorem Book.nodup {prog : Program} {w : World} {P : Addr → Prop} {h : Heap} {b db r : Addr} {u : Value} {xs : List Row} (B : Book prog w P h b db r u xs) : (xs.map (·.i)).Nodup := let ⟨_, _, x⟩ := B.rows; nodup_i x.nodup
theorem nodup_below : ∀ (n : Nat) (l : List Nat), l.Nodup → (∀ x ∈ l, x < n) → l.length ≤ n
  | 0, [], _, _ => Nat.le_refl _
  | 0, x :: r, _, h => absurd (h x (.head _)) (Nat.not_lt_zero _)
  | n + 1, l, hn, h => by
    have h1 := nodup_below n (l.erase n) (hn.erase n) fun x hx => by
      have h2 := h x (List.mem_of_mem_erase hx)
      have h3 : x ≠ n := fun e => by subst e; exact (List.Nodup.not_mem_erase hn) hx
      omega
    have h4 : l.length ≤ (l.erase n).length + 1 := by
      rw [List.length_erase]; split <;> omega
    omega
theorem nodup_small {l : List Nat} (hn : l.Nodup) (hs : ∀ x ∈ l, x < 4) : l.length ≤ 4 := nodup_below 4 l hn hs
theorem Book.len {prog : Program} {w : World} {P : Addr → Prop} {h : Heap} {b db r : Addr} {u : Value} {xs : List Row} (B : Book prog w P h b db r u xs) : xs.length ≤ 4 := by
  have := nodup_small B.nodup (fun x hx => by obtain ⟨y, hy, rfl⟩ := List.mem_map.mp hx; exact B.small y hy)
  simpa using this
end Mine
end
open PySem PySem.W PySem.Calls PySem.Spec PyProof.Rows Mine
section
theorem Mine.off_04 : True := by
  w_top off
  trivial
namespace Mine
open PySem PySem.W PySem.Calls PySem.Spec PyProof.Rows

structure Cx (w : World) (mean : ExcName → Option Value) (mg mb : Str → Option Value) (H₀ : Heap) (P : Addr → Prop) (A : Around) (h : Heap) (n : Nat) : Prop where
  B : Bs w mean mg mb H₀
  st : H₀.StaysIn h
  hP : ∀ a, P a → H₀.get? a = none ∧ 1 < a
  hF : ∀ a, h.get? a = none → 1 < a → P a
  dep : A.depth + n ≤ 900
  uni : A.units + 10 * n ≤ 9000
  hh : A.handled = none

theorem keep_none {mo : List (Addr × Obj)} {h g : Heap} {a : Addr} (KG : Keep (mo.map (·.1)) h g) (hg : g.get? a = none) (hm : ∀ p ∈ mo, p.1 ≠ a) : h.get? a = none := by
  cases q : h.get? a with
  | none => rfl
  | some o => 
    have := KG a o q fun m => by obtain ⟨p, hp, e⟩ := List.mem_map.mp m; exact hm p hp e
    rw [this] at hg; cases hg

theorem findR_mem {xs : List Row} {i : Nat} {x : Row} (h : findR xs i = some x) : x ∈ xs ∧ x.i = i := ⟨List.mem_of_find?_eq_some h, beq_iff_eq.mp (List.find?_some (p := fun y : Row => y.i == i) h)⟩
theorem findR_none {xs : List Row} {i : Nat} (h : findR xs i = none) : ∀ x ∈ xs, x.i ≠ i := fun x hx e => by
  have := List.find?_eq_none.mp h x hx
  exact this (beq_iff_eq.mpr e)
theorem putR_mem {xs : List Row} {i : Nat} {k l a : Addr} {v : Int} {y : Row} (h : y ∈ putR xs i k l a v) : (y ∈ xs ∧ y.i ≠ i) ∨ (y.i = i ∧ y.l = l ∧ y.a = a ∧ y.v = v ∧ y.st = false ∧ (y.k = k ∨ ∃ x ∈ xs, x.i = i ∧ y.k = x.k)) := by
  unfold putR at h
  split at h
  · obtain ⟨x, hx, rfl⟩ := List.mem_map.mp h
    by_cases q : x.i = i
    · rw [if_pos q]; exact .inr ⟨q, rfl, rfl, rfl, rfl, .inr ⟨x, hx, q, rfl⟩⟩
    · rw [if_neg q]; exact .inl ⟨hx, q⟩
  · rename_i hn
    rcases List.mem_append.mp h with h | h
    · exact .inl ⟨h, findR_none (by simpa using hn) y h⟩
    · rw [List.mem_singleton.mp h]; exact .inr ⟨rfl, rfl, rfl, rfl, rfl, .inl rfl⟩
theorem mapPut_nd {i : Nat} {l a : Addr} {v : Int} : ∀ {xs : List Row}, (xs.map (·.i)).Nodup → (xs.map (·.l)).Nodup → (∀ x ∈ xs, x.l ≠ l) → ((xs.map fun x => if x.i = i then x.fresh l a v else x).map (·.l)).Nodup
  | [], _, _, _ => List.nodup_nil
  | x :: r, hi, hn, hl => by
    rw [List.map_cons, List.nodup_cons] at hi hn
    have hl' : ∀ y ∈ r, y.l ≠ l := fun y hy => hl y (.tail _ hy)
    rw [List.map_cons, List.map_cons, List.nodup_cons]
    refine ⟨fun hm => ?_, mapPut_nd hi.2 hn.2 hl'⟩
    obtain ⟨y, hy, e⟩ := List.mem_map.mp hm
    obtain ⟨z, hz, rfl⟩ := List.mem_map.mp hy
    by_cases q : x.i = i
    · have q2 : z.i ≠ i := fun e' => hi.1 (by rw [q, ← e']; exact List.mem_map_of_mem hz)
      rw [if_pos q, if_neg q2] at e
      exact hl' z hz e
    · rw [if_neg q] at e
      by_cases q2 : z.i = i
      · rw [if_pos q2] at e
        exact hl x (.head _) e.symm
      · rw [if_neg q2] at e
        exact hn.1 (e ▸ List.mem_map_of_mem (f := fun x : Row => x.l) hz)
theorem putR_nd {xs : List Row} {i : Nat} {k l a : Addr} {v : Int} (hi : (xs.map (·.i)).Nodup) (hn : (xs.map (·.l)).Nodup) (hl : ∀ x ∈ xs, x.l ≠ l) : ((putR xs i k l a v).map (·.l)).Nodup := by
  unfold putR
  split
  · exact mapPut_nd hi hn hl
  · rw [List.map_append, List.nodup_append]
    refine ⟨hn, by simp, ?_⟩
    intro x hx y hy
    simp only [List.map_cons, List.map_nil, List.mem_singleton] at hy
    subst hy
    obtain ⟨z, hz, rfl⟩ := List.mem_map.mp hx
    exact hl z hz

section
variable {prog : Program} {w : World} {P : Addr → Prop} {h : Heap} {b db r : Addr} {u : Value} {xs : List Row}
theorem Book.p (B : Book prog w P h b db r u xs) : P b ∧ P db ∧ P r := ⟨B.own _ (.head _), B.own _ (.tail _ (.head _)), B.own _ (.tail _ (.tail _ (.head _)))⟩
theorem Book.pl (B : Book prog w P h b db r u xs) : ∀ x ∈ xs, P x.l ∧ P x.k ∧ P x.a := fun x hx =>
  ⟨B.own _ (.tail _ (.tail _ (.tail _ (List.mem_append_left _ (List.mem_map_of_mem hx))))), B.own _ (.tail _ (.tail _ (.tail _ (List.mem_append_right _ (List.mem_append_left _ (List.mem_map_of_mem hx)))))),
    B.own _ (.tail _ (.tail _ (.tail _ (List.mem_append_right _ (List.mem_append_right _ (List.mem_map_of_mem hx))))))⟩
theorem Book.ne (B : Book prog w P h b db r u xs) : (@Ne Nat b db) ∧ (@Ne Nat b r) ∧ (@Ne Nat db r) := by
  have n := B.nd
  simp only [List.nodup_cons, List.mem_cons, not_or] at n
  exact ⟨n.1.1, n.1.2.1, n.2.1.1⟩
theorem Book.nel (B : Book prog w P h b db r u xs) : ∀ x ∈ xs, (@Ne Nat b x.l) ∧ (@Ne Nat db x.l) ∧ (@Ne Nat r x.l) := fun x hx => by
  have n := B.nd
  simp only [List.nodup_cons, List.mem_cons, not_or] at n
  have m := List.mem_map_of_mem (f := fun x : Row => x.l) hx
  exact ⟨fun e => n.1.2.2 (e ▸ m), fun e => n.2.1.2 (e ▸ m), fun e => n.2.2.1 (e ▸ m)⟩
theorem Book.ndl (B : Book prog w P h b db r u xs) : (xs.map (·.l)).Nodup := by
  have n := B.nd
  simp only [List.nodup_cons] at n
  exact n.2.2.2
theorem ne_obj {a c : Addr} {o o' : Obj} (e : h.get? a = some o) (e' : h.get? c = some o') (n : o.cls ≠ o'.cls) : a ≠ c := fun q => by subst q; rw [e] at e'; cases e'; exact n rfl
theorem Book.nek (B : Book prog w P h b db r u xs) {c : Addr} {o : Obj} (hc : h.get? c = some o) (n1 : o.cls ≠ .ref 85) (n2 : o.cls ≠ .type "dict") : c ≠ b ∧ c ≠ db ∧ c ≠ r := by
  obtain ⟨_, _, _, hd⟩ := B.dict
  obtain ⟨_, hr, hro⟩ := B.rows
  exact ⟨ne_obj hc B.inst n1, ne_obj hc hd n2, ne_obj hc hr (by rw [hro.cls]; exact n2)⟩
theorem KeyAt.cls {k : List Int} {a : Addr} (x : KeyAt prog w h k a) : ∃ o, h.get? a = some o ∧ o.cls = .type "tuple" := let ⟨o, _, _, ho, hc, _⟩ := x; ⟨o, ho, hc⟩
theorem Book.key_ne (B : Book prog w P h b db r u xs) {k : List Int} {a : Addr} (x : KeyAt prog w h k a) : a ≠ b ∧ a ≠ db ∧ a ≠ r := by
  obtain ⟨o, ho, hc⟩ := x.cls
  exact B.nek ho (by rw [hc]; decide) (by rw [hc]; decide)
theorem med_entries {o : Obj} {v : Value} (x : o.IsDictOf (strKind prog w) [(Str.ofString "med", v)]) : ∃ es ep, o.data = .dict es ep ∧ ∃ e : DictEntry, es.toList = [e] ∧ ∃ y t, e.key = .str y t := by
  obtain ⟨es, ep, hc, hd, hk, hp, hn⟩ := x
  refine ⟨es, ep, hd, ?_⟩
  cases hq : es.toList with
  | nil => rw [hq] at hp; cases hp
  | cons e r =>
    rw [hq] at hp
    cases hp with
    | cons h1 h2 h3 =>
      cases h3
      obtain ⟨t, ht⟩ := Value.isStrOf_shape h1
      exact ⟨e, rfl, _, t, ht⟩
theorem med_ne_rows {o : Obj} {v : Value} {ys : List (List Int × Addr × Value)} (x : o.IsDictOf (strKind prog w) [(Str.ofString "med", v)]) (y : RowsObj prog w o ys) : False := by
  obtain ⟨es, ep, hd, e, he, z, t, hz⟩ := med_entries x
  obtain ⟨es', ep', _, hd', he', _⟩ := y
  rw [hd] at hd'
  cases hd'
  rw [he] at he'
  cases ys with
  | nil => cases he'
  | cons q qs =>
    rw [List.map_cons] at he'
    injection he' with h1 h2
    rw [h1] at hz
    cases hz
theorem med_ne_two {v : Value} {e1 e2 : DictEntry} {r : List DictEntry} {n : Nat} (x : (dictOf (e1 :: e2 :: r) n).IsDictOf (strKind prog w) [(Str.ofString "med", v)]) : False := by
  obtain ⟨es, ep, hd, e, he, _⟩ := med_entries x
  cases hd
  cases he
theorem Book.med_ne (B : Book prog w P h b db r u xs) {c : Addr} {v : Int} (x : IsMed prog w h c v) : c ≠ b ∧ c ≠ db ∧ c ≠ r := by
  obtain ⟨o, t, ho, hx⟩ := x
  obtain ⟨_, _, _, hd⟩ := B.dict
  obtain ⟨_, hr, hro⟩ := B.rows
  have hc : o.cls = .type "dict" := by obtain ⟨_, _, hc, _⟩ := hx; exact hc.1
  refine ⟨ne_obj ho B.inst (by rw [hc]; intro q; cases q), ?_, ?_⟩
  · rintro rfl; rw [ho] at hd; cases hd; exact med_ne_two hx
  · rintro rfl; rw [ho] at hr; cases hr; exact med_ne_rows hx hro

theorem keep_end {mo : List (Addr × Obj)} {h g h' : Heap} {L : Addr} {m : Str → Option Value} (KG : Keep (mo.map (·.1)) h g) (F : Fr g L h' m) : Keep (mo.map (·.1)) h h' := fun b o e n => F.keep b o (KG b o e n)
theorem keep_less {mo mo' : List Addr} {h h' : Heap} (K : Keep mo h h') (x : ∀ a ∈ mo, a ∈ mo' ∨ ∀ o, h.get? a = some o → h'.get? a = some o) : Keep mo' h h' := fun b o e n => by
  by_cases q : b ∈ mo
  · exact (x b q).elim (fun y => absurd y n) fun y => y o e
  · exact K b o e q
theorem keep_one {h h' : Heap} {a : Addr} {o : Obj} (e : h.get? a = some o) (e' : h'.get? a = some o) : ∀ o, h.get? a = some o → h'.get? a = some o := fun o' q => by rw [e] at q; cases q; exact e'
theorem fr_new {g h' : Heap} {L a : Addr} {m : Str → Option Value} {o : Obj} {news : List (Addr × Obj)} (N : News g L h' news) (hm : (a, o) ∈ news) : g.get? a = none := (N _ hm).2.2
theorem ne_fresh {a l : Addr} {o : Obj} (e : h.get? a = some o) (f : h.get? l = none) : a ≠ l := fun q => by subst q; rw [f] at e; cases e
theorem putR_all {xs : List Row} {i : Nat} {k l a : Addr} {v : Int} {Q : Row → Prop} (h0 : ∀ y ∈ xs, y.i ≠ i → Q y) (h1 : ∀ k', (k' = k ∨ ∃ x ∈ xs, x.i = i ∧ x.k = k') → Q ⟨i, k', l, a, v, false⟩) : ∀ y ∈ putR xs i k l a v, Q y := fun y hy => by
  rcases putR_mem hy with ⟨hy, n⟩ | ⟨q1, q2, q3, q4, q5, q6⟩
  · exact h0 y hy n
  · obtain ⟨i', k', l', a', v', st'⟩ := y
    dsimp only at q1 q2 q3 q4 q5 q6
    subst q1 q2 q3 q4 q5
    exact h1 k' (q6.imp id fun ⟨x, hx, e, e'⟩ => ⟨x, hx, e, e'.symm⟩)
theorem all_own {P : Addr → Prop} {b db r : Addr} {ys : List Row} (hb : P b) (hd : P db) (hr : P r) (h : ∀ y ∈ ys, P y.l ∧ P y.k ∧ P y.a) : ∀ a ∈ b :: db :: r :: (ys.map (·.l) ++ (ys.map (·.k) ++ ys.map (·.a))), P a := fun c hc => by
  rcases List.mem_cons.mp hc with rfl | hc
  · exact hb
  rcases List.mem_cons.mp hc with rfl | hc
  · exact hd
  rcases List.mem_cons.mp hc with rfl | hc
  · exact hr
  rcases List.mem_append.mp hc with m | m
  · obtain ⟨y, hy, rfl⟩ := List.mem_map.mp m; exact (h y hy).1
  rcases List.mem_append.mp m with m | m
  · obtain ⟨y, hy, rfl⟩ := List.mem_map.mp m; exact (h y hy).2.1
  · obtain ⟨y, hy, rfl⟩ := List.mem_map.mp m; exact (h y hy).2.2
theorem keep_31 {a b c : Addr} {oa ob : Obj} {h h' : Heap} (K : Keep [a, b, c] h h') (ha : h.get? a = some oa) (ha' : h'.get? a = some oa) (hb : h.get? b = some ob) (hb' : h'.get? b = some ob) : Keep [c] h h' := fun x o e n => by
  by_cases q : x = a
  · subst q; rw [ha] at e; cases e; exact ha'
  by_cases q2 : x = b
  · subst q2; rw [hb] at e; cases e; exact hb'
  · exact K x o e fun m => (List.mem_cons.mp m).elim q fun m => (List.mem_cons.mp m).elim q2 n
theorem Book.nel' {prog : Program} {w : World} {P : Addr → Prop} {h : Heap} {b db r : Addr} {u : Value} {xs : List Row} (B : Book prog w P h b db r u xs) : ∀ x ∈ xs, x.l ≠ b ∧ x.l ≠ db ∧ x.l ≠ r := fun x hx => ⟨Ne.symm (B.nel x hx).1, Ne.symm (B.nel x hx).2.1, Ne.symm (B.nel x hx).2.2⟩
theorem all_drop {α : Type} {Q : α → Prop} {a : α} {l : List α} (N : ∀ q ∈ a :: l, Q q) : ∀ q ∈ l, Q q := fun p hp => N p (.tail _ hp)
theorem ext1 {α β : Type} {ys : List α} {xs : List β} {y : α} {x : β} {i : Nat} {P : α → β → Prop} (ey : ys.length = i) (hx : xs[i]? = some x) (f : ∀ (j : Nat) y' x', ys[j]? = some y' → xs[j]? = some x' → P y' x') (h : P y x) : ∀ (j : Nat) y' x', (ys ++ [y])[j]? = some y' → xs[j]? = some x' → P y' x' := fun j y' x' e1 e2 => by
  by_cases q : j < ys.length
  · rw [List.getElem?_append_left q] at e1
    exact f j y' x' e1 e2
  · have hj : j = ys.length := by
      have := (List.getElem?_eq_some_iff.mp e1).1
      rw [List.length_append, List.length_singleton] at this
      omega
    subst hj
    rw [List.getElem?_append_right (Nat.le_refl _), Nat.sub_self] at e1
    rw [ey, hx] at e2
    cases e2
    cases e1
    exact h
theorem ext2 {α β : Type} {ys : List α} {xs : List β} {y : α} {x : β} {P : α → β → Prop} (l : ys.length = xs.length) (f : ∀ (j : Nat) y' x', ys[j]? = some y' → xs[j]? = some x' → P y' x') (h : P y x) : ∀ (j : Nat) y' x', (ys ++ [y])[j]? = some y' → (xs ++ [x])[j]? = some x' → P y' x' := fun j y' x' e1 e2 => by
  by_cases q : j < xs.length
  · rw [List.getElem?_append_left q] at e2
    rw [List.getElem?_append_left (l ▸ q)] at e1
    exact f j y' x' e1 e2
  · refine ext1 (xs := xs ++ [x]) l List.getElem?_concat_length (fun j' y' x' e1 e2 => ?_) h j y' x' e1 e2
    rw [List.getElem?_append_left (l ▸ (List.getElem?_eq_some_iff.mp e1).1)] at e2
    exact f j' y' x' e1 e2
theorem all1 {Q : Addr × Obj → Prop} {p : Addr × Obj} (h : Q p) : ∀ q ∈ [p], Q q := fun q hq => by rw [List.mem_singleton.mp hq]; exact h
theorem all2 {Q : Addr × Obj → Prop} {p : Addr × Obj} {r : List (Addr × Obj)} (h : Q p) (h' : ∀ q ∈ r, Q q) : ∀ q ∈ p :: r, Q q := List.forall_mem_cons.mpr ⟨h, h'⟩
theorem all2' {Q : Addr → Prop} {a b : Addr} (h : Q a) (h' : Q b) : ∀ q ∈ [a, b], Q q := fun q hq => by
  simp only [List.mem_cons, List.not_mem_nil, or_false] at hq
  rcases hq with rfl | rfl
  · exact h
  · exact h'
theorem Cx.big {mean : ExcName → Option Value} {mg mb : Str → Option Value} {H₀ : Heap} {A : Around} {n : Nat} {a l : Addr} (C : Cx w mean mg mb H₀ P A h n) (pa : P a) (hl : (a : Nat) < l) (f : h.get? l = none) : P l :=
  C.hF l f (Nat.lt_trans (C.hP a pa).2 hl)
theorem low_of {a : Nat} (h : 1 < a) : ((a : Addr) == sysModules) = false := beq_eq_false_iff_ne.mpr (Nat.ne_of_gt h)
theorem Book.sub {h' : Heap} {u' : Value} {xs' : List Row} (B : Book prog w P h b db r u xs) (K : Keep [b, db, r] h h') (hi : h'.get? b = some (instObj 85 db))
    (hd : ∃ t1 t2 n, h'.get? db = some (dictOf (bkD w t1 t2 r u') n)) (hr : ∃ o, h'.get? r = some o ∧ RowsObj prog w o (xs'.map Row.ent)) (hs : xs'.Sublist xs) : Book prog w P h' b db r u' xs' where
  inst := hi
  dict := hd
  rows := hr
  keys := fun x hx => (B.keys x (hs.subset hx)).keep fun o e => K _ o e (by have := B.key_ne (B.keys x (hs.subset hx)); simp [this])
  row := fun x hx => by
    have := B.nel x (hs.subset hx)
    exact K _ _ (B.row x (hs.subset hx)) (by simp; exact ⟨Ne.symm this.1, Ne.symm this.2.1, Ne.symm this.2.2⟩)
  med := fun x hx => (B.med x (hs.subset hx)).keep fun o e => K _ o e (by have := B.med_ne (B.med x (hs.subset hx)); simp [this])
  small := fun x hx => B.small x (hs.subset hx)
  nd := B.nd.sublist (.cons_cons _ (.cons_cons _ (.cons_cons _ (hs.map _))))
  own := fun a ha => by
    have sm : ∀ (f : Row → Addr) c, c ∈ xs'.map f → c ∈ xs.map f := fun f c hc => (hs.map f).subset hc
    simp only [List.mem_cons, List.mem_append] at ha
    rcases ha with rfl | rfl | rfl | ha | ha | ha
    · exact B.p.1
    · exact B.p.2.1
    · exact B.p.2.2
    · obtain ⟨y, hy, rfl⟩ := List.mem_map.mp (sm _ _ ha); exact (B.pl y hy).1
    · obtain ⟨y, hy, rfl⟩ := List.mem_map.mp (sm _ _ ha); exact (B.pl y hy).2.1
    · obtain ⟨y, hy, rfl⟩ := List.mem_map.mp (sm _ _ ha); exact (B.pl y hy).2.2
theorem dropR_none {i : Nat} (h : findR xs i = none) : dropR xs i = xs := List.filter_eq_self.mpr fun y hy => by
  have := findR_none h y hy
  simp [this]
end
end Mine
end
section
theorem Mine.off_05 : True := by
  w_top off
  trivial
namespace Mine
open PySem PySem.W PySem.Calls PySem.Spec PyProof.Rows

noncomputable def DictRaw (h : Heap) (d : Addr) (es : Array DictEntry) (ep : Nat) : Prop := ∃ o, h.get? d = some o ∧ o.ExactDict ∧ o.data = .dict es ep
theorem DictRaw.at {h h' : Heap} {d : Addr} {es : Array DictEntry} {ep : Nat} (x : DictRaw h d es ep) (e : ∀ o, h.get? d = some o → h'.get? d = some o) : DictRaw h' d es ep := let ⟨o, ho, r⟩ := x; ⟨o, e _ ho, r⟩
theorem DictRaw.typeIs {s : Shared} {d : Addr} {es : Array DictEntry} {ep : Nat} (x : DictRaw s.heap d es ep) : s.TypeIs (.ref d) "dict" := let ⟨o, ho, hc, _⟩ := x; ⟨o, ho, hc.1⟩
theorem DictRaw.lt {h : Heap} {d : Addr} {es : Array DictEntry} {ep : Nat} (x : DictRaw h d es ep) : d < h.objs.size := let ⟨_, ho, _⟩ := x; Heap.lt_size ho

section
variable {prog : Program} {w : World} {A : Around} {E : Value → Shared → Prop} {s : Shared} {d it : Addr} {es : Array DictEntry} {ep i : Nat}

theorem raw_iter {Q : Value → Shared → Prop} (lo : (d == sysModules) = false) (hm : DictRaw s.heap d es ep)
    (hQ : Q (.ref s.heap.objs.size) { s with heap := s.heap.push { cls := .type "dict_keyiterator", data := .fields #[.ref d, .int 0 0, .int es.size 0, .int ep 0] } }) :
    wpAny (model prog w) A (pyIter (.ref d)) Q E s := by
  have hT := hm.typeIs
  obtain ⟨o, ho, hc, hdat⟩ := hm
  refine wpAny_pyIter_slot hT PySem.F.slot_dict_iter (wpAny_call_entry PySem.F.slot_dict_iter hT PySem.F.entry_dict_iter ?_ (PySem.F.args_dict_iter_1 _))
  unfold Builtin.«dict.__iter__» Builtin.Dict.dictSlotNone Builtin.Dict.showsAll
  refine wpAny_bind (wpAny_bind (wpAny_notOrdered_dict hT ?_))
  show wpAny _ _ (pure (Value.ref d)) _ _ s
  refine wpAny_pure ?_
  show wpAny _ _ ((if (d == sysModules) = true then _ else _) >>= _) _ _ s
  rw [if_neg (by rw [lo]; exact Bool.false_ne_true)]
  refine wpAny_bind (wpAny_pure (wpAny_bind (wpAny_dictEntries ho hdat (wpAny_bind (wpAny_dictEpoch ho hdat ?_)))))
  exact wpAny_bind (wpAny_newObj_type (wpAny_pure ⟨_, rfl, "dict_keyiterator", _, ⟨_, Heap.get?_push_size _ rfl, rfl⟩, PySem.F.slot_dict_keyiterator_next.lookup, hQ⟩))

theorem raw_next {Q : Option Value → Shared → Prop} (hit : s.heap.IsKeyIter it d i es.size ep) (hm : DictRaw s.heap d es ep) (hi : i < es.size)
    (hQ : ∀ h', h'.IsKeyIter it d (i + 1) es.size ep → Heap.SameBut it s.heap h' → Q (some es[i].key) { s with heap := h' }) : wpAny (model prog w) A (pyNext (.ref it)) Q E s := by
  obtain ⟨o, ho, hc, hd⟩ := id hit
  obtain ⟨od, hod, hcd, hdd⟩ := hm
  unfold pyNext
  refine wpAny_bind (wpAny_attempt (wpAny_callSpecial?_slot (name := Str.ofString "__next__") hit.typeIs PySem.F.slot_dict_keyiterator_next
    (wpAny_call_entry PySem.F.slot_dict_keyiterator_next hit.typeIs PySem.F.entry_dict_keyiterator_next ?_ (PySem.F.args_dict_keyiterator_next_1 _))))
  refine wpAny_bind (wpAny_pure (wpAny_bind (wpAny_bind ?_)))
  first | refine wpAny_bind (wpAny_typeNameOfWhole_keyiter hit.typeIs (wpAny_pure ?_)) | refine wpAny_bind (wpAny_typeNameOf_keyiter hit.typeIs (wpAny_pure ?_))
  refine wpAny_bind (wpAny_fieldsOf ho hd ?_)
  simp -iota only [show Builtin.Dict_items.ownsTuple "dict_keyiterator" = false from by decide, Bool.false_eq_true, if_false]
  show wpAny _ _ (if (Value.ref d == Value.none) = true then _ else _) _ _ s
  rw [if_neg (show ¬ ((Value.ref d == Value.none) = true) from Bool.false_ne_true)]
  refine wpAny_bind (wpAny_pure (wpAny_bind (wpAny_dictEntries hod hdd ?_)))
  rw [if_neg (by simp)]
  refine wpAny_bind (wpAny_pure (wpAny_bind (wpAny_dictEpoch hod hdd ?_)))
  rw [if_neg (by simp)]
  refine wpAny_pure ?_
  dsimp only
  rw [show (if (i : Int) < 0 then none else es[(i : Int).toNat]?) = some es[i] from by rw [if_neg (by omega), Int.toNat_natCast, Array.getElem?_eq_getElem hi]]
  refine wpAny_bind ?_
  first | refine wpAny_bind (wpAny_typeNameOfWhole_keyiter hit.typeIs (wpAny_pure ?_)) | refine wpAny_bind (wpAny_typeNameOf_keyiter hit.typeIs (wpAny_pure ?_))
  refine wpAny_bind (wpAny_isOneOf_keyiter hit.typeIs ?_)
  show wpAny _ _ (setField (.ref it) 1 (rawInt ((i : Int) + 1)) >>= _) _ _ s
  refine wpAny_bind (wpAny_setField ho hd (by simp) ?_)
  have hit' : (s.heap.update it (Obj.mapFields (·.setIfInBounds 1 (rawInt ((i : Int) + 1))))).IsKeyIter it d (i + 1) es.size ep :=
    ⟨_, Heap.get?_update_self _ ho (Obj.isFreed_of_fields (Obj.data_mapFields hd _)), (Obj.cls_mapFields ..).trans hc, by rw [Obj.data_mapFields hd]; simp [rawInt]⟩
  refine wpAny_bind (wpAny_holding (wpAny_bind (wpAny_isOneOf_keyiter (s := { s with heap := s.heap.update it (Obj.mapFields (·.setIfInBounds 1 (rawInt ((i : Int) + 1)))) }) hit'.typeIs ?_)))
  show wpAny _ _ (pure es[i].key) _ _ _
  exact wpAny_pure (wpAny_pure ⟨_, rfl, wpAny_pure (hQ _ hit' (Heap.SameBut.update ..))⟩)

theorem raw_end {Q : Option Value → Shared → Prop} (hh : A.handled = none) (hit : s.heap.IsKeyIter it d es.size es.size ep) (hm : DictRaw s.heap d es ep)
    (hQ : ∀ h', Heap.ExtBut it s.heap h' → Q none { s with heap := h' }) : wpAny (model prog w) A (pyNext (.ref it)) Q E s := by
  obtain ⟨o, ho, hc, hd⟩ := id hit
  obtain ⟨od, hod, hcd, hdd⟩ := hm
  unfold pyNext
  refine wpAny_bind (wpAny_attempt (wpAny_callSpecial?_slot (name := Str.ofString "__next__") hit.typeIs PySem.F.slot_dict_keyiterator_next
    (wpAny_call_entry PySem.F.slot_dict_keyiterator_next hit.typeIs PySem.F.entry_dict_keyiterator_next ?_ (PySem.F.args_dict_keyiterator_next_1 _))))
  refine wpAny_bind (wpAny_pure (wpAny_bind (wpAny_bind ?_)))
  first | refine wpAny_bind (wpAny_typeNameOfWhole_keyiter hit.typeIs (wpAny_pure ?_)) | refine wpAny_bind (wpAny_typeNameOf_keyiter hit.typeIs (wpAny_pure ?_))
  refine wpAny_bind (wpAny_fieldsOf ho hd ?_)
  simp -iota only [show Builtin.Dict_items.ownsTuple "dict_keyiterator" = false from by decide, Bool.false_eq_true, if_false]
  show wpAny _ _ (if (Value.ref d == Value.none) = true then _ else _) _ _ s
  rw [if_neg (show ¬ ((Value.ref d == Value.none) = true) from Bool.false_ne_true)]
  refine wpAny_bind (wpAny_pure (wpAny_bind (wpAny_dictEntries hod hdd ?_)))
  rw [if_neg (by simp)]
  refine wpAny_bind (wpAny_pure (wpAny_bind (wpAny_dictEpoch hod hdd ?_)))
  rw [if_neg (by simp)]
  refine wpAny_pure ?_
  dsimp only
  rw [show (if (es.size : Int) < 0 then none else es[(es.size : Int).toNat]?) = none from by rw [if_neg (by omega), Int.toNat_natCast, Array.getElem?_eq_none (Nat.le_refl es.size)]]
  refine wpAny_bind ?_
  first | refine wpAny_bind (wpAny_typeNameOfWhole_keyiter hit.typeIs (wpAny_pure ?_)) | refine wpAny_bind (wpAny_typeNameOf_keyiter hit.typeIs (wpAny_pure ?_))
  show wpAny _ _ (setField (.ref it) 0 .none >>= _) _ _ s
  refine wpAny_bind (wpAny_setField ho hd (by simp) ?_)
  show wpAny _ _ (newExc (.type "StopIteration") [] >>= _) _ _ _
  refine wpAny_bind ?_
  simp only [newExc, newTuple]
  refine wpAny_bind (wpAny_newObj_type ?_ (by size_fits))
  refine wpAny_bind (m := firstArgMember _ _) (wpAny_of_eq (a := Value.none) (by first | rfl | (simp only [firstArgMember]; rfl)) ?_)
  refine wpAny_newObj_type ?_ (by size_fits)
  simp -iota only [raiseNew]
  refine wpAny_bind (wpAny_handled ?_)
  rw [show A.in1.handled = none from hh]
  refine wpAny_bind (wpAny_pure (wpAny_throw ?_))
  refine wpAny_bind (wpAny_isInstance (T := "StopIteration") (b := true) ⟨_, Heap.get?_push_size _ rfl, rfl⟩ isSubtype_stop ?_)
  exact wpAny_pure (hQ _ (((Heap.SameBut.update ..).extBut.push _).push _))

theorem raw_walks (hh : A.handled = none) (I : Addr) (hne : d ≠ I) (es : Array DictEntry) (ep : Nat) :
    Walks prog w A I [I, d] [I] es.size (fun i v => (es[i]?).map (·.key) = some v) (fun i h => h.IsKeyIter I d i es.size ep ∧ DictRaw h d es ep) where
  sub := fun b hb => by simp at hb; simp [hb]
  frame := fun _ _ _ st hk => ⟨st.1.at fun o e => hk I (by simp) o e, st.2.at fun o e => hk d (by simp) o e⟩
  item := fun i s Q E hi st hQ => by
    refine raw_next st.1 st.2 hi fun h' hit' hs' => ?_
    exact hQ _ h' s.toks (by simp [hi]) ⟨hit', st.2.at fun o e => hs'.extBut d o hne e⟩ fun b o hb e => hs'.extBut b o (fun h => hb (by simp [h])) e
  done := fun s Q E st hQ => raw_end hh st.1 st.2 fun h' he' => hQ h' s.toks fun b o hb e => he' b o (fun h => hb (by simp [h])) e
  self := fun _ _ _ _ st hQ => wpAny_pyIter_keyiter st.1 hQ

theorem raw_src (lo : (d == sysModules) = false) (es : Array DictEntry) (ep : Nat) : KdlSrc prog w "dict" d d es.size (fun i v => (es[i]?).map (·.key) = some v) (fun h => DictRaw h d es ep) where
  type := fun _ hm => hm.typeIs
  there := fun _ hm => ⟨hm.lt, hm.lt⟩
  keep := fun _ _ hm hk => hm.at fun o e => hk d (.inl rfl) o e
  notList := by decide
  notTuple := by decide
  hint := fun _ _ _ _ hm hq => kdl_hint_dict hm.typeIs hq
  iter := fun _ _ hh hm => ⟨_, _, (fun _ _ hq => raw_iter lo hm hq), raw_walks hh _ (Nat.ne_of_lt hm.lt) es ep, ⟨⟨_, Heap.get?_push_size _ rfl, rfl, rfl⟩, hm.at fun o e => Heap.get?_push_of_some _ e⟩⟩
end
end Mine
end
section
theorem Mine.off_06 : True := by
  w_top off
  trivial
namespace Mine
open PySem PySem.W PySem.Calls PySem.Spec PyProof.Rows

noncomputable def sortBy {α : Type} (f : α → Nat) (xs : List α) : List α := (List.range 4).flatMap fun i => xs.filter fun x => f x == i
theorem sortBy_map {α β : Type} (f : β → Nat) (g : α → β) (xs : List α) : sortBy f (xs.map g) = (sortBy (fun x => f (g x)) xs).map g := by
  unfold sortBy
  rw [List.map_flatMap]
  congr 1
  funext i
  rw [List.filter_map]; rfl
theorem sortBy_congr {α : Type} {f g : α → Nat} {xs : List α} (h : ∀ x ∈ xs, f x = g x) : sortBy f xs = sortBy g xs := by
  unfold sortBy
  congr 1
  funext i
  exact List.filter_congr fun x hx => by rw [h x hx]

theorem sortBy_mem {α : Type} {f : α → Nat} {xs : List α} {x : α} (h : x ∈ sortBy f xs) : x ∈ xs := by
  obtain ⟨i, _, hi⟩ := List.mem_flatMap.mp h
  exact (List.mem_filter.mp hi).1
theorem findR_of {xs : List Row} (hn : (xs.map (·.i)).Nodup) {x : Row} (hx : x ∈ xs) : findR xs x.i = some x := by
  induction xs with
  | nil => cases hx
  | cons y r ih =>
    rw [List.map_cons, List.nodup_cons] at hn
    unfold findR
    rw [List.find?_cons]
    rcases List.mem_cons.mp hx with rfl | hx
    · simp
    · have : (y.i == x.i) = false := beq_eq_false_iff_ne.mpr fun e => hn.1 (by rw [e]; exact List.mem_map_of_mem hx)
      rw [this]; exact ih hn.2 hx

theorem sortBy_length {α : Type} (f : α → Nat) (xs : List α) : (sortBy f xs).length ≤ xs.length := by
  have e : ∀ ys : List α, sortBy f ys = ys.filter (fun x => f x == 0) ++ (ys.filter (fun x => f x == 1) ++ (ys.filter (fun x => f x == 2) ++ (ys.filter (fun x => f x == 3) ++ []))) := fun _ => rfl
  induction xs with
  | nil => exact Nat.le_refl _
  | cons x xs ih =>
    rw [e] at ih ⊢
    simp only [List.length_append, List.length_nil, List.filter_cons, List.length_cons] at ih ⊢
    by_cases h0 : f x = 0
    · simp [h0] at ih ⊢; omega
    · by_cases h1 : f x = 1
      · simp [h1] at ih ⊢; omega
      · by_cases h2 : f x = 2
        · simp [h2] at ih ⊢; omega
        · by_cases h3 : f x = 3
          · simp [h3] at ih ⊢; omega
          · simp [h0, h1, h2, h3] at ih ⊢; omega

noncomputable def evalK {α : Type} (n : Nat) (lt : Nat → Nat → Bool) : KasT α → Option α
  | .ret a => some a
  | .ask i j k => if i < n ∧ j < n then evalK n lt (k (lt i j)) else none
noncomputable def allL : Nat → List (List Nat)
  | 0 => [[]]
  | n + 1 => (allL n).flatMap fun l => (List.range 4).map (· :: l)
theorem allL_mem : ∀ (l : List Nat), (∀ x ∈ l, x < 4) → l ∈ allL l.length
  | [], _ => List.mem_singleton.mpr rfl
  | x :: r, h => List.mem_flatMap.mpr ⟨r, allL_mem r fun y hy => h y (.tail _ hy), List.mem_map.mpr ⟨x, List.mem_range.mpr (h x (.head _)), rfl⟩⟩
noncomputable def sortsOk (l : List Nat) : Bool := match evalK l.length (fun i j => decide (l.getD i 0 < l.getD j 0)) (kas_sort l.length) with
  | some p => decide (p.toList = sortBy (fun j => l.getD j 0) (List.range l.length)) && decide (p.size = l.length)
  | none => false
theorem sorts2 : (allL 2).all sortsOk = true := by decide +kernel
theorem sorts3 : (allL 3).all sortsOk = true := by decide +kernel
theorem sorts4 : (allL 4).all sortsOk = true := by decide +kernel
theorem sorts_ok {l : List Nat} (h2 : 2 ≤ l.length) (h4 : l.length ≤ 4) (hs : ∀ x ∈ l, x < 4) : sortsOk l = true := by
  have hm := allL_mem l hs
  have : l.length = 2 ∨ l.length = 3 ∨ l.length = 4 := by omega
  rcases this with e | e | e <;> rw [e] at hm
  · exact List.all_eq_true.mp sorts2 l hm
  · exact List.all_eq_true.mp sorts3 l hm
  · exact List.all_eq_true.mp sorts4 l hm

theorem eval_wp {α : Type} {n : Nat} {lt : Nat → Nat → Bool} {cmp : Nat → Nat → (Bool → Shared → Prop) → Shared → Prop} {Q : α → Shared → Prop} {s : Shared} (hc : ∀ i j C, i < n → j < n → C (lt i j) s → cmp i j C s) :
    ∀ (t : KasT α) (a : α), evalK n lt t = some a → Q a s → t.kasWp cmp Q s
  | .ret b, a, e, h => by
    cases e; exact h
  | .ask i j k, a, e, h => by
    replace e : (if i < n ∧ j < n then evalK n lt (k (lt i j)) else none) = some a := e
    split at e
    · rename_i q
      exact hc i j _ q.1 q.2 (eval_wp hc (k (lt i j)) a e h)
    · cases e

theorem map_range_getD {α : Type} (l : List α) (d : α) : (List.range l.length).map (fun i => l.getD i d) = l := by
  apply List.ext_getElem
  · simp
  · intro i h1 h2
    simp [List.getD, h2]

section
variable {prog : Program} {w : World} {A : Around} {E : Value → Shared → Prop} {s : Shared} {h₀ : Heap} {L a d : Addr} {m : Str → Option Value} {news : List (Addr × Obj)} {ks : List (Nat × Addr)}

noncomputable abbrev refsOf (ks : List (Nat × Addr)) : List Value := ks.map fun x => Value.ref x.2

theorem key_seq {h : Heap} {i : Nat} {c : Addr} (x : KeyAt prog w h (Pk i) c) : ∃ o n t u, h.get? c = some o ∧ o.cls = .type "tuple" ∧ o.data = .seq #[.int (4 * (i : Int)) t, .int 2 u] n := by
  obtain ⟨o, its, n, ho, hc, hd, hi⟩ := x
  obtain ⟨l⟩ := its
  cases hi with
  | cons h1 h2 =>
    cases h2 with
    | cons h3 h4 =>
      cases h4
      obtain ⟨t, rfl⟩ := Value.isInt_shape h1
      obtain ⟨u, rfl⟩ := Value.isInt_shape h3
      exact ⟨o, n, t, u, ho, hc, hd⟩

theorem keys_tups {h : Heap} : ∀ {ks : List (Nat × Addr)}, (∀ x ∈ ks, KeyAt prog w h (Pk x.1) x.2) → ∃ fs, KatTups h (refsOf ks) fs ∧ fs.length = ks.length ∧ ∀ v ∈ fs, ∃ z t, v = Value.int z t
  | [], _ => ⟨[], KatTups.nil, rfl, fun _ h => nomatch h⟩
  | x :: r, hk => by
    obtain ⟨fs, h1, h2, h3⟩ := keys_tups (ks := r) fun y hy => hk y (.tail _ hy)
    obtain ⟨o, n, t, u, ho, hc, hd⟩ := key_seq (hk x (.head _))
    exact ⟨_ :: fs, KatTups.cons ho hc hd rfl h1, by simp [h2], List.forall_mem_cons.mpr ⟨⟨_, t, rfl⟩, h3⟩⟩

theorem lt_keys {x y : Addr} {i j : Nat} {Q : Bool → Shared → Prop} (hx : KeyAt prog w s.heap (Pk i) x) (hy : KeyAt prog w s.heap (Pk j) y) (h : Q (decide (i < j)) s) :
    wpAny (model prog w) A (keyLt' (tuples' true) (.ref x) (.ref y)) Q E s := by
  obtain ⟨ox, n, t, u, hox, _, hdx⟩ := key_seq hx
  obtain ⟨oy, n', t', u', hoy, _, hdy⟩ := key_seq hy
  refine kat_lt hox hdx hoy hdy ?_
  show KatLex prog w A true _ Q [(Value.int (4 * (i : Int)) t, Value.int (4 * (j : Int)) t'), (Value.int 2 u, Value.int 2 u')] 0 s
  refine kat_cons (wpAny_eqBool_int ?_)
  by_cases e : (4 * (i : Int)) = 4 * (j : Int)
  · have e1 : (4 * (i : Int) == 4 * (j : Int)) = true := beq_iff_eq.mpr e
    rw [e1]
    refine kat_yes (kat_cons (wpAny_eqBool_int ?_))
    rw [show ((2 : Int) == 2) = true from rfl]
    refine kat_yes (kat_nil ?_)
    have : decide (i < j) = false := decide_eq_false (by omega)
    rw [this] at h
    exact h
  · have e1 : (4 * (i : Int) == 4 * (j : Int)) = false := beq_eq_false_iff_ne.mpr e
    rw [e1]
    refine kat_no ?_
    show wpAny _ _ (oneLt' true _ _) _ _ _
    refine oneLt_int ?_
    have : decide (4 * (i : Int) < 4 * (j : Int)) = decide (i < j) := by
      by_cases q : i < j
      · rw [decide_eq_true q, decide_eq_true (by omega)]
      · rw [decide_eq_false q, decide_eq_false (by omega)]
    rw [this]; exact h

theorem sort_big {n : Nat} {P : PySem.Fin → Shared → Prop} (F : Fr h₀ L s.heap m) (N : News h₀ L s.heap news) (ho : s.heap.get? a = some (seqObj "list" (refsOf ks).toArray n)) (haL : a ≠ L) (ha0 : h₀.get? a = none) (hna : ∀ p ∈ news, p.1 ≠ a)
    (hk : ∀ x ∈ ks, KeyAt prog w h₀ (Pk x.1) x.2) (hs : ∀ x ∈ ks, x.1 < 4) (h2 : 2 ≤ ks.length) (h4 : ks.length ≤ 4)
    (h : ∀ h' c, Fr h₀ L h' m → News h₀ L h' ((a, W.listOf (refsOf (sortBy (·.1) ks)).toArray c) :: news) → P (.done (.ret .none)) { s with heap := h' }) :
    wpAny (model prog w) A (Builtin.«list.sort» ⟨[.ref a], []⟩) P E s := by
  refine kat_list_sort (vs := refsOf ks) F N ho haL ha0 hna (by rw [List.length_map]; exact h2) (by rw [List.length_map]; omega) fun e1 h' F' N' => ?_
  have hk' : ∀ x ∈ ks, KeyAt prog w h' (Pk x.1) x.2 := fun x hx => (hk x hx).keep fun o => F'.keep _ o
  obtain ⟨fs, t, hl, hi⟩ := keys_tups hk'
  refine kat_kind (T := .type "int") t (by omega) (fun v hv => by obtain ⟨z, u, rfl⟩ := hi v hv; exact Looks.of_pure rfl) rfl ?_
  have hok := sorts_ok (l := ks.map (·.1)) (by rw [List.length_map]; exact h2) (by rw [List.length_map]; exact h4) fun y hy => by obtain ⟨x, hx, rfl⟩ := List.mem_map.mp hy; exact hs x hx
  unfold sortsOk at hok
  rw [List.length_map] at hok
  split at hok
  · rename_i p he
    rw [Bool.and_eq_true, decide_eq_true_eq, decide_eq_true_eq] at hok
    rw [List.length_map]
    refine eval_wp (n := ks.length) (fun i j C hi hj hC => ?_) _ p he ?_
    · have gi : (refsOf ks).getD i Value.none = .ref ks[i].2 := by simp [List.getD, hi]
      have gj : (refsOf ks).getD j Value.none = .ref ks[j].2 := by simp [List.getD, hj]
      have li : (ks.map (·.1)).getD i 0 = ks[i].1 := by simp [List.getD, hi]
      have lj : (ks.map (·.1)).getD j 0 = ks[j].1 := by simp [List.getD, hj]
      show wpAny _ _ (keyLt' _ ((refsOf ks).getD i Value.none) ((refsOf ks).getD j Value.none)) _ _ _
      rw [gi, gj]
      rw [li, lj] at hC
      exact lt_keys (hk' _ (List.getElem_mem hi)) (hk' _ (List.getElem_mem hj)) hC
    · refine KasFin.intro F' N' (UpdF.head fun q hq => hna q hq) fun h'' c F'' N'' => ?_
      refine h h'' c F'' ?_
      have e : (p.toList.map fun i => (refsOf ks).getD i Value.none) = refsOf (sortBy (·.1) ks) := by
        rw [hok.1]
        have e1 : ks = (List.range ks.length).map fun i => ks.getD i (0, 0) := (map_range_getD ks (0, 0)).symm
        have e2 : sortBy (fun x : Nat × Addr => x.1) ks = (sortBy (fun j => (ks.map (·.1)).getD j 0) (List.range ks.length)).map fun i => ks.getD i (0, 0) := by
          conv => lhs; rw [e1]
          rw [sortBy_map]
          congr 1
          refine sortBy_congr fun j hj => ?_
          have hj' := List.mem_range.mp hj
          simp [List.getD, hj']
        rw [e2]
        show _ = List.map _ (List.map _ _)
        rw [List.map_map]
        refine List.map_congr_left fun j hj => ?_
        have hj' : j < ks.length := by
          obtain ⟨i, _, hi⟩ := List.mem_flatMap.mp hj
          exact List.mem_range.mp (List.mem_filter.mp hi).1
        simp [List.getD, hj']
      rw [e] at N''
      exact N''
  · cases hok
theorem sortBy_small {α : Type} {f : α → Nat} {xs : List α} (h : xs.length < 2) (hs : ∀ x ∈ xs, f x < 4) : sortBy f xs = xs := by
  rcases le_one (Nat.le_of_lt_succ h) with rfl | ⟨x, rfl⟩
  · rfl
  · have hx := hs x (.head _)
    have := lt_four hx
    unfold sortBy
    rw [show List.range 4 = [0, 1, 2, 3] from rfl]
    rcases this with e | e | e | e <;> simp [List.filter_cons, e]

theorem sort_small {n : Nat} {vs : List Value} {P : PySem.Fin → Shared → Prop} (F : Fr h₀ L s.heap m) (N : News h₀ L s.heap news) (ho : s.heap.get? a = some (seqObj "list" vs.toArray n)) (haL : a ≠ L) (ha0 : h₀.get? a = none) (hna : ∀ p ∈ news, p.1 ≠ a)
    (h2 : vs.length < 2) (h : ∀ h' c, Fr h₀ L h' m → News h₀ L h' ((a, W.listOf vs.toArray c) :: news) → P (.done (.ret .none)) { s with heap := h' }) :
    wpAny (model prog w) A (Builtin.«list.sort» ⟨[.ref a], []⟩) P E s := by
  have ha : a < s.heap.objs.size := Heap.lt_size ho
  have s1 := Heap.SameBut.update s.heap a (Obj.mapSeq fun _ => (#[] : Array Value))
  obtain ⟨e1, ho1⟩ : ∃ e1, (s.heap.update a (Obj.mapSeq fun _ => (#[] : Array Value))).get? a = some (seqObj "list" #[] e1) := ⟨_, get?_update_seq ho fun _ => #[]⟩
  have F3 : Fr h₀ L (((s.heap.update a (Obj.mapSeq fun _ => (#[] : Array Value))).push (seqObj "tuple" vs.toArray 0)).push (seqObj "list" #[] 0)) m := ((kas_fr F s1 haL ha0).push _).push _
  have N2 : News h₀ L (((s.heap.update a (Obj.mapSeq fun _ => (#[] : Array Value))).push (seqObj "tuple" vs.toArray 0)).push (seqObj "list" #[] 0)) news :=
    (kas_news N s1 hna).grown fun b x e => Heap.get?_push_of_some _ (Heap.get?_push_of_some _ e)
  have ho3 : (((s.heap.update a (Obj.mapSeq fun _ => (#[] : Array Value))).push (seqObj "tuple" vs.toArray 0)).push (seqObj "list" #[] 0)).get? a = some (seqObj "list" #[] e1) := Heap.get?_push_of_some _ (Heap.get?_push_of_some _ ho1)
  have s2 := Heap.SameBut.update (((s.heap.update a (Obj.mapSeq fun _ => (#[] : Array Value))).push (seqObj "tuple" vs.toArray 0)).push (seqObj "list" #[] 0)) a (Obj.mapSeq fun _ => vs.toArray)
  obtain ⟨c2, hc2⟩ : ∃ c2, ((((s.heap.update a (Obj.mapSeq fun _ => (#[] : Array Value))).push (seqObj "tuple" vs.toArray 0)).push (seqObj "list" #[] 0)).update a (Obj.mapSeq fun _ => vs.toArray)).get? a = some (seqObj "list" vs.toArray c2) := ⟨_, get?_update_seq ho3 fun _ => vs.toArray⟩
  rw [list_sort_plain]
  refine wpAny_bind (listItems_at ho rfl ?_)
  refine wpAny_bind (listUpdate_at ho rfl ?_ (by rw [List.size_toArray, sizeLine_eq]; omega) (Nat.zero_le _))
  refine wpAny_bind (seqEpoch_at ho1 rfl ?_)
  refine wpAny_bind (wpAny_newTuple ?_ (by show vs.length ≤ _; rw [sizeLine_eq]; omega))
  refine wpAny_bind (wpAny_newList ?_ (Nat.zero_le _))
  refine wpAny_holding ?_
  show wpAny (model prog w) A _ P E { s with heap := ((s.heap.update a (Obj.mapSeq fun _ => (#[] : Array Value))).push (seqObj "tuple" vs.toArray 0)).push (seqObj "list" #[] 0) }
  dsimp only
  have hn2 : vs.toArray.size < 2 := by rw [List.size_toArray]; exact h2
  rw [if_pos hn2, if_pos hn2]
  refine wpAny_bind (wpAny_pure ?_)
  rw [StateT.run_pure]
  refine wpAny_bind (wpAny_pure ?_)
  dsimp only
  have hout : (arrOf (SortSt.mk' general' (vs.toArray.zip vs.toArray) #[] 7 none)).map (·.2) = vs.toArray := by
    show ((vs.toArray.zip vs.toArray).map (·.2)) = vs.toArray
    apply Array.toList_inj.mp
    rw [Array.toList_map, Array.toList_zip, List.map_snd_zip]
    exact Nat.le_refl _
  refine wpAny_bind (seqEpoch_at ho3 rfl ?_)
  rw [hout]
  refine wpAny_bind (listUpdate_at ho3 rfl ?_ (Nat.zero_le _) (by show vs.toArray.size ≤ _; rw [List.size_toArray, sizeLine_eq]; omega))
  simp only [bne_self_eq_false, Bool.false_eq_true, if_false]
  refine wpAny_pure (h _ c2 (kas_fr F3 s2 haL ha0) fun q hq => ?_)
  rcases List.mem_cons.mp hq with rfl | hq
  · exact ⟨hc2, haL, ha0⟩
  · exact ⟨(s2.2 _ (hna q hq)).trans (N2 q hq).1, (N2 q hq).2⟩

theorem sort_keys {n : Nat} {P : PySem.Fin → Shared → Prop} (F : Fr h₀ L s.heap m) (N : News h₀ L s.heap news) (ho : s.heap.get? a = some (seqObj "list" (refsOf ks).toArray n)) (haL : a ≠ L) (ha0 : h₀.get? a = none) (hna : ∀ p ∈ news, p.1 ≠ a)
    (hk : ∀ x ∈ ks, KeyAt prog w h₀ (Pk x.1) x.2) (hs : ∀ x ∈ ks, x.1 < 4) (h4 : ks.length ≤ 4)
    (h : ∀ h' c, Fr h₀ L h' m → News h₀ L h' ((a, W.listOf (refsOf (sortBy (·.1) ks)).toArray c) :: news) → P (.done (.ret .none)) { s with heap := h' }) :
    wpAny (model prog w) A (Builtin.«list.sort» ⟨[.ref a], []⟩) P E s := by
  by_cases h2 : 2 ≤ ks.length
  · exact sort_big F N ho haL ha0 hna hk hs h2 h4 h
  · refine sort_small F N ho haL ha0 hna (by rw [List.length_map]; omega) fun h' c F' N' => h h' c F' ?_
    rw [sortBy_small (by omega) hs]; exact N'

theorem sorted_D {Q : Value → Shared → Prop} {o : Obj} {xs : List (List Int × Addr × Value)} (hh : A.handled = none) (F : Fr h₀ L s.heap m) (N : News h₀ L s.heap news) (hd : s.heap.get? d = some o) (lo : (d == sysModules) = false) (ho : RowsObj prog w o xs)
    (hx : xs.map (fun x => (x.1, x.2.1)) = ks.map fun x => (Pk x.1, x.2)) (hk : ∀ x ∈ ks, KeyAt prog w h₀ (Pk x.1) x.2) (hs : ∀ x ∈ ks, x.1 < 4) (h4 : ks.length ≤ 4)
    (h : ∀ D c h' t', Fr h₀ L h' m → News h₀ L h' ((D, W.listOf (refsOf (sortBy (·.1) ks)).toArray c) :: news) → (∀ q ∈ news, q.1 < D) → Q (.ref D) { s with heap := h', toks := t' }) :
    wpAny (model prog w) A (call (.builtin "sorted") [.ref d]) Q E s := by
  obtain ⟨es, ep, hc, hdat, he, hn⟩ := ho
  have hz : es.size = ks.length := by
    have e1 := congrArg List.length he
    have e2 := congrArg List.length hx
    simp only [List.length_map, Array.length_toList] at e1 e2
    omega
  refine kdu_sorted (raw_src lo es ep) hh F N ⟨o, hd, hc, hdat⟩ (by rw [hz, sizeLine_eq]; omega) fun D h' tk vs F' N' l1 hl hv => ?_
  have hvs : vs = refsOf ks := by
    apply List.ext_getElem
    · rw [hl, hz, List.length_map]
    · intro j h1 h2
      have e1 := hv j vs[j] (List.getElem?_eq_getElem h1)
      have e2 : es.toList[j]? = es[j]? := Array.getElem?_toList
      rw [← e2, he, List.getElem?_map] at e1
      have h3 : j < ks.length := by rw [List.length_map] at h2; exact h2
      have e3 : (xs.map fun x => (x.1, x.2.1))[j]? = some (Pk ks[j].1, ks[j].2) := by rw [hx, List.getElem?_map, List.getElem?_eq_getElem h3]; rfl
      rw [List.getElem?_map] at e3
      obtain ⟨x, hx1, hx2⟩ := Option.map_eq_some_iff.mp e3
      rw [hx1] at e1
      simp only [Option.map_some, Option.some.injEq] at e1
      rw [← e1, List.getElem_map]
      show Value.ref x.2.1 = Value.ref ks[j].2
      rw [(Prod.mk.inj hx2).2]
  subst hvs
  have nD := N' _ (.head _)
  have N₀ : News h₀ L h' news := fun q hq => N' q (.tail _ hq)
  refine wpAny_call_entry slot_list_sort ⟨_, nD.1, rfl⟩ entry_list_sort (sort_keys (s := { s with heap := h', toks := tk }) F' N₀ nD.1 nD.2.1 nD.2.2 (fun q hq => Nat.ne_of_lt (l1 q hq)) hk hs h4 fun h'' c F'' N'' => ?_) (args_list_sort _)
  exact ⟨_, rfl, h D c h'' tk F'' N'' l1⟩
end
end Mine
end
section
theorem Mine.off_07 : True := by
  w_top off
  trivial
namespace Mine
open PySem PySem.W PySem.Calls PySem.Spec PyProof.Rows

section
variable {prog : Program} {w : World} {A : Around} {E : Value → Shared → Prop} {s : Shared} {h₀ : Heap} {L : Addr} {m : Str → Option Value} {news : List (Addr × Obj)} {env : Env}

theorem fr_all {h h' : Heap} {L : Addr} {m : Str → Option Value} {h₀ : Heap} (F : Fr h₀ L h m) (k : ∀ b o, h.get? b = some o → h'.get? b = some o) : Fr h₀ L h' m := ⟨F.ns.keeps k, fun b o e => k b o (F.keep b o e), F.above⟩
theorem news_all {h h' : Heap} {L : Addr} {news : List (Addr × Obj)} {h₀ : Heap} (N : News h₀ L h news) (k : ∀ b o, h.get? b = some o → h'.get? b = some o) : News h₀ L h' news := fun p hp => ⟨k _ _ (N p hp).1, (N p hp).2⟩
theorem none_base {h : Heap} {L a : Addr} {m : Str → Option Value} {h₀ : Heap} (F : Fr h₀ L h m) (e : h.get? a = none) : h₀.get? a = none := by
  cases q : h₀.get? a with
  | none => rfl
  | some o => rw [F.keep a o q] at e; cases e
theorem none_L {h : Heap} {L a : Addr} {m : Str → Option Value} {h₀ : Heap} (F : Fr h₀ L h m) (e : h.get? a = none) : a ≠ L := fun q => by
  obtain ⟨o, _, _, ho, _⟩ := F.ns
  rw [q, ho] at e; cases e

theorem paired_eq {α : Type} {l₁ l₂ : List α} (x : Paired (fun a b => b = a) l₁ l₂) : l₂ = l₁ := by
  induction x with
  | nil => rfl
  | cons h _ ih => rw [h, ih]

theorem comp_pick {iter test : Expr} {x : Str} {px px' : Pos} {scope : Scope} {cl : List (Str × Addr)} {pos : Pos} {Q : Value → Shared → Prop} {l : Addr} {vs : List Value} (p : Value → Bool)
    (hh : A.handled = none) (F : Fr h₀ L s.heap m) (N : News h₀ L s.heap news)
    (hclos : closureFor scope env = pure cl) (hcell : ∀ y ∈ scope.names, y.2 ≠ .cell) (hkind : scope.kind = .function)
    (hnames : ∀ y ∈ scope.names, y.2 = .local → scope.names.lookup y.1 = some .local) (hx : scope.names.lookup x = some .local) (hb : (x == ("__debug__" : Str)) = false)
    (hit : ∀ Q : Value → Shared → Prop, Q (.ref l) s → wpAny (model prog w) A (eval iter env) Q E s) (hl : s.heap.IsList l vs.toArray) (hsz : vs.length ≤ 1000)
    (htest : ∀ C v (s₃ : Shared) m₃ (E' : Value → Shared → Prop) (Q' : Bool → Shared → Prop), v ∈ vs → Fr s.heap C s₃.heap m₃ → m₃ x = some v → (∀ h₄ tk', (∀ b o, s₃.heap.get? b = some o → h₄.get? b = some o) → Q' (p v) { s₃ with heap := h₄, toks := tk' }) →
      wpAny (model prog w) A (isTrue test (compEnvC scope cl C env) (eval test (compEnvC scope cl C env))) Q' E' s₃)
    (h : ∀ D c h' tk, Fr h₀ L h' m → News h₀ L h' ((D, W.listOf (vs.filter p).toArray c) :: news) → s.heap.get? D = none → (∀ b o, s.heap.get? b = some o → h'.get? b = some o) → Q (.ref D) { s with heap := h', toks := tk })
    (hs : ∀ x, foldedSetIterable iter env x = pure x := by intro _; rfl) :
    wpAny (model prog w) A (eval (.ListComp (.Name x px') [⟨.Name x px, iter, [test], 0⟩] scope pos) env) Q E s := by
  have hlt : l < s.heap.objs.size := by obtain ⟨_, e, _⟩ := hl; exact Heap.lt_size e
  refine wpAny_ListComp_free p (fun v y => y = v) hclos hcell hkind hnames hx (hit _ (wpAny_pyIter_list hl ?_)) hs
  have up : ∀ b o, s.heap.get? b = some o → (s.heap.push { cls := .type "list_iterator", data := .fields #[.ref l, .int 0 0] }).get? b = some o := fun b o e => Heap.get?_push_of_some _ e
  have lift : ∀ {h₃ : Heap}, (∀ b o, b ∉ [s.heap.objs.size] → (s.heap.push { cls := .type "list_iterator", data := .fields #[.ref l, .int 0 0] }).get? b = some o → h₃.get? b = some o) → ∀ b o, s.heap.get? b = some o → h₃.get? b = some o :=
    fun k b o e => k b o (by simp only [List.mem_singleton]; exact Nat.ne_of_lt (Heap.lt_size e)) (up b o e)
  refine ⟨_, _, _, _, _, _, rfl, Walks.list hh s.heap.objs.size l (Nat.ne_of_lt hlt) vs.toArray, by rw [List.size_toArray, sizeLine_eq]; omega, ⟨⟨_, Heap.get?_push_size _ rfl, rfl, rfl⟩, hl.push _⟩, fun b hb => ?_, ⟨?_, ?_⟩, ?_⟩
  · show b < (s.heap.push _).objs.size
    rw [Heap.size_push]
    rcases List.mem_cons.mp hb with rfl | hb
    · exact Nat.lt_succ_self _
    · rw [List.mem_singleton.mp hb]; exact Nat.lt_succ_of_lt hlt
  · intro C i v s₃ m₃ E' hC hP hn hm hk ht
    refine wpAny_tests_one (htest C v s₃ m₃ _ _ ?_ ⟨hn, lift hk, Nat.le_of_succ_le (by rw [Heap.size_push] at hC; exact hC)⟩ hm fun h₄ tk' k => ⟨rfl, h₄, tk', rfl, k⟩)
    have : vs[i]? = some v := by simpa using hP
    exact List.mem_of_getElem? this
  · intro C i v s₃ m₃ E' hC hP hp hn hm hk ht
    refine wpAny_Name (wpAny_loadName_local (env := compEnvC scope cl C env) hkind (lookup_relabel_local hx) hn hm ⟨rfl, _, _, rfl, fun _ _ e => e⟩) hb
  · intro D h' tk ys ws hD hlD hpD hlen hP hF hk
    have hD' : s.heap.get? D = none := by
      cases q : s.heap.get? D with
      | none => rfl
      | some o => rw [up D o q] at hD; cases hD
    have hws : ws = vs := by
      apply List.ext_getElem
      · rw [hlen, List.size_toArray]
      · intro i h1 h2
        have := hP i ws[i] (List.getElem?_eq_getElem h1)
        have e : vs[i]? = some ws[i] := by simpa using this
        rw [List.getElem?_eq_getElem h2] at e
        exact (Option.some.inj e).symm
    subst hws
    obtain ⟨c, e⟩ := hpD
    have ey := paired_eq hF
    have k := lift hk
    refine h D c h' tk (fr_all F k) (fun q hq => ?_) hD' k
    rcases List.mem_cons.mp hq with rfl | hq
    · refine ⟨?_, none_L F hD', none_base F hD'⟩
      rw [e, ← ey]
    · exact news_all N k q hq
noncomputable def pickP {α : Type} (ys : List α) (f : α → Value) (p : α → Bool) (v : Value) : Bool := ys.any fun y => decide (f y = v) && p y
theorem pickP_at {α : Type} {ys : List α} {f : α → Value} {p : α → Bool} (inj : ∀ y ∈ ys, ∀ z ∈ ys, f y = f z → p y = p z) {y : α} (hy : y ∈ ys) : pickP ys f p (f y) = p y := by
  unfold pickP
  cases q : p y with
  | true => exact List.any_eq_true.mpr ⟨y, hy, by simp [q]⟩
  | false =>
    refine List.any_eq_false.mpr fun z hz e => ?_
    rw [Bool.and_eq_true, decide_eq_true_eq] at e
    rw [inj z hz y hy e.1, q] at e
    cases e.2
theorem pickP_filter {α : Type} {ys : List α} {f : α → Value} {p : α → Bool} (inj : ∀ y ∈ ys, ∀ z ∈ ys, f y = f z → p y = p z) : (ys.map f).filter (pickP ys f p) = (ys.filter p).map f := by
  rw [List.filter_map]
  congr 1
  exact List.filter_congr fun y hy => pickP_at inj hy

theorem comp_pickR {α : Type} {iter test : Expr} {x : Str} {px px' : Pos} {scope : Scope} {cl : List (Str × Addr)} {pos : Pos} {Q : Value → Shared → Prop} {l : Addr} {ys : List α} (f : α → Value) (p : α → Bool) (inj : ∀ y ∈ ys, ∀ z ∈ ys, f y = f z → p y = p z)
    (hh : A.handled = none) (F : Fr h₀ L s.heap m) (N : News h₀ L s.heap news)
    (hclos : closureFor scope env = pure cl) (hcell : ∀ y ∈ scope.names, y.2 ≠ .cell) (hkind : scope.kind = .function)
    (hnames : ∀ y ∈ scope.names, y.2 = .local → scope.names.lookup y.1 = some .local) (hx : scope.names.lookup x = some .local) (hb : (x == ("__debug__" : Str)) = false)
    (hit : ∀ Q : Value → Shared → Prop, Q (.ref l) s → wpAny (model prog w) A (eval iter env) Q E s) (hl : s.heap.IsList l (ys.map f).toArray) (hsz : ys.length ≤ 1000)
    (htest : ∀ C y (s₃ : Shared) m₃ (E' : Value → Shared → Prop) (Q' : Bool → Shared → Prop), y ∈ ys → Fr s.heap C s₃.heap m₃ → m₃ x = some (f y) → (∀ h₄ tk', (∀ b o, s₃.heap.get? b = some o → h₄.get? b = some o) → Q' (p y) { s₃ with heap := h₄, toks := tk' }) →
      wpAny (model prog w) A (isTrue test (compEnvC scope cl C env) (eval test (compEnvC scope cl C env))) Q' E' s₃)
    (h : ∀ D c h' tk, Fr h₀ L h' m → News h₀ L h' ((D, W.listOf ((ys.filter p).map f).toArray c) :: news) → s.heap.get? D = none → (∀ b o, s.heap.get? b = some o → h'.get? b = some o) → Q (.ref D) { s with heap := h', toks := tk })
    (hs : ∀ x, foldedSetIterable iter env x = pure x := by intro _; rfl) :
    wpAny (model prog w) A (eval (.ListComp (.Name x px') [⟨.Name x px, iter, [test], 0⟩] scope pos) env) Q E s := by
  refine comp_pick (pickP ys f p) hh F N hclos hcell hkind hnames hx hb hit hl (by rw [List.length_map]; exact hsz) (fun C v s₃ m₃ E' Q' hv F₃ hm hq => ?_) (fun D c h' tk F' N' hD k => h D c h' tk F' (by rw [pickP_filter inj] at N'; exact N') hD k) hs
  obtain ⟨y, hy, rfl⟩ := List.mem_map.mp hv
  rw [pickP_at inj hy] at hq
  exact htest C y s₃ m₃ E' Q' hy F₃ hm hq

theorem comp_pickT {iter test : Expr} {x : Str} {px px' : Pos} {scope : Scope} {cl : List (Str × Addr)} {pos : Pos} {Q : Value → Shared → Prop} {l : Addr} {vs : List Value} (p : Value → Bool)
    (hh : A.handled = none) (F : Fr h₀ L s.heap m) (N : News h₀ L s.heap news)
    (hclos : closureFor scope env = pure cl) (hcell : ∀ y ∈ scope.names, y.2 ≠ .cell) (hkind : scope.kind = .function)
    (hnames : ∀ y ∈ scope.names, y.2 = .local → scope.names.lookup y.1 = some .local) (hx : scope.names.lookup x = some .local) (hb : (x == ("__debug__" : Str)) = false)
    (hit : ∀ Q : Value → Shared → Prop, Q (.ref l) s → wpAny (model prog w) A (eval iter env) Q E s) (hl : s.heap.IsTuple l vs.toArray) (hsz : vs.length ≤ 1000)
    (htest : ∀ C v (s₃ : Shared) m₃ (E' : Value → Shared → Prop) (Q' : Bool → Shared → Prop), v ∈ vs → Fr s.heap C s₃.heap m₃ → m₃ x = some v → (∀ h₄ tk', (∀ b o, s₃.heap.get? b = some o → h₄.get? b = some o) → Q' (p v) { s₃ with heap := h₄, toks := tk' }) →
      wpAny (model prog w) A (isTrue test (compEnvC scope cl C env) (eval test (compEnvC scope cl C env))) Q' E' s₃)
    (h : ∀ D c h' tk, Fr h₀ L h' m → News h₀ L h' ((D, W.listOf (vs.filter p).toArray c) :: news) → s.heap.get? D = none → (∀ b o, s.heap.get? b = some o → h'.get? b = some o) → Q (.ref D) { s with heap := h', toks := tk })
    (hs : ∀ x, foldedSetIterable iter env x = pure x := by intro _; rfl) :
    wpAny (model prog w) A (eval (.ListComp (.Name x px') [⟨.Name x px, iter, [test], 0⟩] scope pos) env) Q E s := by
  have hlt : l < s.heap.objs.size := by obtain ⟨_, e, _⟩ := hl; exact Heap.lt_size e
  refine wpAny_ListComp_free p (fun v y => y = v) hclos hcell hkind hnames hx (hit _ (wpAny_pyIter_tuple hl ?_)) hs
  have up : ∀ b o, s.heap.get? b = some o → (s.heap.push { cls := .type "tuple_iterator", data := .fields #[.ref l, .int 0 0] }).get? b = some o := fun b o e => Heap.get?_push_of_some _ e
  have lift : ∀ {h₃ : Heap}, (∀ b o, b ∉ [s.heap.objs.size] → (s.heap.push { cls := .type "tuple_iterator", data := .fields #[.ref l, .int 0 0] }).get? b = some o → h₃.get? b = some o) → ∀ b o, s.heap.get? b = some o → h₃.get? b = some o :=
    fun k b o e => k b o (by simp only [List.mem_singleton]; exact Nat.ne_of_lt (Heap.lt_size e)) (up b o e)
  refine ⟨_, _, _, _, _, _, rfl, Walks.tuple hh s.heap.objs.size l (Nat.ne_of_lt hlt) vs.toArray, by rw [List.size_toArray, sizeLine_eq]; omega, ⟨⟨_, Heap.get?_push_size _ rfl, rfl, rfl⟩, hl.push _⟩, fun b hb => ?_, ⟨?_, ?_⟩, ?_⟩
  · show b < (s.heap.push _).objs.size
    rw [Heap.size_push]
    rcases List.mem_cons.mp hb with rfl | hb
    · exact Nat.lt_succ_self _
    · rw [List.mem_singleton.mp hb]; exact Nat.lt_succ_of_lt hlt
  · intro C i v s₃ m₃ E' hC hP hn hm hk ht
    refine wpAny_tests_one (htest C v s₃ m₃ _ _ ?_ ⟨hn, lift hk, Nat.le_of_succ_le (by rw [Heap.size_push] at hC; exact hC)⟩ hm fun h₄ tk' k => ⟨rfl, h₄, tk', rfl, k⟩)
    have : vs[i]? = some v := by simpa using hP
    exact List.mem_of_getElem? this
  · intro C i v s₃ m₃ E' hC hP hp hn hm hk ht
    refine wpAny_Name (wpAny_loadName_local (env := compEnvC scope cl C env) hkind (lookup_relabel_local hx) hn hm ⟨rfl, _, _, rfl, fun _ _ e => e⟩) hb
  · intro D h' tk ys ws hD hlD hpD hlen hP hF hk
    have hD' : s.heap.get? D = none := by
      cases q : s.heap.get? D with
      | none => rfl
      | some o => rw [up D o q] at hD; cases hD
    have hws : ws = vs := by
      apply List.ext_getElem
      · rw [hlen, List.size_toArray]
      · intro i h1 h2
        have := hP i ws[i] (List.getElem?_eq_getElem h1)
        have e : vs[i]? = some ws[i] := by simpa using this
        rw [List.getElem?_eq_getElem h2] at e
        exact (Option.some.inj e).symm
    subst hws
    obtain ⟨c, e⟩ := hpD
    have ey := paired_eq hF
    have k := lift hk
    refine h D c h' tk (fr_all F k) (fun q hq => ?_) hD' k
    rcases List.mem_cons.mp hq with rfl | hq
    · refine ⟨?_, none_L F hD', none_base F hD'⟩
      rw [e, ← ey]
    · exact news_all N k q hq
theorem news_ne {h : Heap} {L D : Addr} {news : List (Addr × Obj)} {h₀ : Heap} (N : News h₀ L h news) (hD : h.get? D = none) : ∀ p ∈ news, @Ne Nat p.1 D := fun p hp q => by
  have := (N p hp).1
  rw [show p.1 = D from q, hD] at this; cases this
theorem InstAt.of_base {h₀ h : Heap} {L x C dx : Addr} {m : Str → Option Value} {od : Obj} {sl : Array (Option Value)} (F : Fr h₀ L h m) (h1 : h₀.get? x = some (⟨.ref C, some dx, .plain, sl⟩ : Obj)) (h2 : h₀.get? dx = some od) :
    W.InstAt h x ⟨.ref C, some dx, .plain, sl⟩ C (some od) := ⟨F.keep _ _ h1, rfl, rfl, F.keep _ _ h2⟩
theorem name_cellC {M : Model} {scope : Scope} {cl : List (Str × Addr)} {C c : Addr} {x : Str} {pos : Pos} {v : Value} {o : Obj} {Q : Value → Shared → Prop} (F : Fr h₀ C s.heap m) (hk : scope.kind = .function) (hx : (compEnvC scope cl C env).kindOf x = some .cell)
    (hc : cl.lookup x = some c) (ho : h₀.get? c = some o) (hd : o.data = .cell (some v)) (h : Q v s) (hb : (x == ("__debug__" : Str)) = false) : wpAny M A (eval (.Name x pos) (compEnvC scope cl C env)) Q E s :=
  wpAny_Name (wpAny_loadName_cell (env := compEnvC scope cl C env) hk hx hc ⟨o, F.keep _ _ ho, hd⟩ h) hb
theorem name_localC {M : Model} {scope : Scope} {cl : List (Str × Addr)} {C : Addr} {x : Str} {pos : Pos} {v : Value} {Q : Value → Shared → Prop} (F : Fr h₀ C s.heap m) (hk : scope.kind = .function) (hx : (compEnvC scope cl C env).kindOf x = some .local)
    (hm : m x = some v) (h : Q v s) (hb : (x == ("__debug__" : Str)) = false) : wpAny M A (eval (.Name x pos) (compEnvC scope cl C env)) Q E s :=
  wpAny_Name (wpAny_loadName_local (env := compEnvC scope cl C env) hk hx F.ns hm h) hb
theorem item_base {value slice : Expr} {l : Addr} {its : List Value} {c : Nat} {k : Int} {t : Tok} {v : Value} {Q : Value → Shared → Prop} (hl : s.heap.get? l = some (W.listOf its.toArray c)) (h0 : 0 ≤ k) (hhi : k < 2 ^ 63) (hx : its[k.toNat]? = some v) (h : Q v s)
    (hs : subscripted slice false (.ref l) (.int k t) = operate [.ref l, .int k t] (getItem (.ref l) (.int k t)) := by with_unfolding_all rfl) :
    wpAny (model prog w) A (subscriptTail value slice (.ref l) (.int k t)) Q E s :=
  have hL : s.heap.IsList l its.toArray := ⟨_, hl, rfl, c, rfl⟩
  tail_any hL.typeIs slot_list_getitem.lookup (wpAny_getItem_list hL h0 hhi (by simpa using hx) h) hs
theorem tup_base {value slice : Expr} {l : Addr} {its : List Value} {c : Nat} {k : Int} {t : Tok} {v : Value} {Q : Value → Shared → Prop} (hl : s.heap.get? l = some { cls := .type "tuple", data := .seq its.toArray c }) (h0 : 0 ≤ k) (hhi : k < 2 ^ 63) (hx : its[k.toNat]? = some v) (h : Q v s)
    (hs : subscripted slice false (.ref l) (.int k t) = operate [.ref l, .int k t] (getItem (.ref l) (.int k t)) := by with_unfolding_all rfl) :
    wpAny (model prog w) A (subscriptTail value slice (.ref l) (.int k t)) Q E s :=
  have hL : IsTup s.heap l its.toArray := ⟨_, hl, rfl, c, rfl⟩
  have hn : k.toNat < its.length := (List.getElem?_eq_some_iff.mp hx).1
  tail_any hL.typeIs PyProof.Rows.slot_tuple_getitem.lookup (getItem_tuple hL (by omega) hhi (seqIndex_of h0 (by simp only [List.size_toArray]; omega)) (by simpa using hx) h) hs

theorem unpack2 {x y : Expr} {k} {pos : Pos} {t : Addr} {v1 v2 : Value} {Q : Unit → Shared → Prop} (hh : A.handled = none) (F : Fr h₀ L s.heap m) (N : News h₀ L s.heap news) (ht : IsTup s.heap t #[v1, v2]) (he : assignEach [x, y] env = [(false, assign x env), (false, assign y env)])
    (h : ∀ h', Fr h₀ L h' m → News h₀ L h' news → wpAny (model prog w) A (assign x env v1) (fun _ s₁ => wpAny (model prog w) A (assign y env v2) Q E s₁) E { s with heap := h' }) :
    wpAny (model prog w) A (assign (.Tuple [x, y] k pos) env (.ref t)) Q E s := by
  refine assign_Tuple_tuple hh ht (by rw [he]; rfl) (by rw [he]; rfl) fun h' hx => ?_
  rw [he]
  have e : ∀ b o, s.heap.get? b = some o → h'.get? b = some o := fun b o e => hx b o (Nat.ne_of_lt (Heap.lt_size e)) e
  exact wpAny_bind (wpAny_holding (wpAny_mono (h h' (fr_all F e) (news_all N e)) (fun _ s' q => wpAny_bind (wpAny_holding (wpAny_mono q (fun _ s'' q' => wpAny_pure q') fun _ _ x => x))) fun _ _ x => x))
end
end Mine
end
section
theorem Mine.off_08 : True := by
  w_top off
  trivial
namespace Mine
open PySem PySem.W PySem.Calls PySem.Spec PyProof.Rows
noncomputable def Halt (p : Prop) : Prop := p
theorem Halt.on {p : Prop} (h : Halt p) : p := h
section
variable {prog : Program} {w : World} {A : Around} {s : Shared} {env : Env} {h₀ : Heap}
theorem news_swap {L : Addr} {h : Heap} {a b : List (Addr × Obj)} (N : News h₀ L h (a ++ b)) : News h₀ L h (b ++ a) := fun p hp => N p (List.mem_append.mpr (List.mem_append.mp hp).symm)

theorem loop_at {β : Type} {Q : Flow → Shared → Prop} {E : Value → Shared → Prop} {x : Str} {body : List Stmt} {m : Str → Option Value} {I : Addr} {fp : List Addr} {n : Nat} {P : Nat → Value → Prop} {St : Nat → Heap → Prop}
    (W : Walks prog w A I fp [I] n P St) (hI0 : h₀.get? I = none) (hLf : env.locals ∉ fp) (hst : St 0 s.heap) (alive : ∀ i h, St i h → ∃ o, h.get? I = some o)
    (F : Fr h₀ env.locals s.heap m) (led : β → List (Addr × Obj)) (x₀ : β) (N : News h₀ env.locals s.heap (led x₀)) (hnI : ∀ p ∈ led x₀, p.1 ≠ I)
    (J : Nat → β → (Str → Option Value) → Prop) (h0 : J 0 x₀ m)
    (step : ∀ i v y m₁ h tk own (Q' : Flow → Shared → Prop), (∀ p ∈ own, p.1 ∈ fp) → i < n → P i v → J i y m₁ → Fr h₀ env.locals h (fun z => if z = x then some v else m₁ z) → News h₀ env.locals h (led y ++ own) →
      (∀ h' tk' y' m', Fr h₀ env.locals h' m' → News h₀ env.locals h' (led y' ++ own) → (∀ p ∈ led y', (∀ q ∈ own, p.1 ≠ q.1) ∨ ∃ o, (p.1, o) ∈ led y) → J (i + 1) y' m' → Q' .next { s with heap := h', toks := tk' }) →
      wpAny (model prog w) A (execs body env) Q' E { s with heap := h, toks := tk })
    (hQ : ∀ h' tk m' y, Fr h₀ env.locals h' m' → News h₀ env.locals h' (led y) → J n y m' → Q .next { s with heap := h', toks := tk }) :
    LoopAtV prog w A h₀ env x body Q E (.ref I) s := by
  refine ⟨I, fp, [I], n, P, St, m, led x₀, fun i m' news => ∃ y, news = led y ∧ J i y m', rfl, W, hLf, fun b hb => by rw [List.mem_singleton.mp hb]; exact hI0, fun p hp q => hnI p hp (List.mem_singleton.mp q), hst, F, N, ⟨x₀, rfl, h0⟩, ?_, ?_⟩
  · rintro i v m₁ news₁ s₁ own ⟨h, tk, rfl⟩ hi hP ⟨y, rfl, hJ⟩ hnI' hown _ hall st F₁ N₁
    refine step i v y m₁ h tk own _ hown hi hP hJ F₁ (news_swap N₁) fun h' tk' y' m' F' N' hin hJ' => LoopStepV.next (LoopStepU.intro F' (news_swap N') (fun p hp q => ?_) ⟨y', rfl, hJ'⟩)
    rw [List.mem_singleton] at q
    rcases hin p hp with e | ⟨o, e⟩
    · obtain ⟨o, ho⟩ := alive _ _ st
      exact e _ (hall I (W.sub _ (.head _)) hI0 o ho) q
    · exact hnI' _ e (List.mem_singleton.mpr q)
  · rintro h' tk m' news' F' N' _ ⟨y, rfl, hJ⟩
    exact hQ h' tk m' y F' N' hJ

theorem loop_list {β : Type} {Q : Flow → Shared → Prop} {E E' : Value → Shared → Prop} {x : Str} {body : List Stmt} {m : Str → Option Value} {l : Addr} {vs : List Value} (hh : A.handled = none) (hl : s.heap.IsList l vs.toArray) (hlL : l ≠ env.locals)
    (F : Fr h₀ env.locals s.heap m) (led : β → List (Addr × Obj)) (x₀ : β) (N : News h₀ env.locals s.heap (led x₀))
    (J : Nat → β → (Str → Option Value) → Prop) (h0 : J 0 x₀ m)
    (step : ∀ i v y m₁ h tk own (Q' : Flow → Shared → Prop), (∀ p ∈ own, p.1 = l ∨ s.heap.get? p.1 = none) → i < vs.length → vs[i]? = some v → J i y m₁ → Fr h₀ env.locals h (fun z => if z = x then some v else m₁ z) → News h₀ env.locals h (led y ++ own) →
      (∀ h' tk' y' m', Fr h₀ env.locals h' m' → News h₀ env.locals h' (led y' ++ own) → (∀ p ∈ led y', (∀ q ∈ own, p.1 ≠ q.1) ∨ ∃ o, (p.1, o) ∈ led y) → J (i + 1) y' m' → Q' .next { s with heap := h', toks := tk' }) →
      wpAny (model prog w) A (execs body env) Q' E { s with heap := h, toks := tk })
    (hQ : ∀ h' tk m' y, Fr h₀ env.locals h' m' → News h₀ env.locals h' (led y) → J vs.length y m' → Q .next { s with heap := h', toks := tk }) :
    wpAny (model prog w) A (pyIter (.ref l)) (fun it s₂ => LoopAtV prog w A h₀ env x body Q E it s₂) E' s := by
  have hlt : l < s.heap.objs.size := by obtain ⟨_, e, _⟩ := hl; exact Heap.lt_size e
  have up : ∀ b o, s.heap.get? b = some o → (s.heap.push { cls := .type "list_iterator", data := .fields #[.ref l, .int 0 0] }).get? b = some o := fun b o e => Heap.get?_push_of_some _ e
  have n0 : s.heap.get? s.heap.objs.size = none := Heap.get?_none_of_le (Nat.le_refl _)
  refine wpAny_pyIter_list hl ?_
  refine loop_at (Walks.list hh s.heap.objs.size l (Nat.ne_of_lt hlt) vs.toArray) (none_base F n0) ?_ ⟨⟨_, Heap.get?_push_size _ rfl, rfl, rfl⟩, hl.push _⟩ ?_ (fr_all F up) led x₀ (news_all N up) ?_ J h0 ?_ ?_
  · intro hb
    rcases List.mem_cons.mp hb with e | hb
    · exact none_L F n0 e.symm
    · exact hlL (List.mem_singleton.mp hb).symm
  · rintro i h ⟨⟨o, ho, _⟩, _⟩; exact ⟨o, ho⟩
  · intro p hp e
    have := (N p hp).1
    rw [e, n0] at this; cases this
  · intro i v y m₁ h tk own Q' ho hi hv; exact step i v y m₁ h tk own Q' (fun p hp => by
      have := ho p hp
      simp only [List.mem_cons, List.not_mem_nil, or_false] at this
      exact this.symm.imp id fun e => by rw [e]; exact n0) (by simpa using hi) (by simpa using hv)
  · rw [List.size_toArray]; exact hQ

theorem loop_tuple {β : Type} {Q : Flow → Shared → Prop} {E E' : Value → Shared → Prop} {x : Str} {body : List Stmt} {m : Str → Option Value} {l : Addr} {vs : List Value} (hh : A.handled = none) (hl : s.heap.IsTuple l vs.toArray) (hlL : l ≠ env.locals)
    (F : Fr h₀ env.locals s.heap m) (led : β → List (Addr × Obj)) (x₀ : β) (N : News h₀ env.locals s.heap (led x₀))
    (J : Nat → β → (Str → Option Value) → Prop) (h0 : J 0 x₀ m)
    (step : ∀ i v y m₁ h tk own (Q' : Flow → Shared → Prop), (∀ p ∈ own, p.1 = l ∨ s.heap.get? p.1 = none) → i < vs.length → vs[i]? = some v → J i y m₁ → Fr h₀ env.locals h (fun z => if z = x then some v else m₁ z) → News h₀ env.locals h (led y ++ own) →
      (∀ h' tk' y' m', Fr h₀ env.locals h' m' → News h₀ env.locals h' (led y' ++ own) → (∀ p ∈ led y', (∀ q ∈ own, p.1 ≠ q.1) ∨ ∃ o, (p.1, o) ∈ led y) → J (i + 1) y' m' → Q' .next { s with heap := h', toks := tk' }) →
      wpAny (model prog w) A (execs body env) Q' E { s with heap := h, toks := tk })
    (hQ : ∀ h' tk m' y, Fr h₀ env.locals h' m' → News h₀ env.locals h' (led y) → J vs.length y m' → Q .next { s with heap := h', toks := tk }) :
    wpAny (model prog w) A (pyIter (.ref l)) (fun it s₂ => LoopAtV prog w A h₀ env x body Q E it s₂) E' s := by
  have hlt : l < s.heap.objs.size := by obtain ⟨_, e, _⟩ := hl; exact Heap.lt_size e
  have up : ∀ b o, s.heap.get? b = some o → (s.heap.push { cls := .type "tuple_iterator", data := .fields #[.ref l, .int 0 0] }).get? b = some o := fun b o e => Heap.get?_push_of_some _ e
  have n0 : s.heap.get? s.heap.objs.size = none := Heap.get?_none_of_le (Nat.le_refl _)
  refine wpAny_pyIter_tuple hl ?_
  refine loop_at (Walks.tuple hh s.heap.objs.size l (Nat.ne_of_lt hlt) vs.toArray) (none_base F n0) ?_ ⟨⟨_, Heap.get?_push_size _ rfl, rfl, rfl⟩, hl.push _⟩ ?_ (fr_all F up) led x₀ (news_all N up) ?_ J h0 ?_ ?_
  · intro hb
    rcases List.mem_cons.mp hb with e | hb
    · exact none_L F n0 e.symm
    · exact hlL (List.mem_singleton.mp hb).symm
  · rintro i h ⟨⟨o, ho, _⟩, _⟩; exact ⟨o, ho⟩
  · intro p hp e
    have := (N p hp).1
    rw [e, n0] at this; cases this
  · intro i v y m₁ h tk own Q' ho hi hv; exact step i v y m₁ h tk own Q' (fun p hp => by
      have := ho p hp
      simp only [List.mem_cons, List.not_mem_nil, or_false] at this
      exact this.symm.imp id fun e => by rw [e]; exact n0) (by simpa using hi) (by simpa using hv)
  · rw [List.size_toArray]; exact hQ

theorem loop_dict {β : Type} {Q : Flow → Shared → Prop} {E E' : Value → Shared → Prop} {x : Str} {body : List Stmt} {m : Str → Option Value} {d : Addr} {es : Array DictEntry} {ep : Nat} (hh : A.handled = none) (lo : (d == sysModules) = false) (hd : DictRaw s.heap d es ep) (hdL : d ≠ env.locals)
    (F : Fr h₀ env.locals s.heap m) (led : β → List (Addr × Obj)) (x₀ : β) (N : News h₀ env.locals s.heap (led x₀))
    (J : Nat → β → (Str → Option Value) → Prop) (h0 : J 0 x₀ m)
    (step : ∀ i v y m₁ h tk own (Q' : Flow → Shared → Prop), (∀ p ∈ own, p.1 = d ∨ s.heap.get? p.1 = none) → i < es.size → (es[i]?).map (·.key) = some v → J i y m₁ → Fr h₀ env.locals h (fun z => if z = x then some v else m₁ z) → News h₀ env.locals h (led y ++ own) →
      (∀ h' tk' y' m', Fr h₀ env.locals h' m' → News h₀ env.locals h' (led y' ++ own) → (∀ p ∈ led y', (∀ q ∈ own, p.1 ≠ q.1) ∨ ∃ o, (p.1, o) ∈ led y) → J (i + 1) y' m' → Q' .next { s with heap := h', toks := tk' }) →
      wpAny (model prog w) A (execs body env) Q' E { s with heap := h, toks := tk })
    (hQ : ∀ h' tk m' y, Fr h₀ env.locals h' m' → News h₀ env.locals h' (led y) → J es.size y m' → Q .next { s with heap := h', toks := tk }) :
    wpAny (model prog w) A (pyIter (.ref d)) (fun it s₂ => LoopAtV prog w A h₀ env x body Q E it s₂) E' s := by
  have hlt := hd.lt
  have up : ∀ b o, s.heap.get? b = some o → (s.heap.push { cls := .type "dict_keyiterator", data := .fields #[.ref d, .int 0 0, .int es.size 0, .int ep 0] }).get? b = some o := fun b o e => Heap.get?_push_of_some _ e
  have n0 : s.heap.get? s.heap.objs.size = none := Heap.get?_none_of_le (Nat.le_refl _)
  refine raw_iter lo hd ?_
  refine loop_at (raw_walks hh s.heap.objs.size (Nat.ne_of_lt hlt) es ep) (none_base F n0) ?_ ⟨⟨_, Heap.get?_push_size _ rfl, rfl, rfl⟩, hd.at fun o => up d o⟩ ?_ (fr_all F up) led x₀ (news_all N up) ?_ J h0 (fun i v y m₁ h tk own Q' ho => step i v y m₁ h tk own Q' (fun p hp => by
      have := ho p hp
      simp only [List.mem_cons, List.not_mem_nil, or_false] at this
      exact this.symm.imp id fun e => by rw [e]; exact n0)) hQ
  · intro hb
    rcases List.mem_cons.mp hb with e | hb
    · exact none_L F n0 e.symm
    · exact hdL (List.mem_singleton.mp hb).symm
  · rintro i h ⟨⟨o, ho, _⟩, _⟩; exact ⟨o, ho⟩
  · intro p hp e
    have := (N p hp).1
    rw [e, n0] at this; cases this
theorem set_off {x : Str} {v : Value} {m m₁ : Str → Option Value} (h : ∀ z, z ≠ x → m₁ z = m z) : (fun z => if z = x then some v else m₁ z) = fun z => if z = x then some v else m z := funext fun z => by
  by_cases q : z = x
  · rw [if_pos q, if_pos q]
  · rw [if_neg q, if_neg q, h z q]
theorem of_off {x : Str} {m m₁ : Str → Option Value} (h : ∀ z, z ≠ x → m₁ z = m z) : m₁ = fun z => if z = x then m₁ x else m z := funext fun z => by
  by_cases q : z = x
  · rw [if_pos q, q]
  · rw [if_neg q, h z q]

noncomputable def Turn {β : Type} (prog : Program) (w : World) (A : Around) (s : Shared) (env : Env) (h₀ : Heap) (E : Value → Shared → Prop) (x : Str) (body : List Stmt) (m : Str → Option Value) (l : Addr) (led : β → List (Addr × Obj)) (J : Nat → β → Prop) (i : Nat) (v : Value) : Prop :=
  ∀ y h tk own (Q' : Flow → Shared → Prop), (∀ p ∈ own, p.1 = l ∨ s.heap.get? p.1 = none) → J i y → Fr h₀ env.locals h (fun z => if z = x then some v else m z) → News h₀ env.locals h (led y ++ own) →
      (∀ h' tk' y' pv, Fr h₀ env.locals h' (fun z => if z = x then pv else m z) → News h₀ env.locals h' (led y' ++ own) → (∀ p ∈ led y', (∀ q ∈ own, p.1 ≠ q.1) ∨ ∃ o, (p.1, o) ∈ led y) → J (i + 1) y' → Q' .next { s with heap := h', toks := tk' }) →
      wpAny (model prog w) A (execs body env) Q' E { s with heap := h, toks := tk }

theorem loop_list1 {β : Type} {Q : Flow → Shared → Prop} {E E' : Value → Shared → Prop} {x : Str} {body : List Stmt} {m : Str → Option Value} {l : Addr} {vs : List Value} (hh : A.handled = none) (hl : s.heap.IsList l vs.toArray) (hlL : l ≠ env.locals)
    (F : Fr h₀ env.locals s.heap m) (led : β → List (Addr × Obj)) (x₀ : β) (N : News h₀ env.locals s.heap (led x₀)) (J : Nat → β → Prop) (h0 : J 0 x₀)
    (step : ∀ i v, i < vs.length → vs[i]? = some v → Turn prog w A s env h₀ E x body m l led J i v)
    (hQ : ∀ h' tk pv y, Fr h₀ env.locals h' (fun z => if z = x then pv else m z) → News h₀ env.locals h' (led y) → J vs.length y → Q .next { s with heap := h', toks := tk }) :
    wpAny (model prog w) A (pyIter (.ref l)) (fun it s₂ => LoopAtV prog w A h₀ env x body Q E it s₂) E' s :=
  loop_list hh hl hlL F led x₀ N (fun i y m₁ => J i y ∧ ∀ z, z ≠ x → m₁ z = m z) ⟨h0, fun _ _ => rfl⟩
    (fun i v y m₁ h tk own Q' ho hi hv hJ F₁ N₁ hq => step i v hi hv y h tk own Q' ho hJ.1 (set_off hJ.2 ▸ F₁) N₁ fun h' tk' y' pv F' N' hin hJ' => hq h' tk' y' _ F' N' hin ⟨hJ', fun z hz => if_neg hz⟩)
    fun h' tk m' y F' N' hJ => hQ h' tk (m' x) y (of_off hJ.2 ▸ F') N' hJ.1

theorem loop_tuple1 {β : Type} {Q : Flow → Shared → Prop} {E E' : Value → Shared → Prop} {x : Str} {body : List Stmt} {m : Str → Option Value} {l : Addr} {vs : List Value} (hh : A.handled = none) (hl : s.heap.IsTuple l vs.toArray) (hlL : l ≠ env.locals)
    (F : Fr h₀ env.locals s.heap m) (led : β → List (Addr × Obj)) (x₀ : β) (N : News h₀ env.locals s.heap (led x₀)) (J : Nat → β → Prop) (h0 : J 0 x₀)
    (step : ∀ i v, i < vs.length → vs[i]? = some v → Turn prog w A s env h₀ E x body m l led J i v)
    (hQ : ∀ h' tk pv y, Fr h₀ env.locals h' (fun z => if z = x then pv else m z) → News h₀ env.locals h' (led y) → J vs.length y → Q .next { s with heap := h', toks := tk }) :
    wpAny (model prog w) A (pyIter (.ref l)) (fun it s₂ => LoopAtV prog w A h₀ env x body Q E it s₂) E' s :=
  loop_tuple hh hl hlL F led x₀ N (fun i y m₁ => J i y ∧ ∀ z, z ≠ x → m₁ z = m z) ⟨h0, fun _ _ => rfl⟩
    (fun i v y m₁ h tk own Q' ho hi hv hJ F₁ N₁ hq => step i v hi hv y h tk own Q' ho hJ.1 (set_off hJ.2 ▸ F₁) N₁ fun h' tk' y' pv F' N' hin hJ' => hq h' tk' y' _ F' N' hin ⟨hJ', fun z hz => if_neg hz⟩)
    fun h' tk m' y F' N' hJ => hQ h' tk (m' x) y (of_off hJ.2 ▸ F') N' hJ.1

theorem loop_dict1 {β : Type} {Q : Flow → Shared → Prop} {E E' : Value → Shared → Prop} {x : Str} {body : List Stmt} {m : Str → Option Value} {d : Addr} {es : Array DictEntry} {ep : Nat} (hh : A.handled = none) (lo : (d == sysModules) = false) (hd : DictRaw s.heap d es ep) (hdL : d ≠ env.locals)
    (F : Fr h₀ env.locals s.heap m) (led : β → List (Addr × Obj)) (x₀ : β) (N : News h₀ env.locals s.heap (led x₀)) (J : Nat → β → Prop) (h0 : J 0 x₀)
    (step : ∀ i v, i < es.size → (es[i]?).map (·.key) = some v → Turn prog w A s env h₀ E x body m d led J i v)
    (hQ : ∀ h' tk pv y, Fr h₀ env.locals h' (fun z => if z = x then pv else m z) → News h₀ env.locals h' (led y) → J es.size y → Q .next { s with heap := h', toks := tk }) :
    wpAny (model prog w) A (pyIter (.ref d)) (fun it s₂ => LoopAtV prog w A h₀ env x body Q E it s₂) E' s :=
  loop_dict hh lo hd hdL F led x₀ N (fun i y m₁ => J i y ∧ ∀ z, z ≠ x → m₁ z = m z) ⟨h0, fun _ _ => rfl⟩
    (fun i v y m₁ h tk own Q' ho hi hv hJ F₁ N₁ hq => step i v hi hv y h tk own Q' ho hJ.1 (set_off hJ.2 ▸ F₁) N₁ fun h' tk' y' pv F' N' hin hJ' => hq h' tk' y' _ F' N' hin ⟨hJ', fun z hz => if_neg hz⟩)
    fun h' tk m' y F' N' hJ => hQ h' tk (m' x) y (of_off hJ.2 ▸ F') N' hJ.1
theorem loop_nil {Q : Flow → Shared → Prop} {E E' : Value → Shared → Prop} {x : Str} {body : List Stmt} {m : Str → Option Value} {l : Addr} {news : List (Addr × Obj)} (hh : A.handled = none) (hl : s.heap.IsList l #[]) (hlL : l ≠ env.locals)
    (F : Fr h₀ env.locals s.heap m) (N : News h₀ env.locals s.heap news)
    (hQ : ∀ h' tk pv, Fr h₀ env.locals h' (fun z => if z = x then pv else m z) → News h₀ env.locals h' news → Q .next { s with heap := h', toks := tk }) :
    wpAny (model prog w) A (pyIter (.ref l)) (fun it s₂ => LoopAtV prog w A h₀ env x body Q E it s₂) E' s :=
  loop_list1 (vs := []) hh hl hlL F (fun _ : Unit => news) () N (fun _ _ => True) trivial (fun i v hi => absurd hi (Nat.not_lt_zero _)) fun h' tk pv _ F' N' _ => hQ h' tk pv F' N'
theorem loop_tnil {Q : Flow → Shared → Prop} {E E' : Value → Shared → Prop} {x : Str} {body : List Stmt} {m : Str → Option Value} {l : Addr} {news : List (Addr × Obj)} (hh : A.handled = none) (hl : s.heap.IsTuple l #[]) (hlL : l ≠ env.locals)
    (F : Fr h₀ env.locals s.heap m) (N : News h₀ env.locals s.heap news)
    (hQ : ∀ h' tk pv, Fr h₀ env.locals h' (fun z => if z = x then pv else m z) → News h₀ env.locals h' news → Q .next { s with heap := h', toks := tk }) :
    wpAny (model prog w) A (pyIter (.ref l)) (fun it s₂ => LoopAtV prog w A h₀ env x body Q E it s₂) E' s :=
  loop_tuple1 (vs := []) hh hl hlL F (fun _ : Unit => news) () N (fun _ _ => True) trivial (fun i v hi => absurd hi (Nat.not_lt_zero _)) fun h' tk pv _ F' N' _ => hQ h' tk pv F' N'
noncomputable def Once (prog : Program) (w : World) (A : Around) (s : Shared) (env : Env) (h₀ : Heap) (E : Value → Shared → Prop) (x : Str) (body : List Stmt) (m : Str → Option Value) (l : Addr) (news : List (Addr × Obj)) (J : List (Addr × Obj) → Prop) (v : Value) : Prop :=
  ∀ h tk own (Q' : Flow → Shared → Prop), (∀ p ∈ own, p.1 = l ∨ s.heap.get? p.1 = none) → Fr h₀ env.locals h (fun z => if z = x then some v else m z) → News h₀ env.locals h (news ++ own) →
      (∀ h' tk' y' pv, Fr h₀ env.locals h' (fun z => if z = x then pv else m z) → News h₀ env.locals h' (y' ++ own) → (∀ p ∈ y', (∀ q ∈ own, p.1 ≠ q.1) ∨ ∃ o, (p.1, o) ∈ news) → J y' → Q' .next { s with heap := h', toks := tk' }) →
      wpAny (model prog w) A (execs body env) Q' E { s with heap := h, toks := tk }
theorem loop_one {Q : Flow → Shared → Prop} {E E' : Value → Shared → Prop} {x : Str} {body : List Stmt} {m : Str → Option Value} {l : Addr} {v : Value} {news : List (Addr × Obj)} (hh : A.handled = none) (hl : s.heap.IsList l #[v]) (hlL : l ≠ env.locals)
    (F : Fr h₀ env.locals s.heap m) (N : News h₀ env.locals s.heap news) (J : List (Addr × Obj) → Prop) (step : Once prog w A s env h₀ E x body m l news J v)
    (hQ : ∀ h' tk pv y, Fr h₀ env.locals h' (fun z => if z = x then pv else m z) → News h₀ env.locals h' y → J y → Q .next { s with heap := h', toks := tk }) :
    wpAny (model prog w) A (pyIter (.ref l)) (fun it s₂ => LoopAtV prog w A h₀ env x body Q E it s₂) E' s := by
  refine loop_list1 (vs := [v]) hh hl hlL F (fun y : List (Addr × Obj) => y) news N (fun i y => (i = 0 → y = news) ∧ (i = 1 → J y)) ⟨(fun _ => rfl), (fun h => nomatch h)⟩ ?_ fun h' tk pv y F' N' hJ => hQ h' tk pv y F' N' (hJ.2 rfl)
  intro i v' hi hv y h tk own Q' ho hJ F₁ N₁ hq
  cases i with
  | succ i => exact absurd hi (by simp)
  | zero =>
    have : v = v' := by simpa using hv
    subst this
    cases hJ.1 rfl
    exact step h tk own Q' ho F₁ N₁ fun h' tk' y' pv F' N' hin hJ' => hq h' tk' y' pv F' N' hin ⟨(fun h => nomatch h), fun _ => hJ'⟩
theorem loop_tone {Q : Flow → Shared → Prop} {E E' : Value → Shared → Prop} {x : Str} {body : List Stmt} {m : Str → Option Value} {l : Addr} {v : Value} {news : List (Addr × Obj)} (hh : A.handled = none) (hl : s.heap.IsTuple l #[v]) (hlL : l ≠ env.locals)
    (F : Fr h₀ env.locals s.heap m) (N : News h₀ env.locals s.heap news) (J : List (Addr × Obj) → Prop) (step : Once prog w A s env h₀ E x body m l news J v)
    (hQ : ∀ h' tk pv y, Fr h₀ env.locals h' (fun z => if z = x then pv else m z) → News h₀ env.locals h' y → J y → Q .next { s with heap := h', toks := tk }) :
    wpAny (model prog w) A (pyIter (.ref l)) (fun it s₂ => LoopAtV prog w A h₀ env x body Q E it s₂) E' s := by
  refine loop_tuple1 (vs := [v]) hh hl hlL F (fun y : List (Addr × Obj) => y) news N (fun i y => (i = 0 → y = news) ∧ (i = 1 → J y)) ⟨(fun _ => rfl), (fun h => nomatch h)⟩ ?_ fun h' tk pv y F' N' hJ => hQ h' tk pv y F' N' (hJ.2 rfl)
  intro i v' hi hv y h tk own Q' ho hJ F₁ N₁ hq
  cases i with
  | succ i => exact absurd hi (by simp)
  | zero =>
    have : v = v' := by simpa using hv
    subst this
    cases hJ.1 rfl
    exact step h tk own Q' ho F₁ N₁ fun h' tk' y' pv F' N' hin hJ' => hq h' tk' y' pv F' N' hin ⟨(fun h => nomatch h), fun _ => hJ'⟩
theorem own_ne {l a : Addr} {own : List (Addr × Obj)} {h : Heap} {o : Obj} (ho : ∀ p ∈ own, p.1 = l ∨ h.get? p.1 = none) (e : h.get? a = some o) (n : @Ne Nat a l) : ∀ p ∈ own, p.1 ≠ a := fun p hp q => by
  rcases ho p hp with x | x
  · exact n (q ▸ x)
  · rw [q, e] at x; cases x
theorem news_rot {L : Addr} {h : Heap} {x : Addr × Obj} {l own : List (Addr × Obj)} (N : News h₀ L h (x :: (l ++ own))) : News h₀ L h ((l ++ [x]) ++ own) := fun p hp => by
  rcases List.mem_append.mp hp with hp | hp
  · rcases List.mem_append.mp hp with hp | hp
    · exact N p (.tail _ (List.mem_append_left _ hp))
    · rw [List.mem_singleton.mp hp]; exact N x (.head _)
  · exact N p (.tail _ (List.mem_append_right _ hp))
theorem same_addrs {C : Addr × Obj → Prop} {a b : List (Addr × Obj)} (e : a.map (·.1) = b.map (·.1)) : ∀ p ∈ a, C p ∨ ∃ o, (p.1, o) ∈ b := fun p hp => by
  have : p.1 ∈ b.map (·.1) := e ▸ List.mem_map_of_mem hp
  obtain ⟨q, hq, e⟩ := List.mem_map.mp this
  exact .inr ⟨q.2, by rw [← e]; exact hq⟩
end
end Mine
end
section
theorem Mine.off_09 : True := by
  w_top off
  trivial
namespace Mine
theorem sortBy_four {α : Type} (f : α → Nat) (xs : List α) : sortBy f xs = (xs.filter fun x => f x == 0) ++ ((xs.filter fun x => f x == 1) ++ ((xs.filter fun x => f x == 2) ++ (xs.filter fun x => f x == 3))) := by
  show (List.range 4).flatMap _ = _
  rw [show List.range 4 = [0, 1, 2, 3] from by decide]
  simp only [List.flatMap_cons, List.flatMap_nil, List.append_nil]
theorem sortBy_perm {α : Type} {f : α → Nat} : ∀ {xs : List α}, (∀ x ∈ xs, f x < 4) → (sortBy f xs).Perm xs
  | [], _ => by rw [sortBy_four]; exact .refl _
  | x :: r, h => by
    have ih := sortBy_perm (f := f) (xs := r) fun y hy => h y (.tail _ hy)
    rw [sortBy_four] at ih ⊢
    have hx := h x (.head _)
    have := lt_four hx
    rcases this with q | q | q | q
    · simp only [List.filter_cons, q, show ((0 : Nat) == 0) = true from rfl, show ((0 : Nat) == 1) = false from rfl, show ((0 : Nat) == 2) = false from rfl, show ((0 : Nat) == 3) = false from rfl, if_true, Bool.false_eq_true, if_false, List.cons_append]
      exact ih.cons x
    · simp only [List.filter_cons, q, show ((1 : Nat) == 0) = false from rfl, show ((1 : Nat) == 1) = true from rfl, show ((1 : Nat) == 2) = false from rfl, show ((1 : Nat) == 3) = false from rfl, if_true, Bool.false_eq_true, if_false, List.cons_append]
      exact List.perm_middle.trans (ih.cons x)
    · simp only [List.filter_cons, q, show ((2 : Nat) == 0) = false from rfl, show ((2 : Nat) == 1) = false from rfl, show ((2 : Nat) == 2) = true from rfl, show ((2 : Nat) == 3) = false from rfl, if_true, Bool.false_eq_true, if_false, List.cons_append]
      refine List.Perm.trans ?_ (ih.cons x)
      rw [← List.append_assoc, ← List.append_assoc (List.filter _ r)]
      exact List.perm_middle
    · simp only [List.filter_cons, q, show ((3 : Nat) == 0) = false from rfl, show ((3 : Nat) == 1) = false from rfl, show ((3 : Nat) == 2) = false from rfl, show ((3 : Nat) == 3) = true from rfl, if_true, Bool.false_eq_true, if_false]
      refine List.Perm.trans ?_ (ih.cons x)
      rw [← List.append_assoc, ← List.append_assoc, ← List.append_assoc (List.filter _ r), ← List.append_assoc (List.filter _ r ++ _)]
      exact List.perm_middle
/-- the rows that stay behind the first n of the ways in ys -/
noncomputable def restOf (xs ys : List Row) (n : Nat) : List Row := xs.filter fun x => !((ys.take n).any fun y => y.i == x.i)
theorem restOf_zero (xs ys : List Row) : restOf xs ys 0 = xs := by
  unfold restOf
  exact List.filter_eq_self.mpr fun x _ => by simp
theorem restOf_succ {xs ys : List Row} {n : Nat} {y : Row} (h : ys[n]? = some y) : dropR (restOf xs ys n) y.i = restOf xs ys (n + 1) := by
  unfold dropR restOf
  rw [List.filter_filter]
  refine List.filter_congr fun x _ => ?_
  rw [List.take_add_one, h, List.any_append]
  simp only [Option.toList_some, List.any_cons, List.any_nil, Bool.or_false, Bool.not_or]
  rw [Bool.and_comm]
  congr 2
  rw [Bool.eq_iff_iff, decide_eq_true_eq, beq_iff_eq]
  exact ⟨fun e => e.symm, fun e => e.symm⟩
theorem restOf_find {xs ys : List Row} {n : Nat} {y : Row} (h : ys[n]? = some y) (hn : (ys.map (·.i)).Nodup) (hx : y ∈ xs) (hxn : (xs.map (·.i)).Nodup) : findR (restOf xs ys n) y.i = some y := by
  refine findR_of ((List.Sublist.map _ List.filter_sublist).nodup hxn) (List.mem_filter.mpr ⟨hx, ?_⟩)
  rw [Bool.not_eq_true', List.any_eq_false]
  intro z hz e
  rw [beq_iff_eq] at e
  obtain ⟨j, hj, rfl⟩ := List.mem_iff_getElem.mp hz
  rw [List.length_take] at hj
  rw [List.getElem_take] at e
  obtain ⟨hnl, rfl⟩ := List.getElem?_eq_some_iff.mp h
  have := List.getElem_map (fun x : Row => x.i) (l := ys) (i := j) (h := by rw [List.length_map]; omega)
  have h2 := List.getElem_map (fun x : Row => x.i) (l := ys) (i := n) (h := by rw [List.length_map]; omega)
  exact List.pairwise_iff_getElem.mp hn j n (by rw [List.length_map]; omega) (by rw [List.length_map]; omega) (by omega) (by rw [this, h2, e])
theorem restOf_all {xs ys : List Row} {p : Row → Bool} (hy : ∀ y, y ∈ ys ↔ y ∈ xs ∧ p y = true) (hxn : (xs.map (·.i)).Nodup) : restOf xs ys ys.length = xs.filter fun x => !p x := by
  unfold restOf
  refine List.filter_congr fun x hx => ?_
  rw [List.take_length]
  congr 1
  rw [Bool.eq_iff_iff, List.any_eq_true]
  constructor
  · rintro ⟨y, hm, e⟩
    rw [beq_iff_eq] at e
    have := (hy y).mp hm
    have f1 := findR_of hxn hx
    have f2 := findR_of hxn this.1
    rw [e, f1] at f2
    cases f2; exact this.2
  · intro h; exact ⟨x, (hy x).mpr ⟨hx, h⟩, beq_iff_eq.mpr rfl⟩
theorem restOf_find' {xs ys : List Row} {n : Nat} {x y : Row} (h : ys[n]? = some y) (hn : (ys.map (·.i)).Nodup) (hx : x ∈ xs) (hxy : x.i = y.i) (hxn : (xs.map (·.i)).Nodup) : findR (restOf xs ys n) y.i = some x := by
  rw [← hxy]
  refine findR_of ((List.Sublist.map _ List.filter_sublist).nodup hxn) (List.mem_filter.mpr ⟨hx, ?_⟩)
  rw [Bool.not_eq_true', List.any_eq_false]
  intro z hz e
  rw [beq_iff_eq, hxy] at e
  obtain ⟨j, hj, rfl⟩ := List.mem_iff_getElem.mp hz
  rw [List.length_take] at hj
  rw [List.getElem_take] at e
  obtain ⟨hnl, rfl⟩ := List.getElem?_eq_some_iff.mp h
  have := List.getElem_map (fun x : Row => x.i) (l := ys) (i := j) (h := by rw [List.length_map]; omega)
  have h2 := List.getElem_map (fun x : Row => x.i) (l := ys) (i := n) (h := by rw [List.length_map]; omega)
  exact List.pairwise_iff_getElem.mp hn j n (by rw [List.length_map]; omega) (by rw [List.length_map]; omega) (by omega) (by rw [this, h2, e])
theorem restOf_end {xs ys zs : List Row} (hp : ys.Perm zs) : restOf xs ys ys.length = xs.filter fun x => !(zs.any fun y => y.i == x.i) := by
  unfold restOf
  refine List.filter_congr fun x hx => ?_
  rw [List.take_length]
  congr 1
  rw [Bool.eq_iff_iff, List.any_eq_true, List.any_eq_true]
  exact ⟨fun ⟨y, hy, e⟩ => ⟨y, hp.mem_iff.mp hy, e⟩, fun ⟨y, hy, e⟩ => ⟨y, hp.mem_iff.mpr hy, e⟩⟩
end Mine
end
local macro_rules | `(tactic| k_room) => `(tactic| k_extra "own 1")
local macro_rules | `(tactic| walk_at "setItem ref ref") => `(tactic| (k_extra "own 2"; intro h' o' t' F' N' r'; (try dsimp only at N'); (try k_sweep)))
local macro_rules | `(tactic| walk_at "getMethod ref") => `(tactic| k_extra "own 3")
local macro_rules | `(tactic| walk_at "call builtin:dict.pop") => `(tactic| k_extra "own 4")
local macro_rules | `(tactic| walk_at "call builtin:sorted") => `(tactic| (k_extra "own 5"; intro D' c' h' t' F' N' l1; (try k_lt l1); (try k_sweep)))
local macro_rules | `(tactic| k_inst) => `(tactic| k_extra "own 6")
local macro_rules | `(tactic| walk_at "eval Name") => `(tactic| k_extra "own 38")
local macro_rules | `(tactic| walk_at "subscriptTail") => `(tactic| (k_extra "own 7"; intro t'))
local macro_rules | `(tactic| walk_at "subscriptTail") => `(tactic| k_extra "own 8")
local macro_rules | `(tactic| walk_at "call builtin:dict.pop") => `(tactic| k_extra "own 9")
local macro_rules | `(tactic| k_all) => `(tactic| with_reducible assumption)
local macro_rules | `(tactic| k_put) => `(tactic| first | with_reducible exact put_until | with_reducible exact put_rows)
local macro_rules | `(tactic| walk_at "subscriptTail") => `(tactic| k_extra "own 10")
local macro_rules | `(tactic| walk_at "assign Tuple") => `(tactic| (k_extra "own 11"; intro h' F' N'; (try k_sweep)))
local macro_rules | `(tactic| walk_at "exec For Name Name cons nil") => `(tactic| ((rename Fr _ _ _ _ => lF'); (with_unfolding_all refine' For_invVF lF' ?k1 ?k2 ?_; (case k1 => exact rfl); (case k2 => exact rfl); k_whole)))
local macro_rules | `(tactic| walk_at "call builtin:dict.pop") => `(tactic| first | (k_extra "own 39"; intro t') | (k_extra "own 40"; intro h' o' t' F' N' r'; (try dsimp only at N'); (try k_sweep)))
local macro_rules | `(tactic| walk_at "compareOp NotIn") => `(tactic| (k_extra "own 12"; intro t'))
local macro_rules | `(tactic| walk_at "compareOp NotEq") => `(tactic| k_extra "own 13")
local macro_rules | `(tactic| walk_at "eval ListComp") => `(tactic| k_extra "own h")
example : True := by
  k_with "own a" => (first | exact uniL ‹_› rfl | exact depL ‹_› rfl | exact uni1 ‹_› rfl | exact uni2 ‹_› rfl | exact uni3 ‹_› rfl | exact dep0 ‹_› | exact dep1 ‹_› rfl | exact dep2 ‹_› rfl | omega)
  k_with "own u" => (show _ < 9900; simp only [Around.deeper_units, Around.in1_units]; first | exact uni1 ‹_› rfl | exact uni2 ‹_› rfl | exact uni3 ‹_› rfl | omega)
  k_with "own d" => (first | exact dep0 ‹_› | exact dep1 ‹_› rfl | exact dep2 ‹_› rfl | omega)
  k_with "own ne" => (first | with_reducible exact ‹_› | with_reducible exact ‹_ ∧ _›.1 | with_reducible exact ‹_ ∧ _ ∧ _›.2.1 | with_reducible exact ‹_ ∧ _ ∧ _ ∧ _›.2.2.1 | with_reducible exact ‹_ ∧ _ ∧ _ ∧ _ ∧ _›.2.2.2.1 | with_reducible exact ‹_ ∧ _ ∧ _ ∧ _ ∧ _ ∧ _›.2.2.2.2.1 | with_reducible exact ‹_ ∧ _ ∧ _ ∧ _ ∧ _ ∧ _ ∧ _›.2.2.2.2.2.1 | with_reducible exact ‹_ ∧ _ ∧ _ ∧ _ ∧ _ ∧ _ ∧ _ ∧ _›.2.2.2.2.2.2.1 | with_reducible exact ‹_ ∧ _ ∧ _ ∧ _ ∧ _ ∧ _ ∧ _ ∧ _ ∧ _›.2.2.2.2.2.2.2.1 | with_reducible exact ‹_ ∧ _›.2 | with_reducible exact ‹_ ∧ _ ∧ _›.2.2 | with_reducible exact ‹_ ∧ _ ∧ _ ∧ _›.2.2.2 | with_reducible exact ‹_ ∧ _ ∧ _ ∧ _ ∧ _›.2.2.2.2 | with_reducible exact ‹_ ∧ _ ∧ _ ∧ _ ∧ _ ∧ _›.2.2.2.2.2 | with_reducible exact ‹_ ∧ _ ∧ _ ∧ _ ∧ _ ∧ _ ∧ _›.2.2.2.2.2.2 | with_reducible exact ‹_ ∧ _ ∧ _ ∧ _ ∧ _ ∧ _ ∧ _ ∧ _›.2.2.2.2.2.2.2 | with_reducible exact Nat.ne_of_lt ‹_› | with_reducible exact Nat.ne_of_lt ‹_ ∧ _›.1 | with_reducible exact Nat.ne_of_lt ‹_ ∧ _ ∧ _›.2.1 | with_reducible exact Nat.ne_of_lt ‹_ ∧ _ ∧ _ ∧ _›.2.2.1 | with_reducible exact Nat.ne_of_lt ‹_ ∧ _ ∧ _ ∧ _ ∧ _›.2.2.2.1 | with_reducible exact Nat.ne_of_lt ‹_ ∧ _ ∧ _ ∧ _ ∧ _ ∧ _›.2.2.2.2.1 | with_reducible exact Nat.ne_of_lt ‹_ ∧ _ ∧ _ ∧ _ ∧ _ ∧ _ ∧ _›.2.2.2.2.2.1 | with_reducible exact Nat.ne_of_lt ‹_ ∧ _ ∧ _ ∧ _ ∧ _ ∧ _ ∧ _ ∧ _›.2.2.2.2.2.2.1 | with_reducible exact Nat.ne_of_lt ‹_ ∧ _ ∧ _ ∧ _ ∧ _ ∧ _ ∧ _ ∧ _ ∧ _›.2.2.2.2.2.2.2.1 | with_reducible exact Nat.ne_of_lt ‹_ ∧ _›.2 | with_reducible exact Nat.ne_of_lt ‹_ ∧ _ ∧ _›.2.2 | with_reducible exact Nat.ne_of_lt ‹_ ∧ _ ∧ _ ∧ _›.2.2.2 | with_reducible exact Nat.ne_of_lt ‹_ ∧ _ ∧ _ ∧ _ ∧ _›.2.2.2.2 | with_reducible exact Nat.ne_of_lt ‹_ ∧ _ ∧ _ ∧ _ ∧ _ ∧ _›.2.2.2.2.2 | with_reducible exact Nat.ne_of_lt ‹_ ∧ _ ∧ _ ∧ _ ∧ _ ∧ _ ∧ _›.2.2.2.2.2.2 | with_reducible exact Nat.ne_of_lt ‹_ ∧ _ ∧ _ ∧ _ ∧ _ ∧ _ ∧ _ ∧ _›.2.2.2.2.2.2.2 | with_reducible exact Nat.ne_of_gt ‹_› | with_reducible exact Nat.ne_of_gt ‹_ ∧ _›.1 | with_reducible exact Nat.ne_of_gt ‹_ ∧ _ ∧ _›.2.1 | with_reducible exact Nat.ne_of_gt ‹_ ∧ _ ∧ _ ∧ _›.2.2.1 | with_reducible exact Nat.ne_of_gt ‹_ ∧ _ ∧ _ ∧ _ ∧ _›.2.2.2.1 | with_reducible exact Nat.ne_of_gt ‹_ ∧ _ ∧ _ ∧ _ ∧ _ ∧ _›.2.2.2.2.1 | with_reducible exact Nat.ne_of_gt ‹_ ∧ _ ∧ _ ∧ _ ∧ _ ∧ _ ∧ _›.2.2.2.2.2.1 | with_reducible exact Nat.ne_of_gt ‹_ ∧ _ ∧ _ ∧ _ ∧ _ ∧ _ ∧ _ ∧ _›.2.2.2.2.2.2.1 | with_reducible exact Nat.ne_of_gt ‹_ ∧ _ ∧ _ ∧ _ ∧ _ ∧ _ ∧ _ ∧ _ ∧ _›.2.2.2.2.2.2.2.1 | with_reducible exact Nat.ne_of_gt ‹_ ∧ _›.2 | with_reducible exact Nat.ne_of_gt ‹_ ∧ _ ∧ _›.2.2 | with_reducible exact Nat.ne_of_gt ‹_ ∧ _ ∧ _ ∧ _›.2.2.2 | with_reducible exact Nat.ne_of_gt ‹_ ∧ _ ∧ _ ∧ _ ∧ _›.2.2.2.2 | with_reducible exact Nat.ne_of_gt ‹_ ∧ _ ∧ _ ∧ _ ∧ _ ∧ _›.2.2.2.2.2 | with_reducible exact Nat.ne_of_gt ‹_ ∧ _ ∧ _ ∧ _ ∧ _ ∧ _ ∧ _›.2.2.2.2.2.2 | with_reducible exact Nat.ne_of_gt ‹_ ∧ _ ∧ _ ∧ _ ∧ _ ∧ _ ∧ _ ∧ _›.2.2.2.2.2.2.2 | with_reducible exact Ne.symm ‹_› | with_reducible exact Ne.symm ‹_ ∧ _›.1 | with_reducible exact Ne.symm ‹_ ∧ _ ∧ _›.2.1 | with_reducible exact Ne.symm ‹_ ∧ _ ∧ _ ∧ _›.2.2.1 | with_reducible exact Ne.symm ‹_ ∧ _ ∧ _ ∧ _ ∧ _›.2.2.2.1 | with_reducible exact Ne.symm ‹_ ∧ _ ∧ _ ∧ _ ∧ _ ∧ _›.2.2.2.2.1 | with_reducible exact Ne.symm ‹_ ∧ _ ∧ _ ∧ _ ∧ _ ∧ _ ∧ _›.2.2.2.2.2.1 | with_reducible exact Ne.symm ‹_ ∧ _ ∧ _ ∧ _ ∧ _ ∧ _ ∧ _ ∧ _›.2.2.2.2.2.2.1 | with_reducible exact Ne.symm ‹_ ∧ _ ∧ _ ∧ _ ∧ _ ∧ _ ∧ _ ∧ _ ∧ _›.2.2.2.2.2.2.2.1 | with_reducible exact Ne.symm ‹_ ∧ _›.2 | with_reducible exact Ne.symm ‹_ ∧ _ ∧ _›.2.2 | with_reducible exact Ne.symm ‹_ ∧ _ ∧ _ ∧ _›.2.2.2 | with_reducible exact Ne.symm ‹_ ∧ _ ∧ _ ∧ _ ∧ _›.2.2.2.2 | with_reducible exact Ne.symm ‹_ ∧ _ ∧ _ ∧ _ ∧ _ ∧ _›.2.2.2.2.2 | with_reducible exact Ne.symm ‹_ ∧ _ ∧ _ ∧ _ ∧ _ ∧ _ ∧ _›.2.2.2.2.2.2 | with_reducible exact Ne.symm ‹_ ∧ _ ∧ _ ∧ _ ∧ _ ∧ _ ∧ _ ∧ _›.2.2.2.2.2.2.2)
  trivial
local macro_rules | `(tactic| k_ne) => `(tactic| ((try dsimp only); k_extra "own ne"))
section
theorem Mine.off_10 : True := by
  w_top off
  trivial
namespace Mine
section
variable {prog : Program} {w : World} {A : Around} {s : Shared} {mean : ExcName → Option Value} {mg mb : Str → Option Value} {H₀ : Heap} {P : Addr → Prop} {R : Result → Shared → Prop}
theorem put_ct {b db r k a i : Nat} {u : Value} {v : Int} {xs : List Row} (C : Cx w mean mg mb H₀ P A s.heap 1) (B : Book prog w P s.heap b db r u xs)
    (hk : KeyAt prog w s.heap (Pk i) k) (hi : i < 4) (ha : IsMed prog w s.heap a v) (pk : P k) (pa : P a)
    (hR : ∀ h' t l, Keep [r] s.heap h' → s.heap.get? l = none → Book prog w P h' b db r u (putR xs i k l a v) → R (.ok (.ret .none)) { s with heap := h', toks := t }) :
    codeAny (model prog w) A (.call (.ref 35) ⟨[.ref b, .ref k, .ref a], []⟩) R s := by
  obtain ⟨t1, t2, n, hdb⟩ := B.dict
  obtain ⟨o, hr, hro⟩ := B.rows
  have hz := B.len
  have pp := B.p
  have nn := B.ne
  have hA := C.dep
  have hU := C.uni
  have kn := B.key_ne hk
  refine' enter (mo := [(b, instObj 85 db), (db, dictOf (bkD w t1 t2 r u) n), (r, o)]) C.B.X C.B.T C.st ?m ?ho ?hcd ?room ?bind ?loc ?_ ?c1 ?c2 ?c3 ?c4
  case ho => k_is
  case hcd => k_is
  case bind => exact BindsTo.of_eq rfl
  case loc => exact locs rfl
  case c1 => exact rfl
  case c2 => exact rfl
  case c3 => exact rfl
  case c4 => decide
  case room => show _ < 1000; k_extra "own a"
  case m => exact List.forall_mem_cons.mpr ⟨⟨B.inst, (C.hP b pp.1).1⟩, List.forall_mem_cons.mpr ⟨⟨hdb, (C.hP db pp.2.1).1⟩, List.forall_mem_cons.mpr ⟨⟨hr, (C.hP r pp.2.2).1⟩, fun _ h => nomatch h⟩⟩⟩
  intro g L h₁ KG eL F N X T SG
  dsimp only
  have hkg : KeyAt prog w g (Pk i) k := hk.keep fun o e => KG k o e (by simp [kn])
  have hks : ∀ x ∈ xs.map Row.ent, KeyAt prog w g x.1 x.2.1 := fun x hx => by
    obtain ⟨y, hy, rfl⟩ := List.mem_map.mp hx
    have := B.key_ne (B.keys y hy)
    exact (B.keys y hy).keep fun o e => KG _ o e (by simp [this])
  have hzz : (xs.map Row.ent).length ≤ 1000 := by rw [List.length_map]; omega
  try k_fold
  k_steps
  rename_i l hx l1 hf o' tf F N ro'
  have n1 := (N _ (.head _)).1
  have lg := (N _ (.head _)).2.2
  have n2 := (N _ (.tail _ (.head _))).1
  have n3 := (N _ (.tail _ (.tail _ (.head _)))).1
  have n4 := (N _ (.tail _ (.tail _ (.tail _ (.head _))))).1
  have K3 := keep_end KG F
  have ln : s.heap.get? l = none := keep_none KG lg (all2 (Nat.ne_of_lt l1.1) (all2 (Nat.ne_of_lt l1.2.1) (all1 (Nat.ne_of_lt l1.2.2))))
  rw [stored_ent xs i k l a v] at ro'
  have hkh : KeyAt prog w hf (Pk i) k := hkg.keep fun o => F.keep _ o
  have hksh : ∀ y ∈ xs, KeyAt prog w hf (Pk y.i) y.k := fun y hy => (hks y.ent (List.mem_map_of_mem hy)).keep fun o => F.keep _ o
  have out : ∀ {c : Addr}, c ≠ b ∧ c ≠ db ∧ c ≠ r → c ∉ [(b, instObj 85 db), (db, dictOf (bkD w t1 t2 r u) n), (r, o)].map (·.1) := fun x m => by
    rcases List.mem_cons.mp m with e | m
    · exact x.1 e
    rcases List.mem_cons.mp m with e | m
    · exact x.2.1 e
    · exact x.2.2 (List.mem_singleton.mp m)
  have nd := B.nd
  simp only [List.nodup_cons, List.mem_cons, not_or, List.mem_map, not_exists, not_and] at nd
  have sub : ∀ c : Addr, c ≠ l → (∀ x ∈ xs, ¬ x.l = c) → ∀ y ∈ putR xs i k l a v, ¬ y.l = c := fun c hc hx => putR_all (fun y hy _ => hx y hy) fun _ _ => Ne.symm hc
  refine hR hf tf l (keep_31 K3 B.inst n2 hdb n3) ln ⟨n2, ⟨t1, t2, n, n3⟩, ⟨o', n4, ro'⟩, putR_all (fun y hy _ => hksh y hy) (fun k' q => ?_), putR_all (fun y hy _ => K3 _ _ (B.row y hy) (out (B.nel' y hy))) fun _ _ => n1,
    putR_all (fun y hy _ => (B.med y hy).keep fun o e => K3 _ _ e (out (B.med_ne (B.med y hy)))) fun _ _ => ha.keep fun o e => K3 _ _ e (out (B.med_ne ha)), putR_all (fun y hy _ => B.small y hy) fun _ _ => hi, ?_, all_own pp.1 pp.2.1 pp.2.2 (putR_all (fun y hy _ => B.pl y hy) fun k' q => ⟨C.big pp.1 l1.1 ln, ?_, pa⟩)⟩
  · rcases q with rfl | ⟨x, hx, rfl, rfl⟩
    · exact hkh
    · exact hksh x hx
  · simp only [List.nodup_cons, List.mem_cons, not_or, List.mem_map, not_exists, not_and]
    refine ⟨⟨nd.1.1, nd.1.2.1, sub b (Nat.ne_of_lt l1.1) nd.1.2.2⟩, ⟨nd.2.1.1, sub db (Nat.ne_of_lt l1.2.1) nd.2.1.2⟩, sub r (Nat.ne_of_lt l1.2.2) nd.2.2.1, putR_nd B.nodup B.ndl fun x hx e => ?_⟩
    rw [← e, B.row x hx] at ln; cases ln
  · rcases q with rfl | ⟨x, hx, _, rfl⟩
    · exact pk
    · exact (B.pl x hx).2.1
end
end Mine
end
section
theorem Mine.off_11 : True := by
  w_top off
  trivial
namespace Mine
section
variable {prog : Program} {w : World} {A : Around} {s : Shared} {mean : ExcName → Option Value} {mg mb : Str → Option Value} {H₀ : Heap} {P : Addr → Prop} {R : Result → Shared → Prop}
theorem drop_ct {b db r k i : Nat} {u : Value} {xs : List Row} (C : Cx w mean mg mb H₀ P A s.heap 1) (B : Book prog w P s.heap b db r u xs)
    (hk : KeyAt prog w s.heap (Pk i) k)
    (hR : ∀ h' t, Keep [r] s.heap h' → Book prog w P h' b db r u (dropR xs i) → R (.ok (.ret (.bool (findR xs i).isSome))) { s with heap := h', toks := t }) :
    codeAny (model prog w) A (.call (.ref 42) ⟨[.ref b, .ref k], []⟩) R s := by
  obtain ⟨t1, t2, n, hdb⟩ := B.dict
  obtain ⟨o, hr, hro⟩ := B.rows
  have hz := B.len
  have pp := B.p
  have nn := B.ne
  have hA := C.dep
  have hU := C.uni
  have kn := B.key_ne hk
  refine' enter (mo := [(b, instObj 85 db), (db, dictOf (bkD w t1 t2 r u) n), (r, o)]) C.B.X C.B.T C.st ?m ?ho ?hcd ?room ?bind ?loc ?_ ?c1 ?c2 ?c3 ?c4
  case ho => k_is
  case hcd => k_is
  case bind => exact BindsTo.of_eq rfl
  case loc => exact locs rfl
  case c1 => exact rfl
  case c2 => exact rfl
  case c3 => exact rfl
  case c4 => decide
  case room => show _ < 1000; k_extra "own a"
  case m => exact all2 ⟨B.inst, (C.hP b pp.1).1⟩ (all2 ⟨hdb, (C.hP db pp.2.1).1⟩ (all1 ⟨hr, (C.hP r pp.2.2).1⟩))
  intro g L h₁ KG eL F N X T SG
  dsimp only
  have hkg : KeyAt prog w g (Pk i) k := hk.keep fun o e => KG k o e (by simp [kn])
  have hks : ∀ x ∈ xs.map Row.ent, KeyAt prog w g x.1 x.2.1 := fun x hx => by
    obtain ⟨y, hy, rfl⟩ := List.mem_map.mp hx
    have := B.key_ne (B.keys y hy)
    exact (B.keys y hy).keep fun o e => KG _ o e (by simp [this])
  have hzz : (xs.map Row.ent).length ≤ 1000 := by rw [List.length_map]; omega
  have lo : (r == sysModules) = false := low_of (C.hP r pp.2.2).2
  try k_fold
  k_steps
  · rename_i v t' e1 e2
    cases e2
    k_steps
    rw [show (false : Bool) = (findR xs i).isSome from by rw [atKey_ent] at e1; cases q : findR xs i with | none => rfl | some x => rw [q] at e1; cases e1]
    have hno : findR xs i = none := by rw [atKey_ent] at e1; cases q : findR xs i with | none => rfl | some x => rw [q] at e1; cases e1
    have K3 := keep_end KG F
    have n2 := (N _ (.head _)).1
    have n3 := (N _ (.tail _ (.head _))).1
    have n4 := (N _ (.tail _ (.tail _ (.head _)))).1
    have N2 := all_drop N
    have N3 := all_drop (all_drop N)
    refine hR h₁ t' (keep_less K3 (by simp; exact ⟨.inr (keep_one B.inst n2), .inr (keep_one hdb n3)⟩)) (B.sub K3 n2 ⟨t1, t2, n, n3⟩ ⟨o, n4, ?_⟩ List.filter_sublist)
    rw [dropR_none hno]; exact hro
  · rename_i p hf o' t' e F N ro'
    rw [atKey_ent] at e
    obtain ⟨x, hx, rfl⟩ := Option.map_eq_some_iff.mp e
    dsimp only
    k_steps
    rw [show (true : Bool) = (findR xs i).isSome from by rw [hx]; rfl]
    have K3 := keep_end KG F
    have n2 := (N _ (.head _)).1
    have n3 := (N _ (.tail _ (.head _))).1
    have n4 := (N _ (.tail _ (.tail _ (.head _)))).1
    rw [drop_ent] at ro'
    exact hR hf t' (keep_less K3 (by simp; exact ⟨.inr (keep_one B.inst n2), .inr (keep_one hdb n3)⟩)) (B.sub K3 n2 ⟨t1, t2, n, n3⟩ ⟨o', n4, ro'⟩ List.filter_sublist)
end
end Mine
end
section
theorem Mine.off_12 : True := by
  w_top off
  trivial
namespace Mine
section
variable {prog : Program} {w : World} {A : Around} {s : Shared} {mean : ExcName → Option Value} {mg mb : Str → Option Value} {H₀ : Heap} {P : Addr → Prop} {R : Result → Shared → Prop}
noncomputable abbrev keysR (xs : List Row) : List Value := xs.map fun x => Value.ref x.k
noncomputable def freshR (xs : List Row) : List Row := (sortBy (·.i) xs).filter fun x => !x.st
noncomputable def staleR (xs : List Row) : List Row := (sortBy (·.i) xs).filter fun x => x.st
theorem fas_ct {b db r : Nat} {u : Value} {xs : List Row} (C : Cx w mean mg mb H₀ P A s.heap 1) (B : Book prog w P s.heap b db r u xs)
    (hR : ∀ h' t q f z c1 c2 c3, Keep [] s.heap h' → s.heap.get? q = none → s.heap.get? f = none → s.heap.get? z = none → h'.get? q = some { cls := .type "tuple", data := .seq #[.ref f, .ref z] c3 } →
      h'.get? f = some (W.listOf (keysR (freshR xs)).toArray c1) → h'.get? z = some (W.listOf (keysR (staleR xs)).toArray c2) → R (.ok (.ret (.ref q))) { s with heap := h', toks := t }) :
    codeAny (model prog w) A (.call (.ref 47) ⟨[.ref b], []⟩) R s := by
  obtain ⟨t1, t2, n, hdb⟩ := B.dict
  obtain ⟨o, hr, hro⟩ := B.rows
  have hz := B.len
  have pp := B.p
  have nn := B.ne
  have hA := C.dep
  have hU := C.uni
  have hH : (A.deeper (envOf "" default 0 0 .none)).handled = none := C.hh
  refine' enterC (mo := [(b, instObj 85 db), (db, dictOf (bkD w t1 t2 r u) n), (r, o)]) C.B.X C.B.T C.st ?m ?ho ?hcd ?room ?bind ?loc ?nd ?_ ?c1 ?c2 ?c3
  case ho => k_is
  case hcd => k_is
  case bind => exact BindsTo.of_eq rfl
  case loc => exact rfl
  case nd => decide +kernel
  case c1 => exact rfl
  case c2 => exact rfl
  case c3 => exact rfl
  case room => show _ < 1000; k_extra "own a"
  case m => exact all2 ⟨B.inst, (C.hP b pp.1).1⟩ (all2 ⟨hdb, (C.hP db pp.2.1).1⟩ (all1 ⟨hr, (C.hP r pp.2.2).1⟩))
  intro g L h₁ tk cells KG eL F N Y lL X T SG
  k_lt lL
  k_cells Y
  simp only [List.cons_append, List.nil_append] at N
  (try dsimp only)
  have hks : ∀ x ∈ xs.map (fun x : Row => (x.i, x.k)), KeyAt prog w g (Pk x.1) x.2 := fun x hx => by
    obtain ⟨y, hy, rfl⟩ := List.mem_map.mp hx
    have := B.key_ne (B.keys y hy)
    exact (B.keys y hy).keep fun o e => KG _ o e (by simp [this])
  have hsm : ∀ x ∈ xs.map (fun x : Row => (x.i, x.k)), x.1 < 4 := fun x hx => by obtain ⟨y, hy, rfl⟩ := List.mem_map.mp hx; exact B.small y hy
  have h4 : (xs.map (fun x : Row => (x.i, x.k))).length ≤ 4 := by rw [List.length_map]; exact hz
  have hx2 : (xs.map Row.ent).map (fun x => (x.1, x.2.1)) = (xs.map (fun x : Row => (x.i, x.k))).map fun x => (Pk x.1, x.2) := by rw [List.map_map, List.map_map]; rfl
  have lo : (r == sysModules) = false := low_of (C.hP r pp.2.2).2
  try k_fold
  k_steps
  (with_reducible rename Fr _ _ _ _ => F)
  (with_reducible rename News _ _ _ _ => N)
  have es : refsOf (sortBy (·.1) (xs.map fun x : Row => (x.i, x.k))) = (sortBy (·.i) xs).map fun y => Value.ref y.k := by
    rw [sortBy_map]
    show List.map _ (List.map _ _) = _
    rw [List.map_map]; rfl
  rw [es] at N
  have inj0 : ∀ y ∈ sortBy (·.i) xs, ∀ z ∈ sortBy (·.i) xs, Value.ref y.k = Value.ref z.k → y = z := fun y hy z hz e => by
    injection e with e
    have hy' := sortBy_mem hy
    have hz' := sortBy_mem hz
    have k1 := B.keys y hy'
    rw [e] at k1
    have := Pk_inj.mp (IsTupleKey.inj k1 (B.keys z hz'))
    have f1 := findR_of B.nodup hy'
    rw [this, findR_of B.nodup hz'] at f1
    exact (Option.some.inj f1).symm
  have hsl : (sortBy (·.i) xs).length ≤ 1000 := by have := sortBy_length (fun x : Row => x.i) xs; omega
  have n1 := (N _ (.head _)).1
  have n2 := (N _ (.tail _ (.head _))).1
  have n3 := (N _ (.tail _ (.tail _ (.head _)))).1
  have n4 := (N _ (.tail _ (.tail _ (.tail _ (.head _))))).1
  have n5 := (N _ (.tail _ (.tail _ (.tail _ (.tail _ (.head _)))))).1
  have N1 := all_drop N
  have N2 := all_drop (all_drop N)
  have N3 := all_drop (all_drop (all_drop N))
  have N4 := all_drop (all_drop (all_drop (all_drop N)))
  have inj : ∀ y ∈ sortBy (·.i) xs, ∀ z ∈ sortBy (·.i) xs, Value.ref y.k = Value.ref z.k → (!y.st) = !z.st := fun y hy z hz e => by rw [inj0 y hy z hz e]
  refine' comp_pickR (ys := sortBy (·.i) xs) (fun y => Value.ref y.k) (fun y => !y.st) ?inj ?hh F N ?hclos ?hcell ?hkind ?hnames ?hx ?hb ?hit ?hl ?hsz ?htest ?rest ?hfold
  case hit => intro Q hq; exact nameX_L F rfl hq
  case hclos => exact rfl
  case hfold => intro _; rfl
  case hh => exact hH
  case hcell => decide
  case hkind => exact rfl
  case hnames => decide
  case hx => exact rfl
  case hb => decide
  case hl => exact ⟨_, n1, rfl, _, rfl⟩
  case hsz => exact hsl
  case inj => exact inj
  case htest =>
    intro C y s₃ m₃ E' Q' hy F₃ hm hq
    have hyx := sortBy_mem hy
    have Xc := X.keeps F.keep
    have Tc := T.keeps F.keep
    have hks' : ∀ x ∈ xs.map Row.ent, KeyAt prog w _ x.1 x.2.1 := fun x hx => by
      obtain ⟨z, hz, rfl⟩ := List.mem_map.mp hx
      exact (hks (z.i, z.k) (List.mem_map_of_mem (f := fun x : Row => (x.i, x.k)) hz)).keep fun o => F.keep _ o
    have hky := hks' y.ent (List.mem_map_of_mem hyx)
    have hp : atKey (xs.map Row.ent) (Pk y.i) = some (y.k, .ref y.l) := by rw [atKey_ent, findR_of B.nodup hyx]; rfl
    have hrow := F.keep _ _ (KG _ _ (B.row y hyx) (by have := B.nel y hyx; simp; exact ⟨Ne.symm this.1, Ne.symm this.2.1, Ne.symm this.2.2⟩))
    clear F N
    try k_fold
    k_steps
    exact hq _ _ fun _ _ e => e
  intro Df cf hf tf Ff Nf hDf kf
  have dn : Keep [] s.heap hf := by
    have K3 : Keep [b, db, r] s.heap hf := fun b o e n => kf b o (F.keep b o (KG b o e n))
    exact keep_less K3 (by simp; exact ⟨keep_one B.inst (kf _ _ n3), keep_one hdb (kf _ _ n4), keep_one hr (kf _ _ n5)⟩)
  have f0 : s.heap.get? Df = none := by
    cases q : s.heap.get? Df with
    | none => rfl
    | some o => 
      have K3 : Keep [b, db, r] s.heap _ := fun b o e n => F.keep b o (KG b o e n)
      have := keep_less (mo' := []) K3 (by simp; exact ⟨keep_one B.inst n3, keep_one hdb n4, keep_one hr n5⟩) Df o q (by simp)
      rw [hDf] at this; cases this
  replace n1 := kf _ _ n1
  replace n2 := kf _ _ n2
  replace n3 := kf _ _ n3
  replace n4 := kf _ _ n4
  replace n5 := kf _ _ n5
  clear N F N1 N2 N3 N4 inj
  have inj : ∀ y ∈ sortBy (·.i) xs, ∀ z ∈ sortBy (·.i) xs, Value.ref y.k = Value.ref z.k → y.st = z.st := fun y hy z hz e => by rw [inj0 y hy z hz e]
  k_steps
  (with_reducible rename Fr _ _ _ _ => F)
  (with_reducible rename News _ _ _ _ => N)
  refine' comp_pickR (ys := sortBy (·.i) xs) (fun y => Value.ref y.k) (fun y => y.st) ?inj2 ?hh2 F N ?hclos2 ?hcell2 ?hkind2 ?hnames2 ?hx2 ?hb2 ?hit2 ?hl2 ?hsz2 ?htest2 ?rest2 ?hfold2
  case hit2 => intro Q hq; exact nameX_L F rfl hq
  case hclos2 => exact rfl
  case hfold2 => intro _; rfl
  case hh2 => exact hH
  case hcell2 => decide
  case hkind2 => exact rfl
  case hnames2 => decide
  case hx2 => exact rfl
  case hb2 => decide
  case hl2 => exact ⟨_, n1, rfl, _, rfl⟩
  case hsz2 => exact hsl
  case inj2 => exact inj
  case htest2 =>
    intro C y s₃ m₃ E' Q' hy F₃ hm hq
    have hyx := sortBy_mem hy
    have Xc := X.keeps F.keep
    have Tc := T.keeps F.keep
    have hks' : ∀ x ∈ xs.map Row.ent, KeyAt prog w _ x.1 x.2.1 := fun x hx => by
      obtain ⟨z, hz, rfl⟩ := List.mem_map.mp hx
      exact (hks (z.i, z.k) (List.mem_map_of_mem (f := fun x : Row => (x.i, x.k)) hz)).keep fun o => F.keep _ o
    have hky := hks' y.ent (List.mem_map_of_mem hyx)
    have hp : atKey (xs.map Row.ent) (Pk y.i) = some (y.k, .ref y.l) := by rw [atKey_ent, findR_of B.nodup hyx]; rfl
    have hrow := F.keep _ _ (KG _ _ (B.row y hyx) (by have := B.nel y hyx; simp; exact ⟨Ne.symm this.1, Ne.symm this.2.1, Ne.symm this.2.2⟩))
    clear F N
    try k_fold
    k_steps
    exact hq _ _ fun _ _ e => e
  intro Dz cz hz tz Fz Nz hDz kz
  clear N F
  have z0 : s.heap.get? Dz = none := by
    cases q : s.heap.get? Dz with
    | none => rfl
    | some o => 
      have := dn Dz o q (by simp)
      rw [hDz] at this; cases this
  k_steps
  (with_reducible rename Fr _ _ _ _ => F)
  (with_reducible rename News _ _ _ _ => N)
  rename_i q hq l1
  have m1 := (N _ (.head _)).1
  have mq := (N _ (.head _)).2.2
  have m2 := (N _ (.tail _ (.head _))).1
  have m3 := (N _ (.tail _ (.tail _ (.head _)))).1
  have m6 := (N _ (.tail _ (.tail _ (.tail _ (.tail _ (.tail _ (.head _))))))).1
  have m7 := (N _ (.tail _ (.tail _ (.tail _ (.tail _ (.tail _ (.tail _ (.head _)))))))).1
  have m8 := (N _ (.tail _ (.tail _ (.tail _ (.tail _ (.tail _ (.tail _ (.tail _ (.head _))))))))).1
  have K3 := keep_end KG F
  refine hR hq tz q Df Dz _ _ _ (keep_less K3 (by simp; exact ⟨keep_one B.inst m6, keep_one hdb m7, keep_one hr m8⟩)) ?_ f0 z0 m1 m3 m2
  exact keep_none KG mq (all2 (Nat.ne_of_lt l1.2.2.2.2.1) (all2 (Nat.ne_of_lt l1.2.2.2.2.2.1) (all1 (Nat.ne_of_lt l1.2.2.2.2.2.2))))
end
end Mine
end
section
theorem Mine.off_13 : True := by
  w_top off
  trivial
namespace Mine
section
variable {prog : Program} {w : World} {A : Around} {s : Shared} {mean : ExcName → Option Value} {mg mb : Str → Option Value} {H₀ : Heap} {P : Addr → Prop} {R : Result → Shared → Prop}
noncomputable def Grow (h h' : Heap) : Prop := ∀ a, h'.get? a = none → h.get? a = none
theorem Grow.refl (h : Heap) : Grow h h := fun _ e => e
theorem Grow.trans {a b c : Heap} (x : Grow a b) (y : Grow b c) : Grow a c := fun i e => x i (y i e)
theorem Grow.keep {mo : List Addr} {h h' : Heap} (K : Keep mo h h') (x : ∀ a ∈ mo, ∃ o, h'.get? a = some o) : Grow h h' := fun a e => by
  cases q : h.get? a with
  | none => rfl
  | some o =>
    by_cases m : a ∈ mo
    · obtain ⟨o', e'⟩ := x a m; rw [e'] at e; cases e
    · rw [K a o q m] at e; cases e
theorem Grow.led {mo : List (Addr × Obj)} {h g h' : Heap} {L : Addr} {m : Str → Option Value} {news : List (Addr × Obj)} (KG : Keep (mo.map (·.1)) h g) (F : Fr g L h' m) (N : News g L h' news) (x : ∀ p ∈ mo, ∃ o, (p.1, o) ∈ news) : Grow h h' :=
  Grow.keep (keep_end KG F) fun a ha => by obtain ⟨p, hp, rfl⟩ := List.mem_map.mp ha; obtain ⟨o, ho⟩ := x p hp; exact ⟨o, (N _ ho).1⟩
theorem Cx.go {h h' : Heap} {A' : Around} {n k : Nat} (C : Cx w mean mg mb H₀ P A h n) (G : Grow h h') (st : H₀.StaysIn h') (d : A'.depth + k ≤ A.depth + n) (u : A'.units + 10 * k ≤ A.units + 10 * n) (hh : A'.handled = none) : Cx w mean mg mb H₀ P A' h' k where
  B := C.B
  st := st
  hP := C.hP
  hF := fun a e => C.hF a (G a e)
  dep := Nat.le_trans d C.dep
  uni := Nat.le_trans u C.uni
  hh := hh
theorem Book.at {h h' : Heap} {b db r : Addr} {u : Value} {xs : List Row} (B : Book prog w P h b db r u xs) (K : Keep [] h h') : Book prog w P h' b db r u xs :=
  B.sub (keep_less K fun a ha => by simp at ha) (K _ _ B.inst (by simp)) (let ⟨t1, t2, n, e⟩ := B.dict; ⟨t1, t2, n, K _ _ e (by simp)⟩) (let ⟨o, e, x⟩ := B.rows; ⟨o, K _ _ e (by simp), x⟩) (List.Sublist.refl _)

theorem fas_k {E : Value → Shared → Prop} {Q : Value → Shared → Prop} {h₀ : Heap} {L b db r : Nat} {u : Value} {xs : List Row} {m : Str → Option Value} {news : List (Addr × Obj)} (F : Fr h₀ L s.heap m) (N : News h₀ L s.heap news)
    (C : Cx w mean mg mb H₀ P A s.heap 1) (B : Book prog w P s.heap b db r u xs)
    (h : ∀ h' t q f z c1 c2 c3, Keep [] s.heap h' → Fr h₀ L h' m → News h₀ L h' ((q, { cls := .type "tuple", data := .seq #[.ref f, .ref z] c3 }) :: (f, W.listOf (keysR (freshR xs)).toArray c1) :: (z, W.listOf (keysR (staleR xs)).toArray c2) :: news) → (∀ p ∈ news, @Ne Nat p.1 q) → (∀ p ∈ news, @Ne Nat p.1 f) → (∀ p ∈ news, @Ne Nat p.1 z) → Q (.ref q) { s with heap := h', toks := t }) :
    wpAny (model prog w) A (call (.ref 47) [.ref b]) Q E s :=
  wpAny_call (fas_ct C B fun h' t q f z c1 c2 c3 K hq hf hz eq ef ez => by
    have k : ∀ b o, s.heap.get? b = some o → h'.get? b = some o := fun b o e => K b o e (by simp)
    exact h h' t q f z c1 c2 c3 K (fr_all F k) (List.forall_mem_cons.mpr ⟨⟨eq, none_L F hq, none_base F hq⟩, List.forall_mem_cons.mpr ⟨⟨ef, none_L F hf, none_base F hf⟩, List.forall_mem_cons.mpr ⟨⟨ez, none_L F hz, none_base F hz⟩, news_all N k⟩⟩⟩) (fun p hp => ne_fresh (N p hp).1 hq) (fun p hp => ne_fresh (N p hp).1 hf) (fun p hp => ne_fresh (N p hp).1 hz))

theorem ds_ct {b db r : Nat} {u : Value} {xs : List Row} (C : Cx w mean mg mb H₀ P A s.heap 2) (B : Book prog w P s.heap b db r u xs)
    (hR : ∀ h' t z c, Keep [db, r] s.heap h' → s.heap.get? z = none → h'.get? z = some (W.listOf (keysR (staleR xs)).toArray c) → Book prog w P h' b db r .none (xs.filter fun x => !x.st) → R (.ok (.ret (.ref z))) { s with heap := h', toks := t }) :
    codeAny (model prog w) A (.call (.ref 54) ⟨[.ref b], []⟩) R s := by
  obtain ⟨t1, t2, n, hdb⟩ := B.dict
  obtain ⟨o, hr, hro⟩ := B.rows
  have hz := B.len
  have pp := B.p
  have nn := B.ne
  have hA := C.dep
  have hU := C.uni
  refine' enter (mo := [(b, instObj 85 db), (db, dictOf (bkD w t1 t2 r u) n), (r, o)]) C.B.X C.B.T C.st ?m ?ho ?hcd ?room ?bind ?loc ?_ ?c1 ?c2 ?c3 ?c4
  case ho => k_is
  case hcd => k_is
  case bind => exact BindsTo.of_eq rfl
  case loc => exact locs rfl
  case c1 => exact rfl
  case c2 => exact rfl
  case c3 => exact rfl
  case c4 => decide
  case room => show _ < 1000; k_extra "own a"
  case m => exact all2 ⟨B.inst, (C.hP b pp.1).1⟩ (all2 ⟨hdb, (C.hP db pp.2.1).1⟩ (all1 ⟨hr, (C.hP r pp.2.2).1⟩))
  intro g L h₁ KG eL F N X T SG
  dsimp only
  have lo : (r == sysModules) = false := low_of (C.hP r pp.2.2).2
  have CN : Cx w mean mg mb H₀ P (A.deeper (envOf "" default 0 0 .none)) s.heap 1 := C.go (Grow.refl _) C.st (by simp only [depth_deeper]; k_extra "own a") (by simp only [Around.deeper_units]; k_extra "own a") C.hh
  try k_fold
  k_steps
  refine' fas_k (xs := xs) F N (C.go (Grow.led KG F N ?gr) (fun b o e => F.keep b o (SG b o e)) ?d ?u C.hh) ?bk ?_
  case gr => exact all2 ⟨_, .head _⟩ (all2 ⟨_, .tail _ (.head _)⟩ (all1 ⟨_, .tail _ (.tail _ (.head _))⟩))
  case d => simp only [depth_deeper]; k_extra "own a"
  case u => simp only [Around.deeper_units]; k_extra "own a"
  case bk => exact B.sub (keep_end KG F) (N _ (.head _)).1 ⟨t1, t2, n, (N _ (.tail _ (.head _))).1⟩ ⟨o, (N _ (.tail _ (.tail _ (.head _)))).1, hro⟩ (List.Sublist.refl _)
  intro h₂ tk₂ q f z c1 c2 c3 k2 F N nq nf nz
  simp only [List.forall_mem_cons] at nz
  obtain ⟨nz1, nz2, nz3, _⟩ := nz
  (try dsimp only at nz1 nz2 nz3)
  k_steps
  (with_reducible rename Fr _ _ _ _ => F)
  (with_reducible rename News _ _ _ _ => N)
  have sp : (sortBy (·.i) xs).Perm xs := sortBy_perm B.small
  have ym : ∀ y, y ∈ staleR xs ↔ y ∈ xs ∧ y.st = true := fun y => by unfold staleR; rw [List.mem_filter, sp.mem_iff]
  have yn : ((staleR xs).map (·.i)).Nodup := List.Sublist.nodup (List.Sublist.map _ List.filter_sublist) ((sp.map _).nodup_iff.mpr B.nodup)
  have hm := (N (z, _) (.tail _ (.tail _ (.head _))))
  refine' loop_list1 (vs := keysR (staleR xs)) ?hh ⟨_, hm.1, rfl, _, rfl⟩ hm.2.1 F (fun o' : Obj => [(z, W.listOf (keysR (staleR xs)).toArray c2), (b, instObj 85 db), (db, dictOf (bkD w t1 t2 r u) n), (r, o')]) o ?N (fun i o' => RowsObj prog w o' ((restOf xs (staleR xs) i).map Row.ent)) ?h0 ?turn ?rest
  case hh => exact C.hh
  case N => intro p hp; exact N p (by revert p; simp)
  case h0 => rw [restOf_zero]; exact hro
  case turn =>
    intro i v hi hv o' h tk own Q' ho hJ F₁ N₁ hq
    have ne1 := own_ne ho (N (r, _) (.tail _ (.tail _ (.tail _ (.tail _ (.tail _ (.head _))))))).1 nz3
    rw [List.getElem?_map] at hv
    obtain ⟨y, hy, rfl⟩ := Option.map_eq_some_iff.mp hv
    have hyx := ((ym y).mp (List.mem_of_getElem? hy)).1
    have hf := restOf_find hy yn hyx B.nodup
    have hp : (atKey ((restOf xs (staleR xs) i).map Row.ent) (Pk y.i)).isSome = true := by rw [atKey_ent, hf]; rfl
    have hks : ∀ x ∈ (restOf xs (staleR xs) i).map Row.ent, KeyAt prog w g x.1 x.2.1 := fun x hx => by
      obtain ⟨y, hy, rfl⟩ := List.mem_map.mp hx
      have hy := (List.mem_filter.mp hy).1
      have := B.key_ne (B.keys y hy)
      exact (B.keys y hy).keep fun o e => KG _ o e (by simp [this])
    have hky : KeyAt prog w g (Pk y.i) y.k := by
      have := B.key_ne (B.keys y hyx)
      exact (B.keys y hyx).keep fun o e => KG _ o e (by simp [this])
    have hzz : ((restOf xs (staleR xs) i).map Row.ent).length ≤ 1000 := by have := List.length_filter_le (fun x : Row => !(((staleR xs).take i).any fun y => y.i == x.i)) xs; rw [List.length_map]; unfold restOf; omega
    simp only [List.cons_append, List.nil_append] at N₁
    k_steps
    rename_i p h' o'' t' _ F' N' r'
    rw [drop_ent, restOf_succ hy] at r'
    exact hq _ _ o'' _ F' N' (same_addrs rfl) r'
  case rest =>
    clear hm N F
    intro h₃ tk₃ pv o' F N hro'
    replace F : Fr g L h₃ _ := F
    replace N : News g L h₃ _ := N
    have el : (keysR (staleR xs)).length = (staleR xs).length := List.length_map _
    rw [el, restOf_all ym B.nodup] at hro'
    k_steps
    (with_reducible rename News _ _ _ _ => N)
    (with_reducible rename Fr _ _ _ _ => F)
    have m1 := (N _ (.head _)).1
    have mz := (N _ (.head _)).2.2
    have m2 := (N _ (.tail _ (.head _))).1
    have m3 := (N _ (.tail _ (.tail _ (.head _)))).1
    have m4 := (N _ (.tail _ (.tail _ (.tail _ (.head _))))).1
    have K3 := keep_end KG F
    refine hR _ _ z _ (keep_less K3 (by simp; exact .inr (keep_one B.inst m2))) (keep_none KG mz (all2 nz1 (all2 nz2 (all1 nz3)))) m1 (B.sub K3 m2 ⟨t1, t2, n, m3⟩ ⟨o', m4, hro'⟩ List.filter_sublist)
end
end Mine
end
section
theorem Mine.off_14 : True := by
  w_top off
  trivial
namespace Mine
section
variable {prog : Program} {w : World} {A : Around} {s : Shared} {mean : ExcName → Option Value} {mg mb : Str → Option Value} {H₀ : Heap} {P : Addr → Prop} {R : Result → Shared → Prop}
inductive Told (h : Heap) : Value → Option (Int × Value) → Prop where
  | no : Told h .none none
  | yes {p : Addr} {c : Value} {k : Int} {t : Tok} {v : Value} {n : Nat} : h.get? p = some { cls := .type "tuple", data := .seq #[c, .int k t, v] n } → Told h (.ref p) (some (k, v))
theorem Told.keep {h h' : Heap} {v : Value} {x} (T : Told h v x) (e : ∀ a o, h.get? a = some o → o.cls = .type "tuple" → h'.get? a = some o) : Told h' v x := by
  cases T with
  | no => exact .no
  | yes q => exact .yes (e _ _ q rfl)
noncomputable abbrev rowObj (y : Row) : Addr × Obj := (y.l, W.listOf #[.ref y.a, .bool y.st] 0)

theorem rows_empty {o : Obj} (x : o.IsDictOf (strKind prog w) []) : RowsObj prog w o [] := by
  obtain ⟨es, ep, hc, hd, hk, hp, hn⟩ := x
  refine ⟨es, ep, hc, hd, ?_, List.nodup_nil⟩
  cases hq : es.toList with
  | nil => rfl
  | cons e r => rw [hq] at hp; cases hp

theorem sl_none_ct {b db r : Nat} {u now : Value} {xs : List Row} {v : Value} {td : Option (Int × Value)} (C : Cx w mean mg mb H₀ P A s.heap 1) (B : Book prog w P s.heap b db r u xs) (hT : Told s.heap v td) (htd : td.elim True fun x => x.2 = .none)
    (hR : ∀ h' t z c (r' : Nat), Keep [db] s.heap h' → s.heap.get? z = none → h'.get? z = some (W.listOf (keysR (sortBy (·.i) xs)).toArray c) → s.heap.get? r' = none → Book prog w P h' b db r' .none [] → R (.ok (.ret (.ref z))) { s with heap := h', toks := t }) :
    codeAny (model prog w) A (.call (.ref 61) ⟨[.ref b, now, v], []⟩) R s := by
  obtain ⟨t1, t2, n, hdb⟩ := B.dict
  obtain ⟨o, hr, hro⟩ := B.rows
  have hz := B.len
  have pp := B.p
  have nn := B.ne
  have hA := C.dep
  have hU := C.uni
  refine' enter (mo := [(b, instObj 85 db), (db, dictOf (bkD w t1 t2 r u) n), (r, o)]) C.B.X C.B.T C.st ?m ?ho ?hcd ?room ?bind ?loc ?_ ?c1 ?c2 ?c3 ?c4
  case ho => k_is
  case hcd => k_is
  case bind => exact BindsTo.of_eq rfl
  case loc => exact locs rfl
  case c1 => exact rfl
  case c2 => exact rfl
  case c3 => exact rfl
  case c4 => decide
  case room => show _ < 1000; k_extra "own a"
  case m => exact all2 ⟨B.inst, (C.hP b pp.1).1⟩ (all2 ⟨hdb, (C.hP db pp.2.1).1⟩ (all1 ⟨hr, (C.hP r pp.2.2).1⟩))
  intro g L h₁ KG eL F N X T SG
  dsimp only
  have lo : (r == sysModules) = false := low_of (C.hP r pp.2.2).2
  have hks : ∀ x ∈ xs.map (fun x : Row => (x.i, x.k)), KeyAt prog w g (Pk x.1) x.2 := fun x hx => by
    obtain ⟨y, hy, rfl⟩ := List.mem_map.mp hx
    have := B.key_ne (B.keys y hy)
    exact (B.keys y hy).keep fun o e => KG _ o e (by simp [this])
  have hsm : ∀ x ∈ xs.map (fun x : Row => (x.i, x.k)), x.1 < 4 := fun x hx => by obtain ⟨y, hy, rfl⟩ := List.mem_map.mp hx; exact B.small y hy
  have h4 : (xs.map (fun x : Row => (x.i, x.k))).length ≤ 4 := by rw [List.length_map]; exact hz
  have hx2 : (xs.map Row.ent).map (fun x => (x.1, x.2.1)) = (xs.map (fun x : Row => (x.i, x.k))).map fun x => (Pk x.1, x.2) := by rw [List.map_map, List.map_map]; rfl
  have hH : (A.deeper (envOf "" default 0 0 .none)).handled = none := C.hh
  have hTg : Told g v td := hT.keep fun a o e c => KG a o e (by
    have := B.nek e (by rw [c]; intro q; cases q) (by rw [c]; decide)
    simp [this])
  have fin : ∀ (D c d : Nat) (o' : Obj) (DD : Addr) (no : Obj) (hf : Heap) (tk : Nat) {m : Str → Option Value}, Fr g L hf m → News g L hf [(DD, no), (d, o'), (D, W.listOf (refsOf (sortBy (·.1) (xs.map fun x : Row => (x.i, x.k)))).toArray c), (b, instObj 85 db), (db, dictOf (bkD w t1 t2 d .none) n), (r, o)] → Obj.IsDictOf (strKind prog w) o' [] →
      b < D → db < D → r < D → (D < d ∧ b < d ∧ db < d ∧ r < d) → R (.ok (.ret (.ref D))) { s with heap := hf, toks := tk } := fun D c d o' DD no hf tk m F N hs l1 l2 l3 l4 => by
    have m2 := (N _ (.tail _ (.head _))).1
    have m2g := (N _ (.tail _ (.head _))).2.2
    have m3 := (N _ (.tail _ (.tail _ (.head _)))).1
    have m3g := (N _ (.tail _ (.tail _ (.head _)))).2.2
    have m4 := (N _ (.tail _ (.tail _ (.tail _ (.head _))))).1
    have m5 := (N _ (.tail _ (.tail _ (.tail _ (.tail _ (.head _)))))).1
    have m6 := (N _ (.tail _ (.tail _ (.tail _ (.tail _ (.tail _ (.head _))))))).1
    have K3 := keep_end KG F
    have es : refsOf (sortBy (·.1) (xs.map fun x : Row => (x.i, x.k))) = keysR (sortBy (·.i) xs) := by
      rw [sortBy_map]
      show List.map _ (List.map _ _) = _
      rw [List.map_map]; rfl
    rw [es] at m3
    have D0 : s.heap.get? D = none := keep_none KG m3g (all2 (Nat.ne_of_lt l1) (all2 (Nat.ne_of_lt l2) (all1 (Nat.ne_of_lt l3))))
    have d0 : s.heap.get? d = none := keep_none KG m2g (all2 (Nat.ne_of_lt l4.2.1) (all2 (Nat.ne_of_lt l4.2.2.1) (all1 (Nat.ne_of_lt l4.2.2.2))))
    have pd : P d := C.big pp.1 l4.2.1 d0
    refine hR hf tk D c d (keep_less K3 (by simp; exact ⟨.inr (keep_one B.inst m4), .inr (keep_one hr m6)⟩)) D0 m3 d0 ⟨m4, ⟨t1, t2, n, m5⟩, ⟨o', m2, rows_empty hs⟩, (fun _ h => nomatch h), (fun _ h => nomatch h), (fun _ h => nomatch h), (fun _ h => nomatch h), ?_, ?_⟩
    · show ([b, db, d] : List Nat).Nodup
      have := l4.2.1; have := l4.2.2.1; have := nn.1
      simp; omega
    · intro a ha
      simp at ha
      rcases ha with rfl | rfl | rfl
      · exact pp.1
      · exact pp.2.1
      · exact pd
  cases hTg with
  | no =>
    try k_fold
    k_steps
    rename_i D c h6 t0 l1 h5 tk0 d h4' o' lo' hs fs hi fi l2 DD h3 l3 h2 h1' hf F N
    exact fin D c d o' _ _ hf tk F N hs l1.1 l1.2.1 l1.2.2 l2
  | yes hp =>
    cases htd
    try k_fold
    k_steps
    rename_i D c h6 t0 l1 h5 tk0 d h4' o' lo' hs fs hi fi l2 DD h3 l3 h2 h1' hf F N
    exact fin D c d o' _ _ hf tk F N hs l1.1 l1.2.1 l1.2.2 l2
end
end Mine
end
section
theorem Mine.off_15 : True := by
  w_top off
  trivial
namespace Mine
section
variable {prog : Program} {w : World} {A : Around} {s : Shared} {mean : ExcName → Option Value} {mg mb : Str → Option Value} {H₀ : Heap} {P : Addr → Prop} {R : Result → Shared → Prop}
theorem fr_keep {mo : List Addr} {h h' h₀ : Heap} {L : Addr} {m : Str → Option Value} (F : Fr h₀ L h m) (K : Keep mo h h') (hL : L ∉ mo) (h0 : ∀ a ∈ mo, h₀.get? a = none) : Fr h₀ L h' m :=
  ⟨F.ns.at' fun o e => K L o e hL, fun b o e => K b o (F.keep b o e) (fun hb => by rw [h0 b hb] at e; cases e), F.above⟩
theorem upd_split {d : Addr} {o o' : Obj} : ∀ {pre post : List (Addr × Obj)}, (∀ p ∈ pre, p.1 ≠ d) → (∀ p ∈ post, p.1 ≠ d) → Upd d o o' (pre ++ (d, o) :: post) (pre ++ (d, o') :: post)
  | [], _, _, h => .head h
  | p :: r, _, h, h' => .tail (List.forall_mem_cons.mp h).1 (upd_split (List.forall_mem_cons.mp h).2 h')

theorem ds_k {E : Value → Shared → Prop} {Q : Value → Shared → Prop} {h₀ : Heap} {L b db r : Nat} {u : Value} {xs : List Row} {m : Str → Option Value} (F : Fr h₀ L s.heap m)
    (C : Cx w mean mg mb H₀ P A s.heap 2) (B : Book prog w P s.heap b db r u xs) (No : ∀ a ∈ b :: db :: r :: xs.map (·.l), a ≠ L ∧ h₀.get? a = none)
    (h : ∀ h' t (z : Nat) c t1 t2 n o, Keep [db, r] s.heap h' → Fr h₀ L h' m → News h₀ L h' ((z, W.listOf (keysR (staleR xs)).toArray c) :: (b, instObj 85 db) :: (db, dictOf (bkD w t1 t2 r .none) n) :: (r, o) :: (xs.filter fun x => !x.st).map rowObj) →
      RowsObj prog w o ((xs.filter fun x => !x.st).map Row.ent) → Book prog w P h' b db r .none (xs.filter fun x => !x.st) → s.heap.get? z = none → (∀ a ∈ b :: db :: r :: xs.map (·.l), @Ne Nat a z) → Q (.ref z) { s with heap := h', toks := t }) :
    wpAny (model prog w) A (call (.ref 54) [.ref b]) Q E s :=
  wpAny_call (ds_ct C B fun h' t z c K hz ez B' => by
    obtain ⟨t1, t2, n, hd⟩ := B'.dict
    obtain ⟨o, hr, hro⟩ := B'.rows
    have F' : Fr h₀ L h' m := fr_keep F K (fun q => by
      simp only [List.mem_cons, List.not_mem_nil, or_false] at q
      rcases q with q | q
      · exact (No db (.tail _ (.head _))).1 q.symm
      · exact (No r (.tail _ (.tail _ (.head _)))).1 q.symm) (fun a ha => (No a (by simp at ha ⊢; rcases ha with rfl | rfl <;> simp)).2)
    refine h h' t z c t1 t2 n o K F' (all2 ⟨ez, none_L F hz, none_base F hz⟩ (all2 ⟨B'.inst, No b (.head _)⟩ (all2 ⟨hd, No db (.tail _ (.head _))⟩ (all2 ⟨hr, No r (.tail _ (.tail _ (.head _)))⟩ fun p hp => ?_)))) hro B' hz fun a ha => ?_
    rotate_left
    · simp only [List.mem_cons, List.mem_map] at ha
      rcases ha with rfl | rfl | rfl | ⟨y, hy, rfl⟩
      · exact ne_fresh B.inst hz
      · obtain ⟨_, _, _, e⟩ := B.dict; exact ne_fresh e hz
      · obtain ⟨_, e, _⟩ := B.rows; exact ne_fresh e hz
      · exact ne_fresh (B.row y hy) hz
    obtain ⟨y, hy, rfl⟩ := List.mem_map.mp hp
    exact ⟨B'.row y hy, No y.l (.tail _ (.tail _ (.tail _ (List.mem_map_of_mem (f := fun x : Row => x.l) (List.mem_filter.mp hy).1))))⟩)

noncomputable def Row.mark (x : Row) : Row := { x with st := true }
noncomputable abbrev keptR (xs : List Row) : List Row := xs.filter fun x => !x.st
theorem mark_l (xs : List Row) : (xs.map Row.mark).map (·.l) = xs.map (·.l) := by rw [List.map_map]; rfl
theorem mark_k (xs : List Row) : (xs.map Row.mark).map (·.k) = xs.map (·.k) := by rw [List.map_map]; rfl
theorem mark_a (xs : List Row) : (xs.map Row.mark).map (·.a) = xs.map (·.a) := by rw [List.map_map]; rfl
theorem mark_ent (xs : List Row) : (xs.map Row.mark).map Row.ent = xs.map Row.ent := by rw [List.map_map]; rfl
theorem Book.key_l {h : Heap} {b db r : Addr} {u : Value} {xs : List Row} (B : Book prog w P h b db r u xs) {k : List Int} {c : Addr} (x : KeyAt prog w h k c) : ∀ y ∈ xs, c ≠ y.l := fun y hy => by
  obtain ⟨o, ho, hc⟩ := x.cls
  exact ne_obj ho (B.row y hy) (by rw [hc]; show _ ≠ Value.type "list"; decide)
theorem Book.med_l {h : Heap} {b db r : Addr} {u : Value} {xs : List Row} (B : Book prog w P h b db r u xs) {c : Addr} {v : Int} (x : IsMed prog w h c v) : ∀ y ∈ xs, c ≠ y.l := fun y hy => by
  obtain ⟨o, t, ho, hx⟩ := x
  have hc : o.cls = .type "dict" := let ⟨_, _, hc, _⟩ := hx; hc.1
  exact ne_obj ho (B.row y hy) (by rw [hc]; show _ ≠ Value.type "list"; decide)
theorem Book.marked {h h' : Heap} {b db r : Addr} {u u' : Value} {xs ys : List Row} (B : Book prog w P h b db r u xs) (K : Keep (b :: db :: r :: xs.map (·.l)) h h') (hi : h'.get? b = some (instObj 85 db))
    (hd : ∃ t1 t2 n, h'.get? db = some (dictOf (bkD w t1 t2 r u') n)) (hr : ∃ o, h'.get? r = some o ∧ RowsObj prog w o (ys.map Row.ent)) (hl : ∀ y ∈ ys, h'.get? y.l = some (W.listOf #[.ref y.a, .bool true] 0)) (hs : ys.Sublist xs) : Book prog w P h' b db r u' (ys.map Row.mark) where
  inst := hi
  dict := hd
  rows := by rw [mark_ent]; exact hr
  keys := fun x hx => by
    obtain ⟨y, hy, rfl⟩ := List.mem_map.mp hx
    have hk := B.keys y (hs.subset hy)
    exact hk.keep fun o e => K _ o e (by
      have := B.key_ne hk
      have h2 := B.key_l hk
      simp only [List.mem_cons, List.mem_map, not_or]
      exact ⟨this.1, this.2.1, this.2.2, fun ⟨z, hz, e⟩ => h2 z hz e.symm⟩)
  row := fun x hx => by
    obtain ⟨y, hy, rfl⟩ := List.mem_map.mp hx
    exact hl y hy
  med := fun x hx => by
    obtain ⟨y, hy, rfl⟩ := List.mem_map.mp hx
    have hk := B.med y (hs.subset hy)
    exact hk.keep fun o e => K _ o e (by
      have := B.med_ne hk
      have h2 := B.med_l hk
      simp only [List.mem_cons, List.mem_map, not_or]
      exact ⟨this.1, this.2.1, this.2.2, fun ⟨z, hz, e⟩ => h2 z hz e.symm⟩)
  small := fun x hx => by
    obtain ⟨y, hy, rfl⟩ := List.mem_map.mp hx
    exact B.small y (hs.subset hy)
  nd := by rw [mark_l]; exact B.nd.sublist (.cons_cons _ (.cons_cons _ (.cons_cons _ (hs.map _))))
  own := fun a ha => by
    rw [mark_l, mark_k, mark_a] at ha
    have sm : ∀ (f : Row → Addr) c, c ∈ ys.map f → c ∈ xs.map f := fun f c hc => (hs.map f).subset hc
    simp only [List.mem_cons, List.mem_append] at ha
    rcases ha with rfl | rfl | rfl | ha | ha | ha
    · exact B.p.1
    · exact B.p.2.1
    · exact B.p.2.2
    · obtain ⟨y, hy, rfl⟩ := List.mem_map.mp (sm _ _ ha); exact (B.pl y hy).1
    · obtain ⟨y, hy, rfl⟩ := List.mem_map.mp (sm _ _ ha); exact (B.pl y hy).2.1
    · obtain ⟨y, hy, rfl⟩ := List.mem_map.mp (sm _ _ ha); exact (B.pl y hy).2.2

theorem sl_ct {b db r : Nat} {u : Value} {nw : Int} {tn : Tok} {xs : List Row} {v : Value} {k : Int} {bb : Bool} (C : Cx w mean mg mb H₀ P A s.heap 3) (B : Book prog w P s.heap b db r u xs) (hT : Told s.heap v (some (k, .bool bb)))
    (hR : ∀ h' t (z : Nat) c tu, Keep (db :: r :: xs.map (·.l)) s.heap h' → s.heap.get? z = none → h'.get? z = some (W.listOf (keysR (staleR xs)).toArray c) → Book prog w P h' b db r (.int (nw + k) tu) ((keptR xs).map Row.mark) → R (.ok (.ret (.ref z))) { s with heap := h', toks := t }) :
    codeAny (model prog w) A (.call (.ref 61) ⟨[.ref b, .int nw tn, v], []⟩) R s := by
  obtain ⟨t1, t2, n, hdb⟩ := B.dict
  obtain ⟨o, hr, hro⟩ := B.rows
  have hz := B.len
  have pp := B.p
  have nn := B.ne
  have hA := C.dep
  have hU := C.uni
  refine' enter (mo := (b, instObj 85 db) :: (db, dictOf (bkD w t1 t2 r u) n) :: (r, o) :: xs.map rowObj) C.B.X C.B.T C.st ?m ?ho ?hcd ?room ?bind ?loc ?_ ?c1 ?c2 ?c3 ?c4
  case ho => k_is
  case hcd => k_is
  case bind => exact BindsTo.of_eq rfl
  case loc => exact locs rfl
  case c1 => exact rfl
  case c2 => exact rfl
  case c3 => exact rfl
  case c4 => decide
  case room => show _ < 1000; k_extra "own a"
  case m => exact all2 ⟨B.inst, (C.hP b pp.1).1⟩ (all2 ⟨hdb, (C.hP db pp.2.1).1⟩ (all2 ⟨hr, (C.hP r pp.2.2).1⟩ fun p hp => by
    obtain ⟨y, hy, rfl⟩ := List.mem_map.mp hp
    exact ⟨B.row y hy, (C.hP y.l (B.pl y hy).1).1⟩))
  intro g L h₁ KG eL F N X T SG
  dsimp only
  have lo : (r == sysModules) = false := low_of (C.hP r pp.2.2).2
  have hH : (A.deeper (envOf "" default 0 0 .none)).handled = none := C.hh
  have hTg : Told g v (some (k, .bool bb)) := hT.keep fun a o e c => KG a o e (by
    have := B.nek e (by rw [c]; intro q; cases q) (by rw [c]; decide)
    simp only [List.map_cons, List.map_map, List.mem_cons, List.mem_map, not_or]
    refine ⟨this.1, this.2.1, this.2.2, ?_⟩
    rintro ⟨y, hy, rfl⟩
    have := B.row y hy
    simp only [Function.comp] at e
    rw [this] at e; cases e
    have c' : Value.type "list" = Value.type "tuple" := c
    exact absurd c' (by decide))
  cases hTg with
  | yes hp =>
    try k_fold
    k_steps
    (with_reducible rename Fr _ _ _ _ => F)
    (with_reducible rename News _ _ _ _ => N)
    refine' ds_k (xs := xs) (db := db) (r := r) (u := u) F (C.go (Grow.led KG F N ?gr) (fun b o e => F.keep b o (SG b o e)) ?d ?u C.hh) ?bk ?no ?rest
    case gr => exact fun p hp => ⟨p.2, hp⟩
    case d => simp only [depth_deeper]; k_extra "own a"
    case u => simp only [Around.deeper_units]; k_extra "own a"
    case bk =>
      refine B.sub (keep_less (keep_end KG F) fun a ha => ?_) (N _ (.head _)).1 ⟨t1, t2, n, (N _ (.tail _ (.head _))).1⟩ ⟨o, (N _ (.tail _ (.tail _ (.head _)))).1, hro⟩ (List.Sublist.refl _)
      simp only [List.map_cons, List.map_map, List.mem_cons, List.mem_map] at ha
      rcases ha with rfl | rfl | rfl | ⟨y, hy, rfl⟩
      · exact .inl (by simp)
      · exact .inl (by simp)
      · exact .inl (by simp)
      · exact .inr (keep_one (B.row y hy) (N _ (.tail _ (.tail _ (.tail _ (List.mem_map_of_mem hy))))).1)
    case no =>
      intro a ha
      simp only [List.mem_cons, List.mem_map] at ha
      rcases ha with rfl | rfl | rfl | ⟨y, hy, rfl⟩
      · exact (N _ (.head _)).2
      · exact (N _ (.tail _ (.head _))).2
      · exact (N _ (.tail _ (.tail _ (.head _)))).2
      · exact (N _ (.tail _ (.tail _ (.tail _ (List.mem_map_of_mem (f := rowObj) hy))))).2
    case rest =>
    intro h₂ tk₂ z c t1' t2' n' o' K2 F N hro' B' hz0 hnz
    have nz1 : @Ne Nat b z := hnz b (.head _)
    have nz2 : @Ne Nat db z := hnz db (.tail _ (.head _))
    have nz3 : @Ne Nat r z := hnz r (.tail _ (.tail _ (.head _)))
    have nz4 : ∀ x ∈ keptR xs, @Ne Nat x.l z := fun x hx => hnz x.l (.tail _ (.tail _ (.tail _ (List.mem_map_of_mem (f := fun x : Row => x.l) (List.mem_filter.mp hx).1))))
    k_steps
    (with_reducible rename Fr _ _ _ _ => F)
    (with_reducible rename News _ _ _ _ => N)
    have hn' := B'.nodup
    have hz' := B'.len
    have hnel' := B'.nel
    have hndl' : ((keptR xs).map (·.l)).Nodup := B'.ndl
    obtain ⟨es, ep, hc', hdat', he', _⟩ := id hro'
    refine' loop_dict1 hH lo ⟨o', (N _ (.tail _ (.tail _ (.tail _ (.head _))))).1, hc', hdat'⟩ ?rL F (fun ys : List Row => (z, W.listOf (keysR (staleR xs)).toArray c) :: (b, instObj 85 db) :: (db, dictOf (bkD w t1' t2' r .none) n') :: (r, o') :: ys.map rowObj) (keptR xs) N
      (fun i ys => ys = ((keptR xs).take i).map Row.mark ++ (keptR xs).drop i) ?h0 ?turn ?rest
    case rL => exact (N _ (.tail _ (.tail _ (.tail _ (.head _))))).2.1
    case h0 => rfl
    case turn =>
      intro i v hi hv ys h tk own Q' ho hJ F₁ N₁ hq
      have ow : ∀ a o'', (a, o'') ∈ (b, instObj 85 db) :: (db, dictOf (bkD w t1' t2' r .none) n') :: (keptR xs).map rowObj → ∀ p ∈ own, p.1 ≠ a := fun a o'' hm => by
        have hm' : (a, o'') ∈ (b, instObj 85 db) :: (db, dictOf (bkD w t1' t2' r .none) n') :: (r, o') :: (keptR xs).map rowObj := by
          simp only [List.mem_cons] at hm ⊢
          rcases hm with h | h | h
          · exact .inl h
          · exact .inr (.inl h)
          · exact .inr (.inr (.inr h))
        refine own_ne ho (N _ (.tail _ hm')).1 ?_
        simp only [List.mem_cons, List.mem_map, Prod.mk.injEq] at hm
        rcases hm with ⟨rfl, _⟩ | ⟨rfl, _⟩ | ⟨y, hy, rfl, _⟩
        · exact nn.2.1
        · exact nn.2.2
        · exact Ne.symm (hnel' y hy).2.2
      clear N F
      have hsz : es.size = (keptR xs).length := by have := congrArg List.length he'; simpa using this
      have hi' : i < (keptR xs).length := hsz ▸ hi
      subst hJ
      obtain ⟨x, hx⟩ : ∃ x, (keptR xs)[i]? = some x := ⟨_, List.getElem?_eq_getElem hi'⟩
      have hxm := List.mem_of_getElem? hx
      have hv' : v = .ref x.k := by
        have e1 : es[i]? = es.toList[i]? := Array.getElem?_toList.symm
        rw [e1, he', List.getElem?_map, List.getElem?_map, hx] at hv
        exact (Option.some.inj hv).symm
      subst hv'
      have hdr : (keptR xs).drop i = x :: (keptR xs).drop (i + 1) := by
        obtain ⟨q, rfl⟩ := List.getElem?_eq_some_iff.mp hx
        exact List.drop_eq_getElem_cons q
      have hks : ∀ x ∈ (keptR xs).map Row.ent, KeyAt prog w g x.1 x.2.1 := fun x hx => by
        obtain ⟨y, hy, rfl⟩ := List.mem_map.mp hx
        have hk := B.keys y (List.mem_filter.mp hy).1
        exact hk.keep fun o e => KG _ o e (by
          have := B.key_ne hk
          have h2 := B.key_l hk
          simp only [List.map_cons, List.map_map, List.mem_cons, List.mem_map, not_or]
          exact ⟨this.1, this.2.1, this.2.2, fun ⟨z, hz, e⟩ => h2 z hz e.symm⟩)
      have hky : KeyAt prog w g (Pk x.i) x.k := hks x.ent (List.mem_map_of_mem hxm)
      have hp' : atKey ((keptR xs).map Row.ent) (Pk x.i) = some (x.k, .ref x.l) := by rw [atKey_ent, findR_of hn' hxm]; rfl
      replace F₁ : Fr g L h _ := F₁
      replace N₁ : News g L h _ := N₁
      rw [hdr] at N₁
      simp only [List.map_append, List.map_cons, List.cons_append, List.append_assoc] at N₁
      have hxn := hnel' x hxm
      have nA : ∀ p ∈ List.map rowObj (List.map Row.mark (List.take i (keptR xs))), p.1 ≠ x.l := fun p hp => by
        simp only [List.map_map, List.mem_map] at hp
        obtain ⟨y, hy, rfl⟩ := hp
        show y.l ≠ x.l
        rw [← List.take_append_drop i (keptR xs), List.map_append, List.nodup_append] at hndl'
        exact hndl'.2.2 _ (List.mem_map_of_mem (f := fun x : Row => x.l) hy) _ (by rw [hdr]; exact .head _)
      have nB : ∀ p ∈ List.map rowObj (List.drop (i + 1) (keptR xs)) ++ own, p.1 ≠ x.l := fun p hp => by
        rcases List.mem_append.mp hp with hp | hp
        · obtain ⟨y, hy, rfl⟩ := List.mem_map.mp hp
          show y.l ≠ x.l
          rw [← List.take_append_drop i (keptR xs), hdr, List.map_append, List.nodup_append] at hndl'
          have := hndl'.2.1
          rw [List.map_cons, List.nodup_cons] at this
          exact fun e => this.1 (e ▸ List.mem_map_of_mem (f := fun x : Row => x.l) hy)
        · exact ow x.l (rowObj x).2 (.tail _ (.tail _ (List.mem_map_of_mem (f := rowObj) hxm))) p hp
      k_steps
      (with_reducible rename Fr _ _ _ _ => F₂)
      (with_reducible rename News _ _ _ _ => N₂)
      refine' ki_set (D := x.l) (its := #[.ref x.a, .bool x.st]) (q := [.ref x.a, .bool true]) F₂ N₂ (by decide) (by decide) rfl (.tail (Ne.symm (nz4 x hxm)) (.tail hxn.1 (.tail hxn.2.1 (.tail hxn.2.2 (upd_split nA nB))))) ?set
      case set =>
        intro h' F' N'
        clear F₂ N₂
        k_steps
        (with_reducible rename Fr _ _ _ _ => F₂)
        (with_reducible rename News _ _ _ _ => N₂)
        refine hq _ _ (((keptR xs).take (i + 1)).map Row.mark ++ (keptR xs).drop (i + 1)) _ F₂ ?_ (same_addrs ?_) rfl
        · rw [List.take_add_one, hx]
          show News g L _ _
          simp only [List.map_append, List.map_cons, List.map_nil, List.append_assoc, List.cons_append, List.nil_append, Option.toList_some]
          exact N₂
        · rw [List.take_add_one, hx, hdr]
          simp [Function.comp_def, Row.mark]
    case rest =>
      clear N F
      intro h₃ tk₃ pv ys F N hys
      replace F : Fr g L h₃ _ := F
      replace N : News g L h₃ _ := N
      have hsz : es.size = (keptR xs).length := by have := congrArg List.length he'; simpa using this
      rw [hsz, List.take_length, List.drop_length, List.append_nil] at hys
      subst hys
      have ndb : ∀ p ∈ ((keptR xs).map Row.mark).map rowObj, p.1 ≠ db := fun p hp => by
        simp only [List.map_map, List.mem_map] at hp
        obtain ⟨y, hy, rfl⟩ := hp
        exact Ne.symm (hnel' y hy).2.1
      k_steps
      (with_reducible rename Fr _ _ _ _ => F)
      (with_reducible rename News _ _ _ _ => N)
      have K3 := keep_end KG F
      have m1 := (N _ (.head _)).1
      have mz := (N _ (.head _)).2.2
      have m2 := (N _ (.tail _ (.head _))).1
      have m3 := (N _ (.tail _ (.tail _ (.head _)))).1
      have m4 := (N _ (.tail _ (.tail _ (.tail _ (.head _))))).1
      have N4 := all_drop (all_drop (all_drop (all_drop N)))
      have z0 : s.heap.get? z = none := keep_none KG mz fun p hp => by
        simp only [List.mem_cons, List.mem_map] at hp
        rcases hp with rfl | rfl | rfl | ⟨y, hy, rfl⟩
        · exact nz1
        · exact nz2
        · exact nz3
        · exact hnz y.l (.tail _ (.tail _ (.tail _ (List.mem_map_of_mem (f := fun x : Row => x.l) hy))))
      have e3 : List.map (fun x : Addr × Obj => x.1) ((b, instObj 85 db) :: (db, dictOf (bkD w t1 t2 r u) n) :: (r, o) :: xs.map rowObj) = b :: db :: r :: xs.map (·.l) := by simp [Function.comp_def]
      rw [e3] at K3
      refine hR _ _ z _ _ (keep_less K3 fun a ha => ?_) z0 m1 (B.marked K3 m2 ⟨t1', t2', n', m3⟩ ⟨o', m4, hro'⟩ (fun y hy => (N4 (rowObj y.mark) (List.mem_map_of_mem (List.mem_map_of_mem hy))).1) List.filter_sublist)
      rcases List.mem_cons.mp ha with rfl | ha
      · exact .inr (keep_one B.inst m2)
      · exact .inl ha
end
end Mine
end
section
theorem Mine.off_16 : True := by
  w_top off
  trivial
namespace Mine
section
variable {prog : Program} {w : World} {A : Around} {s : Shared} {mean : ExcName → Option Value} {mg mb : Str → Option Value} {H₀ : Heap} {P : Addr → Prop} {R : Result → Shared → Prop}
noncomputable def UV (u : Value) (ou : Option Int) : Prop := match ou with
  | none => u = .none
  | some k => ∃ t, u = .int k t
inductive Did (prog : Program) (w : World) (P : Addr → Prop) (h h' : Heap) (b db r : Addr) (xs gone xs' : List Row) (ou' : Option Int) (z : Addr) : Prop
  | mk (r' : Addr) (u' : Value) (c : Nat) (k : Keep (db :: r :: xs.map (·.l)) h h') (g : Grow h h') (z0 : h.get? z = none) (ez : h'.get? z = some (W.listOf (keysR gone).toArray c)) (uu : UV u' ou') (B : Book prog w P h' b db r' u' xs') (rr : r' = r ∨ h.get? r' = none)
theorem Keep.trans {mo : List Addr} {h h' h'' : Heap} (K : Keep mo h h') (K' : Keep mo h' h'') : Keep mo h h'' := fun b o e n => K' b o (K b o e n) n
theorem Keep.more {mo mo' : List Addr} {h h' : Heap} (K : Keep mo h h') (x : ∀ a ∈ mo, a ∈ mo') : Keep mo' h h' := fun b o e n => K b o e fun m => n (x b m)

theorem ds_did {b db r : Nat} {u : Value} {xs : List Row} {h₀ : Heap} (K0 : Keep [] h₀ s.heap) (G0 : Grow h₀ s.heap) (C : Cx w mean mg mb H₀ P A s.heap 2) (B : Book prog w P s.heap b db r u xs)
    (hR : ∀ h' t z, Did prog w P h₀ h' b db r xs (staleR xs) (keptR xs) none z → R (.ok (.ret (.ref z))) { s with heap := h', toks := t }) :
    codeAny (model prog w) A (.call (.ref 54) ⟨[.ref b], []⟩) R s :=
  ds_ct C B fun h' t z c K hz ez B' => by
    have G : Grow s.heap h' := Grow.keep K (all2' (let ⟨_, _, _, e⟩ := B'.dict; ⟨_, e⟩) (let ⟨_, e, _⟩ := B'.rows; ⟨_, e⟩))
    refine hR h' t z ⟨r, .none, c, (K0.more (by simp)).trans (K.more (by simp)), G0.trans G, G0 _ hz, ez, rfl, B', .inl rfl⟩

theorem eot_ct {b db r : Nat} {u : Value} {xs : List Row} (C : Cx w mean mg mb H₀ P A s.heap 3) (B : Book prog w P s.heap b db r u xs)
    (hR : ∀ h' t z, Did prog w P s.heap h' b db r xs (staleR xs) (keptR xs) none z → R (.ok (.ret (.ref z))) { s with heap := h', toks := t }) :
    codeAny (model prog w) A (.call (.ref 75) ⟨[.ref b], []⟩) R s := by
  obtain ⟨t1, t2, n, hdb⟩ := B.dict
  have hA := C.dep
  have hU := C.uni
  refine' enter (mo := []) C.B.X C.B.T C.st ?m ?ho ?hcd ?room ?bind ?loc ?_ ?c1 ?c2 ?c3 ?c4
  case ho => k_is
  case hcd => k_is
  case bind => exact BindsTo.of_eq rfl
  case loc => exact locs rfl
  case c1 => exact rfl
  case c2 => exact rfl
  case c3 => exact rfl
  case c4 => decide
  case room => show _ < 1000; k_extra "own a"
  case m => exact fun _ h => nomatch h
  intro g L h₁ KG eL F N X T SG
  dsimp only
  have hb : g.get? b = some (instObj 85 db) := KG _ _ B.inst (by simp)
  have hd : g.get? db = some (dictOf (bkD w t1 t2 r u) n) := KG _ _ hdb (by simp)
  try k_fold
  k_steps
  (with_reducible rename Fr _ _ _ _ => F)
  (with_reducible rename News _ _ _ _ => N)
  have K0 := keep_end (mo := []) KG F
  refine' wpAny_call (ds_did K0 (Grow.keep K0 fun _ h => nomatch h) (C.go (Grow.keep K0 fun _ h => nomatch h) (fun b o e => F.keep b o (SG b o e)) ?d ?u C.hh) (B.at K0) ?rest)
  case d => simp only [depth_deeper]; k_extra "own a"
  case u => simp only [Around.deeper_units]; k_extra "own a"
  case rest =>
    intro h' t z D
    k_steps
    exact hR _ _ z D
theorem idle_did {h h' g : Heap} {L l : Nat} {b db r : Nat} {u u' : Value} {ou' : Option Int} {xs : List Row} {od : Obj} {t1 t2 : Tok} {n c : Nat} {m : Str → Option Value} (B : Book prog w P h b db r u xs)
    (KG : Keep (([(b, instObj 85 db), (db, od)] : List (Addr × Obj)).map (·.1)) h g) (F : Fr g L h' m) (N : News g L h' [(l, W.listOf #[] c), (b, instObj 85 db), (db, dictOf (bkD w t1 t2 r u') n)]) (l1 : b < l ∧ db < l) (hu : UV u' ou') : Did prog w P h h' b db r xs [] xs ou' l := by
  have m1 := (N _ (.head _)).1
  have mz := (N _ (.head _)).2.2
  have m2 := (N _ (.tail _ (.head _))).1
  have m3 := (N _ (.tail _ (.tail _ (.head _)))).1
  have N2 := all_drop (all_drop N)
  have K := keep_end KG F
  obtain ⟨o, hr, hro⟩ := B.rows
  have nn := B.ne
  have hr' : h'.get? r = some o := K _ _ hr (by simp; exact ⟨Ne.symm nn.2.1, Ne.symm nn.2.2⟩)
  refine ⟨r, u', c, (keep_less K (by simp; exact .inr (keep_one B.inst m2))), Grow.keep K (all2' ⟨_, m2⟩ ⟨_, m3⟩), keep_none KG mz (all2 (Nat.ne_of_lt l1.1) (all1 (Nat.ne_of_lt l1.2))), m1, hu, B.sub (K.more (by simp)) m2 ⟨t1, t2, n, m3⟩ ⟨o, hr', hro⟩ (List.Sublist.refl _), .inl rfl⟩
theorem calm2 {h h' g : Heap} {L : Nat} {b db : Nat} {ob od : Obj} {m : Str → Option Value} (e1 : h.get? b = some ob) (e2 : h.get? db = some od)
    (KG : Keep (([(b, ob), (db, od)] : List (Addr × Obj)).map (·.1)) h g) (F : Fr g L h' m) (N : News g L h' [(b, ob), (db, od)]) : Keep [] h h' := by
  have m2 := (N _ (.head _)).1
  have m3 := (N _ (.tail _ (.head _))).1
  exact keep_less (keep_end KG F) (by simp; exact ⟨keep_one e1 m2, keep_one e2 m3⟩)

theorem tick_ct {b db r : Nat} {u : Value} {ou : Option Int} {nw : Int} {tn : Tok} {xs : List Row} (C : Cx w mean mg mb H₀ P A s.heap 3) (B : Book prog w P s.heap b db r u xs) (hu : UV u ou)
    (hR : ∀ h' t z, (∀ k, ou = some k → k ≤ nw → Did prog w P s.heap h' b db r xs (staleR xs) (keptR xs) none z) → ((∀ k, ou = some k → nw < k) → Did prog w P s.heap h' b db r xs [] xs ou z) → R (.ok (.ret (.ref z))) { s with heap := h', toks := t }) :
    codeAny (model prog w) A (.call (.ref 82) ⟨[.ref b, .int nw tn], []⟩) R s := by
  obtain ⟨t1, t2, n, hdb⟩ := B.dict
  have hA := C.dep
  have hU := C.uni
  refine' enter (mo := [(b, instObj 85 db), (db, dictOf (bkD w t1 t2 r u) n)]) C.B.X C.B.T C.st ?m ?ho ?hcd ?room ?bind ?loc ?_ ?c1 ?c2 ?c3 ?c4
  case ho => k_is
  case hcd => k_is
  case bind => exact BindsTo.of_eq rfl
  case loc => exact locs rfl
  case c1 => exact rfl
  case c2 => exact rfl
  case c3 => exact rfl
  case c4 => decide
  case room => show _ < 1000; k_extra "own a"
  case m => exact all2 ⟨B.inst, (C.hP b B.p.1).1⟩ (all1 ⟨hdb, (C.hP db B.p.2.1).1⟩)
  intro g L h₁ KG eL F N X T SG
  dsimp only
  have nn := B.ne
  cases ou with
  | none =>
    cases hu
    try k_fold
    k_steps
    rename_i l hf F N l1
    exact hR _ _ l (fun k e => nomatch e) fun _ => idle_did B KG F N l1 rfl
  | some k =>
    obtain ⟨tu, rfl⟩ := hu
    try k_fold
    k_steps
    · rename_i hlt l hf F N l1
      exact hR _ _ l (fun k' e hle => absurd hlt (by cases e; omega)) fun _ => idle_did B KG F N l1 ⟨tu, rfl⟩
    · rename_i hlt
      (with_reducible rename Fr _ _ _ _ => F)
      (with_reducible rename News _ _ _ _ => N)
      have K0 := calm2 B.inst hdb KG F N
      refine' wpAny_call (ds_did K0 (Grow.keep K0 fun _ h => nomatch h) (C.go (Grow.keep K0 fun _ h => nomatch h) (fun b o e => F.keep b o (SG b o e)) ?d ?u C.hh) (B.at K0) ?rest)
      case d => simp only [depth_deeper]; k_extra "own a"
      case u => simp only [Around.deeper_units]; k_extra "own a"
      case rest =>
        intro h' t z D
        k_steps
        exact hR _ _ z (fun _ _ _ => D) fun hx => absurd (hx k rfl) hlt
theorem sb_ct {b db r : Nat} {u : Value} {ou : Option Int} {nw wt : Int} {tn tw : Tok} {xs : List Row} {v : Value} {td : Option (Int × Value)} (C : Cx w mean mg mb H₀ P A s.heap 3) (B : Book prog w P s.heap b db r u xs) (hu : UV u ou) (hT : Told s.heap v td)
    (htd : td = none ∨ ∃ k, td = some (k, .none) ∨ ∃ bb, td = some (k, .bool bb))
    (hR : ∀ h' t z, ((∀ k, td ≠ some (k, .bool true)) → Did prog w P s.heap h' b db r xs (staleR xs) (keptR xs) none z) → ((∃ k, td = some (k, .bool true)) → Did prog w P s.heap h' b db r xs [] xs (ou.map fun _ => nw + wt) z) → R (.ok (.ret (.ref z))) { s with heap := h', toks := t }) :
    codeAny (model prog w) A (.call (.ref 68) ⟨[.ref b, .int nw tn, v, .int wt tw], []⟩) R s := by
  obtain ⟨t1, t2, n, hdb⟩ := B.dict
  have hA := C.dep
  have hU := C.uni
  refine' enter (mo := [(b, instObj 85 db), (db, dictOf (bkD w t1 t2 r u) n)]) C.B.X C.B.T C.st ?m ?ho ?hcd ?room ?bind ?loc ?_ ?c1 ?c2 ?c3 ?c4
  case ho => k_is
  case hcd => k_is
  case bind => exact BindsTo.of_eq rfl
  case loc => exact locs rfl
  case c1 => exact rfl
  case c2 => exact rfl
  case c3 => exact rfl
  case c4 => decide
  case room => show _ < 1000; k_extra "own a"
  case m => exact all2 ⟨B.inst, (C.hP b B.p.1).1⟩ (all1 ⟨hdb, (C.hP db B.p.2.1).1⟩)
  intro g L h₁ KG eL F N X T SG
  dsimp only
  have nn := B.ne
  have hTg : Told g v td := hT.keep fun a o e c => KG a o e (by
    have := B.nek e (by rw [c]; intro q; cases q) (by rw [c]; decide)
    simp [this])
  cases hTg with
  | no =>
    try k_fold
    k_steps
    (with_reducible rename Fr _ _ _ _ => F)
    (with_reducible rename News _ _ _ _ => N)
    have K0 := calm2 B.inst hdb KG F N
    refine' wpAny_call (ds_did K0 (Grow.keep K0 fun _ h => nomatch h) (C.go (Grow.keep K0 fun _ h => nomatch h) (fun b o e => F.keep b o (SG b o e)) ?d ?u C.hh) (B.at K0) ?rest)
    case d => simp only [depth_deeper]; k_extra "own a"
    case u => simp only [Around.deeper_units]; k_extra "own a"
    case rest =>
      intro h' t z D
      k_steps
      exact hR _ _ z (fun _ => D) fun ⟨k, e⟩ => nomatch e
  | yes hp =>
    rcases htd with htd | ⟨k, htd | ⟨bb, htd⟩⟩
    · cases htd
    · cases htd
      try k_fold
      k_steps
      (with_reducible rename Fr _ _ _ _ => F)
      (with_reducible rename News _ _ _ _ => N)
      have K0 := calm2 B.inst hdb KG F N
      refine' wpAny_call (ds_did K0 (Grow.keep K0 fun _ h => nomatch h) (C.go (Grow.keep K0 fun _ h => nomatch h) (fun b o e => F.keep b o (SG b o e)) ?d ?u C.hh) (B.at K0) ?rest)
      case d => simp only [depth_deeper]; k_extra "own a"
      case u => simp only [Around.deeper_units]; k_extra "own a"
      case rest =>
        intro h' t z D
        k_steps
        exact hR _ _ z (fun _ => D) fun ⟨k, e⟩ => by cases e
    · cases htd
      cases bb with
      | false =>
        try k_fold
        k_steps
        (with_reducible rename Fr _ _ _ _ => F)
        (with_reducible rename News _ _ _ _ => N)
        have K0 := calm2 B.inst hdb KG F N
        refine' wpAny_call (ds_did K0 (Grow.keep K0 fun _ h => nomatch h) (C.go (Grow.keep K0 fun _ h => nomatch h) (fun b o e => F.keep b o (SG b o e)) ?d ?u C.hh) (B.at K0) ?rest)
        case d => simp only [depth_deeper]; k_extra "own a"
        case u => simp only [Around.deeper_units]; k_extra "own a"
        case rest =>
          intro h' t z D
          k_steps
          exact hR _ _ z (fun _ => D) fun ⟨k, e⟩ => by cases e
      | true =>
        cases ou with
        | none =>
          cases hu
          try k_fold
          k_steps
          rename_i l hf F N l1
          exact hR _ _ l (fun hx => absurd rfl (hx _)) fun _ => idle_did B KG F N l1 rfl
        | some k' =>
          obtain ⟨tu, rfl⟩ := hu
          try k_fold
          k_steps
          rename_i l hf F N l1
          exact hR _ _ l (fun hx => absurd rfl (hx _)) fun _ => idle_did B KG F N l1 ⟨_, rfl⟩
end
end Mine
end
section
theorem Mine.off_17 : True := by
  w_top off
  trivial
namespace Mine
open PySem PySem.W PySem.Calls PySem.Spec PyProof.Rows
section
variable {prog : Program} {w : World} {A : Around} {E : Value → Shared → Prop} {s : Shared}
theorem list_keys_none : typeLookup (.type "list") (Str.ofString "keys") = pure none := by rw [typeLookup_type, builtinLookup_eq_fast]; kernel_rfl

theorem list_miss_by {a : Addr} {xs : Array Value} {k : Nat} {t : Tok} {Q : Value → Shared → Prop} (hx : s.heap.get? a = some (W.listOf xs k)) (hA : A.handled = none)
    (h : ∀ h' tk e, Heap.NewExcOf s.heap h' e "AttributeError" → E (.ref e) { s with heap := h', toks := tk }) :
    wpAny (model prog w) A (getAttrBy (.ref a) (.str (Str.ofString "keys") t) false) Q E s := by
  obtain ⟨hp, g, d, tk, os⟩ := s
  have hT : ∀ tk', (⟨hp, g, d, tk', os⟩ : Shared).TypeIs (.ref a) "list" := fun _ => ⟨_, hx, rfl⟩
  have f1 := sub_AttributeError
  have f3 := F.slot_list_getattribute.lookup
  have f4 := F.slot_list_getattribute.bind (.ref a)
  have f5 := am_list_getattr_none
  unfold getAttrBy
  repeat (any_goals (first | assumption | exact hT _ | ((with_reducible show wpAny _ _ (call (Value.builtin "list.__getattribute__") _ _) _ _ _); refine call_meets F.slot_list_getattribute (hT _) am_entry_list_getattribute (F.args_list_getattribute_2 _ _) (meets_getattribute_miss_list a xs k #[] (Str.ofString "keys") _ list_keys_none (by decide +kernel) (by decide +kernel)) ⟨hx, hA, fun h' tk' e hx' => ?_⟩) | wp_step))
  obtain ⟨t', u', he⟩ := hx'.there
  show wpAny _ _ (getattributeRaised _ _ _ _ _ _ _) _ _ _
  unfold getattributeRaised
  repeat (any_goals (first | assumption | wp_step))
  exact h _ _ _ hx'.of

theorem no_keys {a : Addr} {xs : Array Value} {k : Nat} {Q : Option Value → Shared → Prop} (hx : s.heap.get? a = some (W.listOf xs k)) (hA : A.handled = none)
    (h : ∀ h' tk, (∀ b o, s.heap.get? b = some o → h'.get? b = some o) → Q none { s with heap := h', toks := tk }) : wpAny (model prog w) A (getAttr? (.ref a) (Str.ofString "keys")) Q E s := by
  unfold getAttr? mkText
  refine wpAny_bind (wpAny_bind (wpAny_fresh (wpAny_pure ?_)))
  unfold getAttrBy?
  refine wpAny_bind (wpAny_attempt (list_miss_by (s := { s with toks := s.toks + 1 }) hx hA fun h' tk e he => ?_))
  obtain ⟨ob, _, heo, hc, _⟩ := he.there
  dsimp only
  refine wpAny_bind (wpAny_isInstance (T := "AttributeError") (b := true) ⟨_, heo, hc⟩ sub_AttributeError ?_)
  exact wpAny_pure (h h' tk he.keeps)

noncomputable abbrev ent3 (e : Nat × Addr × Value) : List Int × Addr × Value := (Pk e.1, e.2.1, e.2.2)
theorem dict_loop_entry : entryFor table "dict.update.loop" = some Builtin.«dict.update.loop» := entryFor_of_tree (by kernel_rfl)
theorem dict_loop_plain : plainId "dict.update.loop" = true := by decide +kernel
noncomputable abbrev PairAt (prog : Program) (w : World) (h : Heap) (v : Value) (e : Nat × Addr × Value) : Prop := ∃ p n, v = .ref p ∧ h.get? p = some { cls := .type "tuple", data := .seq #[.ref e.2.1, e.2.2] n } ∧ KeyAt prog w h (Pk e.1) e.2.1

theorem pair_items {v : Value} {e : Nat × Addr × Value} {Q : List Value → Shared → Prop} (hp : PairAt prog w s.heap v e) (h : Q [.ref e.2.1, e.2.2] s) : wpAny (model prog w) A (Builtin.Dict.pairItems v) Q E s := by
  obtain ⟨p, n, rfl, hq, _⟩ := hp
  unfold Builtin.Dict.pairItems
  refine wpAny_bind (wpAny_typeOf (T := "tuple") ⟨_, hq, rfl⟩ ?_)
  rw [if_pos (by decide)]
  show wpAny _ _ (seqItems? (.ref p) >>= _) _ _ s
  unfold seqItems?
  refine wpAny_bind (wpAny_bind (wpAny_load hq ?_))
  exact wpAny_pure (wpAny_pure h)

theorem dict_loop {R : Result → Shared → Prop} {d I l : Addr} {es : List (Nat × Addr × Value)} {vs : List Value} (hh : A.handled = none) (hu : A.units + 2 < cLine) (hz : es.length ≤ 1000) (hn : (es.map (·.1)).Nodup) (hv : vs.length = es.length) :
    ∀ (k i : Nat) (s : Shared), es.length - i = k → i ≤ es.length → s.heap.IsListIter I l i → s.heap.IsList l vs.toArray → s.heap.DictOfH (TK prog w) d ((es.take i).map ent3) →
      (∀ (j : Nat) (v : Value) (e : Nat × Addr × Value), vs[j]? = some v → es[j]? = some e → PairAt prog w s.heap v e) →
      (∀ h' t, (∀ b o, b ≠ d → b ≠ I → s.heap.get? b = some o → h'.get? b = some o) → h'.DictOfH (TK prog w) d (es.map ent3) → R (.ok (.ret .none)) { s with heap := h', toks := t }) →
      codeAny (model prog w) A (.builtin "dict.update.loop" ⟨[.ref d, .ref I, rawInt i, .none], []⟩) R s := by
  intro k
  induction k with
  | zero =>
    intro i s hk hi hit hl hd hp hR
    have hin : i = es.length := lp_end hk hi
    subst hin
    have hdI : d ≠ I := by
      obtain ⟨o, _, _, ho, hc, _⟩ := hd
      obtain ⟨o', ho', hc', _⟩ := hit
      exact ne_obj ho ho' (by rw [hc.1, hc']; decide)
    refine codeAny_builtin dict_loop_entry ?_
    rw [Around.under_plainId dict_loop_plain _]
    show wpAny _ A.in1 (pyNext (.ref I) >>= _) _ _ s
    refine wpAny_bind (wpAny_pyNext_list_end hh hit hl (by simp [hv]) fun h' he => ?_)
    show wpAny _ _ (Builtin.Dict.addKeywords d [] >>= _) _ _ _
    refine wpAny_bind (wpAny_pure (wpAny_pure ?_))
    refine hR h' s.toks (fun b o _ hb e => he b o hb e) ?_
    rw [List.take_length] at hd
    obtain ⟨o, a1, a2, ho, a3, a4, a5, hks, a6⟩ := hd
    refine ⟨o, a1, a2, he d o hdI ho, a3, a4, a5, fun x hx => ?_, a6⟩
    have hkx : KeyAt prog w s.heap x.1 x.2.1 := hks x hx
    refine hkx.keep fun oo e => he _ _ ?_ e
    obtain ⟨o1, ho1, hc1⟩ := hkx.cls
    obtain ⟨o', ho', hc', _⟩ := hit
    exact ne_obj ho1 ho' (by rw [hc1, hc']; decide)
  | succ k ih =>
    intro i s hk hi hit hl hd hp hR
    have hlt : i < es.length := lp_lt hk
    obtain ⟨e, he⟩ : ∃ e, es[i]? = some e := ⟨_, List.getElem?_eq_getElem hlt⟩
    obtain ⟨v, hve⟩ : ∃ v, vs[i]? = some v := ⟨_, List.getElem?_eq_getElem (hv ▸ hlt)⟩
    have hcI : ∀ {a : Addr} {o : Obj}, s.heap.get? a = some o → o.cls ≠ .type "list_iterator" → a ≠ I := fun ha hc => by
      obtain ⟨o', ho', hc', _⟩ := hit
      exact ne_obj ha ho' (by rw [hc']; exact hc)
    have hcd : ∀ {a : Addr} {o : Obj}, s.heap.get? a = some o → o.cls ≠ .type "dict" → a ≠ d := fun ha hc => by
      obtain ⟨o, _, _, ho, hc', _⟩ := hd
      exact ne_obj ha ho (by rw [hc'.1]; exact hc)
    refine codeAny_builtin dict_loop_entry ?_
    rw [Around.under_plainId dict_loop_plain _]
    show wpAny _ A.in1 (pyNext (.ref I) >>= _) _ _ s
    refine wpAny_bind (wpAny_pyNext_list_item hit hl (x := v) (by simpa using hve) fun h₁ hit₁ hs₁ => ?_)
    have k₁ : ∀ b o, b ≠ I → s.heap.get? b = some o → h₁.get? b = some o := fun b o n e => hs₁.extBut b o n e
    have hPi := hp i v e hve he
    have kk : ∀ {k : List Int} {a : Addr}, KeyAt prog w s.heap k a → KeyAt prog w h₁ k a := fun x => x.keep fun o e => k₁ _ o (by
      obtain ⟨o1, ho1, hc1⟩ := x.cls
      exact hcI ho1 (by rw [hc1]; decide)) e
    have kp : ∀ {v e}, PairAt prog w s.heap v e → PairAt prog w h₁ v e := fun ⟨p, n, ev, ep, ek⟩ => ⟨p, n, ev, k₁ _ _ (hcI ep (show Value.type "tuple" ≠ Value.type "list_iterator" by decide)) ep, kk ek⟩
    have hd₁ : h₁.DictOfH (TK prog w) d ((es.take i).map ent3) := by
      obtain ⟨o, a1, a2, ho, a3, a4, a5, hks, a6⟩ := hd
      exact ⟨o, a1, a2, k₁ _ _ (hcI ho (by rw [a3.1]; decide)) ho, a3, a4, a5, fun x hx => kk (hks x hx), a6⟩
    have hl₁ : h₁.IsList l vs.toArray := by
      obtain ⟨o, ho, hc, r⟩ := hl
      exact ⟨o, k₁ _ _ (hcI ho (by rw [hc]; decide)) ho, hc, r⟩
    have hP₁ := kp hPi
    show wpAny _ _ (holding [v] (((Builtin.Dict.pairItems v).tryCatch _) >>= _) >>= _) _ _ _
    refine wpAny_bind (wpAny_holding (wpAny_bind (wpAny_tryCatch (pair_items (s := { s with heap := h₁ }) hP₁ ?_))))
    show wpAny _ _ (holding [Value.ref e.2.1, e.2.2] (dictSet d (.ref e.2.1) e.2.2)) _ _ _
    obtain ⟨p, n, ev, ep, ek⟩ := id hP₁
    refine wpAny_holding (wpAny_dictSet_heap (knd := TK prog w) (s := { s with heap := h₁ }) (Nat.lt_of_succ_lt hu) ek hd₁ (fun h₂ hd₂ hs₂ => ?_) (by rw [sizeLine_eq, List.length_map, List.length_take]; omega))
    have k₂ : ∀ b o, b ≠ d → h₁.get? b = some o → h₂.get? b = some o := fun b o n e => (hs₂.2 b n).trans e
    have hcd₁ : ∀ {a : Addr} {o : Obj}, h₁.get? a = some o → o.cls ≠ .type "dict" → a ≠ d := fun ha hc => by
      obtain ⟨o, _, _, ho, hc', _⟩ := hd₁
      exact ne_obj ha ho (by rw [hc'.1]; exact hc)
    have kp₂ : ∀ {v e}, PairAt prog w h₁ v e → PairAt prog w h₂ v e := fun ⟨p, n, ev, ep, ek⟩ => ⟨p, n, ev, k₂ _ _ (hcd₁ ep (show Value.type "tuple" ≠ Value.type "dict" by decide)) ep, ek.keep fun o e => k₂ _ o (by
      obtain ⟨o1, ho1, hc1⟩ := ek.cls
      exact hcd₁ ho1 (by rw [hc1]; decide)) e⟩
    have hl₂ : h₂.IsList l vs.toArray := by
      obtain ⟨o, ho, hc, r⟩ := hl₁
      exact ⟨o, k₂ _ _ (hcd₁ ho (by rw [hc]; decide)) ho, hc, r⟩
    have hit₂ : h₂.IsListIter I l (i + 1) := by
      obtain ⟨o, ho, hc, r⟩ := hit₁
      exact ⟨o, k₂ _ _ (hcd₁ ho (by rw [hc]; decide)) ho, hc, r⟩
    have hno : atKey ((es.take i).map ent3) (Pk e.1) = none := by
      unfold atKey
      rw [Option.map_eq_none_iff, List.find?_eq_none]
      intro x hx
      obtain ⟨y, hy, rfl⟩ := List.mem_map.mp hx
      obtain ⟨j, hj, rfl⟩ := List.mem_iff_getElem.mp hy
      rw [List.length_take] at hj
      rw [List.getElem_take]
      intro q
      have q := Pk_inj.mp (of_decide_eq_true q)
      obtain ⟨hnl, rfl⟩ := List.getElem?_eq_some_iff.mp he
      exact List.pairwise_iff_getElem.mp hn j i (by rw [List.length_map]; omega) (by rw [List.length_map]; omega) (by omega) (by rw [List.getElem_map, List.getElem_map]; exact q)
    have hd₂' : h₂.DictOfH (TK prog w) d ((es.take (i + 1)).map ent3) := by
      rw [List.take_add_one, he, List.map_append]
      rw [storedH_new hno] at hd₂
      exact hd₂
    refine wpAny_pure ⟨plainId_quiet dict_loop_plain _, ih (i + 1) _ (lp_step hk) hlt hit₂ hl₂ hd₂' (fun j v e h1 h2 => kp₂ (kp (hp j v e h1 h2))) fun h' t hk' hd' => hR h' t (fun b o n1 n2 e => hk' b o n1 n2 (k₂ b o n1 (k₁ b o n2 e))) hd'⟩
theorem dict_pairs {h₀ : Heap} {L l : Addr} {m : Str → Option Value} {news : List (Addr × Obj)} {c : Nat} {vs : List Value} {es : List (Nat × Addr × Value)} {Q : Value → Shared → Prop} (hh : A.handled = none) (hu : A.units + 5 < cLine) (F : Fr h₀ L s.heap m) (N : News h₀ L s.heap news) (h1 : 1 < s.heap.objs.size)
    (hl : s.heap.get? l = some (W.listOf vs.toArray c)) (hz : es.length ≤ 1000) (hn : (es.map (·.1)).Nodup) (hv : vs.length = es.length) (hp : ∀ (j : Nat) (v : Value) (e : Nat × Addr × Value), vs[j]? = some v → es[j]? = some e → PairAt prog w s.heap v e)
    (h : ∀ (D : Nat) o h' t', Fr h₀ L h' m → News h₀ L h' ((D, o) :: news) → RowsObj prog w o (es.map ent3) → 1 < D → s.heap.get? D = none → (∀ b o, s.heap.get? b = some o → h'.get? b = some o) → (∀ q ∈ news, @Ne Nat q.1 D) → Q (.ref D) { s with heap := h', toks := t' }) :
    wpAny (model prog w) A (call (.type "dict") [.ref l]) Q E s := by
  refine callType_codes (Q₁ := fun obj s₁ => obj = .ref s.heap.objs.size ∧ s₁ = { s with heap := s.heap.push { cls := .type "dict", data := .dict #[] } }) PySem.F.kt_called_dict (PySem.F.kt_typeCall_dict_1 _) PySem.F.entry_dict_init (kt_code_dict_new _ ⟨rfl, rfl⟩) ?_
  rintro obj s₁ ⟨rfl, rfl⟩
  have up : ∀ b o, s.heap.get? b = some o → (s.heap.push { cls := .type "dict", data := .dict #[] }).get? b = some o := fun b o e => Heap.get?_push_of_some _ e
  have hD : (s.heap.push { cls := .type "dict", data := .dict #[] }).get? s.heap.objs.size = some { cls := .type "dict", data := .dict #[] } := Heap.get?_push_size _ rfl
  have hT : ({ s with heap := s.heap.push { cls := .type "dict", data := .dict #[] } } : Shared).TypeIs (.ref s.heap.objs.size) "dict" := ⟨_, hD, rfl⟩
  refine ⟨hT, PySem.F.args_dict_init_2 _ _, ?_⟩
  unfold Builtin.«dict.__init__»
  refine wpAny_bind ?_
  unfold Builtin.Dict.selfAndRest
  refine wpAny_bind (wpAny_notOrdered_dict hT ?_)
  show wpAny _ _ (pure (s.heap.objs.size, [Value.ref l])) _ _ _
  refine wpAny_pure ?_
  show wpAny _ _ (Builtin.Dict.updateFrom "dict.__init__" s.heap.objs.size (.ref l) [] .none) _ _ _
  unfold Builtin.Dict.updateFrom
  refine wpAny_bind (wpAny_typeOf (T := "list") ⟨_, up _ _ hl, rfl⟩ ?_)
  rw [if_pos (by decide)]
  refine wpAny_bind (no_keys (up _ _ hl) hh fun h₁ t₁ k₁ => ?_)
  simp only [Option.isNone_none, if_true]
  refine wpAny_bind (wpAny_rule ?_)
  have hl₁ : h₁.IsList l vs.toArray := ⟨_, k₁ _ _ (up _ _ hl), rfl, _, rfl⟩
  refine wpAny_bind (wpAny_pyIter_list hl₁ ?_)
  refine wpAny_pure ⟨plainId_quiet dict_loop_plain _, ?_⟩
  have up₂ : ∀ b o, h₁.get? b = some o → (h₁.push { cls := .type "list_iterator", data := .fields #[.ref l, .int 0 0] }).get? b = some o := fun b o e => Heap.get?_push_of_some _ e
  have all : ∀ b o, s.heap.get? b = some o → (h₁.push { cls := .type "list_iterator", data := .fields #[.ref l, .int 0 0] }).get? b = some o := fun b o e => up₂ b o (k₁ b o (up b o e))
  have lk : ∀ v e, PairAt prog w s.heap v e → PairAt prog w (h₁.push { cls := .type "list_iterator", data := .fields #[.ref l, .int 0 0] }) v e := fun v e ⟨p, n, ev, ep, ek⟩ => ⟨p, n, ev, all _ _ ep, ek.keep fun o => all _ o⟩
  have nI : h₁.get? h₁.objs.size = none := Heap.get?_none_of_le (Nat.le_refl _)
  have nD : s.heap.get? s.heap.objs.size = none := Heap.get?_none_of_le (Nat.le_refl _)
  refine dict_loop (prog := prog) (w := w) (A := A.in1) (d := s.heap.objs.size) (I := h₁.objs.size) (l := l) (vs := vs) (es := es) hh (by simp only [Around.in1_units]; k_extra "own a") hz hn hv es.length 0 { s with heap := h₁.push { cls := .type "list_iterator", data := .fields #[.ref l, .int 0 0] }, toks := t₁ } (by omega) (Nat.zero_le _) ⟨_, Heap.get?_push_size _ rfl, rfl, rfl⟩ (hl₁.push _)
    ⟨_, #[], 0, up₂ _ _ (k₁ _ _ hD), ⟨rfl, rfl, rfl⟩, rfl, rfl, (fun _ h => nomatch h), List.nodup_nil⟩ (fun j v e e1 e2 => lk v e (hp j v e e1 e2)) fun h' t' hk' hd' => ⟨rfl, ?_⟩
  obtain ⟨o, ho, hr, _⟩ := RowsObj.of hd'
  have kf : ∀ b o, s.heap.get? b = some o → h'.get? b = some o := fun b o e => hk' b o (ne_fresh e nD) (ne_fresh (k₁ b o (up b o e)) nI) (all b o e)
  refine h s.heap.objs.size o h' t' (fr_all F kf) (List.forall_mem_cons.mpr ⟨⟨ho, none_L F nD, none_base F nD⟩, news_all N kf⟩) hr h1 nD kf (news_ne N nD)
end
end Mine
end
section
theorem Mine.off_18 : True := by
  w_top off
  trivial
namespace Mine
open PySem PySem.W PySem.Calls PySem.Spec PyProof.Rows
section
variable {prog : Program} {w : World} {A : Around} {E : Value → Shared → Prop} {env : Env}
noncomputable abbrev lsA (ys : List Value) : Obj := W.listOf ys.toArray ys.length
noncomputable def TurnOf (prog : Program) (w : World) (A : Around) (env : Env) (ifs : List Expr) (elt : Expr) (E' : Value → Shared → Prop) (K : Option Value → Shared → Prop) (s₃ : Shared) : Prop :=
  wpAny (model prog w) A (forIn ifs true fun c r => if r = true then do let ok ← isTrue c env (eval c env); pure (ForInStep.yield ok) else pure (ForInStep.yield r)) (fun ok s₄ => if ok = true then wpAny (model prog w) A (eval elt env) (fun y s₅ => K (some y) s₅) E' s₄ else K none s₄) E' s₃
theorem comp_turns {s : Shared} {elt target iter : Expr} {ifs : List Expr} {scope : Scope} {pos : Pos} {it acc : Value} {R : Result → Shared → Prop} (I : Nat → Shared → Prop)
    (turn : ∀ n s, I n s → wpAny (model prog w) A (pyNext it) (fun r s₁ => match r with
      | none => R (.ok .next) s₁
      | some v => wpAny (model prog w) A (letOwnedTupleGo target it v) (fun _ s₁' => wpAny (model prog w) A (assign target env v) (fun _ s₂ =>
          wpAny (model prog w) A (forIn ifs true fun c r => if r = true then do let ok ← isTrue c env (eval c env); pure (ForInStep.yield ok) else pure (ForInStep.yield r)) (fun ok s₃ =>
            if ok = true then wpAny (model prog w) A (eval elt env) (fun x s₄ =>
              wpAny (model prog w) A (call (.builtin "list.append") [acc, x]) (fun _ s₅ => ∃ m, m < n ∧ I m s₅) (notedBy (model prog w) A env fun e s' => R (.error e) s') s₄) (notedBy (model prog w) A env fun e s' => R (.error e) s') s₃
            else ∃ m, m < n ∧ I m s₃) (notedBy (model prog w) A env fun e s' => R (.error e) s') s₂) (notedBy (model prog w) A env fun e s' => R (.error e) s') s₁') (notedBy (model prog w) A env fun e s' => R (.error e) s') s₁) (notedBy (model prog w) A env fun e s' => R (.error e) s') s)
    (n : Nat) (h : I n s) : codeAny (model prog w) A (.compLoop (.ListComp elt [⟨target, iter, ifs, 0⟩] scope pos) 0 it acc env) R s := by
  refine codeAny_loop rfl I (fun n s hI => ?_) n h
  show wpAny _ A ((compTurn (.ListComp elt [⟨target, iter, ifs, 0⟩] scope pos) 0 it acc env).onRaise (fun x => do noteFrame x env; theTreesLotGoes x)) _ _ s
  refine wpAny_noted ?_
  rw [compTurn_list]
  refine wpAny_bind (wpAny_standAt (wpAny_bind (wpAny_mono (turn n s hI) (fun r s₁ h₁ => ?_) fun _ _ h' => h')))
  cases r with
  | none => exact wpAny_pure h₁
  | some v =>
    refine wpAny_bind (wpAny_mono h₁ (fun _ s₁' h₁' => ?_) fun _ _ h' => h')
    refine wpAny_bind (wpAny_mono h₁' (fun _ s₂ h₂ => wpAny_bind (wpAny_mono h₂ (fun ok s₃ h₃ => ?_) fun _ _ h' => h')) fun _ _ h' => h')
    cases ok with
    | false => exact wpAny_pure ⟨rfl, h₃⟩
    | true => exact wpAny_bind (wpAny_bind (wpAny_mono h₃ (fun x s₄ h₄ => wpAny_bind (wpAny_mono h₄ (fun _ s₅ h₅ => wpAny_pure (wpAny_pure ⟨rfl, h₅⟩)) fun _ _ h' => h')) fun _ _ h' => h'))
inductive CompI (s₂ : Shared) (n : Nat) (St : Nat → Heap → Prop) (J : Addr → Addr → Nat → List Value → Heap → Prop) (h₁ : Heap) (C D : Addr) : Nat → Shared → Prop where
  | mk {h' : Heap} {tk i : Nat} {ys : List Value} {m' : Str → Option Value} (hi : i ≤ n) (hyl : ys.length ≤ i) (st : St i h') (ns : h'.Ns C m') (hd : h'.get? D = some (lsA ys)) (hk : ∀ b o, h₁.get? b = some o → h'.get? b = some o) (hj : J C D i ys h') : CompI s₂ n St J h₁ C D (n + 1 - i) { s₂ with heap := h', toks := tk }
inductive CompB (s₂ : Shared) (h₁ h₅ : Heap) (C D : Addr) (wr : List Addr) (Jn : List Value → Heap → Prop) (ys : List Value) : Option Value → Shared → Prop where
  | mk {y : Option Value} {h₆ : Heap} {tk₆ : Nat} {m₆ : Str → Option Value} (F : Fr h₁ C h₆ m₆) (e : ∀ a ∈ D :: wr, h₆.get? a = h₅.get? a) (hj : Jn (ys ++ y.toList) h₆) : CompB s₂ h₁ h₅ C D wr Jn ys y { s₂ with heap := h₆, toks := tk₆ }
/-- a list comprehension over any source with any target -/
theorem comp_blockK {elt target iter : Expr} {ifs : List Expr} {scope : Scope} {cl : List (Str × Addr)} {pos : Pos} {s₂ : Shared} {I : Addr} {fp wr : List Addr} {n : Nat} {P Md : Nat → Value → Heap → Prop} {St : Nat → Heap → Prop} {RR : Value → Addr → Result → Shared → Prop} {h₁ : Heap}
    (W : KTurns prog w A target I fp wr n P Md St) (hself : ∀ (s : Shared) (Q : Value → Shared → Prop) (E : Value → Shared → Prop), St 0 s.heap → Q (.ref I) s → wpAny (model prog w) A (pyIter (.ref I)) Q E s)
    (hsz : n ≤ sizeLine) (alive : ∀ i h, St i h → ∀ a ∈ wr, ∃ o, h.get? a = some o) (hI1 : ∀ a ∈ wr, h₁.get? a = none) (hk1 : ∀ b o, h₁.get? b = some o → s₂.heap.get? b = some o) (hh1 : h₁.objs.size ≤ s₂.heap.objs.size)
    (hcell : ∀ y ∈ scope.names, y.2 ≠ .cell) (hkind : scope.kind = .function) (hst : St 0 s₂.heap) (hfp : ∀ b ∈ fp, b < s₂.heap.objs.size) (hfp1 : ∀ b ∈ fp, b ∉ wr → ∃ o, h₁.get? b = some o)
    (J : Addr → Addr → Nat → List Value → Heap → Prop) (hJ0 : ∀ C D h, J C D 0 [] h)
    (hJk : ∀ C D i ys h h', J C D i ys h → (∀ b o, b ≠ C → b ≠ D → b ∉ wr → h.get? b = some o → h'.get? b = some o) → J C D i ys h')
    (body : ∀ C D i v ys (s₃ : Shared) m₃ (E' : Value → Shared → Prop) (K : Option Value → Shared → Prop), P i v s₃.heap → i < n → Fr h₁ C s₃.heap m₃ → (∀ a ∈ C :: D :: wr, ∃ o, s₃.heap.get? a = some o) → h₁.get? C = none → h₁.get? D = none → (C ≠ D ∧ C ∉ wr ∧ D ∉ wr) → J C D i ys s₃.heap →
      (∀ (y : Option Value) h' tk' m', Fr h₁ C h' m' → (∀ a ∈ D :: wr, h'.get? a = s₃.heap.get? a) → J C D (i + 1) (ys ++ y.toList) h' → K y { s₃ with heap := h', toks := tk' }) →
      wpAny (model prog w) A (assign target (compEnvC scope cl C env) v) (fun _ s₄ => TurnOf prog w A (compEnvC scope cl C env) ifs elt E' K s₄) E' s₃)
    (hRR : ∀ C D h tk m' ys, h.get? D = some (lsA ys) → J C D n ys h → (∀ b o, h₁.get? b = some o → h.get? b = some o) → s₂.heap.get? D = none → s₂.heap.get? C = none → C ≠ D → h.Ns C m' → RR (.ref D) C (.ok .next) { s₂ with heap := h, toks := tk }) :
    wpAny (model prog w) A (newList []) (fun acc s₃ => wpAny (model prog w) A (newFunctionEnv scope env.globals cl [] env.qual none .none (some env)) (fun cenv s₄ =>
      codeAny (model prog w) A (.compStart (.ListComp elt [⟨target, iter, ifs, 0⟩] scope pos) 0 (.ref I) acc { cenv with scope := relabel scope env }) (RR acc cenv.locals) s₄) E s₃) E s₂ := by
  refine wpAny_newObj_type (wpAny_newFunctionEnv hcell (by intro y hy; simp at hy) (fun h₃ hns₁ hsb₁ => ?_) hkind)
  dsimp only at hns₁ hsb₁ ⊢
  generalize hH2 : s₂.heap.push { cls := .type "list", dict := none, data := .seq ([] : List Value).toArray } = H2 at hns₁ hsb₁ ⊢
  have hC : H2.objs.size = s₂.heap.objs.size + 1 := by rw [← hH2, Heap.size_push]
  have hDC : s₂.heap.objs.size ≠ H2.objs.size := by rw [hC]; exact Nat.ne_of_lt (Nat.lt_succ_self _)
  have below : ∀ b, b < s₂.heap.objs.size → b ≠ H2.objs.size ∧ b ≠ s₂.heap.objs.size := fun b hb => ⟨by rw [hC]; exact Nat.ne_of_lt (Nat.lt_succ_of_lt hb), Nat.ne_of_lt hb⟩
  have hDf : s₂.heap.objs.size ∉ fp := fun hm => Nat.lt_irrefl _ (hfp _ hm)
  have hCf : H2.objs.size ∉ fp := fun hm => by have := hfp _ hm; rw [hC] at this; exact Nat.lt_irrefl _ (Nat.lt_of_succ_lt this)
  have hDw : s₂.heap.objs.size ∉ wr := fun hm => hDf (W.sub _ hm)
  have hCw : H2.objs.size ∉ wr := fun hm => hCf (W.sub _ hm)
  have old : ∀ b o, s₂.heap.get? b = some o → h₃.get? b = some o := fun b o e => hsb₁.extBut b o (below b (Heap.lt_size e)).1 (Heap.get?_push_of_some _ (hH2 ▸ Heap.get?_push_of_some _ e))
  have hacc : h₃.get? s₂.heap.objs.size = some (lsA []) := hsb₁.extBut _ _ hDC (Heap.get?_push_of_some _ (hH2 ▸ Heap.get?_push_size _ rfl))
  have hst₁ : St 0 h₃ := W.frame _ _ _ hst fun b _ o e => old b o e
  have nI : ∀ b o, h₁.get? b = some o → b ∉ wr := fun b o e q => by rw [hI1 b q] at e; cases e
  have lowC : h₁.objs.size ≤ H2.objs.size := by rw [hC]; omega
  have lt1 : ∀ b o, h₁.get? b = some o → b < s₂.heap.objs.size := fun b o e => Nat.lt_of_lt_of_le (Heap.lt_size e) hh1
  have loop : ∀ s₃ : Shared, s₃ = { s₂ with heap := h₃, toks := s₂.toks + ([] : List (Str × Value)).length } →
      codeAny (model prog w) A (.compLoop (.ListComp elt [⟨target, iter, ifs, 0⟩] scope pos) 0 (.ref I) (.ref s₂.heap.objs.size) (compEnvC scope cl H2.objs.size env)) (RR (.ref s₂.heap.objs.size) H2.objs.size) s₃ := by
    rintro s₃ rfl
    refine comp_turns (CompI s₂ n St J h₁ H2.objs.size s₂.heap.objs.size) ?_ (n + 1) (.mk (i := 0) (Nat.zero_le _) (Nat.le_refl _) hst₁ hns₁ hacc (fun b o e => old b o (hk1 b o e)) (hJ0 _ _ _))
    rintro k s' ⟨hi, hyl, hst', hn', hD', hk', hJ⟩
    rename_i h' tk i ys m'
    by_cases hlt : i < n
    · have less : n + 1 - (i + 1) < n + 1 - i := by omega
      refine W.item i _ _ _ hlt hst' fun v h₄ tk₄ hMd hk₄ => ?_
      refine W.go i v _ _ _ hMd fun h₅ hP hst₅ hk₅' => ?_
      have k₅ : ∀ b o, b ∉ wr → h'.get? b = some o → h₅.get? b = some o := fun b o n e => hk₅' b o n (hk₄ b o n e)
      have hn₅ : h₅.Ns H2.objs.size m' := hn'.at' fun o e => k₅ _ o hCw e
      have hD₅ : h₅.get? s₂.heap.objs.size = some (lsA ys) := k₅ _ _ hDw hD'
      have F₅ : Fr h₁ H2.objs.size h₅ m' := ⟨hn₅, fun b o e => k₅ b o (nI b o e) (hk' b o e), lowC⟩
      obtain ⟨oC, _, _, heC, _⟩ := id hn₅
      have al : ∀ a ∈ H2.objs.size :: s₂.heap.objs.size :: wr, ∃ o, h₅.get? a = some o := fun a ha => by
        simp only [List.mem_cons] at ha
        rcases ha with rfl | rfl | ha
        · exact ⟨_, heC⟩
        · exact ⟨_, hD₅⟩
        · exact alive _ _ hst₅ a ha
      have stepped : ∀ (h₆ : Heap) (m₆ : Str → Option Value), Fr h₁ H2.objs.size h₆ m₆ → (∀ a ∈ s₂.heap.objs.size :: wr, h₆.get? a = h₅.get? a) → St (i + 1) h₆ ∧ h₆.Ns H2.objs.size m₆ ∧ h₆.get? s₂.heap.objs.size = some (lsA ys) ∧ (∀ b o, h₁.get? b = some o → h₆.get? b = some o) := fun h₆ m₆ F₆ eD =>
        ⟨W.frame _ _ _ hst₅ fun b hb o e => by
          by_cases q : b ∈ wr
          · rw [eD b (.tail _ q)]; exact e
          · obtain ⟨o₁, e₁⟩ := hfp1 b hb q
            have := F₅.keep b o₁ e₁
            rw [e] at this; cases this
            exact F₆.keep b o e₁, F₆.ns, (eD _ (.head _)).trans hD₅, F₆.keep⟩
      have T := body H2.objs.size s₂.heap.objs.size i v ys { s₂ with heap := h₅, toks := tk₄ } _ (notedBy (model prog w) A (compEnvC scope cl H2.objs.size env) fun e s' => RR (.ref s₂.heap.objs.size) H2.objs.size (.error e) s')
        (CompB s₂ h₁ h₅ H2.objs.size s₂.heap.objs.size wr (J H2.objs.size s₂.heap.objs.size (i + 1)) ys) hP hlt F₅ al (Heap.get?_none_of_le lowC) (Heap.get?_none_of_le hh1) ⟨Ne.symm hDC, hCw, hDw⟩ (hJk _ _ _ _ _ _ hJ fun b o n1 n2 n3 e => k₅ b o n3 e)
        (fun y h' tk' m₆ k1 k2 hj => .mk k1 k2 hj)
      refine wpAny_mono T (fun _ s₄ T => ?_) fun _ _ e => e
      unfold TurnOf at T
      refine wpAny_mono T (fun ok s₆ h₆ => ?_) fun _ _ e => e
      cases ok with
      | true =>
        simp only [if_true] at h₆ ⊢
        refine wpAny_mono h₆ (fun y s₇ h₇ => ?_) fun _ _ e => e
        obtain ⟨k₈, k₉, j₈⟩ := h₇
        rename_i h₈ tk₈ m₈
        have a := stepped h₈ m₈ k₈ k₉
        refine append_at (hsz := by show ys.toArray.size ≤ sizeLine; rw [List.size_toArray]; exact Nat.le_trans hyl (Nat.le_trans hi hsz)) a.2.2.1 fun h₉ hs₉ hD₉ => ?_
        refine ⟨n + 1 - (i + 1), less, .mk (ys := ys ++ [y]) hlt ?_ (W.frame _ _ _ a.1 fun b hb o e => hs₉.extBut b o (fun q => hDf (q ▸ hb)) e) (a.2.1.sameBut hs₉ (Ne.symm hDC)) ?_ (fun b o e => hs₉.extBut b o (below b (lt1 b o e)).2 (a.2.2.2 b o e)) (hJk _ _ _ _ _ _ j₈ fun b o n1 n2 n3 e => hs₉.extBut b o n2 e)⟩
        · rw [List.length_append, List.length_singleton]; exact Nat.succ_le_succ hyl
        · rw [hD₉]
          show some ({ cls := .type "list", data := .seq (ys.toArray.push y) (ys.length + 1) } : Obj) = some { cls := .type "list", data := .seq (ys ++ [y]).toArray (ys ++ [y]).length }
          rw [List.length_append, List.length_singleton, List.push_toArray]
      | false =>
        simp only [Bool.false_eq_true, if_false] at h₆ ⊢
        obtain ⟨k₈, k₉, j₈⟩ := h₆
        rename_i h₈ tk₈ m₈
        have a := stepped h₈ m₈ k₈ k₉
        exact ⟨n + 1 - (i + 1), less, .mk hlt (Nat.le_succ_of_le hyl) a.1 a.2.1 a.2.2.1 a.2.2.2 (List.append_nil ys ▸ j₈)⟩
    · obtain rfl : i = n := Nat.le_antisymm hi (Nat.not_lt.mp hlt)
      refine W.done _ _ _ hst' fun h₄ tk₄ hk₄ => ?_
      exact hRR _ _ h₄ tk₄ _ ys (hk₄ _ _ hDw hD') (hJk _ _ _ _ _ _ hJ fun b o n1 n2 n3 e => hk₄ b o n3 e) (fun b o e => hk₄ b o (nI b o e) (hk' b o e)) (Heap.get?_none_of_le (Nat.le_refl _)) (Heap.get?_none_of_le (by rw [hC]; exact Nat.le_succ _)) (Ne.symm hDC) (hn'.at' fun o e => hk₄ _ o hCw e)
  exact codeAny_compStart_list (loop _ rfl) (hself _ _ _ hst₁ (loop _ rfl))

theorem comp_block {elt iter : Expr} {x : Str} {px : Pos} {ifs : List Expr} {scope : Scope} {cl : List (Str × Addr)} {pos : Pos} {s₂ : Shared} {I : Addr} {fp : List Addr} {n : Nat} {P : Nat → Value → Prop} {St : Nat → Heap → Prop} {RR : Value → Addr → Result → Shared → Prop} {h₁ : Heap}
    (W : Walks prog w A I fp [I] n P St) (hsz : n ≤ sizeLine) (alive : ∀ i h, St i h → ∃ o, h.get? I = some o) (hI1 : h₁.get? I = none) (hk1 : ∀ b o, h₁.get? b = some o → s₂.heap.get? b = some o) (hh1 : h₁.objs.size ≤ s₂.heap.objs.size)
    (hcell : ∀ y ∈ scope.names, y.2 ≠ .cell) (hkind : scope.kind = .function) (hx : scope.names.lookup x = some .local) (hst : St 0 s₂.heap) (hfp : ∀ b ∈ fp, b < s₂.heap.objs.size) (hfp1 : ∀ b ∈ fp, b ≠ I → ∃ o, h₁.get? b = some o)
    (J : Addr → Addr → Nat → List Value → Heap → Prop) (hJ0 : ∀ C D h, J C D 0 [] h)
    (hJk : ∀ C D i ys h h', J C D i ys h → (∀ b o, b ≠ C → b ≠ D → b ≠ I → h.get? b = some o → h'.get? b = some o) → J C D i ys h')
    (body : ∀ C D i v ys (s₃ : Shared) m₃ (E' : Value → Shared → Prop) (K : Option Value → Shared → Prop), P i v → i < n → m₃ x = some v → Fr h₁ C s₃.heap m₃ → (∀ a ∈ [C, D, I], ∃ o, s₃.heap.get? a = some o) → h₁.get? C = none → h₁.get? D = none → (C ≠ D ∧ C ≠ I ∧ D ≠ I) → J C D i ys s₃.heap →
      (∀ (y : Option Value) h' tk', Fr h₁ C h' m₃ → h'.get? D = s₃.heap.get? D → h'.get? I = s₃.heap.get? I → J C D (i + 1) (ys ++ y.toList) h' → K y { s₃ with heap := h', toks := tk' }) → TurnOf prog w A (compEnvC scope cl C env) ifs elt E' K s₃)
    (hRR : ∀ C D h tk m' ys, h.get? D = some (lsA ys) → J C D n ys h → (∀ b o, h₁.get? b = some o → h.get? b = some o) → s₂.heap.get? D = none → s₂.heap.get? C = none → C ≠ D → h.Ns C m' → RR (.ref D) C (.ok .next) { s₂ with heap := h, toks := tk }) :
    wpAny (model prog w) A (newList []) (fun acc s₃ => wpAny (model prog w) A (newFunctionEnv scope env.globals cl [] env.qual none .none (some env)) (fun cenv s₄ =>
      codeAny (model prog w) A (.compStart (.ListComp elt [⟨.Name x px, iter, ifs, 0⟩] scope pos) 0 (.ref I) acc { cenv with scope := relabel scope env }) (RR acc cenv.locals) s₄) E s₃) E s₂ := by
  refine comp_blockK (KTurns.ofWalks (target := .Name x px) W fun i v s Q E _ hq => wpAny_pure hq) (fun s Q E st hq => W.self 0 s Q E st hq) hsz (fun i h st a ha => List.mem_singleton.mp ha ▸ alive i h st) (fun a ha => List.mem_singleton.mp ha ▸ hI1) hk1 hh1 hcell hkind hst hfp (fun b hb n => hfp1 b hb fun q => n (List.mem_singleton.mpr q)) J hJ0
    (fun C D i ys h h' x k => hJk C D i ys h h' x fun b o n1 n2 n3 => k b o n1 n2 fun m => n3 (List.mem_singleton.mp m)) (fun C D i v ys s₃ m₃ E' K hP hi F₃ al nC nD hne hj hk => ?_) hRR
  have nI : C ≠ I ∧ D ≠ I := ⟨fun q => hne.2.1 (List.mem_singleton.mpr q), fun q => hne.2.2 (List.mem_singleton.mpr q)⟩
  refine wpAny_assign_Name (wpAny_storeName_local (lookup_relabel_local hx) F₃.ns (fun h₅ hn₅ hs₅ => ?_) (by simp [compEnvC, relabel, hkind]))
  have up : ∀ a, a ≠ C → (∃ o, s₃.heap.get? a = some o) → h₅.get? a = s₃.heap.get? a := fun a n ⟨o, e⟩ => by rw [e]; exact hs₅.extBut a o n e
  refine body C D i v ys { s₃ with heap := h₅, toks := s₃.toks + 1 } _ E' K hP hi (by simp) ⟨hn₅, fun b o e => hs₅.extBut b o (fun q => absurd (e.symm.trans ((congrArg h₁.get? (show b = C from q)).trans nC)) nofun) (F₃.keep b o e), F₃.above⟩ (fun a ha => ?_) nC nD ⟨hne.1, nI⟩ (hJk _ _ _ _ _ _ hj fun b o n1 n2 n3 e => hs₅.extBut b o n1 e)
    fun y h' tk' k1 k2 k3 hj' => hk y h' tk' _ k1 (fun a ha => ?_) hj'
  · by_cases q : a = C
    · subst q; obtain ⟨o, _, _, e, _⟩ := hn₅; exact ⟨o, e⟩
    · rw [up a q (al a ha)]; exact al a ha
  · rcases List.mem_cons.mp ha with rfl | ha
    · exact k2.trans (up _ (Ne.symm hne.1) (al _ (.tail _ (.head _))))
    · rw [List.mem_singleton.mp ha]; exact k3.trans (up _ (Ne.symm nI.1) (al _ (.tail _ (.tail _ (.head _)))))

noncomputable def CompK (prog : Program) (w : World) (A : Around) (env : Env) (elt : Expr) (x : Str) (px : Pos) (iter : Expr) (ifs : List Expr) (scope : Scope) (cl : List (Str × Addr)) (pos : Pos) (Q : Value → Shared → Prop) (E : Value → Shared → Prop) (xv : Value) (s₁ : Shared) : Prop :=
  wpAny (model prog w) A (pyIter xv) (fun it s₂ => wpAny (model prog w) A (newList []) (fun acc s₃ =>
      wpAny (model prog w) A (newFunctionEnv scope env.globals cl [] env.qual none .none (some env)) (fun cenv s₄ =>
        codeAny (model prog w) A (.compStart (.ListComp elt [⟨.Name x px, iter, ifs, 0⟩] scope pos) 0 it acc { cenv with scope := relabel scope env }) (compPost (model prog w) A E none Q acc cenv.locals) s₄) E s₃) E s₂) E s₁
theorem comp_start {s : Shared} {elt iter : Expr} {x : Str} {px : Pos} {ifs : List Expr} {scope : Scope} {cl : List (Str × Addr)} {pos : Pos} {Q : Value → Shared → Prop}
    (hclos : closureFor scope env = pure cl) (hkind : scope.kind = .function) (hnames : ∀ y ∈ scope.names, y.2 = .local → scope.names.lookup y.1 = some .local)
    (h : wpAny (model prog w) A (eval iter env) (fun xv s₁ => CompK prog w A env elt x px iter ifs scope cl pos Q E xv s₁) E s)
    (hs : ∀ x, foldedSetIterable iter env x = pure x := by intro _; rfl) :
    Halt (wpAny (model prog w) A (eval (.ListComp elt [⟨.Name x px, iter, ifs, 0⟩] scope pos) env) Q E s) := by
  show wpAny _ _ _ _ _ _
  rw [eval_ListComp]
  exact wpAny_comprehension_free (use := none) rfl hs hclos hkind hnames h

theorem comp_list {s : Shared} {h₀ : Heap} {L : Addr} {m : Str → Option Value} {news : List (Addr × Obj)} {elt iter : Expr} {x : Str} {px : Pos} {ifs : List Expr} {scope : Scope} {cl : List (Str × Addr)} {pos : Pos} {Q : Value → Shared → Prop} {l : Addr} {vs : List Value}
    (J : Addr → Addr → Addr → Nat → List Value → Heap → Prop) (hJ0 : ∀ C D I h, J C D I 0 [] h) (hJk : ∀ C D I i ys h h', J C D I i ys h → (∀ b o, b ≠ C → b ≠ D → b ≠ I → h.get? b = some o → h'.get? b = some o) → J C D I i ys h')
    (hh : A.handled = none) (F : Fr h₀ L s.heap m) (N : News h₀ L s.heap news)
    (hcell : ∀ y ∈ scope.names, y.2 ≠ .cell) (hkind : scope.kind = .function) (hx : scope.names.lookup x = some .local) (hl : s.heap.IsList l vs.toArray) (hsz : vs.length ≤ 1000)
    (body : ∀ C D I i v ys (s₃ : Shared) m₃ (E' : Value → Shared → Prop) (K : Option Value → Shared → Prop), vs[i]? = some v → i < vs.length → m₃ x = some v → Fr s.heap C s₃.heap m₃ → (∀ a ∈ [C, D, I], ∃ o, s₃.heap.get? a = some o) → (∀ a ∈ [C, D, I], s.heap.get? a = none) → (C ≠ D ∧ C ≠ I ∧ D ≠ I) → J C D I i ys s₃.heap →
      (∀ (y : Option Value) h' tk', Fr s.heap C h' m₃ → h'.get? D = s₃.heap.get? D → h'.get? I = s₃.heap.get? I → J C D I (i + 1) (ys ++ y.toList) h' → K y { s₃ with heap := h', toks := tk' }) → TurnOf prog w A (compEnvC scope cl C env) ifs elt E' K s₃)
    (h : ∀ C D I ys h' tk, Fr h₀ L h' m → News h₀ L h' ((D, lsA ys) :: news) → s.heap.get? D = none → (∀ b o, s.heap.get? b = some o → h'.get? b = some o) → J C D I vs.length ys h' → Q (.ref D) { s with heap := h', toks := tk }) :
    CompK prog w A env elt x px iter ifs scope cl pos Q E (.ref l) s := by
  unfold CompK
  have hlt : l < s.heap.objs.size := by obtain ⟨_, e, _⟩ := hl; exact Heap.lt_size e
  refine wpAny_pyIter_list hl ?_
  have up : ∀ b o, s.heap.get? b = some o → (s.heap.push { cls := .type "list_iterator", data := .fields #[.ref l, .int 0 0] }).get? b = some o := fun b o e => Heap.get?_push_of_some _ e
  have n0 : s.heap.get? s.heap.objs.size = none := Heap.get?_none_of_le (Nat.le_refl _)
  have nn : ∀ {a : Addr}, (s.heap.push { cls := .type "list_iterator", data := .fields #[.ref l, .int 0 0] }).get? a = none → s.heap.get? a = none := fun {a} e => by
    cases q : s.heap.get? a with
    | none => rfl
    | some o => rw [up a o q] at e; cases e
  refine comp_block (h₁ := s.heap) (Walks.list hh s.heap.objs.size l (Nat.ne_of_lt hlt) vs.toArray) (by first | (rw [List.size_toArray, sizeLine_eq]; omega) | (rw [sizeLine_eq]; omega)) (fun i h st => by obtain ⟨⟨o, e, _⟩, _⟩ := st; exact ⟨o, e⟩) n0 up (by rw [Heap.size_push]; exact Nat.le_succ _) hcell hkind hx ⟨⟨_, Heap.get?_push_size _ rfl, rfl, rfl⟩, hl.push _⟩ (fun b hb => ?_) (fun b hb n => by
      rcases List.mem_cons.mp hb with rfl | hb
      · exact absurd rfl n
      · rw [List.mem_singleton.mp hb]; obtain ⟨o, e, _⟩ := hl; exact ⟨o, e⟩)
    (fun C D i ys h => J C D s.heap.objs.size i ys h) (fun C D h => hJ0 C D _ h) (fun C D i ys h h' x k => hJk _ _ _ _ _ _ _ x k) ?_ ?_
  · show b < (s.heap.push _).objs.size
    rw [Heap.size_push]
    rcases List.mem_cons.mp hb with rfl | hb
    · exact Nat.lt_succ_self _
    · rw [List.mem_singleton.mp hb]; exact Nat.lt_succ_of_lt hlt
  · intro C D i v ys s₃ m₃ E' K hP hi hm F₃ al nC nD hne hj hk
    refine body C D s.heap.objs.size i v ys s₃ m₃ E' K (by simpa using hP) (by simpa using hi) hm F₃ al (fun a ha => ?_) hne hj hk
    simp only [List.mem_cons, List.not_mem_nil, or_false] at ha
    rcases ha with rfl | rfl | rfl
    · exact nC
    · exact nD
    · exact n0
  · intro C D h' tk m' ys hD hj hk hDn hCn hCD hns
    simp only [List.size_toArray] at hj
    refine ⟨m', hns, fun h'' hs'' => ?_⟩
    have k : ∀ b o, s.heap.get? b = some o → h''.get? b = some o := fun b o e => hs''.extBut b o (ne_fresh e (nn hCn)) (hk b o e)
    refine h C D s.heap.objs.size ys h'' tk (fr_all F k) (List.forall_mem_cons.mpr ⟨⟨hs''.extBut D _ (Ne.symm hCD) hD, none_L F (nn hDn), none_base F (nn hDn)⟩, news_all N k⟩) (nn hDn) k (hJk _ _ _ _ _ _ _ hj fun b o n1 _ _ e => hs''.extBut b o n1 e)
theorem comp_dict {s : Shared} {h₀ : Heap} {L : Addr} {m : Str → Option Value} {news : List (Addr × Obj)} {elt iter : Expr} {x : Str} {px : Pos} {ifs : List Expr} {scope : Scope} {cl : List (Str × Addr)} {pos : Pos} {Q : Value → Shared → Prop} {l : Addr} {es : Array DictEntry} {ep : Nat}
    (J : Addr → Addr → Addr → Nat → List Value → Heap → Prop) (hJ0 : ∀ C D I h, J C D I 0 [] h) (hJk : ∀ C D I i ys h h', J C D I i ys h → (∀ b o, b ≠ C → b ≠ D → b ≠ I → h.get? b = some o → h'.get? b = some o) → J C D I i ys h')
    (hh : A.handled = none) (F : Fr h₀ L s.heap m) (N : News h₀ L s.heap news)
    (hcell : ∀ y ∈ scope.names, y.2 ≠ .cell) (hkind : scope.kind = .function) (hx : scope.names.lookup x = some .local) (hl : DictRaw s.heap l es ep) (lo : (l == sysModules) = false) (hsz : es.size ≤ 1000)
    (body : ∀ C D I i v ys (s₃ : Shared) m₃ (E' : Value → Shared → Prop) (K : Option Value → Shared → Prop), (es[i]?).map (·.key) = some v → i < es.size → m₃ x = some v → Fr s.heap C s₃.heap m₃ → (∀ a ∈ [C, D, I], ∃ o, s₃.heap.get? a = some o) → (∀ a ∈ [C, D, I], s.heap.get? a = none) → (C ≠ D ∧ C ≠ I ∧ D ≠ I) → J C D I i ys s₃.heap →
      (∀ (y : Option Value) h' tk', Fr s.heap C h' m₃ → h'.get? D = s₃.heap.get? D → h'.get? I = s₃.heap.get? I → J C D I (i + 1) (ys ++ y.toList) h' → K y { s₃ with heap := h', toks := tk' }) → TurnOf prog w A (compEnvC scope cl C env) ifs elt E' K s₃)
    (h : ∀ C D I ys h' tk, Fr h₀ L h' m → News h₀ L h' ((D, lsA ys) :: news) → s.heap.get? D = none → (∀ b o, s.heap.get? b = some o → h'.get? b = some o) → J C D I es.size ys h' → Q (.ref D) { s with heap := h', toks := tk }) :
    CompK prog w A env elt x px iter ifs scope cl pos Q E (.ref l) s := by
  unfold CompK
  have hlt : l < s.heap.objs.size := by obtain ⟨_, e, _⟩ := hl; exact Heap.lt_size e
  refine raw_iter lo hl ?_
  have up : ∀ b o, s.heap.get? b = some o → (s.heap.push { cls := .type "dict_keyiterator", data := .fields #[.ref l, .int 0 0, .int es.size 0, .int ep 0] }).get? b = some o := fun b o e => Heap.get?_push_of_some _ e
  have n0 : s.heap.get? s.heap.objs.size = none := Heap.get?_none_of_le (Nat.le_refl _)
  have nn : ∀ {a : Addr}, (s.heap.push { cls := .type "dict_keyiterator", data := .fields #[.ref l, .int 0 0, .int es.size 0, .int ep 0] }).get? a = none → s.heap.get? a = none := fun {a} e => by
    cases q : s.heap.get? a with
    | none => rfl
    | some o => rw [up a o q] at e; cases e
  refine comp_block (h₁ := s.heap) (raw_walks hh s.heap.objs.size (Nat.ne_of_lt hlt) es ep) (by first | (rw [List.size_toArray, sizeLine_eq]; omega) | (rw [sizeLine_eq]; omega)) (fun i h st => by obtain ⟨⟨o, e, _⟩, _⟩ := st; exact ⟨o, e⟩) n0 up (by rw [Heap.size_push]; exact Nat.le_succ _) hcell hkind hx ⟨⟨_, Heap.get?_push_size _ rfl, rfl, rfl⟩, hl.at fun o => up l o⟩ (fun b hb => ?_) (fun b hb n => by
      rcases List.mem_cons.mp hb with rfl | hb
      · exact absurd rfl n
      · rw [List.mem_singleton.mp hb]; obtain ⟨o, e, _⟩ := hl; exact ⟨o, e⟩)
    (fun C D i ys h => J C D s.heap.objs.size i ys h) (fun C D h => hJ0 C D _ h) (fun C D i ys h h' x k => hJk _ _ _ _ _ _ _ x k) ?_ ?_
  · show b < (s.heap.push _).objs.size
    rw [Heap.size_push]
    rcases List.mem_cons.mp hb with rfl | hb
    · exact Nat.lt_succ_self _
    · rw [List.mem_singleton.mp hb]; exact Nat.lt_succ_of_lt hlt
  · intro C D i v ys s₃ m₃ E' K hP hi hm F₃ al nC nD hne hj hk
    refine body C D s.heap.objs.size i v ys s₃ m₃ E' K hP hi hm F₃ al (fun a ha => ?_) hne hj hk
    simp only [List.mem_cons, List.not_mem_nil, or_false] at ha
    rcases ha with rfl | rfl | rfl
    · exact nC
    · exact nD
    · exact n0
  · intro C D h' tk m' ys hD hj hk hDn hCn hCD hns
    refine ⟨m', hns, fun h'' hs'' => ?_⟩
    have k : ∀ b o, s.heap.get? b = some o → h''.get? b = some o := fun b o e => hs''.extBut b o (ne_fresh e (nn hCn)) (hk b o e)
    refine h C D s.heap.objs.size ys h'' tk (fr_all F k) (List.forall_mem_cons.mpr ⟨⟨hs''.extBut D _ (Ne.symm hCD) hD, none_L F (nn hDn), none_base F (nn hDn)⟩, news_all N k⟩) (nn hDn) k (hJk _ _ _ _ _ _ _ hj fun b o n1 _ _ e => hs''.extBut b o n1 e)

theorem comp_led {s s₃ : Shared} {C D I : Addr} (al : ∀ a ∈ [C, D, I], ∃ o, s₃.heap.get? a = some o) (fr : ∀ a ∈ [C, D, I], s.heap.get? a = none) (hne : C ≠ D ∧ C ≠ I ∧ D ≠ I) : ∃ oD oI, News s.heap C s₃.heap [(D, oD), (I, oI)] := by
  obtain ⟨oD, eD⟩ := al D (.tail _ (.head _))
  obtain ⟨oI, eI⟩ := al I (.tail _ (.tail _ (.head _)))
  exact ⟨oD, oI, List.forall_mem_cons.mpr ⟨⟨eD, Ne.symm hne.1, fr D (.tail _ (.head _))⟩, List.forall_mem_cons.mpr ⟨⟨eI, Ne.symm hne.2.1, fr I (.tail _ (.tail _ (.head _)))⟩, fun _ h => nomatch h⟩⟩⟩
theorem turn_nil {elt : Expr} {E' : Value → Shared → Prop} {K : Option Value → Shared → Prop} {s₃ : Shared} (h : wpAny (model prog w) A (eval elt env) (fun y s₅ => K (some y) s₅) E' s₃) : TurnOf prog w A env [] elt E' K s₃ := wpAny_tests_nil (by simp only [if_true]; exact h)
end
end Mine
end
section
theorem Mine.off_19 : True := by
  w_top off
  trivial
namespace Mine
open PySem PySem.W PySem.Calls PySem.Spec PyProof.Rows
section
variable {prog : Program} {w : World} {A : Around} {E : Value → Shared → Prop} {s : Shared} {a b : Addr} {x y : Int}
theorem med_hits {h : Heap} {v : Value} {o : Obj} (ho : h.get? a = some o) (hx : o.IsDictOf (strKind prog w) [(Str.ofString "med", v)]) : h.DictOf (strKind prog w) a [(Str.ofString "med", v)] := Heap.dictOf_iff.mpr ⟨o, ho, hx⟩
theorem med_kh {A : Around} {t t' : Tok} : KeqHits A s [(Str.ofString "med", Value.int y t')] [(Str.ofString "med", Value.int x t)] ((x == y) && true) :=
  .hit (by rfl) (SeqAt.EqAt.int_int x t y t') .nil
theorem med_ne {Q : Value → Shared → Prop} (ha : (a == sysModules) = false) (hb : (b == sysModules) = false) (ma : IsMed prog w s.heap a x) (mb : IsMed prog w s.heap b y) (hu : A.units < cLine) (h : Q (.bool (!(x == y))) s) :
    wpAny (model prog w) A (compareOp .NotEq (.ref a) (.ref b)) Q E s := by
  obtain ⟨oa, ta, ea, da⟩ := ma
  obtain ⟨ob, tb, eb, db⟩ := mb
  refine keq_ne (knd := strKind prog w) ha hb (med_hits ea da) (med_hits eb db) hu (fun _ => med_kh) ?_
  simpa using h
theorem med_eq {Q : Value → Shared → Prop} (ha : (a == sysModules) = false) (hb : (b == sysModules) = false) (ma : IsMed prog w s.heap a x) (mb : IsMed prog w s.heap b y) (hu : A.units < cLine) (h : Q (.bool (x == y)) s) :
    wpAny (model prog w) A (compareOp .Eq (.ref a) (.ref b)) Q E s := by
  obtain ⟨oa, ta, ea, da⟩ := ma
  obtain ⟨ob, tb, eb, db⟩ := mb
  refine keq_eq (knd := strKind prog w) ha hb (med_hits ea da) (med_hits eb db) hu (fun _ => med_kh) ?_
  simpa using h
theorem medNe_k {h₀ : Heap} {L : Addr} {m : Str → Option Value} {bb : Bool} {Q : Value → Shared → Prop} (hu : A.units < 9900) (F : Fr h₀ L s.heap m) (ha : (a == sysModules) = false) (hb : (b == sysModules) = false) (ma : IsMed prog w h₀ a x) (mb : IsMed prog w h₀ b y) (e : (!(x == y)) = bb) (h : Q (.bool bb) s) :
    wpAny (model prog w) A (compareOp .NotEq (.ref a) (.ref b)) Q E s :=
  med_ne ha hb (ma.keep fun o => F.keep _ o) (mb.keep fun o => F.keep _ o) hu (by rw [e]; exact h)
end
end Mine
end
section
theorem Mine.off_20 : True := by
  w_top off
  trivial
namespace Mine
open PySem PySem.W PySem.Calls PySem.Spec PyProof.Rows
noncomputable def Row.sent (x : Row) : List Int × Addr × Value := (Pk x.i, x.k, .bool true)
noncomputable abbrev akD (w : World) (t0 t1 t2 t3 : Tok) (rt sl : Addr) : List DictEntry :=
  [⟨PyData.keyHash w.params (Str.ofString "kind"), .str (Str.ofString "kind") t0, .str (Str.ofString "ibgp") t3⟩, ⟨PyData.keyHash w.params (Str.ofString "routes"), .str (Str.ofString "routes") t1, .ref rt⟩, ⟨PyData.keyHash w.params (Str.ofString "stale"), .str (Str.ofString "stale") t2, .ref sl⟩]
noncomputable abbrev sinceT (a : Addr) (tv : Int) (t : Tok) (n : Nat) : Obj := { cls := .type "tuple", data := .seq #[.ref a, .int tv t] n }

structure Kept (prog : Program) (w : World) (P : Addr → Prop) (h : Heap) (b db rt sl : Addr) (rs ss : List Row) : Prop where
  inst : h.get? b = some (instObj 142 db)
  dict : ∃ t0 t1 t2 t3 n, h.get? db = some (dictOf (akD w t0 t1 t2 t3 rt sl) n)
  routes : ∃ o, h.get? rt = some o ∧ RowsObj prog w o (rs.map Row.ent)
  stale : ∃ o, h.get? sl = some o ∧ RowsObj prog w o (ss.map Row.sent)
  keys : ∀ x ∈ rs, KeyAt prog w h (Pk x.i) x.k
  skeys : ∀ x ∈ ss, KeyAt prog w h (Pk x.i) x.k
  tup : ∀ x ∈ rs, ∃ tv t n, h.get? x.l = some (sinceT x.a tv t n)
  med : ∀ x ∈ rs, IsMed prog w h x.a x.v
  medP : ∀ x ∈ rs, P x.a
  small : ∀ x ∈ rs, x.i < 4
  ssmall : ∀ x ∈ ss, x.i < 4
  nd : ([b, db, rt, sl] : List Nat).Nodup
  own : ∀ a ∈ [b, db, rt, sl], P a

theorem sents_fst (xs : List Row) : (xs.map Row.sent).map (·.1) = (xs.map Row.ent).map (·.1) := by rw [List.map_map, List.map_map]; rfl
theorem atKey_sent (xs : List Row) (i : Nat) : atKey (xs.map Row.sent) (Pk i) = (findR xs i).map fun x => (x.k, Value.bool true) := by
  unfold atKey findR
  induction xs with
  | nil => rfl
  | cons x r ih =>
    rw [List.map_cons, List.find?_cons, List.find?_cons]
    by_cases q : x.i = i
    · have e1 : decide (x.sent.1 = Pk i) = true := decide_eq_true (by show Pk x.i = Pk i; rw [q])
      have e2 : (x.i == i) = true := beq_iff_eq.mpr q
      rw [e1, e2]; rfl
    · have e1 : decide (x.sent.1 = Pk i) = false := decide_eq_false (fun e => q (Pk_inj.mp e))
      have e2 : (x.i == i) = false := beq_eq_false_iff_ne.mpr q
      rw [e1, e2]; exact ih
theorem drop_sent (xs : List Row) (i : Nat) : dropK (xs.map Row.sent) (Pk i) = (dropR xs i).map Row.sent := by
  unfold dropK dropR
  rw [List.filter_map]
  congr 1
  refine List.filter_congr fun x _ => ?_
  show (!decide (Pk x.i = Pk i)) = !decide (x.i = i)
  by_cases q : x.i = i
  · rw [decide_eq_true q, decide_eq_true (by rw [q])]
  · rw [decide_eq_false q, decide_eq_false (fun e => q (Pk_inj.mp e))]

section
variable {prog : Program} {w : World} {P : Addr → Prop} {h : Heap} {b db rt sl : Addr} {rs ss : List Row}
theorem Kept.nodup (B : Kept prog w P h b db rt sl rs ss) : (rs.map (·.i)).Nodup := let ⟨_, _, x⟩ := B.routes; nodup_i x.nodup
theorem Kept.snodup (B : Kept prog w P h b db rt sl rs ss) : (ss.map (·.i)).Nodup := let ⟨_, _, x⟩ := B.stale; nodup_i (sents_fst ss ▸ x.nodup)
theorem Kept.len (B : Kept prog w P h b db rt sl rs ss) : rs.length ≤ 4 := by
  have := nodup_small B.nodup (fun x hx => by obtain ⟨y, hy, rfl⟩ := List.mem_map.mp hx; exact B.small y hy)
  simpa using this
theorem Kept.slen (B : Kept prog w P h b db rt sl rs ss) : ss.length ≤ 4 := by
  have := nodup_small B.snodup (fun x hx => by obtain ⟨y, hy, rfl⟩ := List.mem_map.mp hx; exact B.ssmall y hy)
  simpa using this
theorem Kept.p (B : Kept prog w P h b db rt sl rs ss) : P b ∧ P db ∧ P rt ∧ P sl := ⟨B.own _ (.head _), B.own _ (.tail _ (.head _)), B.own _ (.tail _ (.tail _ (.head _))), B.own _ (.tail _ (.tail _ (.tail _ (.head _))))⟩
theorem Kept.ne (B : Kept prog w P h b db rt sl rs ss) : (@Ne Nat b db) ∧ (@Ne Nat b rt) ∧ (@Ne Nat b sl) ∧ (@Ne Nat db rt) ∧ (@Ne Nat db sl) ∧ (@Ne Nat rt sl) := by
  have n := B.nd
  simp only [List.nodup_cons, List.mem_cons, not_or] at n
  exact ⟨n.1.1, n.1.2.1, n.1.2.2.1, n.2.1.1, n.2.1.2.1, n.2.2.1.1⟩
theorem Kept.nek (B : Kept prog w P h b db rt sl rs ss) {c : Addr} {o : Obj} (hc : h.get? c = some o) (n1 : o.cls ≠ .ref 142) (n2 : o.cls ≠ .type "dict") : c ≠ b ∧ c ≠ db ∧ c ≠ rt ∧ c ≠ sl := by
  obtain ⟨_, _, _, _, _, hd⟩ := B.dict
  obtain ⟨_, hr, hro⟩ := B.routes
  obtain ⟨_, hs, hso⟩ := B.stale
  exact ⟨ne_obj hc B.inst n1, ne_obj hc hd n2, ne_obj hc hr (by rw [hro.cls]; exact n2), ne_obj hc hs (by rw [hso.cls]; exact n2)⟩
theorem Kept.tup_ne (B : Kept prog w P h b db rt sl rs ss) {c : Addr} {o : Obj} (hc : h.get? c = some o) (n1 : o.cls = .type "tuple") : c ≠ b ∧ c ≠ db ∧ c ≠ rt ∧ c ≠ sl :=
  B.nek hc (by rw [n1]; decide) (by rw [n1]; decide)
theorem Kept.key_ne (B : Kept prog w P h b db rt sl rs ss) {k : List Int} {a : Addr} (x : KeyAt prog w h k a) : a ≠ b ∧ a ≠ db ∧ a ≠ rt ∧ a ≠ sl := by
  obtain ⟨o, ho, hc⟩ := x.cls
  exact B.tup_ne ho hc
theorem Kept.med_ne (B : Kept prog w P h b db rt sl rs ss) {c : Addr} {v : Int} (x : IsMed prog w h c v) : c ≠ b ∧ c ≠ db ∧ c ≠ rt ∧ c ≠ sl := by
  obtain ⟨o, t, ho, hx⟩ := x
  obtain ⟨_, _, _, _, _, hd⟩ := B.dict
  obtain ⟨_, hr, hro⟩ := B.routes
  obtain ⟨_, hs, hso⟩ := B.stale
  have hc : o.cls = .type "dict" := let ⟨_, _, hc, _⟩ := hx; hc.1
  refine ⟨ne_obj ho B.inst (by rw [hc]; intro q; cases q), ?_, ?_, ?_⟩
  · rintro rfl; rw [ho] at hd; cases hd; exact med_ne_two hx
  · rintro rfl; rw [ho] at hr; cases hr; exact med_ne_rows hx hro
  · rintro rfl; rw [ho] at hs; cases hs; exact med_ne_rows hx hso
theorem Kept.keepRs {h' : Heap} (B : Kept prog w P h b db rt sl rs ss) (K : Keep [b, db, rt, sl] h h') {rt' sl' : Addr} {rs' ss' : List Row} (hi : h'.get? b = some (instObj 142 db)) (hd : ∃ t0 t1 t2 t3 n, h'.get? db = some (dictOf (akD w t0 t1 t2 t3 rt' sl') n))
    (hr : ∃ o, h'.get? rt' = some o ∧ RowsObj prog w o (rs'.map Row.ent)) (hs : ∃ o, h'.get? sl' = some o ∧ RowsObj prog w o (ss'.map Row.sent))
    (h1 : ∀ x ∈ rs', x ∈ rs ∨ (KeyAt prog w h (Pk x.i) x.k ∧ (∃ tv t n, h'.get? x.l = some (sinceT x.a tv t n)) ∧ IsMed prog w h x.a x.v ∧ x.i < 4 ∧ P x.a)) (h2 : ∀ x ∈ ss', KeyAt prog w h (Pk x.i) x.k ∧ x.i < 4)
    (nd : ([b, db, rt', sl'] : List Nat).Nodup) (p1 : P rt') (p2 : P sl') : Kept prog w P h' b db rt' sl' rs' ss' :=
  have kk : ∀ {k : List Int} {a : Addr}, KeyAt prog w h k a → KeyAt prog w h' k a := fun x => x.keep fun o e => K _ o e (by have := B.key_ne x; simp [this])
  have mm : ∀ {a : Addr} {v : Int}, IsMed prog w h a v → IsMed prog w h' a v := fun x => x.keep fun o e => K _ o e (by have := B.med_ne x; simp [this])
  { inst := hi, dict := hd, routes := hr, stale := hs
    keys := fun x hx => (h1 x hx).elim (fun m => kk (B.keys x m)) fun m => kk m.1
    skeys := fun x hx => kk (h2 x hx).1
    tup := fun x hx => (h1 x hx).elim (fun m => let ⟨tv, t, n, e⟩ := B.tup x m; ⟨tv, t, n, K _ _ e (by have := B.tup_ne e rfl; simp [this])⟩) fun m => m.2.1
    med := fun x hx => (h1 x hx).elim (fun m => mm (B.med x m)) fun m => mm m.2.2.1
    small := fun x hx => (h1 x hx).elim (fun m => B.small x m) fun m => m.2.2.2.1
    medP := fun x hx => (h1 x hx).elim (fun m => B.medP x m) fun m => m.2.2.2.2
    ssmall := fun x hx => (h2 x hx).2
    nd := nd
    own := fun a ha => by
      simp only [List.mem_cons, List.not_mem_nil, or_false] at ha
      rcases ha with rfl | rfl | rfl | rfl
      · exact B.p.1
      · exact B.p.2.1
      · exact p1
      · exact p2 }
theorem tup_L {g h' : Heap} {L p : Addr} {m : Str → Option Value} {vs : Array Value} {n : Nat} {c : Value} (F : Fr g L h' m) (e : g.get? p = some { cls := c, data := .seq vs n }) : p ≠ L := fun q => by
  subst q
  have := F.keep _ _ e
  obtain ⟨o, _, _, ho, hd, _⟩ := F.ns
  rw [this] at ho; cases ho; cases hd
end
end Mine
end
section
theorem Mine.off_20b : True := by
  w_top off
  trivial
namespace Mine
section
variable {prog : Program} {w : World} {A : Around} {s : Shared} {mean : ExcName → Option Value} {mg mb : Str → Option Value} {H₀ : Heap} {P : Addr → Prop} {R : Result → Shared → Prop}
theorem keep_42 {a b c d : Addr} {oa ob : Obj} {h h' : Heap} (K : Keep [a, b, c, d] h h') (ha : h.get? a = some oa) (ha' : h'.get? a = some oa) (hb : h.get? b = some ob) (hb' : h'.get? b = some ob) : Keep [c, d] h h' := fun x o e n => by
  by_cases q : x = a
  · subst q; rw [ha] at e; cases e; exact ha'
  by_cases q2 : x = b
  · subst q2; rw [hb] at e; cases e; exact hb'
  · exact K x o e fun m => (List.mem_cons.mp m).elim q fun m => (List.mem_cons.mp m).elim q2 n
theorem grow_4 {a b c d : Addr} {oa ob oc od : Obj} {h h' : Heap} (K : Keep [a, b, c, d] h h') (ha : h'.get? a = some oa) (hb : h'.get? b = some ob) (hc : h'.get? c = some oc) (hd : h'.get? d = some od) : Grow h h' := Grow.keep K fun x m => by
  rcases List.mem_cons.mp m with rfl | m
  · exact ⟨_, ha⟩
  rcases List.mem_cons.mp m with rfl | m
  · exact ⟨_, hb⟩
  rcases List.mem_cons.mp m with rfl | m
  · exact ⟨_, hc⟩
  · rw [List.mem_singleton.mp m]; exact ⟨_, hd⟩
theorem pop_Td {h₀ : Heap} {L d a : Addr} {m : Str → Option Value} {news : List (Addr × Obj)} {g : Obj → List (Addr × Obj)} {o : Obj} {ss : List Row} {i : Nat} {v : Value} {E : Value → Shared → Prop} {Q : Value → Shared → Prop} (hu : A.units + 1 < cLine) (F : Fr h₀ L s.heap m) (N : News h₀ L s.heap news) (U : UpdF d o news g) (lo : (d == sysModules) = false) (ho : RowsObj prog w o (ss.map Row.sent))
    (hks : ∀ x ∈ ss.map Row.sent, KeyAt prog w h₀ x.1 x.2.1) (hk : KeyAt prog w h₀ (Pk i) a) (hz : (ss.map Row.sent).length ≤ 1000) (h : ∀ y h' o' t', Fr h₀ L h' m → News h₀ L h' (g o') → RowsObj prog w o' ((dropR ss i).map Row.sent) → Q y { s with heap := h', toks := t' }) :
    wpAny (model prog w) A (call (.builtin "dict.pop") [.ref d, .ref a, v]) Q E s := by
  cases hq : atKey (ss.map Row.sent) (Pk i) with
  | none =>
    refine pop_Tn hu F N U lo ho hks hk hz hq fun t' => h v s.heap o t' F ?_ ?_
    · obtain ⟨pre, post, e1, e2, _⟩ := U.split
      rw [e2, ← e1]; exact N
    · rw [atKey_sent] at hq
      rw [dropR_none (Option.map_eq_none_iff.mp hq)]
      exact ho
  | some p => exact pop_Ts hu F N U lo ho hks hk hz hq fun h' o' t' F' N' r' => h p.2 h' o' t' F' N' (by rw [← drop_sent]; exact r')
theorem ka_ct {a : Nat} {t3 : Tok} (C : Cx w mean mg mb H₀ P A s.heap 1)
    (hR : ∀ h' t, Keep [] s.heap h' → R (.ok (.ret (.ref a))) { s with heap := h', toks := t }) :
    codeAny (model prog w) A (.call (.ref 94) ⟨[.ref a, .str (Str.ofString "ibgp") t3], []⟩) R s := by
  have hA := C.dep
  have hU := C.uni
  refine' enterC (mo := []) C.B.X C.B.T C.st ?m ?ho ?hcd ?room ?bind ?loc ?nd ?_ ?c1 ?c2 ?c3
  case ho => k_is
  case hcd => k_is
  case bind => exact BindsTo.of_eq rfl
  case loc => exact rfl
  case nd => decide +kernel
  case c1 => exact rfl
  case c2 => exact rfl
  case c3 => exact rfl
  case room => show _ < 1000; k_extra "own a"
  case m => exact fun _ h => nomatch h
  intro g L h₁ tk cells KG eL F N Y lL X T SG
  k_cells Y
  simp only [List.cons_append, List.nil_append] at N
  (try dsimp only)
  try k_fold
  k_steps
  exact hR _ _ (keep_end (mo := []) KG F)
theorem ka_k {E : Value → Shared → Prop} {Q : Value → Shared → Prop} {h₀ : Heap} {L a : Nat} {t3 : Tok} {m : Str → Option Value} {news : List (Addr × Obj)} (F : Fr h₀ L s.heap m) (N : News h₀ L s.heap news)
    (C : Cx w mean mg mb H₀ P A s.heap 1) (h : ∀ h' t, Fr h₀ L h' m → News h₀ L h' news → Q (.ref a) { s with heap := h', toks := t }) :
    wpAny (model prog w) A (call (.ref 94) [.ref a, .str (Str.ofString "ibgp") t3]) Q E s :=
  wpAny_call (ka_ct C fun h' t K => by
    have k : ∀ b o, s.heap.get? b = some o → h'.get? b = some o := fun b o e => K b o e (by simp)
    exact h h' t (fr_all F k) (news_all N k))
end
end Mine
end
section
theorem Mine.off_21 : True := by
  w_top off
  trivial
local macro_rules | `(tactic| walk_at "call builtin:dict.pop") => `(tactic| (k_extra "own 44"; intro y' h' o' t' F' N' rs0; (try dsimp only at N'); (try k_sweep)))
namespace Mine
section
variable {prog : Program} {w : World} {A : Around} {s : Shared} {mean : ExcName → Option Value} {mg mb : Str → Option Value} {H₀ : Heap} {P : Addr → Prop} {R : Result → Shared → Prop}
noncomputable abbrev tupOf (vs : List Value) (n : Nat) : Obj := { cls := .type "tuple", data := .seq vs.toArray n }
inductive TakeJ (prog : Program) (w : World) (g : Heap) (rs ss : List Row) (i k a : Nat) (v now : Int) (tn : Tok) (D : Addr × Obj) (d : Addr) (B DB : Addr × Obj) (rt sl : Addr) (y : List (Addr × Obj)) : Prop
  | mk (X : Addr × Obj) (oc or' os' : Obj) (tl : List (Addr × Obj)) (rs' : List Row) (e : y = D :: (d, oc) :: X :: B :: DB :: (rt, or') :: (sl, os') :: tl) (x1 : RowsObj prog w oc (if (findR rs i).map (·.v) = some v then [] else [(Pk i, k, Value.bool true)])) (x2 : RowsObj prog w or' (rs'.map Row.ent))
    (x3 : RowsObj prog w os' ((dropR ss i).map Row.sent)) (x4 : rs'.map (fun x => (x.i, x.v)) = (putR rs i k 0 a v).map (fun x => (x.i, x.v))) (x5 : ∀ x ∈ rs', x ∈ rs ∨ (KeyAt prog w g (Pk x.i) x.k ∧ x.a = a ∧ x.v = v ∧ x.i = i ∧ ∃ n, (x.l, sinceT a now tn n) ∈ tl)) (x6 : (findR rs i).map (·.v) = some v → rs' = rs)
theorem allLt_ne {d : Nat} : ∀ {l : List (Addr × Obj)}, AllLt d l → ∀ q ∈ l, @Ne Nat d q.1
  | [], _, _, h => nomatch h
  | p :: r, h, q, hq => by
    rcases List.mem_cons.mp hq with rfl | hq
    · exact Nat.ne_of_gt h.1
    · exact allLt_ne h.2 q hq
theorem putR_core (rs : List Row) (i k l l' a v) : (putR rs i k l a v).map (fun x => (x.i, x.v)) = (putR rs i k l' a v).map (fun x => (x.i, x.v)) := by
  unfold putR
  split
  · rw [List.map_map, List.map_map]
    refine List.map_congr_left fun x _ => ?_
    simp only [Function.comp]
    split <;> rfl
  · simp
theorem putR_same {rs : List Row} {i k l a : Nat} {v : Int} {x : Row} (hn : (rs.map (·.i)).Nodup) (hf : findR rs i = some x) (hv : x.v = v) : rs.map (fun x => (x.i, x.v)) = (putR rs i k l a v).map (fun x => (x.i, x.v)) := by
  unfold putR
  rw [hf]
  simp only [Option.isSome_some, if_true, List.map_map]
  refine List.map_congr_left fun y hy => ?_
  simp only [Function.comp]
  split
  · rename_i q
    have := findR_of hn hy
    rw [q, hf] at this
    cases this
    show (x.i, x.v) = (x.i, v)
    rw [hv]
  · rfl
theorem news_rot7 {h₀ h : Heap} {L : Addr} {x a1 a2 a3 a4 a5 a6 a7 : Addr × Obj} {own : List (Addr × Obj)} (N : News h₀ L h (x :: a1 :: a2 :: a3 :: a4 :: a5 :: a6 :: a7 :: own)) : News h₀ L h ((a1 :: a2 :: a3 :: a4 :: a5 :: a6 :: a7 :: [x]) ++ own) :=
  news_rot (l := [a1, a2, a3, a4, a5, a6, a7]) N
theorem news7 {h₀ h : Heap} {L : Addr} {a1 a2 a3 a4 a5 a6 a7 : Addr × Obj} {own : List (Addr × Obj)} (N : News h₀ L h (a1 :: a2 :: a3 :: a4 :: a5 :: a6 :: a7 :: own)) : News h₀ L h ((a1 :: a2 :: a3 :: a4 :: a5 :: a6 :: a7 :: []) ++ own) := N
theorem hin7 {x a1 a2 a3 a4 a5 a6 a7 : Addr × Obj} {own b : List (Addr × Obj)} (e : [a1, a2, a3, a4, a5, a6, a7].map (·.1) = b.map (·.1)) (hx : ∀ q ∈ own, x.1 ≠ q.1) : ∀ p ∈ a1 :: a2 :: a3 :: a4 :: a5 :: a6 :: a7 :: [x], (∀ q ∈ own, p.1 ≠ q.1) ∨ ∃ o, (p.1, o) ∈ b := fun p hp => by
  rcases List.mem_append.mp (show p ∈ [a1, a2, a3, a4, a5, a6, a7] ++ [x] from hp) with hp | hp
  · exact same_addrs (C := fun p => ∀ q ∈ own, p.1 ≠ q.1) e p hp
  · rw [List.mem_singleton.mp hp]; exact .inl hx
theorem find_none_l {rs : List Row} {i : Nat} (h : findR rs i = none) : (atKey (rs.map Row.ent) (Pk i)).isSome = false := by rw [atKey_ent, h]; rfl

theorem take_put_ct {b db rt sl p0 p1 k a i n0 n1 : Nat} {now : Int} {tn : Tok} {v : Int} {rs ss : List Row} (C : Cx w mean mg mb H₀ P A s.heap 3) (B : Kept prog w P s.heap b db rt sl rs ss)
    (hk : KeyAt prog w s.heap (Pk i) k) (hi : i < 4) (ha : IsMed prog w s.heap a v) (pa : P a) (hp0 : s.heap.get? p0 = some (tupOf [] n0)) (hp1 : s.heap.get? p1 = some (tupOf [.ref k] n1))
    (hR : ∀ h' t z c rs', Keep [rt, sl] s.heap h' → Grow s.heap h' → s.heap.get? z = none → h'.get? z = some (W.listOf (if (findR rs i).map (·.v) = some v then [] else [.ref k]).toArray c) → Kept prog w P h' b db rt sl rs' (dropR ss i) → rs'.map (fun x => (x.i, x.v)) = (putR rs i k 0 a v).map (fun x => (x.i, x.v)) → (∀ x ∈ rs', x ∈ rs ∨ x.a = a) → ((findR rs i).map (·.v) = some v → rs' = rs) → R (.ok (.ret (.ref z))) { s with heap := h', toks := t }) :
    codeAny (model prog w) A (.call (.ref 113) ⟨[.ref b, .ref p0, .ref a, .ref p1, .int now tn], []⟩) R s := by
  obtain ⟨t0, t1, t2, t3, n, hdb⟩ := B.dict
  obtain ⟨o, hr, hro⟩ := B.routes
  obtain ⟨o', hs, hso⟩ := B.stale
  have hz := B.len
  have hsz := B.slen
  have pp := B.p
  have nn := B.ne
  have hA := C.dep
  have hU := C.uni
  have hH : (A.deeper (envOf "" default 0 0 .none)).handled = none := C.hh
  refine' enterC (mo := [(b, instObj 142 db), (db, dictOf (akD w t0 t1 t2 t3 rt sl) n), (rt, o), (sl, o')]) C.B.X C.B.T C.st ?m ?ho ?hcd ?room ?bind ?loc ?nd ?_ ?c1 ?c2 ?c3
  case ho => k_is
  case hcd => k_is
  case bind => exact BindsTo.of_eq rfl
  case loc => exact rfl
  case nd => decide +kernel
  case c1 => exact rfl
  case c2 => exact rfl
  case c3 => exact rfl
  case room => show _ < 1000; k_extra "own a"
  case m => exact all2 ⟨B.inst, (C.hP b pp.1).1⟩ (all2 ⟨hdb, (C.hP db pp.2.1).1⟩ (all2 ⟨hr, (C.hP rt pp.2.2.1).1⟩ (all1 ⟨hs, (C.hP sl pp.2.2.2).1⟩)))
  intro g L h₁ tk cells KG eL F N Y lL X T SG
  k_lt lL
  k_cells Y
  simp only [List.cons_append, List.nil_append] at N
  (try dsimp only)
  have kk : ∀ {k : List Int} {a : Addr}, KeyAt prog w s.heap k a → KeyAt prog w g k a := fun x => x.keep fun o e => KG _ o e (by have := B.key_ne x; simp [this])
  have hkg : KeyAt prog w g (Pk i) k := kk hk
  have hks : ∀ x ∈ rs.map Row.ent, KeyAt prog w g x.1 x.2.1 := fun x hx => by obtain ⟨y, hy, rfl⟩ := List.mem_map.mp hx; exact kk (B.keys y hy)
  have hkss : ∀ x ∈ ss.map Row.sent, KeyAt prog w g x.1 x.2.1 := fun x hx => by obtain ⟨y, hy, rfl⟩ := List.mem_map.mp hx; exact kk (B.skeys y hy)
  have hzz : (rs.map Row.ent).length ≤ 1000 := by rw [List.length_map]; omega
  have hszz : (ss.map Row.sent).length ≤ 1000 := by rw [List.length_map]; omega
  have lo : (rt == sysModules) = false := low_of (C.hP rt pp.2.2.1).2
  have lo' : (sl == sysModules) = false := low_of (C.hP sl pp.2.2.2).2
  have gp0 : g.get? p0 = some (tupOf [] n0) := KG _ _ hp0 (by have := B.tup_ne hp0 rfl; simp [this])
  have gp1 : g.get? p1 = some (tupOf [.ref k] n1) := KG _ _ hp1 (by have := B.tup_ne hp1 rfl; simp [this])
  try k_fold
  k_steps
  (with_reducible rename Fr _ _ _ _ => F)
  (with_reducible rename News _ _ _ _ => N)
  rename_i d hx1 ocx lox hsx fsx hix fix l1x hx2
  refine' comp_pickT (l := p0) (vs := []) (fun _ => true) hH F N ?hclos ?hcell ?hkind ?hnames ?hx ?hb ?hit ?hl ?hsz ?htest ?rest ?hfold
  case hit => intro Q hq; exact nameX_L F rfl hq
  case hclos => exact rfl
  case hfold => intro _; rfl
  case hcell => decide
  case hkind => exact rfl
  case hnames => decide
  case hx => exact rfl
  case hb => decide
  case hl => exact ⟨_, F.keep _ _ gp0, rfl, _, rfl⟩
  case hsz => decide
  case htest => exact fun _ _ _ _ _ _ h => nomatch h
  case rest =>
    intro D c h₂ tk₂ F₂ N₂ hD hk₂
    (with_reducible rename Obj.IsDictOf (strKind _ _) _ _ => hchS)
    have hch := rows_empty hchS
    have hks0 : ∀ x ∈ ([] : List (List Int × Addr × Value)), KeyAt prog w g x.1 x.2.1 := fun _ h => nomatch h
    have nD := news_ne N hD
    simp only [List.forall_mem_cons] at nD
    obtain ⟨nD1, nD2, nD3, nD4, nD5, nD6, _⟩ := nD
    clear F N
    k_steps
    (with_reducible rename Fr _ _ _ _ => F)
    (with_reducible rename News _ _ _ _ => N)
    refine' loop_nil hH ⟨_, (N _ (.head _)).1, rfl, _, rfl⟩ (N _ (.head _)).2.1 F N ?rest2
    case rest2 =>
      clear F N
      intro h₃ tk₃ pv F N
      replace F : Fr g L h₃ _ := F
      replace N : News g L h₃ _ := N
      k_steps
      (with_reducible rename Fr _ _ _ _ => F)
      (with_reducible rename News _ _ _ _ => N)
      refine' ka_k F N (C.go (Grow.led KG F N ?gr) (fun b o e => F.keep b o (SG b o e)) ?d ?u C.hh) ?rest3
      case gr => exact all2 ⟨_, .tail _ (.tail _ (.tail _ (.head _)))⟩ (all2 ⟨_, .tail _ (.tail _ (.tail _ (.tail _ (.head _))))⟩ (all2 ⟨_, .tail _ (.tail _ (.tail _ (.tail _ (.tail _ (.head _)))))⟩ (all1 ⟨_, .tail _ (.tail _ (.tail _ (.tail _ (.tail _ (.tail _ (.head _))))))⟩)))
      case d => simp only [depth_deeper]; k_extra "own a"
      case u => simp only [Around.deeper_units]; k_extra "own a"
      case rest3 =>
        clear F N
        intro h₄ tk₄ F N
        k_steps
        (with_reducible rename Fr _ _ _ _ => F)
        (with_reducible rename News _ _ _ _ => N)
        refine' loop_tone (v := .ref k) hH ⟨_, F.keep _ _ gp1, rfl, _, rfl⟩ ?p1L F N (TakeJ prog w s.heap rs ss i k a v now tn (D, W.listOf (List.filter (fun x => true) ([] : List Value)).toArray c) d (b, instObj 142 db) (db, dictOf (akD w t0 t1 t2 t3 rt sl) n) rt sl) ?step ?rest4
        case p1L => exact tup_L F gp1
        case step =>
          intro h tk own Q' ho F₁ N₁ hq
          have o1 := own_ne ho (N _ (.tail _ (.head _))).1 (led_ne N (.tail _ (.head _)) gp1)
          have o2 := own_ne ho (N _ (.tail _ (.tail _ (.tail _ (.tail _ (.tail _ (.head _))))))).1 (led_ne N (.tail _ (.tail _ (.tail _ (.tail _ (.tail _ (.head _)))))) gp1)
          have o3 := own_ne ho (N _ (.tail _ (.tail _ (.tail _ (.tail _ (.tail _ (.tail _ (.head _)))))))).1 (led_ne N (.tail _ (.tail _ (.tail _ (.tail _ (.tail _ (.tail _ (.head _))))))) gp1)
          clear F N
          replace F₁ : Fr g L h _ := F₁
          replace N₁ : News g L h _ := N₁
          simp only [List.cons_append, List.nil_append] at N₁
          have sone : ∀ {o'' : Obj}, RowsObj prog w o'' (storedH [] (Pk i) k (Value.bool true)) → RowsObj prog w o'' [(Pk i, k, Value.bool true)] := fun x => x
          have put1 : ∀ {o'' : Obj} {l : Nat}, RowsObj prog w o'' (storedH (rs.map Row.ent) (Pk i) k (.ref l)) → RowsObj prog w o'' ((putR rs i k l a v).map Row.ent) := fun x => by rw [stored_ent rs i k _ a v] at x; exact x
          have putm : ∀ (l : Nat) (no : Nat), ∀ x ∈ putR rs i k l a v, x ∈ rs ∨ (KeyAt prog w s.heap (Pk x.i) x.k ∧ x.a = a ∧ x.v = v ∧ x.i = i ∧ ∃ n, (x.l, sinceT a now tn n) ∈ [(l, sinceT a now tn no)]) := fun l no x hx => by
            rcases putR_mem hx with ⟨q, _⟩ | ⟨q1, q2, q3, q4, q5, q6⟩
            · exact .inl q
            · refine .inr ⟨?_, q3, q4, q1, no, by rw [q2]; exact .head _⟩
              rw [q1]
              rcases q6 with q6 | ⟨y, hy, q7, q6⟩
              · rw [q6]; exact hk
              · rw [q6, ← q7]; exact B.keys y hy
          cases hfr : findR rs i with
          | none =>
            have hpr : (atKey (rs.map Row.ent) (Pk i)).isSome = false := find_none_l hfr
            k_steps
            (with_reducible rename Fr _ _ _ _ => F)
            (with_reducible rename News _ _ _ _ => N)
            (with_reducible rename _ ∧ _ => l2)
            (with_reducible rename RowsObj _ _ _ (storedH (List.map _ _) _ _ _) => rr)
            (with_reducible rename RowsObj _ _ _ (storedH [] _ _ _) => rc)
            (with_reducible rename RowsObj _ _ _ (List.map Row.sent (dropR _ _)) => rs0)
            exact hq _ _ _ _ F (news_rot7 N) (hin7 rfl (allLt_ne l2.2.2.2.2.2.2.2)) ⟨_, _, _, _, _, putR rs i k _ a v, rfl, (by rw [if_neg (by rw [hfr]; simp)]; exact sone rc), put1 rr, rs0, putR_core rs i k _ 0 a v, putm _ _, fun e => absurd e (by rw [hfr]; simp)⟩
          | some x =>
            have hpr : (atKey (rs.map Row.ent) (Pk i)).isSome = true := by rw [atKey_ent, hfr]; rfl
            have hp2 : atKey (rs.map Row.ent) (Pk i) = some (x.k, .ref x.l) := by rw [atKey_ent, hfr]; rfl
            have hxm := (findR_mem hfr).1
            obtain ⟨tv, tt, nt, hxt⟩ := B.tup x hxm
            have gxt : g.get? x.l = some (sinceT x.a tv tt nt) := KG _ _ hxt (by have := B.tup_ne hxt rfl; simp [this])
            have gxm : IsMed prog w g x.a x.v := (B.med x hxm).keep fun o e => KG _ o e (by have := B.med_ne (B.med x hxm); simp [this])
            have gam : IsMed prog w g a v := ha.keep fun o e => KG _ o e (by have := B.med_ne ha; simp [this])
            have lx : (x.a == sysModules) = false := low_of (C.hP x.a (B.medP x hxm)).2
            have la : (a == sysModules) = false := low_of (C.hP a pa).2
            by_cases hv : x.v = v
            · have e1 : (!(x.v == v)) = false := by rw [hv]; simp
              k_steps
              (with_reducible rename Fr _ _ _ _ => F)
              (with_reducible rename News _ _ _ _ => N)
              (with_reducible rename RowsObj _ _ _ (List.map Row.sent (dropR _ _)) => rs0)
              exact hq _ _ _ _ F (news7 N) (same_addrs rfl) ⟨_, ocx, o, _, [], rs, rfl, (by rw [if_pos (by rw [hfr]; simpa using hv)]; exact hch), hro, rs0, putR_same B.nodup hfr hv, (fun x hx => .inl hx), fun _ => rfl⟩
            · have e1 : (!(x.v == v)) = true := by simp [hv]
              k_steps
              (with_reducible rename Fr _ _ _ _ => F)
              (with_reducible rename News _ _ _ _ => N)
              (with_reducible rename _ ∧ _ => l2)
              (with_reducible rename RowsObj _ _ _ (storedH (List.map _ _) _ _ _) => rr)
              (with_reducible rename RowsObj _ _ _ (storedH [] _ _ _) => rc)
              (with_reducible rename RowsObj _ _ _ (List.map Row.sent (dropR _ _)) => rs0)
              exact hq _ _ _ _ F (news_rot7 N) (hin7 rfl (allLt_ne l2.2.2.2.2.2.2.2)) ⟨_, _, _, _, _, putR rs i k _ a v, rfl, (by rw [if_neg (by rw [hfr]; simpa using hv)]; exact sone rc), put1 rr, rs0, putR_core rs i k _ 0 a v, putm _ _, fun e => absurd e (by rw [hfr]; simpa using hv)⟩
        case rest4 =>
          clear F N
          intro h₅ tk₅ pv₅ y F N hJ
          replace F : Fr g L h₅ _ := F
          replace N : News g L h₅ _ := N
          obtain ⟨X', oc, or', os', tl, rs', rfl, hoc, hor, hos, hcore, hrs, hsame⟩ := hJ
          have lod : (d == sysModules) = false := lox
          have sx : (if (findR rs i).map (·.v) = some v then [] else [(Pk i, k, Value.bool true)]).map (fun x => (x.1, x.2.1)) = (if (findR rs i).map (·.v) = some v then [] else [(i, k)]).map fun x => (Pk x.1, x.2) := by split <;> rfl
          have sk : ∀ x ∈ (if (findR rs i).map (·.v) = some v then [] else [(i, k)] : List (Nat × Addr)), KeyAt prog w g (Pk x.1) x.2 := fun x hx => by
            split at hx
            · cases hx
            · rw [List.mem_singleton.mp hx]; exact hkg
          have ssm : ∀ x ∈ (if (findR rs i).map (·.v) = some v then [] else [(i, k)] : List (Nat × Addr)), x.1 < 4 := fun x hx => by
            split at hx
            · cases hx
            · rw [List.mem_singleton.mp hx]; exact hi
          have sz : (if (findR rs i).map (·.v) = some v then [] else [(i, k)] : List (Nat × Addr)).length ≤ 4 := by split <;> simp
          k_steps
          (with_reducible rename Fr _ _ _ _ => F)
          (with_reducible rename News _ _ _ _ => N)
          (with_reducible rename _ ∧ _ => l2)
          have er : refsOf (sortBy (·.1) (if (findR rs i).map (·.v) = some v then [] else [(i, k)] : List (Nat × Addr))) = if (findR rs i).map (·.v) = some v then [] else [.ref k] := by
            rw [sortBy_small (by split <;> simp) ssm]
            split <;> rfl
          have m1 := (N _ (.head _)).1
          have m5 := (N _ (.tail _ (.tail _ (.tail _ (.tail _ (.head _)))))).1
          have m6 := (N _ (.tail _ (.tail _ (.tail _ (.tail _ (.tail _ (.head _))))))).1
          have m7 := (N _ (.tail _ (.tail _ (.tail _ (.tail _ (.tail _ (.tail _ (.head _)))))))).1
          have m8 := (N _ (.tail _ (.tail _ (.tail _ (.tail _ (.tail _ (.tail _ (.tail _ (.head _))))))))).1
          have K4 := keep_end KG F
          rw [er] at m1
          refine hR _ _ _ _ rs' (keep_42 K4 B.inst m5 hdb m6) (grow_4 K4 m5 m6 m7 m8)
            (keep_none KG (N _ (.head _)).2.2 (all2 (Nat.ne_of_lt l2.2.2.2.1) (all2 (Nat.ne_of_lt l2.2.2.2.2.1) (all2 (Nat.ne_of_lt l2.2.2.2.2.2.1) (all1 (Nat.ne_of_lt l2.2.2.2.2.2.2.1)))))) m1
            (B.keepRs K4 m5 ⟨t0, t1, t2, t3, n, m6⟩ ⟨or', m7, hor⟩ ⟨os', m8, hos⟩ (fun x hx => ?_) (fun x hx => ?_) B.nd pp.2.2.1 pp.2.2.2) hcore (fun x hx => (hrs x hx).imp id fun q => q.2.1) hsame
          · rcases hrs x hx with q | ⟨q1, q2, q3, q4, n', q5⟩
            · exact .inl q
            · refine .inr ⟨?_, ⟨now, tn, n', ?_⟩, ?_, ?_, ?_⟩
              · exact q1
              · rw [q2]; exact (N _ (.tail _ (.tail _ (.tail _ (.tail _ (.tail _ (.tail _ (.tail _ (.tail _ q5))))))))).1
              · rw [q2, q3]; exact ha
              · rw [q4]; exact hi
              · rw [q2]; exact pa
          · have hx := (List.mem_filter.mp hx).1
            exact ⟨B.skeys x hx, B.ssmall x hx⟩
end
end Mine
end
section
theorem Mine.off_22 : True := by
  w_top off
  trivial
local macro_rules | `(tactic| walk_at "call builtin:dict.pop") => `(tactic| (k_extra "own 44"; intro y' h' o' t' F' N' rs0; (try dsimp only at N'); (try k_sweep)))
namespace Mine
section
variable {prog : Program} {w : World} {A : Around} {s : Shared} {mean : ExcName → Option Value} {mg mb : Str → Option Value} {H₀ : Heap} {P : Addr → Prop} {R : Result → Shared → Prop}
inductive TakeB (prog : Program) (w : World) (rs ss : List Row) (i k : Nat) (D : Addr × Obj) (d : Addr) (X B DB : Addr × Obj) (rt sl : Addr) (y : List (Addr × Obj)) : Prop
  | mk (oc or' os' : Obj) (e : y = D :: (d, oc) :: X :: B :: DB :: (rt, or') :: (sl, os') :: []) (x1 : RowsObj prog w oc (if (findR rs i).isSome then [(Pk i, k, Value.bool true)] else [])) (x2 : RowsObj prog w or' ((dropR rs i).map Row.ent))
    (x3 : RowsObj prog w os' ((dropR ss i).map Row.sent))
theorem take_back_ct {b db rt sl p0 p1 k a i n0 n1 : Nat} {now : Int} {tn : Tok} {rs ss : List Row} (C : Cx w mean mg mb H₀ P A s.heap 3) (B : Kept prog w P s.heap b db rt sl rs ss)
    (hk : KeyAt prog w s.heap (Pk i) k) (hi : i < 4) (hp0 : s.heap.get? p0 = some (tupOf [.ref k] n0)) (hp1 : s.heap.get? p1 = some (tupOf [] n1))
    (hR : ∀ h' t z c, Keep [rt, sl] s.heap h' → Grow s.heap h' → s.heap.get? z = none → h'.get? z = some (W.listOf (if (findR rs i).isSome then [.ref k] else []).toArray c) → Kept prog w P h' b db rt sl (dropR rs i) (dropR ss i) → R (.ok (.ret (.ref z))) { s with heap := h', toks := t }) :
    codeAny (model prog w) A (.call (.ref 113) ⟨[.ref b, .ref p0, .ref a, .ref p1, .int now tn], []⟩) R s := by
  obtain ⟨t0, t1, t2, t3, n, hdb⟩ := B.dict
  obtain ⟨o, hr, hro⟩ := B.routes
  obtain ⟨o', hs, hso⟩ := B.stale
  have hz := B.len
  have hsz := B.slen
  have pp := B.p
  have nn := B.ne
  have hA := C.dep
  have hU := C.uni
  have hH : (A.deeper (envOf "" default 0 0 .none)).handled = none := C.hh
  refine' enterC (mo := [(b, instObj 142 db), (db, dictOf (akD w t0 t1 t2 t3 rt sl) n), (rt, o), (sl, o')]) C.B.X C.B.T C.st ?m ?ho ?hcd ?room ?bind ?loc ?nd ?_ ?c1 ?c2 ?c3
  case ho => k_is
  case hcd => k_is
  case bind => exact BindsTo.of_eq rfl
  case loc => exact rfl
  case nd => decide +kernel
  case c1 => exact rfl
  case c2 => exact rfl
  case c3 => exact rfl
  case room => show _ < 1000; k_extra "own a"
  case m => exact all2 ⟨B.inst, (C.hP b pp.1).1⟩ (all2 ⟨hdb, (C.hP db pp.2.1).1⟩ (all2 ⟨hr, (C.hP rt pp.2.2.1).1⟩ (all1 ⟨hs, (C.hP sl pp.2.2.2).1⟩)))
  intro g L h₁ tk cells KG eL F N Y lL X T SG
  k_lt lL
  k_cells Y
  rename Obj => oX
  simp only [List.cons_append, List.nil_append] at N
  (try dsimp only)
  have kk : ∀ {k : List Int} {a : Addr}, KeyAt prog w s.heap k a → KeyAt prog w g k a := fun x => x.keep fun o e => KG _ o e (by have := B.key_ne x; simp [this])
  have hkg : KeyAt prog w g (Pk i) k := kk hk
  have hks : ∀ x ∈ rs.map Row.ent, KeyAt prog w g x.1 x.2.1 := fun x hx => by obtain ⟨y, hy, rfl⟩ := List.mem_map.mp hx; exact kk (B.keys y hy)
  have hkss : ∀ x ∈ ss.map Row.sent, KeyAt prog w g x.1 x.2.1 := fun x hx => by obtain ⟨y, hy, rfl⟩ := List.mem_map.mp hx; exact kk (B.skeys y hy)
  have hzz : (rs.map Row.ent).length ≤ 1000 := by rw [List.length_map]; omega
  have hszz : (ss.map Row.sent).length ≤ 1000 := by rw [List.length_map]; omega
  have lo : (rt == sysModules) = false := low_of (C.hP rt pp.2.2.1).2
  have lo' : (sl == sysModules) = false := low_of (C.hP sl pp.2.2.2).2
  have gp0 : g.get? p0 = some (tupOf [.ref k] n0) := KG _ _ hp0 (by have := B.tup_ne hp0 rfl; simp [this])
  have gp1 : g.get? p1 = some (tupOf [] n1) := KG _ _ hp1 (by have := B.tup_ne hp1 rfl; simp [this])
  try k_fold
  k_steps
  (with_reducible rename Fr _ _ _ _ => F)
  (with_reducible rename News _ _ _ _ => N)
  rename_i d hx1 ocx lox hsx fsx hix fix l1x hx2
  refine' comp_pickT (l := p0) (vs := [.ref k]) (fun _ => true) hH F N ?hclos ?hcell ?hkind ?hnames ?hx ?hb ?hit ?hl ?hsz ?htest ?rest ?hfold
  case hit => intro Q hq; exact nameX_L F rfl hq
  case hclos => exact rfl
  case hfold => intro _; rfl
  case hcell => decide
  case hkind => exact rfl
  case hnames => decide
  case hx => exact rfl
  case hb => decide
  case hl => exact ⟨_, F.keep _ _ gp0, rfl, _, rfl⟩
  case hsz => exact Nat.le_of_ble_eq_true rfl
  case htest =>
    intro C y s₃ m₃ E' Q' hy F₃ hm hq
    rw [List.mem_singleton] at hy
    subst hy
    have gp2 := F₃.keep _ _ (F.keep _ _ gp1)
    have nc := (N _ (.tail _ (.head _))).1
    have np1 := F.keep _ _ gp1
    clear F N
    k_steps
    refine' SeqAt.notIn_tupleAt (fun _ => false) (items := #[]) ⟨_, gp2, rfl, _, rfl⟩ (fun _ h => ?no) ?ok
    case no => simp at h
    case ok =>
      k_steps
      have e : (!(#[] : Array Value).any fun _ => false) = true := by simp
      rw [e]
      exact hq s₃.heap s₃.toks fun _ _ e => e
  case rest =>
    intro D c h₂ tk₂ F₂ N₂ hD hk₂
    (with_reducible rename Obj.IsDictOf (strKind _ _) _ _ => hchS)
    have hch := rows_empty hchS
    have hks0 : ∀ x ∈ ([] : List (List Int × Addr × Value)), KeyAt prog w g x.1 x.2.1 := fun _ h => nomatch h
    have nD := news_ne N hD
    simp only [List.forall_mem_cons] at nD
    obtain ⟨nD1, nD2, nD3, nD4, nD5, nD6, _⟩ := nD
    clear F N
    k_steps
    (with_reducible rename Fr _ _ _ _ => F)
    (with_reducible rename News _ _ _ _ => N)
    refine' loop_one (l := D) (v := .ref k) hH ⟨_, (N _ (.head _)).1, rfl, _, rfl⟩ (N _ (.head _)).2.1 F N (TakeB prog w rs ss i k (D, W.listOf (List.filter (fun x => true) [Value.ref k]).toArray c) d (L + 1, oX) (b, instObj 142 db) (db, dictOf (akD w t0 t1 t2 t3 rt sl) n) rt sl) ?step ?rest2
    case step =>
      intro h tk own Q' ho F₁ N₁ hq
      have o1 := own_ne ho (N _ (.tail _ (.head _))).1 nD1
      have o2 := own_ne ho (N _ (.tail _ (.tail _ (.tail _ (.tail _ (.tail _ (.head _))))))).1 nD5
      have o3 := own_ne ho (N _ (.tail _ (.tail _ (.tail _ (.tail _ (.tail _ (.tail _ (.head _)))))))).1 nD6
      clear F N
      replace F₁ : Fr g L h _ := F₁
      replace N₁ : News g L h _ := N₁
      simp only [List.cons_append, List.nil_append] at N₁
      have sone : ∀ {o'' : Obj}, RowsObj prog w o'' (storedH [] (Pk i) k (Value.bool true)) → RowsObj prog w o'' [(Pk i, k, Value.bool true)] := fun x => x
      cases hfr : findR rs i with
      | none =>
        have hpr : atKey (rs.map Row.ent) (Pk i) = none := by rw [atKey_ent, hfr]; rfl
        have dR : dropR rs i = rs := dropR_none hfr
        k_steps
        (with_reducible rename Fr _ _ _ _ => F)
        (with_reducible rename News _ _ _ _ => N)
        (with_reducible rename RowsObj _ _ _ (List.map Row.sent (dropR _ _)) => rs0)
        exact hq _ _ _ _ F (news7 N) (same_addrs rfl) ⟨ocx, o, _, rfl, (by rw [hfr]; exact hch), (by rw [dR]; exact hro), rs0⟩
      | some x =>
        have hpr : atKey (rs.map Row.ent) (Pk i) = some (x.k, .ref x.l) := by rw [atKey_ent, hfr]; rfl
        k_steps
        (with_reducible rename Fr _ _ _ _ => F)
        (with_reducible rename News _ _ _ _ => N)
        (with_reducible rename RowsObj _ _ _ (dropK (List.map Row.ent _) _) => rr)
        (with_reducible rename RowsObj _ _ _ (storedH [] _ _ _) => rc)
        (with_reducible rename RowsObj _ _ _ (List.map Row.sent (dropR _ _)) => rs0)
        exact hq _ _ _ _ F (news7 N) (same_addrs rfl) ⟨_, _, _, rfl, (by rw [hfr]; exact sone rc), (by rw [← drop_ent]; exact rr), rs0⟩
    case rest2 =>
      clear F N
      intro h₃ tk₃ pv y F N hJ
      replace F : Fr g L h₃ _ := F
      replace N : News g L h₃ _ := N
      obtain ⟨oc, or', os', rfl, hoc, hor, hos⟩ := hJ
      k_steps
      (with_reducible rename Fr _ _ _ _ => F)
      (with_reducible rename News _ _ _ _ => N)
      refine' ka_k F N (C.go (Grow.led KG F N ?gr) (fun b o e => F.keep b o (SG b o e)) ?d ?u C.hh) ?rest3
      case gr => exact all2 ⟨_, .tail _ (.tail _ (.tail _ (.head _)))⟩ (all2 ⟨_, .tail _ (.tail _ (.tail _ (.tail _ (.head _))))⟩ (all2 ⟨_, .tail _ (.tail _ (.tail _ (.tail _ (.tail _ (.head _)))))⟩ (all1 ⟨_, .tail _ (.tail _ (.tail _ (.tail _ (.tail _ (.tail _ (.head _))))))⟩)))
      case d => simp only [depth_deeper]; k_extra "own a"
      case u => simp only [Around.deeper_units]; k_extra "own a"
      case rest3 =>
        clear F N
        intro h₄ tk₄ F N
        k_steps
        (with_reducible rename Fr _ _ _ _ => F)
        (with_reducible rename News _ _ _ _ => N)
        refine' loop_tnil hH ⟨_, F.keep _ _ gp1, rfl, _, rfl⟩ ?p1L F N ?rest4
        case p1L => exact tup_L F gp1
        case rest4 =>
          clear F N
          intro h₅ tk₅ pv₅ F N
          replace F : Fr g L h₅ _ := F
          replace N : News g L h₅ _ := N
          have lod : (d == sysModules) = false := lox
          have sx : (if (findR rs i).isSome then [(Pk i, k, Value.bool true)] else []).map (fun x => (x.1, x.2.1)) = (if (findR rs i).isSome then [(i, k)] else []).map fun x => (Pk x.1, x.2) := by split <;> rfl
          have sk : ∀ x ∈ (if (findR rs i).isSome then [(i, k)] else [] : List (Nat × Addr)), KeyAt prog w g (Pk x.1) x.2 := fun x hx => by
            split at hx
            · rw [List.mem_singleton.mp hx]; exact hkg
            · cases hx
          have ssm : ∀ x ∈ (if (findR rs i).isSome then [(i, k)] else [] : List (Nat × Addr)), x.1 < 4 := fun x hx => by
            split at hx
            · rw [List.mem_singleton.mp hx]; exact hi
            · cases hx
          have sz : (if (findR rs i).isSome then [(i, k)] else [] : List (Nat × Addr)).length ≤ 4 := by split <;> simp
          k_steps
          (with_reducible rename Fr _ _ _ _ => F)
          (with_reducible rename News _ _ _ _ => N)
          (with_reducible rename _ ∧ _ => l2)
          have er : refsOf (sortBy (·.1) (if (findR rs i).isSome then [(i, k)] else [] : List (Nat × Addr))) = if (findR rs i).isSome then [.ref k] else [] := by
            rw [sortBy_small (by split <;> simp) ssm]
            split <;> rfl
          have m1 := (N _ (.head _)).1
          have m5 := (N _ (.tail _ (.tail _ (.tail _ (.tail _ (.head _)))))).1
          have m6 := (N _ (.tail _ (.tail _ (.tail _ (.tail _ (.tail _ (.head _))))))).1
          have m7 := (N _ (.tail _ (.tail _ (.tail _ (.tail _ (.tail _ (.tail _ (.head _)))))))).1
          have m8 := (N _ (.tail _ (.tail _ (.tail _ (.tail _ (.tail _ (.tail _ (.tail _ (.head _))))))))).1
          have K4 := keep_end KG F
          rw [er] at m1
          refine hR _ _ _ _ (keep_42 K4 B.inst m5 hdb m6) (grow_4 K4 m5 m6 m7 m8)
            (keep_none KG (N _ (.head _)).2.2 (all2 (Nat.ne_of_lt l2.2.2.2.1) (all2 (Nat.ne_of_lt l2.2.2.2.2.1) (all2 (Nat.ne_of_lt l2.2.2.2.2.2.1) (all1 (Nat.ne_of_lt l2.2.2.2.2.2.2)))))) m1
            (B.keepRs K4 m5 ⟨t0, t1, t2, t3, n, m6⟩ ⟨or', m7, hor⟩ ⟨os', m8, hos⟩ (fun x hx => .inl (List.mem_filter.mp hx).1) (fun x hx => ?_) B.nd pp.2.2.1 pp.2.2.2)
          have hx := (List.mem_filter.mp hx).1
          exact ⟨B.skeys x hx, B.ssmall x hx⟩
end
end Mine
end
section
theorem Mine.off_23 : True := by
  w_top off
  trivial
namespace Mine
section
variable {prog : Program} {w : World} {A : Around} {s : Shared} {mean : ExcName → Option Value} {mg mb : Str → Option Value} {H₀ : Heap} {P : Addr → Prop} {R : Result → Shared → Prop}
theorem put_routes {w : World} {t0 t1 t2 t3 : Tok} {rt sl rt' : Addr} {k : Value} {hk : Int} {n : Nat} : (putL (Str.ofString "routes") hk k (.ref rt') (akD w t0 t1 t2 t3 rt sl), putN (Str.ofString "routes") (akD w t0 t1 t2 t3 rt sl) n) = (akD w t0 t1 t2 t3 rt' sl, n) := rfl
theorem put_stale {w : World} {t0 t1 t2 t3 : Tok} {rt sl sl' : Addr} {k : Value} {hk : Int} {n : Nat} : (putL (Str.ofString "stale") hk k (.ref sl') (akD w t0 t1 t2 t3 rt sl), putN (Str.ofString "stale") (akD w t0 t1 t2 t3 rt sl) n) = (akD w t0 t1 t2 t3 rt sl', n) := rfl
local macro_rules | `(tactic| k_put) => `(tactic| first | with_reducible exact put_routes | with_reducible exact put_stale)
theorem refs_keys (xs : List Row) : refsOf (sortBy (·.1) (xs.map fun x : Row => (x.i, x.k))) = keysR (sortBy (·.i) xs) := by
  rw [sortBy_map]
  show List.map _ (List.map _ _) = _
  rw [List.map_map]; rfl
theorem get_T {d a L : Addr} {o : Obj} {xs : List (List Int × Addr × Value)} {k : List Int} {p : Addr × Value} {h₀ : Heap} {m : Str → Option Value} {E : Value → Shared → Prop} {Q : Value → Shared → Prop} (hu : A.units + 1 < cLine) (F : Fr h₀ L s.heap m) (hd : s.heap.get? d = some o) (lo : (d == sysModules) = false) (ho : RowsObj prog w o xs)
    (hks : ∀ x ∈ xs, KeyAt prog w h₀ x.1 x.2.1) (hk : KeyAt prog w h₀ k a) (hp : atKey xs k = some p) (h : ∀ t', Q p.2 { s with toks := t' }) : wpAny (model prog w) A (call (.builtin "dict.get") [.ref d, .ref a]) Q E s :=
  call_meetsIn PySem.F.slot_dict_get (ho.typeIs hd) PySem.F.entry_dict_get (PySem.F.args_dict_get_2 _ _) (meetsH_dict_get (TK prog w) d a lo) ⟨hu, k, xs, hk.keep fun o => F.keep _ o, ho.dictOf hd (keysKeep hks F.keep), by rw [hp]; exact h _⟩
local macro_rules | `(tactic| walk_at "getMethod ref") => `(tactic| k_extra "own 14")
local macro_rules | `(tactic| walk_at "call builtin:dict.get") => `(tactic| (k_extra "own 15"; intro t'))
theorem look_ct {b db rt sl k i : Nat} {x : Row} {rs ss : List Row} (C : Cx w mean mg mb H₀ P A s.heap 1) (B : Kept prog w P s.heap b db rt sl rs ss) (hk : KeyAt prog w s.heap (Pk i) k) (hf : findR rs i = some x)
    (hR : ∀ h' t, Keep [] s.heap h' → R (.ok (.ret (.ref x.l))) { s with heap := h', toks := t }) :
    codeAny (model prog w) A (.call (.ref 120) ⟨[.ref b, .ref k], []⟩) R s := by
  obtain ⟨t0, t1, t2, t3, n, hdb⟩ := B.dict
  obtain ⟨o, hr, hro⟩ := B.routes
  obtain ⟨o', hs, hso⟩ := B.stale
  have hz := B.len
  have hsz := B.slen
  have pp := B.p
  have nn := B.ne
  have hA := C.dep
  have hU := C.uni
  have hH : (A.deeper (envOf "" default 0 0 .none)).handled = none := C.hh
  refine' enter (mo := [(b, instObj 142 db), (db, dictOf (akD w t0 t1 t2 t3 rt sl) n), (rt, o), (sl, o')]) C.B.X C.B.T C.st ?m ?ho ?hcd ?room ?bind ?loc ?_ ?c1 ?c2 ?c3 ?c4
  case ho => k_is
  case hcd => k_is
  case bind => exact BindsTo.of_eq rfl
  case loc => exact locs rfl
  case c1 => exact rfl
  case c2 => exact rfl
  case c3 => exact rfl
  case c4 => decide
  case room => show _ < 1000; k_extra "own a"
  case m => exact all2 ⟨B.inst, (C.hP b pp.1).1⟩ (all2 ⟨hdb, (C.hP db pp.2.1).1⟩ (all2 ⟨hr, (C.hP rt pp.2.2.1).1⟩ (all1 ⟨hs, (C.hP sl pp.2.2.2).1⟩)))
  intro g L h₁ KG eL F N X T SG
  dsimp only
  have kk : ∀ {k : List Int} {a : Addr}, KeyAt prog w s.heap k a → KeyAt prog w g k a := fun x => x.keep fun o e => KG _ o e (by have := B.key_ne x; simp [this])
  have hks : ∀ x ∈ rs.map Row.ent, KeyAt prog w g x.1 x.2.1 := fun x hx => by obtain ⟨y, hy, rfl⟩ := List.mem_map.mp hx; exact kk (B.keys y hy)
  have hkss : ∀ x ∈ ss.map Row.sent, KeyAt prog w g x.1 x.2.1 := fun x hx => by obtain ⟨y, hy, rfl⟩ := List.mem_map.mp hx; exact kk (B.skeys y hy)
  have hzz : (rs.map Row.ent).length ≤ 1000 := by rw [List.length_map]; omega
  have hszz : (ss.map Row.sent).length ≤ 1000 := by rw [List.length_map]; omega
  have lo : (rt == sysModules) = false := low_of (C.hP rt pp.2.2.1).2
  have lo' : (sl == sysModules) = false := low_of (C.hP sl pp.2.2.2).2
  have hkg := kk hk
  have hp2 : atKey (rs.map Row.ent) (Pk i) = some (x.k, .ref x.l) := by rw [atKey_ent, hf]; rfl
  try k_fold
  k_steps
  (with_reducible rename Fr _ _ _ _ => F)
  (with_reducible rename News _ _ _ _ => N)
  have K4 := keep_end KG F
  have m5 := (N _ (.head _)).1
  have m6 := (N _ (.tail _ (.head _))).1
  have m7 := (N _ (.tail _ (.tail _ (.head _)))).1
  have m8 := (N _ (.tail _ (.tail _ (.tail _ (.head _))))).1
  have N5 := all_drop N
  have N6 := all_drop (all_drop N)
  have N7 := all_drop (all_drop (all_drop N))
  exact hR _ _ (keep_less K4 (by simp; exact ⟨keep_one B.inst m5, keep_one hdb m6, keep_one hr m7, keep_one hs m8⟩))
theorem clear_ct {b db rt sl : Nat} {rs ss : List Row} (C : Cx w mean mg mb H₀ P A s.heap 1) (B : Kept prog w P s.heap b db rt sl rs ss)
    (hR : ∀ h' t z c (rt' sl' : Nat), Keep [db] s.heap h' → Grow s.heap h' → s.heap.get? z = none → h'.get? z = some (W.listOf (keysR (sortBy (·.i) rs)).toArray c) → Kept prog w P h' b db rt' sl' [] [] → s.heap.get? rt' = none → s.heap.get? sl' = none → R (.ok (.ret (.ref z))) { s with heap := h', toks := t }) :
    codeAny (model prog w) A (.call (.ref 127) ⟨[.ref b], []⟩) R s := by
  obtain ⟨t0, t1, t2, t3, n, hdb⟩ := B.dict
  obtain ⟨o, hr, hro⟩ := B.routes
  obtain ⟨o', hs, hso⟩ := B.stale
  have hz := B.len
  have hsz := B.slen
  have pp := B.p
  have nn := B.ne
  have hA := C.dep
  have hU := C.uni
  have hH : (A.deeper (envOf "" default 0 0 .none)).handled = none := C.hh
  refine' enter (mo := [(b, instObj 142 db), (db, dictOf (akD w t0 t1 t2 t3 rt sl) n), (rt, o), (sl, o')]) C.B.X C.B.T C.st ?m ?ho ?hcd ?room ?bind ?loc ?_ ?c1 ?c2 ?c3 ?c4
  case ho => k_is
  case hcd => k_is
  case bind => exact BindsTo.of_eq rfl
  case loc => exact locs rfl
  case c1 => exact rfl
  case c2 => exact rfl
  case c3 => exact rfl
  case c4 => decide
  case room => show _ < 1000; k_extra "own a"
  case m => exact all2 ⟨B.inst, (C.hP b pp.1).1⟩ (all2 ⟨hdb, (C.hP db pp.2.1).1⟩ (all2 ⟨hr, (C.hP rt pp.2.2.1).1⟩ (all1 ⟨hs, (C.hP sl pp.2.2.2).1⟩)))
  intro g L h₁ KG eL F N X T SG
  dsimp only
  have kk : ∀ {k : List Int} {a : Addr}, KeyAt prog w s.heap k a → KeyAt prog w g k a := fun x => x.keep fun o e => KG _ o e (by have := B.key_ne x; simp [this])
  have hks : ∀ x ∈ rs.map Row.ent, KeyAt prog w g x.1 x.2.1 := fun x hx => by obtain ⟨y, hy, rfl⟩ := List.mem_map.mp hx; exact kk (B.keys y hy)
  have hkss : ∀ x ∈ ss.map Row.sent, KeyAt prog w g x.1 x.2.1 := fun x hx => by obtain ⟨y, hy, rfl⟩ := List.mem_map.mp hx; exact kk (B.skeys y hy)
  have hzz : (rs.map Row.ent).length ≤ 1000 := by rw [List.length_map]; omega
  have hszz : (ss.map Row.sent).length ≤ 1000 := by rw [List.length_map]; omega
  have lo : (rt == sysModules) = false := low_of (C.hP rt pp.2.2.1).2
  have lo' : (sl == sysModules) = false := low_of (C.hP sl pp.2.2.2).2
  have rks : ∀ x ∈ rs.map (fun x : Row => (x.i, x.k)), KeyAt prog w g (Pk x.1) x.2 := fun x hx => by
    obtain ⟨y, hy, rfl⟩ := List.mem_map.mp hx
    exact kk (B.keys y hy)
  have rsm : ∀ x ∈ rs.map (fun x : Row => (x.i, x.k)), x.1 < 4 := fun x hx => by obtain ⟨y, hy, rfl⟩ := List.mem_map.mp hx; exact B.small y hy
  have rh4 : (rs.map (fun x : Row => (x.i, x.k))).length ≤ 4 := by rw [List.length_map]; omega
  have rhx2 : (rs.map Row.ent).map (fun x => (x.1, x.2.1)) = (rs.map (fun x : Row => (x.i, x.k))).map fun x => (Pk x.1, x.2) := by rw [List.map_map, List.map_map]; rfl
  try k_fold
  k_steps
  rename_i D c _ _ l1 _ _ d1 _ o1 _ hs1 _ _ _ l2 d2 _ o2 _ hs2 _ _ _ l3 DD _ l4 _ _ hf F N
  have m2 := (N _ (.tail _ (.head _))).1
  have m2g := (N _ (.tail _ (.head _))).2.2
  have m3 := (N _ (.tail _ (.tail _ (.head _)))).1
  have m3g := (N _ (.tail _ (.tail _ (.head _)))).2.2
  have m4 := (N _ (.tail _ (.tail _ (.tail _ (.head _))))).1
  have m4g := (N _ (.tail _ (.tail _ (.tail _ (.head _))))).2.2
  have m5 := (N _ (.tail _ (.tail _ (.tail _ (.tail _ (.head _)))))).1
  have m6 := (N _ (.tail _ (.tail _ (.tail _ (.tail _ (.tail _ (.head _))))))).1
  have m7 := (N _ (.tail _ (.tail _ (.tail _ (.tail _ (.tail _ (.tail _ (.head _)))))))).1
  have m8 := (N _ (.tail _ (.tail _ (.tail _ (.tail _ (.tail _ (.tail _ (.tail _ (.head _))))))))).1
  have K4 := keep_end KG F
  rw [refs_keys] at m4
  have z0 : s.heap.get? D = none := keep_none KG m4g (all2 (Nat.ne_of_lt l1.1) (all2 (Nat.ne_of_lt l1.2.1) (all2 (Nat.ne_of_lt l1.2.2.1) (all1 (Nat.ne_of_lt l1.2.2.2)))))
  have z1 : s.heap.get? d1 = none := keep_none KG m3g (all2 (Nat.ne_of_lt l2.2.1) (all2 (Nat.ne_of_lt l2.2.2.1) (all2 (Nat.ne_of_lt l2.2.2.2.1) (all1 (Nat.ne_of_lt l2.2.2.2.2)))))
  have z2 : s.heap.get? d2 = none := keep_none KG m2g (all2 (Nat.ne_of_lt l3.2.2.1) (all2 (Nat.ne_of_lt l3.2.2.2.1) (all2 (Nat.ne_of_lt l3.2.2.2.2.1) (all1 (Nat.ne_of_lt l3.2.2.2.2.2)))))
  refine hR _ _ D _ d1 d2 (keep_less K4 (by simp; exact ⟨.inr (keep_one B.inst m5), .inr (keep_one hr m7), .inr (keep_one hs m8)⟩)) (Grow.keep K4 (by simp; exact ⟨⟨_, m5⟩, ⟨_, m6⟩, ⟨_, m7⟩, ⟨_, m8⟩⟩)) z0 m4
    (B.keepRs K4 m5 ⟨t0, t1, t2, t3, n, m6⟩ ⟨o1, m3, rows_empty hs1⟩ ⟨o2, m2, rows_empty hs2⟩ (fun x hx => nomatch hx) (fun x hx => nomatch hx) ?_ (C.big pp.1 l2.2.1 z1) (C.big pp.1 l3.2.2.1 z2)) z1 z2
  show ([b, db, d1, d2] : List Nat).Nodup
  simp only [List.nodup_cons, List.mem_cons, List.not_mem_nil, or_false, not_or, List.nodup_nil, not_false_eq_true, and_true]
  exact ⟨⟨nn.1, Nat.ne_of_lt l2.2.1, Nat.ne_of_lt l3.2.2.1⟩, ⟨Nat.ne_of_lt l2.2.2.1, Nat.ne_of_lt l3.2.2.2.1⟩, Nat.ne_of_lt l3.1⟩
theorem sweep_ct {b db rt sl : Nat} {rs ss : List Row} (C : Cx w mean mg mb H₀ P A s.heap 1) (B : Kept prog w P s.heap b db rt sl rs ss) (hsub : ∀ y ∈ ss, ∃ x ∈ rs, x.i = y.i)
    (hR : ∀ h' t z c (sl' : Nat), Keep [db, rt] s.heap h' → Grow s.heap h' → s.heap.get? z = none → h'.get? z = some (W.listOf (keysR (sortBy (·.i) ss)).toArray c) → Kept prog w P h' b db rt sl' (rs.filter fun x => !(ss.any fun y => y.i == x.i)) [] → s.heap.get? sl' = none → R (.ok (.ret (.ref z))) { s with heap := h', toks := t }) :
    codeAny (model prog w) A (.call (.ref 139) ⟨[.ref b], []⟩) R s := by
  obtain ⟨t0, t1, t2, t3, n, hdb⟩ := B.dict
  obtain ⟨o, hr, hro⟩ := B.routes
  obtain ⟨o', hs, hso⟩ := B.stale
  have hz := B.len
  have hsz := B.slen
  have pp := B.p
  have nn := B.ne
  have hA := C.dep
  have hU := C.uni
  have hH : (A.deeper (envOf "" default 0 0 .none)).handled = none := C.hh
  refine' enter (mo := [(b, instObj 142 db), (db, dictOf (akD w t0 t1 t2 t3 rt sl) n), (rt, o), (sl, o')]) C.B.X C.B.T C.st ?m ?ho ?hcd ?room ?bind ?loc ?_ ?c1 ?c2 ?c3 ?c4
  case ho => k_is
  case hcd => k_is
  case bind => exact BindsTo.of_eq rfl
  case loc => exact locs rfl
  case c1 => exact rfl
  case c2 => exact rfl
  case c3 => exact rfl
  case c4 => decide
  case room => show _ < 1000; k_extra "own a"
  case m => exact all2 ⟨B.inst, (C.hP b pp.1).1⟩ (all2 ⟨hdb, (C.hP db pp.2.1).1⟩ (all2 ⟨hr, (C.hP rt pp.2.2.1).1⟩ (all1 ⟨hs, (C.hP sl pp.2.2.2).1⟩)))
  intro g L h₁ KG eL F N X T SG
  dsimp only
  have kk : ∀ {k : List Int} {a : Addr}, KeyAt prog w s.heap k a → KeyAt prog w g k a := fun x => x.keep fun o e => KG _ o e (by have := B.key_ne x; simp [this])
  have hks : ∀ x ∈ rs.map Row.ent, KeyAt prog w g x.1 x.2.1 := fun x hx => by obtain ⟨y, hy, rfl⟩ := List.mem_map.mp hx; exact kk (B.keys y hy)
  have hkss : ∀ x ∈ ss.map Row.sent, KeyAt prog w g x.1 x.2.1 := fun x hx => by obtain ⟨y, hy, rfl⟩ := List.mem_map.mp hx; exact kk (B.skeys y hy)
  have hzz : (rs.map Row.ent).length ≤ 1000 := by rw [List.length_map]; omega
  have hszz : (ss.map Row.sent).length ≤ 1000 := by rw [List.length_map]; omega
  have lo : (rt == sysModules) = false := low_of (C.hP rt pp.2.2.1).2
  have lo' : (sl == sysModules) = false := low_of (C.hP sl pp.2.2.2).2
  have sks : ∀ x ∈ ss.map (fun x : Row => (x.i, x.k)), KeyAt prog w g (Pk x.1) x.2 := fun x hx => by
    obtain ⟨y, hy, rfl⟩ := List.mem_map.mp hx
    exact kk (B.skeys y hy)
  have ssm : ∀ x ∈ ss.map (fun x : Row => (x.i, x.k)), x.1 < 4 := fun x hx => by obtain ⟨y, hy, rfl⟩ := List.mem_map.mp hx; exact B.ssmall y hy
  have sh4 : (ss.map (fun x : Row => (x.i, x.k))).length ≤ 4 := by rw [List.length_map]; omega
  have shx2 : (ss.map Row.sent).map (fun x => (x.1, x.2.1)) = (ss.map (fun x : Row => (x.i, x.k))).map fun x => (Pk x.1, x.2) := by rw [List.map_map, List.map_map]; rfl
  try k_fold
  k_steps
  (with_reducible rename Fr _ _ _ _ => F)
  (with_reducible rename News _ _ _ _ => N)
  rename_i D c _ _ l1 _
  have sp : (sortBy (·.i) ss).Perm ss := sortBy_perm B.ssmall
  have yn : ((sortBy (·.i) ss).map (·.i)).Nodup := (sp.map _).nodup_iff.mpr B.snodup
  rw [refs_keys] at N
  have hm := (N (D, _) (.head _))
  refine' loop_list1 (vs := keysR (sortBy (·.i) ss)) hH ⟨_, hm.1, rfl, _, rfl⟩ hm.2.1 F (fun ob : Obj => [(D, W.listOf (keysR (sortBy (·.i) ss)).toArray c), (b, instObj 142 db), (db, dictOf (akD w t0 t1 t2 t3 rt sl) n), (rt, ob), (sl, o')]) o N (fun i ob => RowsObj prog w ob ((restOf rs (sortBy (·.i) ss) i).map Row.ent)) ?h0 ?turn ?rest
  case h0 => rw [restOf_zero]; exact hro
  case turn =>
    intro i v hi hv ob h tk own Q' ho hJ F₁ N₁ hq
    have ne1 := own_ne ho (N (rt, o) (.tail _ (.tail _ (.tail _ (.head _))))).1 (Nat.ne_of_lt l1.2.2.1)
    rw [List.getElem?_map] at hv
    obtain ⟨y, hy, rfl⟩ := Option.map_eq_some_iff.mp hv
    have hys := sp.mem_iff.mp (List.mem_of_getElem? hy)
    obtain ⟨x, hx, hxy⟩ := hsub y hys
    have hf := restOf_find' hy yn hx hxy B.nodup
    have hp : (atKey ((restOf rs (sortBy (·.i) ss) i).map Row.ent) (Pk y.i)).isSome = true := by rw [atKey_ent, hf]; rfl
    have hkr : ∀ x ∈ (restOf rs (sortBy (·.i) ss) i).map Row.ent, KeyAt prog w g x.1 x.2.1 := fun x hx => by
      obtain ⟨y, hy, rfl⟩ := List.mem_map.mp hx
      exact kk (B.keys y (List.mem_filter.mp hy).1)
    have hky : KeyAt prog w g (Pk y.i) y.k := kk (B.skeys y hys)
    have hrz : ((restOf rs (sortBy (·.i) ss) i).map Row.ent).length ≤ 1000 := by have := List.length_filter_le (fun x : Row => !(((sortBy (·.i) ss).take i).any fun y => y.i == x.i)) rs; rw [List.length_map]; unfold restOf; omega
    clear N F hm
    replace F₁ : Fr g L h _ := F₁
    replace N₁ : News g L h _ := N₁
    simp only [List.cons_append, List.nil_append] at N₁
    k_steps
    (with_reducible rename Fr _ _ _ _ => F)
    (with_reducible rename News _ _ _ _ => N)
    (with_reducible rename RowsObj _ _ _ (dropK _ _) => rr)
    rw [drop_ent, restOf_succ hy] at rr
    exact hq _ _ _ _ F N (same_addrs rfl) rr
  case rest =>
    clear hm N F
    intro h₃ tk₃ pv ob F N hro'
    replace F : Fr g L h₃ _ := F
    replace N : News g L h₃ _ := N
    have el : (keysR (sortBy (·.i) ss)).length = (sortBy (·.i) ss).length := List.length_map _
    rw [el, restOf_end sp] at hro'
    k_steps
    rename_i d1 _ o1 _ hs1 _ _ _ l2 hf F N
    have m3 := (N _ (.head _)).1
    have m3g := (N _ (.head _)).2.2
    have m4 := (N _ (.tail _ (.head _))).1
    have m4g := (N _ (.tail _ (.head _))).2.2
    have m5 := (N _ (.tail _ (.tail _ (.head _)))).1
    have m6 := (N _ (.tail _ (.tail _ (.tail _ (.head _))))).1
    have m7 := (N _ (.tail _ (.tail _ (.tail _ (.tail _ (.head _)))))).1
    have m8 := (N _ (.tail _ (.tail _ (.tail _ (.tail _ (.tail _ (.head _))))))).1
    have K4 := keep_end KG F
    have z0 : s.heap.get? D = none := keep_none KG m4g (all2 (Nat.ne_of_lt l1.1) (all2 (Nat.ne_of_lt l1.2.1) (all2 (Nat.ne_of_lt l1.2.2.1) (all1 (Nat.ne_of_lt l1.2.2.2)))))
    have z1 : s.heap.get? d1 = none := keep_none KG m3g (all2 (Nat.ne_of_lt l2.2.1) (all2 (Nat.ne_of_lt l2.2.2.1) (all2 (Nat.ne_of_lt l2.2.2.2.1) (all1 (Nat.ne_of_lt l2.2.2.2.2)))))
    refine hR _ _ D _ d1 (keep_less K4 (by simp; exact ⟨.inr (keep_one B.inst m5), .inr (keep_one hs m8)⟩)) (Grow.keep K4 (by simp; exact ⟨⟨_, m5⟩, ⟨_, m6⟩, ⟨_, m7⟩, ⟨_, m8⟩⟩)) z0 m4
      (B.keepRs K4 m5 ⟨t0, t1, t2, t3, n, m6⟩ ⟨ob, m7, hro'⟩ ⟨o1, m3, rows_empty hs1⟩ (fun x hx => .inl (List.mem_filter.mp hx).1) (fun x hx => nomatch hx) ?_ pp.2.2.1 (C.big pp.1 l2.2.1 z1)) z1
    show ([b, db, rt, d1] : List Nat).Nodup
    simp only [List.nodup_cons, List.mem_cons, List.not_mem_nil, or_false, not_or, List.nodup_nil, not_false_eq_true, and_true]
    exact ⟨⟨nn.1, nn.2.1, Nat.ne_of_lt l2.2.1⟩, ⟨nn.2.2.2.1, Nat.ne_of_lt l2.2.2.1⟩, Nat.ne_of_lt l2.2.2.2.1⟩
end
end Mine
end
section
theorem Mine.off_24 : True := by
  w_top off
  trivial
namespace Mine
section
variable {prog : Program} {w : World} {A : Around} {s : Shared} {mean : ExcName → Option Value} {mg mb : Str → Option Value} {H₀ : Heap} {P : Addr → Prop} {R : Result → Shared → Prop}
local macro_rules | `(tactic| k_put) => `(tactic| first | with_reducible exact put_routes | with_reducible exact put_stale)
noncomputable def leftR (rs ss : List Row) : List Row := rs.filter fun x => !(ss.any fun y => y.i == x.i)
theorem sweep_k {E : Value → Shared → Prop} {Q : Value → Shared → Prop} {h₀ : Heap} {L b db rt sl : Nat} {rs ss : List Row} {m : Str → Option Value} (F : Fr h₀ L s.heap m)
    (C : Cx w mean mg mb H₀ P A s.heap 1) (B : Kept prog w P s.heap b db rt sl rs ss) (hsub : ∀ y ∈ ss, ∃ x ∈ rs, x.i = y.i) (No : ∀ a ∈ [b, db, rt, sl], a ≠ L ∧ h₀.get? a = none) {o2 : Obj} (hsl2 : s.heap.get? sl = some o2)
    (h : ∀ h' t (z sl' : Nat) c t0 t1 t2 t3 n o os, Keep [db, rt] s.heap h' → Fr h₀ L h' m → News h₀ L h' [(z, W.listOf (keysR (sortBy (·.i) ss)).toArray c), (b, instObj 142 db), (db, dictOf (akD w t0 t1 t2 t3 rt sl') n), (rt, o), (sl', os), (sl, o2)] →
      RowsObj prog w o ((leftR rs ss).map Row.ent) → RowsObj prog w os [] → Kept prog w P h' b db rt sl' (leftR rs ss) [] → s.heap.get? z = none → s.heap.get? sl' = none → (∀ a ∈ [b, db, rt], @Ne Nat a z ∧ @Ne Nat a sl') → Q (.ref z) { s with heap := h', toks := t }) :
    wpAny (model prog w) A (call (.ref 139) [.ref b]) Q E s :=
  wpAny_call (sweep_ct C B hsub fun h' t z c sl' K G hz ez B' hsl => by
    obtain ⟨t0, t1, t2, t3, n, hd⟩ := B'.dict
    obtain ⟨o, hr, hro⟩ := B'.routes
    obtain ⟨os, hs, hso⟩ := B'.stale
    have F' : Fr h₀ L h' m := fr_keep F K (fun q => by
      simp only [List.mem_cons, List.not_mem_nil, or_false] at q
      rcases q with q | q
      · exact (No db (.tail _ (.head _))).1 q.symm
      · exact (No rt (.tail _ (.tail _ (.head _)))).1 q.symm) (fun a ha => (No a (by simp at ha ⊢; rcases ha with rfl | rfl <;> simp)).2)
    refine h h' t z sl' c t0 t1 t2 t3 n o os K F' (all2 ⟨ez, none_L F hz, none_base F hz⟩ (all2 ⟨B'.inst, No b (.head _)⟩ (all2 ⟨hd, No db (.tail _ (.head _))⟩ (all2 ⟨hr, No rt (.tail _ (.tail _ (.head _)))⟩ (all2 ⟨hs, none_L F hsl, none_base F hsl⟩ (all1 ⟨K sl o2 hsl2 (by have := B.ne; simp; exact ⟨Ne.symm this.2.2.2.2.1, Ne.symm this.2.2.2.2.2⟩), No sl (.tail _ (.tail _ (.tail _ (.head _))))⟩)))))) hro hso B' hz hsl fun a ha => ?_
    obtain ⟨_, _, _, _, _, e2⟩ := B.dict
    obtain ⟨_, e3, _⟩ := B.routes
    simp only [List.mem_cons, List.not_mem_nil, or_false] at ha
    rcases ha with rfl | rfl | rfl
    · exact ⟨ne_fresh B.inst hz, ne_fresh B.inst hsl⟩
    · exact ⟨ne_fresh e2 hz, ne_fresh e2 hsl⟩
    · exact ⟨ne_fresh e3 hz, ne_fresh e3 hsl⟩)
theorem age_ct {b db rt sl : Nat} {rs ss : List Row} (C : Cx w mean mg mb H₀ P A s.heap 2) (B : Kept prog w P s.heap b db rt sl rs ss) (hsub : ∀ y ∈ ss, ∃ x ∈ rs, x.i = y.i)
    (hR : ∀ h' t z c (sl' : Nat), Keep [db, rt] s.heap h' → Grow s.heap h' → s.heap.get? z = none → h'.get? z = some (W.listOf (keysR (sortBy (·.i) ss)).toArray c) → Kept prog w P h' b db rt sl' (leftR rs ss) (leftR rs ss) → s.heap.get? sl' = none → R (.ok (.ret (.ref z))) { s with heap := h', toks := t }) :
    codeAny (model prog w) A (.call (.ref 132) ⟨[.ref b], []⟩) R s := by
  obtain ⟨t0, t1, t2, t3, n, hdb⟩ := B.dict
  obtain ⟨o, hr, hro⟩ := B.routes
  obtain ⟨o', hs, hso⟩ := B.stale
  have hz := B.len
  have hsz := B.slen
  have pp := B.p
  have nn := B.ne
  have hA := C.dep
  have hU := C.uni
  have hH : (A.deeper (envOf "" default 0 0 .none)).handled = none := C.hh
  refine' enter (mo := [(b, instObj 142 db), (db, dictOf (akD w t0 t1 t2 t3 rt sl) n), (rt, o), (sl, o')]) C.B.X C.B.T C.st ?m ?ho ?hcd ?room ?bind ?loc ?_ ?c1 ?c2 ?c3 ?c4
  case ho => k_is
  case hcd => k_is
  case bind => exact BindsTo.of_eq rfl
  case loc => exact locs rfl
  case c1 => exact rfl
  case c2 => exact rfl
  case c3 => exact rfl
  case c4 => decide
  case room => show _ < 1000; k_extra "own a"
  case m => exact all2 ⟨B.inst, (C.hP b pp.1).1⟩ (all2 ⟨hdb, (C.hP db pp.2.1).1⟩ (all2 ⟨hr, (C.hP rt pp.2.2.1).1⟩ (all1 ⟨hs, (C.hP sl pp.2.2.2).1⟩)))
  intro g L h₁ KG eL F N X T SG
  dsimp only
  have kk : ∀ {k : List Int} {a : Addr}, KeyAt prog w s.heap k a → KeyAt prog w g k a := fun x => x.keep fun o e => KG _ o e (by have := B.key_ne x; simp [this])
  have hks : ∀ x ∈ rs.map Row.ent, KeyAt prog w g x.1 x.2.1 := fun x hx => by obtain ⟨y, hy, rfl⟩ := List.mem_map.mp hx; exact kk (B.keys y hy)
  have hkss : ∀ x ∈ ss.map Row.sent, KeyAt prog w g x.1 x.2.1 := fun x hx => by obtain ⟨y, hy, rfl⟩ := List.mem_map.mp hx; exact kk (B.skeys y hy)
  have hzz : (rs.map Row.ent).length ≤ 1000 := by rw [List.length_map]; omega
  have hszz : (ss.map Row.sent).length ≤ 1000 := by rw [List.length_map]; omega
  have lo : (rt == sysModules) = false := low_of (C.hP rt pp.2.2.1).2
  have lo' : (sl == sysModules) = false := low_of (C.hP sl pp.2.2.2).2
  try k_fold
  k_steps
  (with_reducible rename Fr _ _ _ _ => F)
  (with_reducible rename News _ _ _ _ => N)
  have GL : Grow s.heap _ := Grow.led KG F N fun p hp => ⟨p.2, hp⟩
  refine' sweep_k (db := db) (rt := rt) (sl := sl) (rs := rs) (ss := ss) F (C.go (Grow.led KG F N ?gr) (fun b o e => F.keep b o (SG b o e)) ?d ?u C.hh) ?bk hsub ?no (N _ (.tail _ (.tail _ (.tail _ (.head _))))).1 ?rest
  case gr => exact fun p hp => ⟨p.2, hp⟩
  case d => simp only [depth_deeper]; k_extra "own a"
  case u => simp only [Around.deeper_units]; k_extra "own a"
  case bk =>
    have m := List.forall_mem_cons.mp N
    have m2 := List.forall_mem_cons.mp m.2
    have m3 := List.forall_mem_cons.mp m2.2
    have m4 := List.forall_mem_cons.mp m3.2
    exact B.keepRs (keep_end KG F) m.1.1 ⟨t0, t1, t2, t3, n, m2.1.1⟩ ⟨o, m3.1.1, hro⟩ ⟨o', m4.1.1, hso⟩ (fun x hx => .inl hx) (fun x hx => ⟨B.skeys x hx, B.ssmall x hx⟩) B.nd pp.2.2.1 pp.2.2.2
  case no =>
    intro a ha
    simp only [List.mem_cons, List.not_mem_nil, or_false] at ha
    rcases ha with rfl | rfl | rfl | rfl
    · exact (N _ (.head _)).2
    · exact (N _ (.tail _ (.head _))).2
    · exact (N _ (.tail _ (.tail _ (.head _)))).2
    · exact (N _ (.tail _ (.tail _ (.tail _ (.head _))))).2
  case rest =>
    intro h₂ tk₂ z sl' c t0' t1' t2' t3' n' or' os' K2 F N hro' hso' B' hz0 hsl0 hne3
    have q1 := hne3 b (.head _)
    have q2 := hne3 db (.tail _ (.head _))
    have q3 := hne3 rt (.tail _ (.tail _ (.head _)))
    k_steps
    (with_reducible rename Fr _ _ _ _ => F)
    (with_reducible rename News _ _ _ _ => N)
    refine' comp_start ?hclos ?hkind ?hnames ?hsrc ?hfold
    case hclos => exact rfl
    case hfold => intro _; rfl
    case hkind => exact rfl
    case hnames => decide
    k_steps
    (with_reducible rename Fr _ _ _ _ => F)
    (with_reducible rename News _ _ _ _ => N)
    obtain ⟨es, ep, hc', hdat', he', _⟩ := id hro'
    have hd : DictRaw _ rt es ep := ⟨_, (N _ (.tail _ (.tail _ (.tail _ (.head _))))).1, hc', hdat'⟩
    have esz : es.size = (leftR rs ss).length := by have := congrArg List.length he'; simpa using this
    have lz : (leftR rs ss).length ≤ 4 := B'.len
    rename Heap => hc
    refine' comp_dict (l := rt) (es := es) (ep := ep) (fun C D I i ys h => ∃ tl : List (Addr × Obj), (∀ p ∈ tl, h.get? p.1 = some p.2 ∧ p.1 ≠ C ∧ p.1 ≠ D ∧ p.1 ≠ I ∧ hc.get? p.1 = none) ∧ ys.length = i ∧ ∀ (j : Nat) (y : Value) (x : Row), ys[j]? = some y → (leftR rs ss)[j]? = some x → ∃ p n, y = .ref p ∧ (p, ({ cls := .type "tuple", data := .seq #[.ref x.k, .bool true] n } : Obj)) ∈ tl)
      ?J0 ?Jk hH F N ?hcell ?hkind ?hx hd lo ?hsz ?body ?rest2
    case J0 => exact fun C D I h => ⟨[], (fun _ h => nomatch h), rfl, fun j y x e => by simp at e⟩
    case Jk =>
      intro C D I i ys h h' ⟨tl, f, e, r⟩ k
      exact ⟨tl, fun p hp => ⟨k _ _ (f p hp).2.1 (f p hp).2.2.1 (f p hp).2.2.2.1 (f p hp).1, (f p hp).2⟩, e, r⟩
    case hkind => exact rfl
    case hcell => decide
    case hx => exact rfl
    case hsz => omega
    case body =>
      intro C D I i v ys s₃ m₃ E' K hv hi hm F₃ al frs hne hj hk
      refine turn_nil ?_
      obtain ⟨tl, ft, ey, fy⟩ := hj
      obtain ⟨oD, oI, N₃⟩ := comp_led al frs hne
      have hi' : i < (leftR rs ss).length := esz ▸ hi
      obtain ⟨x, hx⟩ : ∃ x, (leftR rs ss)[i]? = some x := ⟨_, List.getElem?_eq_getElem hi'⟩
      have hv' : v = .ref x.k := by
        have e1 : es[i]? = es.toList[i]? := Array.getElem?_toList.symm
        rw [e1, he', List.getElem?_map, List.getElem?_map, hx] at hv
        exact (Option.some.inj hv).symm
      subst hv'
      have N₄ : News hc C s₃.heap ((D, oD) :: (I, oI) :: tl) := fun p hp => by
        rcases List.mem_append.mp (show p ∈ [(D, oD), (I, oI)] ++ tl from hp) with hp | hp
        · exact N₃ p hp
        · exact ⟨(ft p hp).1, (ft p hp).2.1, (ft p hp).2.2.2.2⟩
      clear F N N₃
      k_steps
      (with_reducible rename Fr _ _ _ _ => F₄)
      (with_reducible rename News _ _ _ _ => N₅)
      (with_reducible rename _ ∧ _ => l2)
      have n1 := (N₅ _ (.head _)).1
      have nC := (N₅ _ (.head _)).2.1
      have n0 := (N₅ _ (.head _)).2.2
      have n2 := (N₅ _ (.tail _ (.head _))).1
      have n3 := (N₅ _ (.tail _ (.tail _ (.head _)))).1
      have M3 := all_drop (all_drop (all_drop N₅))
      refine hk (some _) _ _ F₄ (n2.trans (N₄ _ (.head _)).1.symm) (n3.trans (N₄ _ (.tail _ (.head _))).1.symm) ⟨_ :: tl, List.forall_mem_cons.mpr ⟨⟨n1, nC, Ne.symm (Nat.ne_of_lt l2.1), Ne.symm (Nat.ne_of_lt l2.2.1), n0⟩, fun p hp => ⟨(M3 p hp).1, (ft p hp).2⟩⟩, ?_, fun j y x' e1 e2 => ?_⟩
      · simp [ey]
      · rw [Option.toList_some] at e1
        revert j y x'
        refine ext1 ey hx (fun j y x' e1 e2 => ?_) ?_
        · obtain ⟨p, n, e, m⟩ := fy j y x' e1 e2
          exact ⟨p, n, e, .tail _ m⟩
        · exact ⟨_, _, rfl, .head _⟩
    case rest2 =>
      intro Cc D I ys h' tk F₃ N₃ hD0 hk ⟨tl, ft, ey, fy⟩
      have hd0 := (N _ (.tail _ (.head _))).1
      have dD := news_ne N hD0
      clear F N hd
      k_steps
      simp only [List.forall_mem_cons] at dD
      obtain ⟨dD1, dD2, dD3, dD4, dD5, dD6, _⟩ := dD
      have hb1 : 1 < h'.objs.size := Nat.lt_trans (C.hP b pp.1).2 (Heap.lt_size (N₃ _ (.tail _ (.tail _ (.head _)))).1)
      refine' dict_pairs (l := D) (vs := ys) (es := (leftR rs ss).map fun x => (x.i, x.k, Value.bool true)) hH ?du F₃ N₃ hb1 (N₃ _ (.head _)).1 ?dz ?dn ?dv ?dp ?rest3
      case du => show _ < 9900; simp only [Around.deeper_units]; k_extra "own a"
      case dz => rw [List.length_map]; omega
      case dn => rw [List.map_map]; exact B'.nodup
      case dv => rw [List.length_map, ey, esz]
      case dp =>
        intro j v e e1 e2
        rw [List.getElem?_map] at e2
        obtain ⟨x, hx, rfl⟩ := Option.map_eq_some_iff.mp e2
        obtain ⟨p, n, q, m⟩ := fy j v x e1 hx
        exact ⟨p, n, q, (ft _ m).1, (kk (B.keys x (List.mem_filter.mp (List.mem_of_getElem? hx)).1)).keep fun o => F₃.keep _ o⟩
      case rest3 =>
        intro Dd od h4 t4 F₄ N₄ hod lod nD4 k4 ne4
        simp only [List.forall_mem_cons] at ne4
        obtain ⟨e1, e2, e3, e4, e5, e6, e7, _⟩ := ne4
        have w1 : @Ne Nat b db := nn.1
        have w2 : @Ne Nat rt db := Ne.symm nn.2.2.2.1
        have w3 : @Ne Nat sl db := Ne.symm nn.2.2.2.2.1
        have w4 : @Ne Nat z db := Ne.symm q2.1
        have w5 : @Ne Nat sl' db := Ne.symm q2.2
        have w6 : @Ne Nat D db := Ne.symm dD3
        have w7 : @Ne Nat Dd db := Ne.symm e4
        have lodd := low_of lod
        have d0 : s.heap.get? Dd = none := keep_none KG (none_base F₃ nD4) (all2 e3 (all2 e4 (all2 e5 (all1 e7))))
        have z0 : s.heap.get? z = none := GL z hz0
        have dd : ([b, db, rt, Dd] : List Nat).Nodup := by
          simp only [List.nodup_cons, List.mem_cons, List.not_mem_nil, or_false, not_or, List.nodup_nil, not_false_eq_true, and_true]
          exact ⟨⟨nn.1, nn.2.1, e3⟩, ⟨nn.2.2.2.1, e4⟩, e5⟩
        clear N₃ F₃ hd0 ft fy hk hso' he' hdat' hc' K2 hne3 hks hkss hzz hszz hz hsz lz esz ey q1 q2 q3 dD1 dD2 dD3 dD4 dD5 dD6 e1 e2 e3 e4 e5 e6 e7
        k_steps
        (with_reducible rename Fr _ _ _ _ => F)
        (with_reducible rename News _ _ _ _ => N)
        have m1 := (N _ (.head _)).1
        have m1g := (N _ (.head _)).2.2
        have m3 := (N _ (.tail _ (.tail _ (.head _)))).1
        have m3g := (N _ (.tail _ (.tail _ (.head _)))).2.2
        have m4 := (N _ (.tail _ (.tail _ (.tail _ (.head _))))).1
        have m5 := (N _ (.tail _ (.tail _ (.tail _ (.tail _ (.head _)))))).1
        have m6 := (N _ (.tail _ (.tail _ (.tail _ (.tail _ (.tail _ (.head _))))))).1
        have m8 := (N _ (.tail _ (.tail _ (.tail _ (.tail _ (.tail _ (.tail _ (.tail _ (.head _))))))))).1
        have K4 := keep_end KG F
        refine hR _ _ z _ Dd (keep_less K4 (by simp; exact ⟨.inr (keep_one B.inst m4), .inr (keep_one hs m8)⟩)) (Grow.keep K4 (by simp; exact ⟨⟨_, m4⟩, ⟨_, m5⟩, ⟨_, m6⟩, ⟨_, m8⟩⟩)) z0 m3
          (B.keepRs K4 m4 ⟨t0', t1', t2', t3', n', m5⟩ ⟨or', m6, hro'⟩ ⟨od, m1, by rw [List.map_map] at hod; exact hod⟩ (fun x hx => .inl (List.mem_filter.mp hx).1) (fun x hx => ⟨B.keys x (List.mem_filter.mp hx).1, B.small x (List.mem_filter.mp hx).1⟩) dd pp.2.2.1 (C.hF Dd d0 lod)) d0
end
end Mine
end
section
theorem Mine.off_25 : True := by
  w_top off
  trivial
namespace Mine
open PySem PySem.W PySem.Calls PySem.Spec PyProof.Rows
structure Bk where
  b : Addr
  db : Addr
  r : Addr
  u : Value
  xs : List Row
  t1 : Tok
  t2 : Tok
  n : Nat
  o : Obj
structure Kp where
  b : Addr
  db : Addr
  rt : Addr
  sl : Addr
  rs : List Row
  ss : List Row
  t0 : Tok
  t1 : Tok
  t2 : Tok
  t3 : Tok
  n : Nat
  ro : Obj
  so : Obj
structure St where
  w0 : Bk
  w1 : Bk
  w2 : Bk
  k : Kp
noncomputable abbrev Bk.mut (B : Bk) : List Addr := B.b :: B.db :: B.r :: B.xs.map (·.l)
noncomputable abbrev Bk.hard (B : Bk) : List Addr := B.xs.map (·.k) ++ B.xs.map (·.a)
noncomputable abbrev Kp.mut (K : Kp) : List Addr := [K.b, K.db, K.rt, K.sl]
noncomputable abbrev Kp.hard (K : Kp) : List Addr := K.rs.map (·.k) ++ (K.rs.map (·.a) ++ (K.rs.map (·.l) ++ K.ss.map (·.k)))
noncomputable abbrev St.mut (S : St) : List Addr := S.w0.mut ++ (S.w1.mut ++ (S.w2.mut ++ S.k.mut))
noncomputable abbrev St.hard (S : St) : List Addr := S.w0.hard ++ (S.w1.hard ++ (S.w2.hard ++ S.k.hard))
noncomputable abbrev St.meds (S : St) : List Addr := S.w0.xs.map (·.a) ++ (S.w1.xs.map (·.a) ++ (S.w2.xs.map (·.a) ++ S.k.rs.map (·.a)))
noncomputable abbrev Bk.led (w : World) (B : Bk) (l : List (Addr × Obj)) : List (Addr × Obj) := (B.b, instObj 85 B.db) :: (B.db, dictOf (bkD w B.t1 B.t2 B.r B.u) B.n) :: (B.r, B.o) :: l
noncomputable abbrev Kp.led (w : World) (K : Kp) (l : List (Addr × Obj)) : List (Addr × Obj) := (K.b, instObj 142 K.db) :: (K.db, dictOf (akD w K.t0 K.t1 K.t2 K.t3 K.rt K.sl) K.n) :: (K.rt, K.ro) :: (K.sl, K.so) :: l
noncomputable abbrev St.rowsO (S : St) : List (Addr × Obj) := S.w0.xs.map rowObj ++ (S.w1.xs.map rowObj ++ S.w2.xs.map rowObj)
noncomputable abbrev St.core (w : World) (S : St) (l : List (Addr × Obj)) : List (Addr × Obj) := S.w0.led w (S.w1.led w (S.w2.led w (S.k.led w (S.rowsO ++ l))))
noncomputable abbrev St.ids (S : St) : List Value := [.ref S.w0.b, .ref S.w1.b, .ref S.w2.b, .ref S.k.b]

structure Bk.At (prog : Program) (w : World) (P : Addr → Prop) (h : Heap) (B : Bk) : Prop where
  bk : Book prog w P h B.b B.db B.r B.u B.xs
  d : h.get? B.db = some (dictOf (bkD w B.t1 B.t2 B.r B.u) B.n)
  r : h.get? B.r = some B.o
  ro : RowsObj prog w B.o (B.xs.map Row.ent)
structure Kp.At (prog : Program) (w : World) (P : Addr → Prop) (h : Heap) (K : Kp) : Prop where
  kp : Kept prog w P h K.b K.db K.rt K.sl K.rs K.ss
  d : h.get? K.db = some (dictOf (akD w K.t0 K.t1 K.t2 K.t3 K.rt K.sl) K.n)
  r : h.get? K.rt = some K.ro
  s : h.get? K.sl = some K.so
  ro : RowsObj prog w K.ro (K.rs.map Row.ent)
  so : RowsObj prog w K.so (K.ss.map Row.sent)
noncomputable abbrev Apart (a b : List Addr) : Prop := ∀ x ∈ a, x ∉ b
structure Four (prog : Program) (w : World) (P : Addr → Prop) (h : Heap) (S : St) : Prop where
  a0 : S.w0.At prog w P h
  a1 : S.w1.At prog w P h
  a2 : S.w2.At prog w P h
  ak : S.k.At prog w P h
  d01 : Apart S.w0.mut S.w1.mut
  d02 : Apart S.w0.mut S.w2.mut
  d12 : Apart S.w1.mut S.w2.mut
  d0k : Apart S.w0.mut S.k.mut
  d1k : Apart S.w1.mut S.k.mut
  d2k : Apart S.w2.mut S.k.mut

section
variable {prog : Program} {w : World} {P : Addr → Prop} {h h' : Heap} {S : St}
noncomputable def HardAt (prog : Program) (w : World) (h : Heap) (a : Addr) : Prop := (∃ o vs n, h.get? a = some o ∧ o.cls = .type "tuple" ∧ o.data = .seq vs n) ∨ ∃ v, IsMed prog w h a v
theorem KeyAt.hard {k : List Int} {a : Addr} (x : KeyAt prog w h k a) : HardAt prog w h a := .inl (by obtain ⟨o, its, n, ho, hc, hd, _⟩ := x; exact ⟨o, its, n, ho, hc, hd⟩)
theorem IsMed.hard {v : Int} {a : Addr} (x : IsMed prog w h a v) : HardAt prog w h a := .inr ⟨v, x⟩
theorem HardAt.there {a : Addr} (x : HardAt prog w h a) : ∃ o, h.get? a = some o := by
  rcases x with ⟨o, _, _, e, _⟩ | ⟨v, o, t, e, _⟩
  · exact ⟨o, e⟩
  · exact ⟨o, e⟩
theorem Book.hard_ne {b db r : Addr} {u : Value} {xs : List Row} (B : Book prog w P h b db r u xs) {a : Addr} (x : HardAt prog w h a) : a ∉ b :: db :: r :: xs.map (·.l) := by
  simp only [List.mem_cons, List.mem_map, not_or, not_exists, not_and]
  rcases x with ⟨o, _, _, e, c, _⟩ | ⟨v, m⟩
  · have := B.nek e (by rw [c]; intro q; cases q) (by rw [c]; decide)
    refine ⟨this.1, this.2.1, this.2.2, fun y hy q => ?_⟩
    exact ne_obj e (B.row y hy) (by rw [c]; show _ ≠ Value.type "list"; decide) q.symm
  · have := B.med_ne m
    exact ⟨this.1, this.2.1, this.2.2, fun y hy q => B.med_l m y hy q.symm⟩
theorem Kept.hard_ne {b db rt sl : Addr} {rs ss : List Row} (B : Kept prog w P h b db rt sl rs ss) {a : Addr} (x : HardAt prog w h a) : a ∉ [b, db, rt, sl] := by
  simp only [List.mem_cons, List.not_mem_nil, or_false, not_or]
  rcases x with ⟨o, _, _, e, c, _⟩ | ⟨v, m⟩
  · exact B.tup_ne e c
  · exact B.med_ne m
theorem Four.hard_ne (A : Four prog w P h S) {a : Addr} (x : HardAt prog w h a) : a ∉ S.mut := by
  simp only [List.mem_append, not_or]
  exact ⟨A.a0.bk.hard_ne x, A.a1.bk.hard_ne x, A.a2.bk.hard_ne x, A.ak.kp.hard_ne x⟩
theorem Book.hards {b db r : Addr} {u : Value} {xs : List Row} (B : Book prog w P h b db r u xs) : ∀ a ∈ xs.map (·.k) ++ xs.map (·.a), HardAt prog w h a := fun a ha => by
  rcases List.mem_append.mp ha with m | m <;> obtain ⟨y, hy, rfl⟩ := List.mem_map.mp m
  · exact (B.keys y hy).hard
  · exact (B.med y hy).hard
theorem Kept.hards {b db rt sl : Addr} {rs ss : List Row} (B : Kept prog w P h b db rt sl rs ss) : ∀ a ∈ rs.map (·.k) ++ (rs.map (·.a) ++ (rs.map (·.l) ++ ss.map (·.k))), HardAt prog w h a := fun a ha => by
  simp only [List.mem_append, List.mem_map] at ha
  rcases ha with ⟨y, hy, rfl⟩ | ⟨y, hy, rfl⟩ | ⟨y, hy, rfl⟩ | ⟨y, hy, rfl⟩
  · exact (B.keys y hy).hard
  · exact (B.med y hy).hard
  · obtain ⟨tv, t, n, e⟩ := B.tup y hy; exact .inl ⟨_, _, _, e, rfl, rfl⟩
  · exact (B.skeys y hy).hard
theorem Four.hards (A : Four prog w P h S) : ∀ a ∈ S.hard, HardAt prog w h a := fun a ha => by
  rcases List.mem_append.mp ha with m | m
  · exact A.a0.bk.hards a m
  rcases List.mem_append.mp m with m | m
  · exact A.a1.bk.hards a m
  rcases List.mem_append.mp m with m | m
  · exact A.a2.bk.hards a m
  · exact A.ak.kp.hards a m
theorem Book.there {b db r : Addr} {u : Value} {xs : List Row} (B : Book prog w P h b db r u xs) : ∀ a ∈ b :: db :: r :: xs.map (·.l), ∃ o, h.get? a = some o := fun a ha => by
  simp only [List.mem_cons, List.mem_map] at ha
  rcases ha with rfl | rfl | rfl | ⟨y, hy, rfl⟩
  · exact ⟨_, B.inst⟩
  · obtain ⟨_, _, _, e⟩ := B.dict; exact ⟨_, e⟩
  · obtain ⟨_, e, _⟩ := B.rows; exact ⟨_, e⟩
  · exact ⟨_, B.row y hy⟩
theorem Kept.there {b db rt sl : Addr} {rs ss : List Row} (B : Kept prog w P h b db rt sl rs ss) : ∀ a ∈ [b, db, rt, sl], ∃ o, h.get? a = some o := fun a ha => by
  simp only [List.mem_cons, List.not_mem_nil, or_false] at ha
  rcases ha with rfl | rfl | rfl | rfl
  · exact ⟨_, B.inst⟩
  · obtain ⟨_, _, _, _, _, e⟩ := B.dict; exact ⟨_, e⟩
  · obtain ⟨_, e, _⟩ := B.routes; exact ⟨_, e⟩
  · obtain ⟨_, e, _⟩ := B.stale; exact ⟨_, e⟩
theorem Four.there (A : Four prog w P h S) : ∀ a ∈ S.mut, ∃ o, h.get? a = some o := fun a ha => by
  rcases List.mem_append.mp ha with m | m
  · exact A.a0.bk.there a m
  rcases List.mem_append.mp m with m | m
  · exact A.a1.bk.there a m
  rcases List.mem_append.mp m with m | m
  · exact A.a2.bk.there a m
  · exact A.ak.kp.there a m

noncomputable abbrev Same (l : List Addr) (h h' : Heap) : Prop := ∀ a ∈ l, ∀ o, h.get? a = some o → h'.get? a = some o
theorem Book.stay {b db r : Addr} {u : Value} {xs : List Row} (B : Book prog w P h b db r u xs) (k1 : Same (b :: db :: r :: xs.map (·.l)) h h') (k2 : Same (xs.map (·.k) ++ xs.map (·.a)) h h') : Book prog w P h' b db r u xs where
  inst := k1 _ (.head _) _ B.inst
  dict := let ⟨t1, t2, n, e⟩ := B.dict; ⟨t1, t2, n, k1 _ (.tail _ (.head _)) _ e⟩
  rows := let ⟨o, e, x⟩ := B.rows; ⟨o, k1 _ (.tail _ (.tail _ (.head _))) _ e, x⟩
  keys := fun x hx => (B.keys x hx).keep fun o => k2 _ (List.mem_append_left _ (List.mem_map_of_mem hx)) o
  row := fun x hx => k1 _ (.tail _ (.tail _ (.tail _ (List.mem_map_of_mem (f := fun x : Row => x.l) hx)))) _ (B.row x hx)
  med := fun x hx => (B.med x hx).keep fun o => k2 _ (List.mem_append_right _ (List.mem_map_of_mem hx)) o
  small := B.small
  nd := B.nd
  own := B.own
theorem Bk.At.stay {B : Bk} (A : B.At prog w P h) (k1 : Same B.mut h h') (k2 : Same B.hard h h') : B.At prog w P h' :=
  ⟨A.bk.stay k1 k2, k1 _ (.tail _ (.head _)) _ A.d, k1 _ (.tail _ (.tail _ (.head _))) _ A.r, A.ro⟩
theorem Kept.stay {b db rt sl : Addr} {rs ss : List Row} (B : Kept prog w P h b db rt sl rs ss) (k1 : Same [b, db, rt, sl] h h') (k2 : Same (rs.map (·.k) ++ (rs.map (·.a) ++ (rs.map (·.l) ++ ss.map (·.k)))) h h') : Kept prog w P h' b db rt sl rs ss where
  inst := k1 _ (.head _) _ B.inst
  dict := by obtain ⟨t0, t1, t2, t3, n, e⟩ := B.dict; exact ⟨t0, t1, t2, t3, n, k1 _ (.tail _ (.head _)) _ e⟩
  routes := B.routes.imp fun o x => ⟨k1 _ (.tail _ (.tail _ (.head _))) _ x.1, x.2⟩
  stale := B.stale.imp fun o x => ⟨k1 _ (.tail _ (.tail _ (.tail _ (.head _)))) _ x.1, x.2⟩
  keys := fun x hx => (B.keys x hx).keep fun o => k2 _ (List.mem_append_left _ (List.mem_map_of_mem hx)) o
  skeys := fun x hx => (B.skeys x hx).keep fun o => k2 _ (List.mem_append_right _ (List.mem_append_right _ (List.mem_append_right _ (List.mem_map_of_mem hx)))) o
  tup := fun x hx => by obtain ⟨tv, t, n, e⟩ := B.tup x hx; exact ⟨tv, t, n, k2 _ (List.mem_append_right _ (List.mem_append_right _ (List.mem_append_left _ (List.mem_map_of_mem (f := fun x : Row => x.l) hx)))) _ e⟩
  med := fun x hx => (B.med x hx).keep fun o => k2 _ (List.mem_append_right _ (List.mem_append_left _ (List.mem_map_of_mem hx))) o
  medP := B.medP
  small := B.small
  ssmall := B.ssmall
  nd := B.nd
  own := B.own
theorem Kp.At.stay {K : Kp} (A : K.At prog w P h) (k1 : Same K.mut h h') (k2 : Same K.hard h h') : K.At prog w P h' :=
  ⟨A.kp.stay k1 k2, k1 _ (.tail _ (.head _)) _ A.d, k1 _ (.tail _ (.tail _ (.head _))) _ A.r, k1 _ (.tail _ (.tail _ (.tail _ (.head _)))) _ A.s, A.ro, A.so⟩
theorem Same.left {a b : List Addr} (x : Same (a ++ b) h h') : Same a h h' := fun c hc => x c (List.mem_append_left _ hc)
theorem Same.right {a b : List Addr} (x : Same (a ++ b) h h') : Same b h h' := fun c hc => x c (List.mem_append_right _ hc)
theorem Four.stay (A : Four prog w P h S) (k1 : Same S.mut h h') (k2 : Same S.hard h h') : Four prog w P h' S :=
  ⟨A.a0.stay k1.left k2.left, A.a1.stay k1.right.left k2.right.left, A.a2.stay k1.right.right.left k2.right.right.left, A.ak.stay k1.right.right.right k2.right.right.right, A.d01, A.d02, A.d12, A.d0k, A.d1k, A.d2k⟩
theorem same_of {mo l : List Addr} (K : Keep mo h h') (x : ∀ a ∈ l, a ∉ mo) : Same l h h' := fun a ha o e => K a o e (x a ha)
noncomputable abbrev New (h : Heap) (m m' : List Addr) : Prop := ∀ a ∈ m', a ∈ m ∨ h.get? a = none
theorem Apart.next {m m' n : List Addr} (x : Apart m n) (f : New h m m') (t : ∀ a ∈ n, ∃ o, h.get? a = some o) : Apart m' n := fun a ha hn => by
  rcases f a ha with q | q
  · exact x a q hn
  · obtain ⟨o, e⟩ := t a hn; rw [q] at e; cases e
theorem Apart.symm {m n : List Addr} (x : Apart m n) : Apart n m := fun a ha hn => x a hn ha
theorem Four.step0 {mo : List Addr} {B : Bk} (A : Four prog w P h S) (K : Keep mo h h') (x : ∀ a ∈ mo, a ∈ S.w0.mut) (A' : B.At prog w P h') (f : New h S.w0.mut B.mut) : Four prog w P h' { S with w0 := B } where
  a0 := A'
  a1 := A.a1.stay (same_of K fun a ha q => A.d01 a (x a q) ha) (same_of K fun a ha q => A.a0.bk.hard_ne (A.a1.bk.hards a ha) (x a q))
  a2 := A.a2.stay (same_of K fun a ha q => A.d02 a (x a q) ha) (same_of K fun a ha q => A.a0.bk.hard_ne (A.a2.bk.hards a ha) (x a q))
  ak := A.ak.stay (same_of K fun a ha q => A.d0k a (x a q) ha) (same_of K fun a ha q => A.a0.bk.hard_ne (A.ak.kp.hards a ha) (x a q))
  d01 := A.d01.next f A.a1.bk.there
  d02 := A.d02.next f A.a2.bk.there
  d12 := A.d12
  d0k := A.d0k.next f A.ak.kp.there
  d1k := A.d1k
  d2k := A.d2k
theorem Four.step1 {mo : List Addr} {B : Bk} (A : Four prog w P h S) (K : Keep mo h h') (x : ∀ a ∈ mo, a ∈ S.w1.mut) (A' : B.At prog w P h') (f : New h S.w1.mut B.mut) : Four prog w P h' { S with w1 := B } where
  a1 := A'
  a0 := A.a0.stay (same_of K fun a ha q => A.d01 a ha (x a q)) (same_of K fun a ha q => A.a1.bk.hard_ne (A.a0.bk.hards a ha) (x a q))
  a2 := A.a2.stay (same_of K fun a ha q => A.d12 a (x a q) ha) (same_of K fun a ha q => A.a1.bk.hard_ne (A.a2.bk.hards a ha) (x a q))
  ak := A.ak.stay (same_of K fun a ha q => A.d1k a (x a q) ha) (same_of K fun a ha q => A.a1.bk.hard_ne (A.ak.kp.hards a ha) (x a q))
  d01 := (A.d01.symm.next f A.a0.bk.there).symm
  d02 := A.d02
  d12 := A.d12.next f A.a2.bk.there
  d0k := A.d0k
  d1k := A.d1k.next f A.ak.kp.there
  d2k := A.d2k
theorem Four.step2 {mo : List Addr} {B : Bk} (A : Four prog w P h S) (K : Keep mo h h') (x : ∀ a ∈ mo, a ∈ S.w2.mut) (A' : B.At prog w P h') (f : New h S.w2.mut B.mut) : Four prog w P h' { S with w2 := B } where
  a2 := A'
  a0 := A.a0.stay (same_of K fun a ha q => A.d02 a ha (x a q)) (same_of K fun a ha q => A.a2.bk.hard_ne (A.a0.bk.hards a ha) (x a q))
  a1 := A.a1.stay (same_of K fun a ha q => A.d12 a ha (x a q)) (same_of K fun a ha q => A.a2.bk.hard_ne (A.a1.bk.hards a ha) (x a q))
  ak := A.ak.stay (same_of K fun a ha q => A.d2k a (x a q) ha) (same_of K fun a ha q => A.a2.bk.hard_ne (A.ak.kp.hards a ha) (x a q))
  d01 := A.d01
  d02 := (A.d02.symm.next f A.a0.bk.there).symm
  d12 := (A.d12.symm.next f A.a1.bk.there).symm
  d0k := A.d0k
  d1k := A.d1k
  d2k := A.d2k.next f A.ak.kp.there
theorem Four.stepK {mo : List Addr} {B : Kp} (A : Four prog w P h S) (K : Keep mo h h') (x : ∀ a ∈ mo, a ∈ S.k.mut) (A' : B.At prog w P h') (f : New h S.k.mut B.mut) : Four prog w P h' { S with k := B } where
  ak := A'
  a0 := A.a0.stay (same_of K fun a ha q => A.d0k a ha (x a q)) (same_of K fun a ha q => A.ak.kp.hard_ne (A.a0.bk.hards a ha) (x a q))
  a1 := A.a1.stay (same_of K fun a ha q => A.d1k a ha (x a q)) (same_of K fun a ha q => A.ak.kp.hard_ne (A.a1.bk.hards a ha) (x a q))
  a2 := A.a2.stay (same_of K fun a ha q => A.d2k a ha (x a q)) (same_of K fun a ha q => A.ak.kp.hard_ne (A.a2.bk.hards a ha) (x a q))
  d01 := A.d01
  d02 := A.d02
  d12 := A.d12
  d0k := (A.d0k.symm.next f A.a0.bk.there).symm
  d1k := (A.d1k.symm.next f A.a1.bk.there).symm
  d2k := (A.d2k.symm.next f A.a2.bk.there).symm

theorem Bk.exact {b db r : Addr} {u : Value} {xs : List Row} (B : Book prog w P h b db r u xs) : ∃ B' : Bk, B'.At prog w P h ∧ B'.b = b ∧ B'.db = db ∧ B'.r = r ∧ B'.u = u ∧ B'.xs = xs := by
  obtain ⟨t1, t2, n, e⟩ := B.dict
  obtain ⟨o, e', x⟩ := B.rows
  exact ⟨⟨b, db, r, u, xs, t1, t2, n, o⟩, ⟨B, e, e', x⟩, rfl, rfl, rfl, rfl, rfl⟩
theorem Kp.exact {b db rt sl : Addr} {rs ss : List Row} (B : Kept prog w P h b db rt sl rs ss) : ∃ B' : Kp, B'.At prog w P h ∧ B'.b = b ∧ B'.db = db ∧ B'.rt = rt ∧ B'.sl = sl ∧ B'.rs = rs ∧ B'.ss = ss := by
  obtain ⟨t0, t1, t2, t3, n, e⟩ := B.dict
  obtain ⟨o, e', x⟩ := B.routes
  obtain ⟨o', e'', x'⟩ := B.stale
  exact ⟨⟨b, db, rt, sl, rs, ss, t0, t1, t2, t3, n, o, o'⟩, ⟨B, e, e', e'', x, x'⟩, rfl, rfl, rfl, rfl, rfl, rfl⟩

/-- the ledger of all four -/
theorem Four.core {l : List (Addr × Obj)} {Q : Addr × Obj → Prop} (A : Four prog w P h S) (x : ∀ a ∈ S.mut, ∀ o, h.get? a = some o → Q (a, o)) (hl : ∀ p ∈ l, Q p) : ∀ p ∈ S.core w l, Q p := by
  have x0 := fun a ha => x a (List.mem_append_left _ ha)
  have x' := fun a ha => x a (List.mem_append_right _ ha)
  have x1 := fun a ha => x' a (List.mem_append_left _ ha)
  have x'' := fun a ha => x' a (List.mem_append_right _ ha)
  have x2 := fun a ha => x'' a (List.mem_append_left _ ha)
  have x3 := fun a ha => x'' a (List.mem_append_right _ ha)
  refine all2 (x0 _ (.head _) _ A.a0.bk.inst) (all2 (x0 _ (.tail _ (.head _)) _ A.a0.d) (all2 (x0 _ (.tail _ (.tail _ (.head _))) _ A.a0.r) ?_))
  refine all2 (x1 _ (.head _) _ A.a1.bk.inst) (all2 (x1 _ (.tail _ (.head _)) _ A.a1.d) (all2 (x1 _ (.tail _ (.tail _ (.head _))) _ A.a1.r) ?_))
  refine all2 (x2 _ (.head _) _ A.a2.bk.inst) (all2 (x2 _ (.tail _ (.head _)) _ A.a2.d) (all2 (x2 _ (.tail _ (.tail _ (.head _))) _ A.a2.r) ?_))
  refine all2 (x3 _ (.head _) _ A.ak.kp.inst) (all2 (x3 _ (.tail _ (.head _)) _ A.ak.d) (all2 (x3 _ (.tail _ (.tail _ (.head _))) _ A.ak.r) (all2 (x3 _ (.tail _ (.tail _ (.tail _ (.head _)))) _ A.ak.s) ?_)))
  intro p hp
  rcases List.mem_append.mp hp with hp | hp
  · rcases List.mem_append.mp hp with hp | hp
    · obtain ⟨y, hy, rfl⟩ := List.mem_map.mp hp
      exact x0 _ (.tail _ (.tail _ (.tail _ (List.mem_map_of_mem (f := fun x : Row => x.l) hy)))) _ (A.a0.bk.row y hy)
    · rcases List.mem_append.mp hp with hp | hp
      · obtain ⟨y, hy, rfl⟩ := List.mem_map.mp hp
        exact x1 _ (.tail _ (.tail _ (.tail _ (List.mem_map_of_mem (f := fun x : Row => x.l) hy)))) _ (A.a1.bk.row y hy)
      · obtain ⟨y, hy, rfl⟩ := List.mem_map.mp hp
        exact x2 _ (.tail _ (.tail _ (.tail _ (List.mem_map_of_mem (f := fun x : Row => x.l) hy)))) _ (A.a2.bk.row y hy)
  · exact hl p hp
theorem St.core_tail {l : List (Addr × Obj)} {p : Addr × Obj} (S : St) (hp : p ∈ l) : p ∈ S.core w l :=
  .tail _ (.tail _ (.tail _ (.tail _ (.tail _ (.tail _ (.tail _ (.tail _ (.tail _ (.tail _ (.tail _ (.tail _ (.tail _ (List.mem_append_right _ hp)))))))))))))
/-- every mutable address of the four is in the ledger with the object that it has -/
theorem Four.inLed (A : Four prog w P h S) (l : List (Addr × Obj)) : ∀ a ∈ S.mut, ∃ o, h.get? a = some o ∧ (a, o) ∈ S.core w l := fun a ha => by
  have row : ∀ p ∈ S.rowsO, p ∈ S.core w l := fun p hp => .tail _ (.tail _ (.tail _ (.tail _ (.tail _ (.tail _ (.tail _ (.tail _ (.tail _ (.tail _ (.tail _ (.tail _ (.tail _ (List.mem_append_left _ hp)))))))))))))
  simp only [List.mem_append, List.mem_cons, List.mem_map, List.not_mem_nil, or_false] at ha
  rcases ha with (rfl | rfl | rfl | ⟨y, hy, rfl⟩) | (rfl | rfl | rfl | ⟨y, hy, rfl⟩) | (rfl | rfl | rfl | ⟨y, hy, rfl⟩) | (rfl | rfl | rfl | rfl)
  · exact ⟨_, A.a0.bk.inst, by repeat (first | exact .head _ | refine .tail _ ?_)⟩
  · exact ⟨_, A.a0.d, by repeat (first | exact .head _ | refine .tail _ ?_)⟩
  · exact ⟨_, A.a0.r, by repeat (first | exact .head _ | refine .tail _ ?_)⟩
  · exact ⟨_, A.a0.bk.row y hy, row (rowObj y) (List.mem_append_left _ (List.mem_map_of_mem hy))⟩
  · exact ⟨_, A.a1.bk.inst, by repeat (first | exact .head _ | refine .tail _ ?_)⟩
  · exact ⟨_, A.a1.d, by repeat (first | exact .head _ | refine .tail _ ?_)⟩
  · exact ⟨_, A.a1.r, by repeat (first | exact .head _ | refine .tail _ ?_)⟩
  · exact ⟨_, A.a1.bk.row y hy, row (rowObj y) (List.mem_append_right _ (List.mem_append_left _ (List.mem_map_of_mem hy)))⟩
  · exact ⟨_, A.a2.bk.inst, by repeat (first | exact .head _ | refine .tail _ ?_)⟩
  · exact ⟨_, A.a2.d, by repeat (first | exact .head _ | refine .tail _ ?_)⟩
  · exact ⟨_, A.a2.r, by repeat (first | exact .head _ | refine .tail _ ?_)⟩
  · exact ⟨_, A.a2.bk.row y hy, row (rowObj y) (List.mem_append_right _ (List.mem_append_right _ (List.mem_map_of_mem hy)))⟩
  · exact ⟨_, A.ak.kp.inst, by repeat (first | exact .head _ | refine .tail _ ?_)⟩
  · exact ⟨_, A.ak.d, by repeat (first | exact .head _ | refine .tail _ ?_)⟩
  · exact ⟨_, A.ak.r, by repeat (first | exact .head _ | refine .tail _ ?_)⟩
  · exact ⟨_, A.ak.s, by repeat (first | exact .head _ | refine .tail _ ?_)⟩
/-- Four at a later heap of the same frame: the mutable ones by the ledger, the hard ones by base or by the list hl -/
theorem Four.later {h₀ : Heap} {L : Addr} {m : Str → Option Value} {l hl : List (Addr × Obj)} (A : Four prog w P h S) (F : Fr h₀ L h' m) (N : News h₀ L h' (l ++ S.core w hl)) (hb : ∀ a ∈ S.hard, ∃ o, h.get? a = some o ∧ h'.get? a = some o) : Four prog w P h' S :=
  A.stay (fun a ha o e => by
    obtain ⟨o', e', m⟩ := A.inLed (w := w) hl a ha
    rw [e] at e'; cases e'
    exact (N _ (List.mem_append_right _ m)).1) fun a ha o e => by
    obtain ⟨o', e', e''⟩ := hb a ha
    rw [e] at e'; cases e'
    exact e''
theorem Four.next {h₀ : Heap} {L : Addr} {m : Str → Option Value} {l hl : List (Addr × Obj)} {S' : St} (A : Four prog w P h S) (F : Fr h₀ L h m) (N : News h₀ L h (l ++ S.core w hl)) (K : Keep S.mut h h') (A' : Four prog w P h' S') (f : New h S.mut S'.mut) (sep : ∀ p ∈ l ++ hl, p.1 ∉ S.mut) :
    Fr h₀ L h' m ∧ News h₀ L h' (l ++ S'.core w hl) ∧ ∀ p ∈ l ++ hl, p.1 ∉ S'.mut := by
  have out : ∀ a ∈ S.mut, a ≠ L ∧ h₀.get? a = none := fun a ha => by
    obtain ⟨o, _, m⟩ := A.inLed (w := w) hl a ha
    exact (N _ (List.mem_append_right _ m)).2
  have N1 : ∀ p ∈ l ++ hl, h.get? p.1 = some p.2 ∧ p.1 ≠ L ∧ h₀.get? p.1 = none := fun p hp => N p (by
    rcases List.mem_append.mp hp with hp | hp
    · exact List.mem_append_left _ hp
    · exact List.mem_append_right _ (S.core_tail hp))
  have N2 : ∀ p ∈ l ++ hl, h'.get? p.1 = some p.2 ∧ p.1 ≠ L ∧ h₀.get? p.1 = none := fun p hp => ⟨K _ _ (N1 p hp).1 (sep p hp), (N1 p hp).2⟩
  refine ⟨fr_keep F K (fun q => (out L q).1 rfl) fun a ha => (out a ha).2, fun p hp => ?_, fun p hp q => ?_⟩
  · rcases List.mem_append.mp hp with hp | hp
    · exact N2 p (List.mem_append_left _ hp)
    · exact A'.core (Q := fun p => h'.get? p.1 = some p.2 ∧ p.1 ≠ L ∧ h₀.get? p.1 = none) (fun a ha o e => ⟨e, by
        rcases f a ha with q | q
        · exact out a q
        · exact ⟨none_L F q, none_base F q⟩⟩) (fun p hp => N2 p (List.mem_append_right _ hp)) p hp
  · rcases f _ q with q' | q'
    · exact sep p hp q'
    · have := (N1 p hp).1
      rw [q'] at this; cases this
end
end Mine
end
section
theorem Mine.off_26 : True := by
  w_top off
  trivial
namespace Mine
open PySem PySem.W PySem.Calls PySem.Spec PyProof.Rows
noncomputable abbrev Cr := Nat × Int × Bool
noncomputable abbrev Row.core (x : Row) : Cr := (x.i, x.v, x.st)
noncomputable abbrev Row.iv (x : Row) : Nat × Int := (x.i, x.v)
noncomputable abbrev lowC (c : Cr) : Bool := decide (c.1 < 2)
noncomputable abbrev highC (c : Cr) : Bool := !decide (c.1 < 2)
noncomputable def findV (V : List Cr) (i : Nat) : Option Cr := V.find? fun c => c.1 == i
noncomputable def putV (V : List Cr) (i : Nat) (v : Int) : List Cr := if (findV V i).isSome then V.map fun c => if c.1 = i then (i, v, false) else c else V ++ [(i, v, false)]
noncomputable def dropV (V : List Cr) (i : Nat) : List Cr := V.filter fun c => !decide (c.1 = i)
noncomputable def keptV (V : List Cr) : List Cr := V.filter fun c => !c.2.2
noncomputable def markV (V : List Cr) : List Cr := (keptV V).map fun c => (c.1, c.2.1, true)
inductive Act where
  | clear
  | age
  | sweep
  | idle
noncomputable def goneR (a : Act) (xs : List Row) : List Row := match a with
  | .clear => sortBy (·.i) xs
  | .age => staleR xs
  | .sweep => staleR xs
  | .idle => []
noncomputable def restR (a : Act) (xs : List Row) : List Row := match a with
  | .clear => []
  | .age => (keptR xs).map Row.mark
  | .sweep => keptR xs
  | .idle => xs
noncomputable def goneV (a : Act) (V : List Cr) : List Nat := match a with
  | .clear => (sortBy (·.1) V).map (·.1)
  | .age => (sortBy (·.1) (V.filter (·.2.2))).map (·.1)
  | .sweep => (sortBy (·.1) (V.filter (·.2.2))).map (·.1)
  | .idle => []
noncomputable def restV (a : Act) (V : List Cr) : List Cr := match a with
  | .clear => []
  | .age => markV V
  | .sweep => keptV V
  | .idle => V

theorem findR_core (xs : List Row) (i : Nat) : findV (xs.map Row.core) i = (findR xs i).map Row.core := by
  unfold findV findR
  rw [List.find?_map]
  rfl
theorem putR_corev (xs : List Row) (i : Nat) (k l a : Addr) (v : Int) : (putR xs i k l a v).map Row.core = putV (xs.map Row.core) i v := by
  unfold putR putV
  rw [findR_core, Option.isSome_map]
  split
  · rw [List.map_map, List.map_map]
    refine List.map_congr_left fun x _ => ?_
    simp only [Function.comp, Row.core]
    by_cases q : x.i = i
    · rw [if_pos q, if_pos q]; simp [Row.fresh, q]
    · rw [if_neg q, if_neg q]
  · rw [List.map_append]; rfl
theorem dropR_core (xs : List Row) (i : Nat) : (dropR xs i).map Row.core = dropV (xs.map Row.core) i := by
  unfold dropR dropV; rw [List.filter_map]; rfl
theorem keptR_core (xs : List Row) : (keptR xs).map Row.core = keptV (xs.map Row.core) := by
  unfold keptV; rw [List.filter_map]; rfl
theorem restR_core (a : Act) (xs : List Row) : (restR a xs).map Row.core = restV a (xs.map Row.core) := by
  cases a with
  | clear => rfl
  | age =>
    show ((keptR xs).map Row.mark).map Row.core = markV _
    unfold markV
    rw [← keptR_core, List.map_map, List.map_map]; rfl
  | sweep => exact keptR_core xs
  | idle => rfl
theorem sortBy_filter {α : Type} (f : α → Nat) (p : α → Bool) (xs : List α) : (sortBy f xs).filter p = sortBy f (xs.filter p) := by
  rw [sortBy_four, sortBy_four]
  simp only [List.filter_append, List.filter_filter]
  congr 1
  · exact List.filter_congr fun x _ => Bool.and_comm _ _
  · congr 1
    · exact List.filter_congr fun x _ => Bool.and_comm _ _
    · congr 1
      · exact List.filter_congr fun x _ => Bool.and_comm _ _
      · exact List.filter_congr fun x _ => Bool.and_comm _ _
theorem sortBy_core (xs : List Row) : (sortBy (·.i) xs).map Row.core = sortBy (·.1) (xs.map Row.core) := by rw [sortBy_map]
theorem map_i (xs : List Row) : xs.map (·.i) = (xs.map Row.core).map (·.1) := by rw [List.map_map]; rfl
theorem goneR_core (a : Act) (xs : List Row) : (goneR a xs).map (·.i) = goneV a (xs.map Row.core) := by
  have st : (staleR xs).map (·.i) = (sortBy (·.1) ((xs.map Row.core).filter (·.2.2))).map (·.1) := by
    unfold staleR
    rw [sortBy_filter, map_i, sortBy_core, List.filter_map]; rfl
  cases a with
  | clear => show (sortBy (·.i) xs).map (·.i) = _; rw [map_i, sortBy_core]; rfl
  | age => exact st
  | sweep => exact st
  | idle => rfl
theorem sortBy_split (V : List Cr) : sortBy (·.1) (V.filter lowC) ++ sortBy (·.1) (V.filter highC) = sortBy (·.1) V := by
  rw [sortBy_four, sortBy_four, sortBy_four]
  simp only [List.filter_filter]
  have z : ∀ (p : Cr → Bool), (∀ c, p c = false) → V.filter p = [] := fun p hp => List.filter_eq_nil_iff.mpr fun c _ => by rw [hp c]; exact Bool.false_ne_true
  have l0 : V.filter (fun a => a.1 == 0 && lowC a) = V.filter (fun a => a.1 == 0) := List.filter_congr fun c _ => by
    by_cases q : c.1 = 0
    · simp [q]
    · simp [q]
  have l1 : V.filter (fun a => a.1 == 1 && lowC a) = V.filter (fun a => a.1 == 1) := List.filter_congr fun c _ => by
    by_cases q : c.1 = 1
    · simp [q]
    · simp [q]
  have l2 : V.filter (fun a => a.1 == 2 && lowC a) = [] := z _ fun c => by
    by_cases q : c.1 = 2
    · simp [q]
    · simp [q]
  have l3 : V.filter (fun a => a.1 == 3 && lowC a) = [] := z _ fun c => by
    by_cases q : c.1 = 3
    · simp [q]
    · simp [q]
  have h0 : V.filter (fun a => a.1 == 0 && highC a) = [] := z _ fun c => by
    by_cases q : c.1 = 0
    · simp [q]
    · simp [q]
  have h1 : V.filter (fun a => a.1 == 1 && highC a) = [] := z _ fun c => by
    by_cases q : c.1 = 1
    · simp [q]
    · simp [q]
  have h2 : V.filter (fun a => a.1 == 2 && highC a) = V.filter (fun a => a.1 == 2) := List.filter_congr fun c _ => by
    by_cases q : c.1 = 2
    · simp [q]
    · simp [q]
  have h3 : V.filter (fun a => a.1 == 3 && highC a) = V.filter (fun a => a.1 == 3) := List.filter_congr fun c _ => by
    by_cases q : c.1 = 3
    · simp [q]
    · simp [q]
  rw [l0, l1, l2, l3, h0, h1, h2, h3]
  simp
theorem filter_swap {α : Type} (p q : α → Bool) (V : List α) : (V.filter p).filter q = (V.filter q).filter p := by
  rw [List.filter_filter, List.filter_filter]
  exact List.filter_congr fun c _ => Bool.and_comm _ _
theorem goneV_split (a : Act) (V : List Cr) : goneV a (V.filter lowC) ++ goneV a (V.filter highC) = goneV a V := by
  have st : (sortBy (·.1) ((V.filter lowC).filter (·.2.2))).map (·.1) ++ (sortBy (·.1) ((V.filter highC).filter (·.2.2))).map (·.1) = (sortBy (·.1) (V.filter (·.2.2))).map (·.1) := by
    rw [← List.map_append, filter_swap, filter_swap (α := Cr) highC, sortBy_split]
  cases a with
  | clear => show List.map _ _ ++ List.map _ _ = List.map _ _; rw [← List.map_append, sortBy_split]
  | age => exact st
  | sweep => exact st
  | idle => rfl
theorem mark_filter (p : Nat → Bool) (V : List Cr) : markV (V.filter fun c => p c.1) = (markV V).filter fun c => p c.1 := by
  unfold markV keptV
  rw [filter_swap, List.filter_map]; rfl
theorem restV_filter (a : Act) (p : Nat → Bool) (V : List Cr) : restV a (V.filter fun c => p c.1) = (restV a V).filter fun c => p c.1 := by
  cases a with
  | clear => rfl
  | age => exact mark_filter p V
  | sweep => exact filter_swap _ _ V
  | idle => rfl
theorem findV_filter (p : Nat → Bool) (V : List Cr) (i : Nat) (h : p i = true) : findV (V.filter fun c => p c.1) i = findV V i := by
  unfold findV
  induction V with
  | nil => rfl
  | cons c r ih =>
    rw [List.filter_cons]
    by_cases q : c.1 = i
    · rw [q, h, if_pos rfl, List.find?_cons, List.find?_cons, q]; simp
    · have e : (c.1 == i) = false := beq_eq_false_iff_ne.mpr q
      split
      · rw [List.find?_cons, List.find?_cons, e]; exact ih
      · rw [List.find?_cons, e]; exact ih
theorem putV_filter (p : Nat → Bool) (V : List Cr) (i : Nat) (v : Int) (h : p i = true) : putV (V.filter fun c => p c.1) i v = (putV V i v).filter fun c => p c.1 := by
  unfold putV
  rw [findV_filter p V i h]
  split
  · rw [List.filter_map]
    congr 1
    refine List.filter_congr fun c _ => ?_
    simp only [Function.comp]
    split
    · rename_i q; rw [q]
    · rfl
  · rw [List.filter_append]
    congr 1
    simp [h]
theorem map_other (p : Nat → Bool) (i : Nat) (v : Int) (h : p i = false) : ∀ V : List Cr, List.filter (fun c => p c.1) (List.map (fun c : Cr => if c.1 = i then (i, v, false) else c) V) = List.filter (fun c => p c.1) V
  | [] => rfl
  | c :: r => by
    rw [List.map_cons, List.filter_cons, List.filter_cons, map_other p i v h r]
    by_cases q : c.1 = i
    · rw [if_pos q, q, h]; rfl
    · rw [if_neg q]
theorem putV_other (p : Nat → Bool) (V : List Cr) (i : Nat) (v : Int) (h : p i = false) : (putV V i v).filter (fun c => p c.1) = V.filter fun c => p c.1 := by
  unfold putV
  split
  · exact map_other p i v h V
  · rw [List.filter_append]; simp [h]
theorem dropV_filter (p : Nat → Bool) (V : List Cr) (i : Nat) : dropV (V.filter fun c => p c.1) i = (dropV V i).filter fun c => p c.1 := filter_swap _ _ V
theorem dropV_other (p : Nat → Bool) (V : List Cr) (i : Nat) (h : p i = false) : (dropV V i).filter (fun c => p c.1) = V.filter fun c => p c.1 := by
  unfold dropV
  rw [List.filter_filter]
  refine List.filter_congr fun c _ => ?_
  by_cases q : c.1 = i
  · rw [q, h]; rfl
  · simp [q]
noncomputable abbrev Cr.iv (c : Cr) : Nat × Int := (c.1, c.2.1)
theorem find_iv : ∀ (rs : List Row) (V : List Cr) (i : Nat), rs.map Row.iv = V.map Cr.iv → (findR rs i).map (·.v) = (findV V i).map (·.2.1)
  | [], [], _, _ => rfl
  | [], _ :: _, _, h => nomatch h
  | _ :: _, [], _, h => nomatch h
  | x :: r, c :: V, i, h => by
    rw [List.map_cons, List.map_cons] at h
    injection h with h1 h2
    have e1 : x.i = c.1 := congrArg Prod.fst h1
    have e2 : x.v = c.2.1 := congrArg Prod.snd h1
    unfold findR findV
    rw [List.find?_cons, List.find?_cons, e1]
    split
    · simp [e2]
    · exact find_iv r V i h2
theorem some_iv {α β : Type} {x : Option α} {y : Option β} {γ : Type} {f : α → γ} {g : β → γ} (h : x.map f = y.map g) : x.isSome = y.isSome := by
  have := congrArg Option.isSome h
  rw [Option.isSome_map, Option.isSome_map] at this; exact this
theorem putR_iv (rs : List Row) (V : List Cr) (i : Nat) (k l a : Addr) (v : Int) (h : rs.map Row.iv = V.map Cr.iv) : (putR rs i k l a v).map Row.iv = (putV V i v).map Cr.iv := by
  unfold putR putV
  rw [some_iv (find_iv rs V i h)]
  split
  · rw [List.map_map, List.map_map]
    have e1 : ∀ x : Row, (Row.iv ∘ fun x : Row => if x.i = i then x.fresh l a v else x) x = (fun p : Nat × Int => if p.1 = i then (p.1, v) else p) x.iv := fun x => by
      simp only [Function.comp]
      split
      · rename_i q; simp [Row.fresh, Row.iv, q]
      · rename_i q; simp [Row.iv, q]
    have e2 : ∀ x : Cr, (Cr.iv ∘ fun c : Cr => if c.1 = i then (i, v, false) else c) x = (fun p : Nat × Int => if p.1 = i then (p.1, v) else p) x.iv := fun x => by
      simp only [Function.comp]
      split
      · rename_i q; simp [Cr.iv, q]
      · rename_i q; simp [Cr.iv, q]
    rw [List.map_congr_left (fun x _ => e1 x), List.map_congr_left (fun x _ => e2 x)]
    have := congrArg (List.map fun p : Nat × Int => if p.1 = i then (p.1, v) else p) h
    rw [List.map_map, List.map_map] at this
    exact this
  · rw [List.map_append, List.map_append, h]; rfl
theorem map_fst_iv (rs : List Row) : rs.map (·.i) = (rs.map Row.iv).map (·.1) := by rw [List.map_map]; rfl
theorem map_fst_civ (V : List Cr) : V.map (·.1) = (V.map Cr.iv).map (·.1) := by rw [List.map_map]; rfl
theorem filter_iv (p : Nat × Int → Bool) {rs : List Row} {V : List Cr} (h : rs.map Row.iv = V.map Cr.iv) : (rs.filter fun x => p x.iv).map Row.iv = (V.filter fun c => p c.iv).map Cr.iv := by
  have := congrArg (List.filter p) h
  rw [List.filter_map, List.filter_map] at this
  exact this
theorem dropR_iv {rs : List Row} {V : List Cr} (i : Nat) (h : rs.map Row.iv = V.map Cr.iv) : (dropR rs i).map Row.iv = (dropV V i).map Cr.iv := filter_iv (fun p => !decide (p.1 = i)) h
noncomputable abbrev staleV (V : List Cr) : List Cr := V.filter (·.2.2)
theorem dropS_i {ss : List Row} {V : List Cr} (i : Nat) (h : ss.map (·.i) = (staleV V).map (·.1)) : (dropR ss i).map (·.i) = (staleV (dropV V i)).map (·.1) := by
  have := congrArg (List.filter fun j => !decide (j = i)) h
  rw [List.filter_map, List.filter_map] at this
  show _ = List.map _ ((dropV V i).filter _)
  unfold dropV
  rw [filter_swap]
  exact this
theorem putS_i (V : List Cr) (i : Nat) (v : Int) : (staleV (putV V i v)).map (·.1) = (staleV (dropV V i)).map (·.1) := by
  have e : ∀ W : List Cr, List.filter (fun c : Cr => c.2.2) (List.map (fun c : Cr => if c.1 = i then (i, v, false) else c) W) = List.filter (fun c : Cr => c.2.2) (W.filter fun c => !decide (c.1 = i)) := by
    intro W
    induction W with
    | nil => rfl
    | cons c r ih =>
      rw [List.map_cons, List.filter_cons, ih]
      by_cases q : c.1 = i
      · rw [if_pos q]; simp [q]
      · rw [if_neg q]; simp [q, List.filter_cons]
  show List.map _ (List.filter _ (putV V i v)) = List.map _ (List.filter _ (dropV V i))
  unfold putV dropV
  split
  · rw [e]
  · rename_i hn
    have : V.filter (fun c => !decide (c.1 = i)) = V := List.filter_eq_self.mpr fun c hc => by
      have hn' : findV V i = none := by simpa using hn
      have := List.find?_eq_none.mp hn' c hc
      simpa using this
    rw [this, List.filter_append]
    simp
theorem nodup_fst : ∀ {V : List Cr} {c d : Cr}, (V.map (·.1)).Nodup → d ∈ V → c ∈ V → d.1 = c.1 → d = c
  | [], _, _, _, h, _, _ => nomatch h
  | x :: r, c, d, hn, hd, hc, e => by
    rw [List.map_cons, List.nodup_cons] at hn
    rcases List.mem_cons.mp hc with rfl | hc'
    · rcases List.mem_cons.mp hd with rfl | hd'
      · rfl
      · exact absurd (List.mem_map_of_mem (f := fun c : Cr => c.1) hd') (by rw [e]; exact hn.1)
    · rcases List.mem_cons.mp hd with rfl | hd'
      · exact absurd (List.mem_map_of_mem (f := fun c : Cr => c.1) hc') (by rw [← e]; exact hn.1)
      · exact nodup_fst hn.2 hd' hc' e
/-- what is left of the routes when the stale ones go -/
theorem left_iv {rs ss : List Row} {V : List Cr} (h : rs.map Row.iv = V.map Cr.iv) (hs : ss.map (·.i) = (staleV V).map (·.1)) (hn : (V.map (·.1)).Nodup) : (leftR rs ss).map Row.iv = (keptV V).map Cr.iv := by
  have e1 : leftR rs ss = rs.filter fun x => (fun p : Nat × Int => !((staleV V).map (·.1)).any (· == p.1)) x.iv := by
    unfold leftR
    refine List.filter_congr fun x _ => ?_
    show _ = !(((staleV V).map (·.1)).any (· == x.i))
    rw [← hs, List.any_map]; rfl
  rw [e1]
  refine (filter_iv (fun p : Nat × Int => !((staleV V).map (·.1)).any (· == p.1)) h).trans ?_
  congr 1
  unfold keptV
  refine List.filter_congr fun c hc => ?_
  congr 1
  rw [Bool.eq_iff_iff, List.any_eq_true]
  constructor
  · rintro ⟨j, hj, e⟩
    obtain ⟨d, hd, rfl⟩ := List.mem_map.mp hj
    have e := beq_iff_eq.mp e
    obtain ⟨hd1, hd2⟩ := List.mem_filter.mp hd
    rw [← nodup_fst hn hd1 hc e]; exact hd2
  · intro q
    exact ⟨c.1, List.mem_map_of_mem (f := fun c : Cr => c.1) (List.mem_filter.mpr ⟨hc, q⟩), beq_iff_eq.mpr rfl⟩

structure Inv (prog : Program) (w : World) (P : Addr → Prop) (h : Heap) (S : St) (V : List Cr) (ou : Option Int) : Prop where
  four : Four prog w P h S
  c0 : S.w0.xs.map Row.core = V
  c1 : S.w1.xs.map Row.core = V.filter lowC
  c2 : S.w2.xs.map Row.core = V.filter highC
  cr : S.k.rs.map Row.iv = V.map Cr.iv
  cs : S.k.ss.map (·.i) = (staleV V).map (·.1)
  u0 : UV S.w0.u ou
  u1 : UV S.w1.u ou
  u2 : UV S.w2.u ou
end Mine
end
section
theorem Mine.off_27 : True := by
  w_top off
  trivial
namespace Mine
section
variable {prog : Program} {w : World} {A : Around} {s : Shared} {mean : ExcName → Option Value} {mg mb : Str → Option Value} {H₀ : Heap} {P : Addr → Prop} {R : Result → Shared → Prop}
noncomputable abbrev PH (H₀ : Heap) : Addr → Prop := fun a => H₀.get? a = none ∧ 1 < a
theorem Cx.of {h : Heap} {n : Nat} (B : Bs w mean mg mb H₀) (st : H₀.StaysIn h) (d : A.depth + n ≤ 900) (u : A.units + 10 * n ≤ 9000) (hh : A.handled = none) : Cx w mean mg mb H₀ (PH H₀) A h n where
  B := B
  st := st
  hP := fun a x => x
  hF := fun a e l => And.intro (by
    cases q : H₀.get? a with
    | none => rfl
    | some o => rw [st a o q] at e; cases e) l
  dep := d
  uni := u
  hh := hh
theorem Cx.to {h h' : Heap} {A' : Around} {n k : Nat} (C : Cx w mean mg mb H₀ (PH H₀) A h n) (st : H₀.StaysIn h') (d : A'.depth + k ≤ A.depth + n) (u : A'.units + 10 * k ≤ A.units + 10 * n) (hh : A'.handled = none) : Cx w mean mg mb H₀ (PH H₀) A' h' k :=
  Cx.of C.B st (Nat.le_trans d C.dep) (Nat.le_trans u C.uni) hh
theorem Cx.dp {g h' : Heap} {L : Addr} {m : Str → Option Value} {k n : Nat} {env : Env} (B : Bs w mean mg mb H₀) (SG : H₀.StaysIn g) (d : A.depth + n ≤ 900) (u : A.units + 10 * n ≤ 9000) (hh : A.handled = none) (hk : k + 1 ≤ n) (F : Fr g L h' m) : Cx w mean mg mb H₀ (PH H₀) (A.deeper env) h' k :=
  Cx.of B (fun b o e => F.keep b o (SG b o e)) (by simp only [depth_deeper]; omega) (by simp only [Around.deeper_units]; omega) hh
theorem Cx.dt {g h h' : Heap} {L : Addr} {m : Str → Option Value} {k n : Nat} {env : Env} (C : Cx w mean mg mb H₀ (PH H₀) A h n) (SG : H₀.StaysIn g) (hk : k + 1 ≤ n) (F : Fr g L h' m) : Cx w mean mg mb H₀ (PH H₀) (A.deeper env) h' k :=
  Cx.dp C.B SG C.dep C.uni C.hh hk F
inductive Done (prog : Program) (w : World) (P : Addr → Prop) (h h' : Heap) (b db r : Addr) (xs gone xs' : List Row) (ou' : Option Int) (z : Addr) : Prop
  | mk (r' : Addr) (u' : Value) (c : Nat) (k : Keep (db :: r :: xs.map (·.l)) h h') (z0 : h.get? z = none) (ez : h'.get? z = some (W.listOf (keysR gone).toArray c)) (uu : UV u' ou') (B : Book prog w P h' b db r' u' xs') (rr : r' = r ∨ h.get? r' = none)
theorem Did.done {h h' : Heap} {b db r : Addr} {xs gone xs' : List Row} {ou' : Option Int} {z : Addr} (D : Did prog w P h h' b db r xs gone xs' ou' z) : Done prog w P h h' b db r xs gone xs' ou' z :=
  let ⟨r', u', c, k, _, z0, ez, uu, B, rr⟩ := D; ⟨r', u', c, k, z0, ez, uu, B, rr⟩
theorem Done.from {h₀ h h' : Heap} {b db r : Addr} {xs gone xs' : List Row} {ou' : Option Int} {z : Addr} (K0 : Keep [] h₀ h) (D : Done prog w P h h' b db r xs gone xs' ou' z) : Done prog w P h₀ h' b db r xs gone xs' ou' z :=
  let G : Grow h₀ h := Grow.keep K0 fun _ h => nomatch h
  D.casesOn fun r' u' c k z0 ez uu B rr => ⟨r', u', c, (K0.more (fun _ h => nomatch h)).trans k, G _ z0, ez, uu, B, rr.imp id (G _)⟩

inductive Deed where
  | lost (td : Option (Int × Value))
  | back (td : Option (Int × Value)) (wt : Int)
  | tick
  | fin
noncomputable def tdOk (td : Option (Int × Value)) : Prop := td = none ∨ ∃ k, td = some (k, .none) ∨ ∃ bb, td = some (k, .bool bb)
noncomputable def Deed.ok : Deed → Prop
  | .lost td => tdOk td
  | .back td _ => tdOk td
  | .tick => True
  | .fin => True
noncomputable def Deed.act (d : Deed) (ou : Option Int) (now : Int) : Act × Option Int := match d with
  | .lost none => (.clear, none)
  | .lost (some (_, .none)) => (.clear, none)
  | .lost (some (k, _)) => (.age, some (now + k))
  | .back (some (_, .bool true)) wt => (.idle, ou.map fun _ => now + wt)
  | .back _ _ => (.sweep, none)
  | .tick => match ou with
    | some k => if k ≤ now then (.sweep, none) else (.idle, ou)
    | none => (.idle, none)
  | .fin => (.sweep, none)
noncomputable def Deed.word : Deed → Str
  | .lost _ => Str.ofString "lost"
  | .back _ _ => Str.ofString "back"
  | .tick => Str.ofString "tick"
  | .fin => Str.ofString "end"
noncomputable def Deed.told (d : Deed) (h : Heap) (v : Value) : Prop := match d with
  | .lost td => Told h v td
  | .back td _ => Told h v td
  | .tick => v = .none
  | .fin => v = .none
noncomputable def Deed.wait (d : Deed) (z : Int) : Prop := match d with
  | .back _ wt => z = wt
  | _ => True

theorem lost_none_done {b db r : Nat} {u : Value} {nw : Int} {tn : Tok} {xs : List Row} {v : Value} {td : Option (Int × Value)} (C : Cx w mean mg mb H₀ P A s.heap 1) (B : Book prog w P s.heap b db r u xs) (hT : Told s.heap v td) (htd : td.elim True fun x => x.2 = .none)
    (hR : ∀ h' t z, Done prog w P s.heap h' b db r xs (sortBy (·.i) xs) [] none z → R (.ok (.ret (.ref z))) { s with heap := h', toks := t }) :
    codeAny (model prog w) A (.call (.ref 61) ⟨[.ref b, .int nw tn, v], []⟩) R s :=
  sl_none_ct C B hT htd fun h' t z c r' K hz ez hr' B' => hR h' t z ⟨r', .none, c, K.more (by simp), hz, ez, rfl, B', .inr hr'⟩
theorem lost_done {b db r : Nat} {u : Value} {nw : Int} {tn : Tok} {xs : List Row} {v : Value} {k : Int} {bb : Bool} (C : Cx w mean mg mb H₀ P A s.heap 3) (B : Book prog w P s.heap b db r u xs) (hT : Told s.heap v (some (k, .bool bb)))
    (hR : ∀ h' t z, Done prog w P s.heap h' b db r xs (staleR xs) ((keptR xs).map Row.mark) (some (nw + k)) z → R (.ok (.ret (.ref z))) { s with heap := h', toks := t }) :
    codeAny (model prog w) A (.call (.ref 61) ⟨[.ref b, .int nw tn, v], []⟩) R s :=
  sl_ct C B hT fun h' t z c tu K hz ez B' => hR h' t z ⟨r, _, c, K, hz, ez, ⟨tu, rfl⟩, B', .inl rfl⟩

theorem gone_ct {b db r : Nat} {u : Value} {ou : Option Int} {nw wt : Int} {tn tw t0 : Tok} {xs : List Row} {v : Value} {d : Deed} (C : Cx w mean mg mb H₀ (PH H₀) A s.heap 4) (B : Book prog w (PH H₀) s.heap b db r u xs) (hu : UV u ou) (hd : d.ok) (hT : d.told s.heap v) (hw : d.wait wt)
    (hR : ∀ h' t z, Done prog w (PH H₀) s.heap h' b db r xs (goneR (d.act ou nw).1 xs) (restR (d.act ou nw).1 xs) (d.act ou nw).2 z → R (.ok (.ret (.ref z))) { s with heap := h', toks := t }) :
    codeAny (model prog w) A (.call (.ref 174) ⟨[.ref b, .str d.word t0, .int nw tn, v, .int wt tw], []⟩) R s := by
  obtain ⟨t1, t2, n, hdb⟩ := B.dict
  have hA := C.dep
  have hU := C.uni
  refine' enter (mo := []) C.B.X C.B.T C.st ?m ?ho ?hcd ?room ?bind ?loc ?_ ?c1 ?c2 ?c3 ?c4
  case ho => k_is
  case hcd => k_is
  case bind => exact BindsTo.of_eq rfl
  case loc => exact locs rfl
  case c1 => exact rfl
  case c2 => exact rfl
  case c3 => exact rfl
  case c4 => decide
  case room => show _ < 1000; k_extra "own a"
  case m => exact fun _ h => nomatch h
  intro g L h₁ KG eL F N X T SG
  dsimp only
  have hb : g.get? b = some (instObj 85 db) := KG _ _ B.inst (by simp)
  have hd' : g.get? db = some (dictOf (bkD w t1 t2 r u) n) := KG _ _ hdb (by simp)
  have KT : ∀ {td}, Told s.heap v td → Told g v td := fun x => x.keep fun a o e c => KG a o e (by simp)
  cases d with
  | lost td =>
    have hTg : Told g v td := KT hT
    rcases hd with rfl | ⟨k, rfl | ⟨bb, rfl⟩⟩
    · dsimp only [Deed.word] at F
      k_steps
      (with_reducible rename Fr _ _ _ _ => F)
      have K0 := keep_end (mo := []) KG F
      refine' wpAny_call (lost_none_done (td := none) (C.to (fun b o e => F.keep b o (SG b o e)) ?d ?u C.hh) (B.at K0) (hTg.keep fun a o e _ => F.keep a o e) trivial ?rest)
      case d => simp only [depth_deeper]; k_extra "own a"
      case u => simp only [Around.deeper_units]; k_extra "own a"
      case rest =>
        intro h' t z D
        k_steps
        exact hR _ _ z (D.from K0)
    · dsimp only [Deed.word] at F
      k_steps
      (with_reducible rename Fr _ _ _ _ => F)
      have K0 := keep_end (mo := []) KG F
      refine' wpAny_call (lost_none_done (td := some (k, .none)) (C.to (fun b o e => F.keep b o (SG b o e)) ?d ?u C.hh) (B.at K0) (hTg.keep fun a o e _ => F.keep a o e) rfl ?rest)
      case d => simp only [depth_deeper]; k_extra "own a"
      case u => simp only [Around.deeper_units]; k_extra "own a"
      case rest =>
        intro h' t z D
        k_steps
        exact hR _ _ z (D.from K0)
    · dsimp only [Deed.word] at F
      k_steps
      (with_reducible rename Fr _ _ _ _ => F)
      have K0 := keep_end (mo := []) KG F
      refine' wpAny_call (lost_done (C.to (fun b o e => F.keep b o (SG b o e)) ?d ?u C.hh) (B.at K0) (hTg.keep fun a o e _ => F.keep a o e) ?rest)
      case d => simp only [depth_deeper]; k_extra "own a"
      case u => simp only [Around.deeper_units]; k_extra "own a"
      case rest =>
        intro h' t z D
        k_steps
        exact hR _ _ z (D.from K0)
  | back td wt' =>
    have hTg : Told g v td := KT hT
    have hwt : wt = wt' := hw
    subst hwt
    dsimp only [Deed.word] at F
    k_steps
    (with_reducible rename Fr _ _ _ _ => F)
    have K0 := keep_end (mo := []) KG F
    refine' wpAny_call (sb_ct (C.to (fun b o e => F.keep b o (SG b o e)) ?d ?u C.hh) (B.at K0) hu (hTg.keep fun a o e _ => F.keep a o e) hd ?rest)
    case d => simp only [depth_deeper]; k_extra "own a"
    case u => simp only [Around.deeper_units]; k_extra "own a"
    case rest =>
      intro h' t z D1 D2
      k_steps
      refine hR _ _ z (Done.from K0 ?_)
      rcases hd with rfl | ⟨k, rfl | ⟨bb, rfl⟩⟩
      · exact (D1 fun k e => nomatch e).done
      · exact (D1 fun k e => by cases e).done
      · cases bb with
        | false => exact (D1 fun k e => by cases e).done
        | true => exact (D2 ⟨k, rfl⟩).done
  | tick =>
    dsimp only [Deed.word] at F
    k_steps
    (with_reducible rename Fr _ _ _ _ => F)
    have K0 := keep_end (mo := []) KG F
    refine' wpAny_call (tick_ct (C.to (fun b o e => F.keep b o (SG b o e)) ?d ?u C.hh) (B.at K0) hu ?rest)
    case d => simp only [depth_deeper]; k_extra "own a"
    case u => simp only [Around.deeper_units]; k_extra "own a"
    case rest =>
      intro h' t z D1 D2
      k_steps
      refine hR _ _ z (Done.from K0 ?_)
      cases ou with
      | none => exact (D2 fun k e => nomatch e).done
      | some k =>
        by_cases q : k ≤ nw
        · have : Deed.act .tick (some k) nw = (.sweep, none) := if_pos q
          rw [this]
          exact (D1 k rfl q).done
        · have : Deed.act .tick (some k) nw = (.idle, some k) := if_neg q
          rw [this]
          exact (D2 fun k' e => by cases e; omega).done
  | fin =>
    dsimp only [Deed.word] at F
    k_steps
    (with_reducible rename Fr _ _ _ _ => F)
    have K0 := keep_end (mo := []) KG F
    refine' wpAny_call (eot_ct (C.to (fun b o e => F.keep b o (SG b o e)) ?d ?u C.hh) (B.at K0) ?rest)
    case d => simp only [depth_deeper]; k_extra "own a"
    case u => simp only [Around.deeper_units]; k_extra "own a"
    case rest =>
      intro h' t z D
      k_steps
      exact hR _ _ z (D.done.from K0)
end
end Mine
end
section
theorem Mine.off_28 : True := by
  w_top off
  trivial
namespace Mine
section
variable {prog : Program} {w : World} {A : Around} {s : Shared} {mean : ExcName → Option Value} {mg mb : Str → Option Value} {H₀ : Heap} {P : Addr → Prop} {R : Result → Shared → Prop}
noncomputable def goneK (a : Act) (rs ss : List Row) : List Row := match a with
  | .clear => sortBy (·.i) rs
  | .age => sortBy (·.i) ss
  | .sweep => sortBy (·.i) ss
  | .idle => []
noncomputable def restK (a : Act) (rs ss : List Row) : List Row × List Row := match a with
  | .clear => ([], [])
  | .age => (leftR rs ss, leftR rs ss)
  | .sweep => (leftR rs ss, [])
  | .idle => (rs, ss)
inductive DoneK (prog : Program) (w : World) (P : Addr → Prop) (h h' : Heap) (b db rt sl : Addr) (rs ss : List Row) (a : Act) (z : Addr) : Prop
  | mk (rt' sl' : Addr) (c : Nat) (k : Keep [db, rt] h h') (z0 : h.get? z = none) (ez : h'.get? z = some (W.listOf (keysR (goneK a rs ss)).toArray c)) (B : Kept prog w P h' b db rt' sl' (restK a rs ss).1 (restK a rs ss).2) (r1 : rt' = rt ∨ h.get? rt' = none) (r2 : sl' = sl ∨ h.get? sl' = none)
theorem DoneK.from {h₀ h h' : Heap} {b db rt sl : Addr} {rs ss : List Row} {a : Act} {z : Addr} (K0 : Keep [] h₀ h) (D : DoneK prog w P h h' b db rt sl rs ss a z) : DoneK prog w P h₀ h' b db rt sl rs ss a z :=
  let G : Grow h₀ h := Grow.keep K0 fun _ h => nomatch h
  D.casesOn fun rt' sl' c k z0 ez B rr sr => ⟨rt', sl', c, (K0.more (fun _ h => nomatch h)).trans k, G _ z0, ez, B, rr.imp id (G _), sr.imp id (G _)⟩
theorem Kept.at {h h' : Heap} {b db rt sl : Addr} {rs ss : List Row} (B : Kept prog w P h b db rt sl rs ss) (K : Keep [] h h') : Kept prog w P h' b db rt sl rs ss :=
  B.stay (fun a _ o e => K a o e (by simp)) (fun a _ o e => K a o e (by simp))
noncomputable def overD (ou : Option Int) (nw : Int) : Bool := match ou with
  | some k => decide (k ≤ nw)
  | none => false

theorem swept_ct {b db rt sl : Nat} {ou : Option Int} {nw : Int} {t0 : Tok} {rs ss : List Row} {v : Value} {d : Deed} (C : Cx w mean mg mb H₀ (PH H₀) A s.heap 3) (B : Kept prog w (PH H₀) s.heap b db rt sl rs ss) (hsub : ∀ y ∈ ss, ∃ x ∈ rs, x.i = y.i) (hd : d.ok) (hT : d.told s.heap v)
    (hR : ∀ h' t z, DoneK prog w (PH H₀) s.heap h' b db rt sl rs ss (d.act ou nw).1 z → R (.ok (.ret (.ref z))) { s with heap := h', toks := t }) :
    codeAny (model prog w) A (.call (.ref 181) ⟨[.ref b, .str d.word t0, v, .bool (overD ou nw)], []⟩) R s := by
  obtain ⟨q0, q1, q2, q3, n, hdb⟩ := B.dict
  have hA := C.dep
  have hU := C.uni
  refine' enter (mo := []) C.B.X C.B.T C.st ?m ?ho ?hcd ?room ?bind ?loc ?_ ?c1 ?c2 ?c3 ?c4
  case ho => k_is
  case hcd => k_is
  case bind => exact BindsTo.of_eq rfl
  case loc => exact locs rfl
  case c1 => exact rfl
  case c2 => exact rfl
  case c3 => exact rfl
  case c4 => decide
  case room => show _ < 1000; k_extra "own a"
  case m => exact fun _ h => nomatch h
  intro g L h₁ KG eL F N X T SG
  dsimp only
  have hb : g.get? b = some (instObj 142 db) := KG _ _ B.inst (by simp)
  have hd' : g.get? db = some (dictOf (akD w q0 q1 q2 q3 rt sl) n) := KG _ _ hdb (by simp)
  have KT : ∀ {td}, Told s.heap v td → Told g v td := fun x => x.keep fun a o e c => KG a o e (by simp)
  have CT : ∀ {h' : Heap} {k : Nat} {m : Str → Option Value} {env : Env}, k ≤ 2 → Fr g L h' m → Cx w mean mg mb H₀ (PH H₀) (A.deeper env) h' k := fun hk F => C.dt SG (Nat.succ_le_succ hk) F
  cases d with
  | lost td =>
    have hTg : Told g v td := KT hT
    dsimp only [Deed.word] at F
    rcases hd with rfl | ⟨k, rfl | ⟨bb, rfl⟩⟩
    · cases hTg
      k_steps
      (with_reducible rename Fr _ _ _ _ => F)
      have K0 := keep_end (mo := []) KG F
      refine' wpAny_call (clear_ct (CT (by decide) F) (B.at K0) ?rest)
      case rest =>
        intro h' t z c rt' sl' K G hz ez B' e1 e2
        k_steps
        exact hR _ _ z (DoneK.from K0 ⟨rt', sl', c, K.more (by simp), hz, ez, B', .inr e1, .inr e2⟩)
    · cases hTg with
      | yes hp =>
      k_steps
      (with_reducible rename Fr _ _ _ _ => F)
      have K0 := keep_end (mo := []) KG F
      refine' wpAny_call (clear_ct (CT (by decide) F) (B.at K0) ?rest)
      case rest =>
        intro h' t z c rt' sl' K G hz ez B' e1 e2
        k_steps
        exact hR _ _ z (DoneK.from K0 ⟨rt', sl', c, K.more (by simp), hz, ez, B', .inr e1, .inr e2⟩)
    · cases hTg with
      | yes hp =>
      k_steps
      (with_reducible rename Fr _ _ _ _ => F)
      have K0 := keep_end (mo := []) KG F
      refine' wpAny_call (age_ct (CT (by decide) F) (B.at K0) hsub ?rest)
      case rest =>
        intro h' t z c sl' K G hz ez B' e1
        k_steps
        exact hR _ _ z (DoneK.from K0 ⟨rt, sl', c, K, hz, ez, B', .inl rfl, .inr e1⟩)
  | back td wt =>
    have hTg : Told g v td := KT hT
    dsimp only [Deed.word] at F
    have go : ∀ (h₂ : Heap) (tk : Nat) (m : Str → Option Value) (Q : Value → Shared → Prop) (E : Value → Shared → Prop) (env : Env), Fr g L h₂ m → (∀ h' t z, DoneK prog w (PH H₀) s.heap h' b db rt sl rs ss .sweep z → Q (.ref z) { s with heap := h', toks := t }) → wpAny (model prog w) (A.deeper env) (call (.ref 139) [.ref b]) Q E { s with heap := h₂, toks := tk } := fun h₂ tk m Q E env F hq => by
      have K0 := keep_end (mo := []) KG F
      refine wpAny_call (sweep_ct (CT (by decide) F) (B.at K0) hsub fun h' t z c sl' K G hz ez B' e1 => ?_)
      exact hq _ _ z (DoneK.from K0 ⟨rt, sl', c, K, hz, ez, B', .inl rfl, .inr e1⟩)
    rcases hd with rfl | ⟨k, rfl | ⟨bb, rfl⟩⟩
    · cases hTg
      k_steps
      (with_reducible rename Fr _ _ _ _ => F)
      refine' go _ _ _ _ _ _ F ?rest
      case rest =>
        intro h' t z D
        k_steps
        exact hR _ _ z D
    · cases hTg with
      | yes hp =>
      k_steps
      (with_reducible rename Fr _ _ _ _ => F)
      refine' go _ _ _ _ _ _ F ?rest
      case rest =>
        intro h' t z D
        k_steps
        exact hR _ _ z D
    · cases hTg with
      | yes hp =>
      cases bb with
      | false =>
        k_steps
        (with_reducible rename Fr _ _ _ _ => F)
        refine' go _ _ _ _ _ _ F ?rest
        case rest =>
          intro h' t z D
          k_steps
          exact hR _ _ z D
      | true =>
        k_steps
        (with_reducible rename Fr _ _ _ _ => F)
        (with_reducible rename News _ _ _ _ => N)
        have K0 := keep_end (mo := []) KG F
        have G0 : Grow s.heap _ := Grow.keep K0 fun _ h => nomatch h
        have m := N _ (.head _)
        exact hR _ _ _ ⟨rt, sl, _, K0.more (by simp), keep_none (mo := []) KG m.2.2 (fun _ h => nomatch h), m.1, B.at K0, .inl rfl, .inl rfl⟩
  | tick =>
    dsimp only [Deed.word] at F
    cases ho : overD ou nw with
    | true =>
      rw [ho] at F
      k_steps
      (with_reducible rename Fr _ _ _ _ => F)
      have K0 := keep_end (mo := []) KG F
      refine' wpAny_call (sweep_ct (CT (by decide) F) (B.at K0) hsub ?rest)
      case rest =>
        intro h' t z c sl' K G hz ez B' e1
        k_steps
        have : Deed.act .tick ou nw = (.sweep, none) := by
          cases ou with
          | none => cases ho
          | some k => exact if_pos (of_decide_eq_true ho)
        rw [this] at hR
        exact hR _ _ z (DoneK.from K0 ⟨rt, sl', c, K, hz, ez, B', .inl rfl, .inr e1⟩)
    | false =>
      rw [ho] at F
      k_steps
      (with_reducible rename Fr _ _ _ _ => F)
      (with_reducible rename News _ _ _ _ => N)
      have K0 := keep_end (mo := []) KG F
      have m := N _ (.head _)
      have : (Deed.act .tick ou nw).1 = .idle := by
        cases ou with
        | none => rfl
        | some k =>
          have : Deed.act .tick (some k) nw = (.idle, some k) := if_neg (of_decide_eq_false ho)
          rw [this]
      rw [this] at hR
      exact hR _ _ _ ⟨rt, sl, _, K0.more (by simp), keep_none (mo := []) KG m.2.2 (fun _ h => nomatch h), m.1, B.at K0, .inl rfl, .inl rfl⟩
  | fin =>
    dsimp only [Deed.word] at F
    k_steps
    (with_reducible rename Fr _ _ _ _ => F)
    have K0 := keep_end (mo := []) KG F
    refine' wpAny_call (sweep_ct (CT (by decide) F) (B.at K0) hsub ?rest)
    case rest =>
      intro h' t z c sl' K G hz ez B' e1
      k_steps
      exact hR _ _ z (DoneK.from K0 ⟨rt, sl', c, K, hz, ez, B', .inl rfl, .inr e1⟩)
end
end Mine
end
section
theorem Mine.off_29 : True := by
  w_top off
  trivial
namespace Mine
section
variable {prog : Program} {w : World} {A : Around} {s : Shared} {mean : ExcName → Option Value} {mg mb : Str → Option Value} {H₀ : Heap} {P : Addr → Prop} {R : Result → Shared → Prop} {E : Value → Shared → Prop} {h h' g : Heap} {L : Addr} {m : Str → Option Value} {S : St} {l hl : List (Addr × Obj)}
inductive KeysAre (prog : Program) (w : World) (h : Heap) : List Value → List Nat → Prop where
  | nil : KeysAre prog w h [] []
  | cons {a : Addr} {i : Nat} {vs : List Value} {is : List Nat} : KeyAt prog w h (Pk i) a → KeysAre prog w h vs is → KeysAre prog w h (.ref a :: vs) (i :: is)
theorem KeysAre.keep {vs : List Value} {is : List Nat} (x : KeysAre prog w h vs is) (k : ∀ {j : Nat} {a : Addr}, KeyAt prog w h (Pk j) a → KeyAt prog w h' (Pk j) a) : KeysAre prog w h' vs is := by
  induction x with
  | nil => exact .nil
  | cons y _ ih => exact .cons (k y) ih
theorem KeysAre.append {vs vs' : List Value} {is is' : List Nat} (x : KeysAre prog w h vs is) (y : KeysAre prog w h vs' is') : KeysAre prog w h (vs ++ vs') (is ++ is') := by
  induction x with
  | nil => exact y
  | cons k _ ih => exact .cons k ih
theorem KeysAre.of_rows : ∀ {xs : List Row}, (∀ x ∈ xs, KeyAt prog w h (Pk x.i) x.k) → KeysAre prog w h (keysR xs) (xs.map (·.i))
  | [], _ => .nil
  | x :: r, hk => .cons (hk x (.head _)) (KeysAre.of_rows fun y hy => hk y (.tail _ hy))
theorem KeysAre.len {vs : List Value} {is : List Nat} (x : KeysAre prog w h vs is) : vs.length = is.length := by
  induction x with
  | nil => rfl
  | cons _ _ ih => simp [ih]
theorem key_eqAt {i : Nat} {a b : Addr} (x : KeyAt prog w s.heap (Pk i) a) (y : KeyAt prog w s.heap (Pk i) b) (hu : A.units < cLine) : SeqAt.EqAt A s (.ref a) (.ref b) true := by
  by_cases e : a = b
  · rw [e]; exact SeqAt.EqAt.same _
  · obtain ⟨o, n, t, u, ho, hc, hd⟩ := key_seq x
    obtain ⟨o', n', t', u', ho', hc', hd'⟩ := key_seq y
    have := SeqAt.RcAt.tuples (A := A) (s := s) (e := fun _ => true) (l := a) (b := b) (items := #[.int (4 * (i : Int)) t, .int 2 u]) (items2 := #[.int (4 * (i : Int)) t', .int 2 u']) ⟨o, ho, hc, n, hd⟩ ⟨o', ho', hc', n', hd'⟩ hu fun j h1 h2 => by
      have h1' : j < 2 := h1
      rcases lt_two h1' with rfl | rfl
      · have := SeqAt.EqAt.int_int (A := A.in1) (s := s) (4 * (i : Int)) t (4 * (i : Int)) t'
        rw [beq_self_eq_true] at this
        exact this
      · exact SeqAt.EqAt.int_int (A := A.in1) (s := s) 2 u 2 u'
    exact SeqAt.EqAt.of_refs e this
theorem KeysAre.eqAt {vs vs' : List Value} {is : List Nat} (x : KeysAre prog w s.heap vs is) (hu : A.units < cLine) : KeysAre prog w s.heap vs' is → ∀ j (h1 : j < vs.length) (h2 : j < vs'.length), SeqAt.EqAt A s vs[j] vs'[j] true := by
  induction x generalizing vs' with
  | nil => exact fun _ j h1 => absurd h1 (Nat.not_lt_zero _)
  | cons k _ ih =>
    intro y
    cases y with
    | cons k' y' =>
      intro j h1 h2
      cases j with
      | zero => exact key_eqAt k k' hu
      | succ j => exact ih y' j (Nat.lt_of_succ_lt_succ h1) (Nat.lt_of_succ_lt_succ h2)
theorem all_true (n : Nat) : (List.range n).all (fun _ => true) = true := by simp
theorem keys_eq {l1 l2 : Addr} {vs vs' : List Value} {is : List Nat} {Q : Value → Shared → Prop} (e1 : s.heap.IsList l1 vs.toArray) (e2 : s.heap.IsList l2 vs'.toArray) (x : KeysAre prog w s.heap vs is) (y : KeysAre prog w s.heap vs' is) (hu : A.units + 1 < 9900) (hQ : Q (.bool true) s) :
    wpAny (model prog w) A (compareOp .Eq (.ref l1) (.ref l2)) Q E s :=
  SeqAt.eq_listAt (e := fun _ => true) e1 e2 (by simp [x.len, y.len]) (by show _ < 9900; omega) (fun j h1 h2 => by
    have := x.eqAt (A := A.in1) (by show _ < 9900; simp only [Around.in1_units]; k_extra "own a") y j (by simpa using h1) (by simpa using h2)
    simpa using this) (by rw [all_true]; exact hQ)
theorem keys_ne {l1 l2 : Addr} {vs vs' : List Value} {is : List Nat} {Q : Value → Shared → Prop} (e1 : s.heap.IsList l1 vs.toArray) (e2 : s.heap.IsList l2 vs'.toArray) (x : KeysAre prog w s.heap vs is) (y : KeysAre prog w s.heap vs' is) (hu : A.units + 1 < 9900) (hQ : Q (.bool false) s) :
    wpAny (model prog w) A (compareOp .NotEq (.ref l1) (.ref l2)) Q E s := by
  have := SeqAt.RcNeAt.lists (A := A) (e := fun _ => true) e1 e2 (by simp [x.len, y.len]) (by show _ < 9900; omega) (fun j h1 h2 => by
    have := x.eqAt (A := A.in1) (by show _ < 9900; simp only [Around.in1_units]; k_extra "own a") y j (by simpa using h1) (by simpa using h2)
    simpa using this)
  rw [all_true] at this
  exact this prog w E Q hQ

theorem core_mem {l : List (Addr × Obj)} {p : Addr × Obj} (hp : p ∈ S.core w l) : p.1 ∈ S.mut ∨ p ∈ l := by
  simp only [List.mem_cons, List.mem_append, List.mem_map] at hp
  have z : ∀ {a : Addr}, (a ∈ S.w0.mut ∨ a ∈ S.w1.mut ∨ a ∈ S.w2.mut ∨ a ∈ S.k.mut) → a ∈ S.mut := fun x => by simp only [List.mem_append]; exact x
  rcases hp with rfl | rfl | rfl | rfl | rfl | rfl | rfl | rfl | rfl | rfl | rfl | rfl | rfl | ((⟨y, hy, rfl⟩ | ⟨y, hy, rfl⟩ | ⟨y, hy, rfl⟩) | hp)
  · exact .inl (z (.inl (by simp)))
  · exact .inl (z (.inl (by simp)))
  · exact .inl (z (.inl (by simp)))
  · exact .inl (z (.inr (.inl (by simp))))
  · exact .inl (z (.inr (.inl (by simp))))
  · exact .inl (z (.inr (.inl (by simp))))
  · exact .inl (z (.inr (.inr (.inl (by simp)))))
  · exact .inl (z (.inr (.inr (.inl (by simp)))))
  · exact .inl (z (.inr (.inr (.inl (by simp)))))
  · exact .inl (z (.inr (.inr (.inr (by simp)))))
  · exact .inl (z (.inr (.inr (.inr (by simp)))))
  · exact .inl (z (.inr (.inr (.inr (by simp)))))
  · exact .inl (z (.inr (.inr (.inr (by simp)))))
  · exact .inl (z (.inl (.tail _ (.tail _ (.tail _ (List.mem_map_of_mem (f := fun x : Row => x.l) hy))))))
  · exact .inl (z (.inr (.inl (.tail _ (.tail _ (.tail _ (List.mem_map_of_mem (f := fun x : Row => x.l) hy)))))))
  · exact .inl (z (.inr (.inr (.inl (.tail _ (.tail _ (.tail _ (List.mem_map_of_mem (f := fun x : Row => x.l) hy))))))))
  · exact .inr hp
theorem core_mut {a : Addr} (ha : a ∈ (S.core w []).map (·.1)) : a ∈ S.mut := by
  obtain ⟨p, hp, rfl⟩ := List.mem_map.mp ha
  exact (core_mem hp).elim id fun x => nomatch x
theorem core_app : S.core w hl = S.core w [] ++ hl := by
  show _ = _ :: _ :: _ :: _ :: _ :: _ :: _ :: _ :: _ :: _ :: _ :: _ :: _ :: (S.rowsO ++ [] ++ hl)
  rw [List.append_nil]
theorem core_sub {p : Addr × Obj} (hp : p ∈ S.core w []) : p ∈ S.core w hl := core_app ▸ List.mem_append_left hl hp
theorem core_join {p : Addr × Obj} (hp : p ∈ S.core w hl) : p ∈ S.core w [] ∨ p ∈ hl := List.mem_append.mp (core_app ▸ hp)
theorem Four.own (A : Four prog w P h S) : ∀ a ∈ S.mut, P a := fun a ha => by
  have bk : ∀ {B : Bk}, B.At prog w P h → ∀ a ∈ B.mut, P a := fun A a ha => by
    simp only [List.mem_cons, List.mem_map] at ha
    rcases ha with rfl | rfl | rfl | ⟨y, hy, rfl⟩
    · exact A.bk.p.1
    · exact A.bk.p.2.1
    · exact A.bk.p.2.2
    · exact (A.bk.pl y hy).1
  rcases List.mem_append.mp ha with m | m
  · exact bk A.a0 a m
  rcases List.mem_append.mp m with m | m
  · exact bk A.a1 a m
  rcases List.mem_append.mp m with m | m
  · exact bk A.a2 a m
  · simp only [List.mem_cons, List.not_mem_nil, or_false] at m
    rcases m with rfl | rfl | rfl | rfl
    · exact A.ak.kp.p.1
    · exact A.ak.kp.p.2.1
    · exact A.ak.kp.p.2.2.1
    · exact A.ak.kp.p.2.2.2
theorem Four.mo (A : Four prog w (PH H₀) h S) : ∀ q ∈ S.core w [], h.get? q.1 = some q.2 ∧ H₀.get? q.1 = none :=
  A.core (Q := fun q => h.get? q.1 = some q.2 ∧ H₀.get? q.1 = none) (fun a ha o e => ⟨e, (A.own a ha).1⟩) (fun _ h => nomatch h)
theorem tupleAt_ne {a : Addr} {o : Obj} {vs : Array Value} {n : Nat} (F : Fr g L h m) (e : h.get? a = some o) (hd : o.data = .seq vs n) : a ≠ L := fun q => by
  subst q
  obtain ⟨o', _, _, ho, hd', _⟩ := F.ns
  rw [ho] at e; cases e
  rw [hd] at hd'; cases hd'
theorem key_neL {a : Addr} {k : List Int} (F : Fr g L h m) (x : KeyAt prog w h k a) : a ≠ L := by obtain ⟨_, _, _, ho, _, hd, _⟩ := x; exact tupleAt_ne F ho hd
theorem Four.neL (A : Four prog w P h S) (F : Fr g L h m) (hm : ∀ a ∈ S.meds, a ≠ L) : ∀ a ∈ S.hard, a ≠ L := fun a ha => by
  simp only [List.mem_append] at hm ha
  have bk : ∀ {B : Bk}, B.At prog w P h → ∀ a ∈ B.xs.map (·.k), a ≠ L := fun A a ha => by obtain ⟨y, hy, rfl⟩ := List.mem_map.mp ha; exact key_neL F (A.bk.keys y hy)
  rcases ha with (q | q) | (q | q) | (q | q) | q | q | q | q
  · exact bk A.a0 a q
  · exact hm a (.inl q)
  · exact bk A.a1 a q
  · exact hm a (.inr (.inl q))
  · exact bk A.a2 a q
  · exact hm a (.inr (.inr (.inl q)))
  · obtain ⟨y, hy, rfl⟩ := List.mem_map.mp q; exact key_neL F (A.ak.kp.keys y hy)
  · exact hm a (.inr (.inr (.inr q)))
  · obtain ⟨y, hy, rfl⟩ := List.mem_map.mp q
    obtain ⟨tv, t, n, e⟩ := A.ak.kp.tup y hy
    exact tupleAt_ne F e rfl
  · obtain ⟨y, hy, rfl⟩ := List.mem_map.mp q; exact key_neL F (A.ak.kp.skeys y hy)
theorem Four.meds_hard (S : St) : ∀ a ∈ S.meds, a ∈ S.hard := fun a ha => by
  simp only [List.mem_append] at ha ⊢
  rcases ha with q | q | q | q <;> simp [q]
noncomputable def Later (prog : Program) (w : World) (P : Addr → Prop) (g : Heap) (L : Addr) (S : St) (hl : List (Addr × Obj)) : Prop :=
  (∀ a ∈ S.meds, a ≠ L) ∧ ∀ (h' : Heap) (m' : Str → Option Value) (l' : List (Addr × Obj)), Fr g L h' m' → News g L h' (l' ++ S.core w hl) → Four prog w P h' S
theorem Later.at {l' : List (Addr × Obj)} (Z : Later prog w P g L S hl) (F : Fr g L h m) (N : News g L h (l' ++ S.core w hl)) : Four prog w P h S := Z.2 h m l' F N
theorem Four.start (A : Four prog w P h S) (KG : Keep ((S.core w []).map (·.1)) h g) (eL : L = h.objs.size) : Later prog w P g L S [] := ⟨fun a ha q => by
  obtain ⟨o, e⟩ := (A.hards a (Four.meds_hard S a ha)).there
  have := Heap.lt_size e
  rw [q, eL] at this
  exact Nat.lt_irrefl _ this, fun h' m' l' F N =>
  A.stay (fun a ha o e => by
    obtain ⟨o', e', mm⟩ := A.inLed (w := w) [] a ha
    rw [e] at e'; cases e'
    exact (N _ (List.mem_append_right _ mm)).1) fun a ha o e => F.keep a o (KG a o e fun q => A.hard_ne (A.hards a ha) (core_mut q))⟩
theorem Four.cover (A : Four prog w P h S) (F : Fr g L h m) (hm : ∀ a ∈ S.meds, a ≠ L) : ∃ hl : List (Addr × Obj), (∀ p ∈ hl, h.get? p.1 = some p.2 ∧ p.1 ≠ L ∧ g.get? p.1 = none) ∧ ∀ a ∈ S.hard, (∃ o, g.get? a = some o) ∨ ∃ o, (a, o) ∈ hl := by
  have key : ∀ as : List Addr, (∀ a ∈ as, HardAt prog w h a ∧ a ≠ L) → ∃ hl : List (Addr × Obj), (∀ p ∈ hl, h.get? p.1 = some p.2 ∧ p.1 ≠ L ∧ g.get? p.1 = none) ∧ ∀ a ∈ as, (∃ o, g.get? a = some o) ∨ ∃ o, (a, o) ∈ hl := by
    intro as
    induction as with
    | nil => exact fun _ => ⟨[], (fun _ h => nomatch h), (fun _ h => nomatch h)⟩
    | cons a r ih =>
      intro hA
      obtain ⟨hl, h1, h2⟩ := ih fun b hb => hA b (.tail _ hb)
      have ha := hA a (.head _)
      obtain ⟨o, e⟩ := ha.1.there
      cases q : g.get? a with
      | some o' => exact ⟨hl, h1, List.forall_mem_cons.mpr ⟨.inl ⟨o', q⟩, h2⟩⟩
      | none => exact ⟨(a, o) :: hl, List.forall_mem_cons.mpr ⟨⟨e, ha.2, q⟩, h1⟩, List.forall_mem_cons.mpr ⟨.inr ⟨o, .head _⟩, fun b hb => (h2 b hb).imp id fun ⟨o, x⟩ => ⟨o, .tail _ x⟩⟩⟩
  exact key S.hard fun a ha => ⟨A.hards a ha, A.neL F hm a ha⟩
theorem Four.go {S' : St} (A : Four prog w P h S) (F : Fr g L h m) (N : News g L h (l ++ S.core w hl)) (K : Keep S.mut h h') (A' : Four prog w P h' S') (f : New h S.mut S'.mut) (fm : ∀ a ∈ S'.meds, a ≠ L) (sep : ∀ p ∈ l, p.1 ∉ S.mut) :
    ∃ hl', Fr g L h' m ∧ News g L h' (l ++ S'.core w hl') ∧ Later prog w P g L S' hl' ∧ ∀ p ∈ l, p.1 ∉ S'.mut := by
  have N0 : News g L h (l ++ S.core w []) := fun p hp => N p (by
    rcases List.mem_append.mp hp with hp | hp
    · exact List.mem_append_left _ hp
    · exact List.mem_append_right _ (core_sub hp))
  obtain ⟨F', N', sep'⟩ := A.next F N0 K A' f (fun p hp => by rw [List.append_nil] at hp; exact sep p hp)
  obtain ⟨hl', h1, h2⟩ := A'.cover F' fm
  refine ⟨hl', F', fun p hp => ?_, ⟨fm, fun h'' m'' l'' F'' N'' => A'.stay (fun a ha o e => ?_) fun a ha o e => ?_⟩, fun p hp => sep' p (List.mem_append_left _ hp)⟩
  · rcases List.mem_append.mp hp with hp | hp
    · exact N' p (List.mem_append_left _ hp)
    · rcases core_join hp with hp | hp
      · exact N' p (List.mem_append_right _ hp)
      · exact h1 p hp
  · obtain ⟨o', e', mm⟩ := A'.inLed (w := w) hl' a ha
    rw [e] at e'; cases e'
    exact (N'' _ (List.mem_append_right _ mm)).1
  · rcases h2 a ha with ⟨o', e'⟩ | ⟨o', mm⟩
    · have := F'.keep a o' e'
      rw [e] at this; cases this
      exact F''.keep a o e'
    · have := (h1 _ mm).1
      rw [e] at this; cases this
      exact (N'' _ (List.mem_append_right _ (S'.core_tail mm))).1
noncomputable def Step (h h' : Heap) (S S' : St) : Prop := Keep S.mut h h' ∧ New h S.mut S'.mut ∧ S'.ids = S.ids
theorem step_end {S' : St} (A : Four prog w P h S) (KG : Keep ((S.core w []).map (·.1)) h g) (F : Fr g L h' m) (N : News g L h' (l ++ S'.core w hl)) (A' : Four prog w P h' S') (e : S'.ids = S.ids) : Step h h' S S' := by
  refine ⟨fun b o e n => F.keep b o (KG b o e fun q => n (core_mut q)), fun a ha => ?_, e⟩
  by_cases q : a ∈ S.mut
  · exact .inl q
  · refine .inr ?_
    obtain ⟨o, _, mm⟩ := A'.inLed (w := w) hl a ha
    have h0 := (N _ (List.mem_append_right _ mm)).2.2
    cases e2 : h.get? a with
    | none => rfl
    | some o' => rw [KG a o' e2 fun x => q (core_mut x)] at h0; cases h0
theorem ids_ne (A : Four prog w P h S) {a : Addr} {xs : List Value} {c : Nat} (e : h.get? a = some (W.listOf xs.toArray c)) (hx : ∀ x st, xs ≠ [.ref x, .bool st]) : a ∉ S.mut := by
  have bk : ∀ {B : Bk}, B.At prog w P h → a ∉ B.mut := fun {B} A ha => by
    simp only [List.mem_cons, List.mem_map] at ha
    rcases ha with rfl | rfl | rfl | ⟨y, hy, rfl⟩
    · rw [A.bk.inst] at e
      have := congrArg Obj.cls (Option.some.inj e)
      exact absurd (show Value.ref 85 = Value.type "list" from this) (fun x => nomatch x)
    · rw [A.d] at e
      have := congrArg Obj.cls (Option.some.inj e)
      exact absurd (show Value.type "dict" = Value.type "list" from this) (by decide)
    · rw [A.r] at e
      have := congrArg Obj.cls (Option.some.inj e)
      rw [A.ro.cls] at this
      exact absurd (show Value.type "dict" = Value.type "list" from this) (by decide)
    · rw [A.bk.row y hy] at e
      have := congrArg Obj.data (Option.some.inj e)
      have e2 : PySem.Data.seq #[Value.ref y.a, .bool y.st] 0 = PySem.Data.seq xs.toArray c := this
      injection e2 with e3 _
      exact hx y.a y.st (by have := congrArg Array.toList e3; simpa using this.symm)
  intro ha
  rcases List.mem_append.mp ha with q | q
  · exact bk A.a0 q
  rcases List.mem_append.mp q with q | q
  · exact bk A.a1 q
  rcases List.mem_append.mp q with q | q
  · exact bk A.a2 q
  · simp only [List.mem_cons, List.not_mem_nil, or_false] at q
    rcases q with rfl | rfl | rfl | rfl
    · rw [A.ak.kp.inst] at e
      have := congrArg Obj.cls (Option.some.inj e)
      exact absurd (show Value.ref 142 = Value.type "list" from this) (fun x => nomatch x)
    · rw [A.ak.d] at e
      have := congrArg Obj.cls (Option.some.inj e)
      exact absurd (show Value.type "dict" = Value.type "list" from this) (by decide)
    · rw [A.ak.r] at e
      have := congrArg Obj.cls (Option.some.inj e)
      rw [A.ak.ro.cls] at this
      exact absurd (show Value.type "dict" = Value.type "list" from this) (by decide)
    · rw [A.ak.s] at e
      have := congrArg Obj.cls (Option.some.inj e)
      rw [A.ak.so.cls] at this
      exact absurd (show Value.type "dict" = Value.type "list" from this) (by decide)
end
end Mine
end
section
theorem Mine.off_30 : True := by
  w_top off
  trivial
namespace Mine
section
variable {prog : Program} {w : World} {A : Around} {s : Shared} {mean : ExcName → Option Value} {mg mb : Str → Option Value} {H₀ : Heap} {P : Addr → Prop} {R : Result → Shared → Prop} {E : Value → Shared → Prop} {Q : Value → Shared → Prop} {h h' g : Heap} {L : Addr} {m : Str → Option Value} {S : St} {l hl : List (Addr × Obj)}
theorem restR_sub {a : Act} {xs : List Row} : ∀ x ∈ restR a xs, x.l ∈ xs.map (·.l) ∧ x.a ∈ xs.map (·.a) := fun x hx => by
  cases a with
  | clear => cases hx
  | age =>
    obtain ⟨y, hy, rfl⟩ := List.mem_map.mp hx
    have hy := (List.mem_filter.mp hy).1
    exact ⟨List.mem_map.mpr ⟨y, hy, rfl⟩, List.mem_map.mpr ⟨y, hy, rfl⟩⟩
  | sweep =>
    have hy := (List.mem_filter.mp hx).1
    exact ⟨List.mem_map_of_mem (f := fun x : Row => x.l) hy, List.mem_map_of_mem (f := fun x : Row => x.a) hy⟩
  | idle => exact ⟨List.mem_map_of_mem (f := fun x : Row => x.l) hx, List.mem_map_of_mem (f := fun x : Row => x.a) hx⟩
theorem restK_sub {a : Act} {rs ss : List Row} : ∀ x ∈ (restK a rs ss).1, x ∈ rs := fun x hx => by
  cases a with
  | clear => cases hx
  | age => exact (List.mem_filter.mp hx).1
  | sweep => exact (List.mem_filter.mp hx).1
  | idle => exact hx
theorem goneR_mem {a : Act} {xs : List Row} : ∀ x ∈ goneR a xs, x ∈ xs := fun x hx => by
  cases a with
  | clear => exact sortBy_mem hx
  | age => exact sortBy_mem (List.mem_filter.mp hx).1
  | sweep => exact sortBy_mem (List.mem_filter.mp hx).1
  | idle => cases hx
theorem Bk.into0 {B : Bk} (f : New h S.w0.mut B.mut) : New h S.mut ({ S with w0 := B } : St).mut := fun a ha => by
  rcases List.mem_append.mp ha with q | q
  · exact (f a q).imp (fun q => List.mem_append_left _ q) id
  rcases List.mem_append.mp q with q | q
  · exact .inl (List.mem_append_right _ (List.mem_append_left _ q))
  rcases List.mem_append.mp q with q | q
  · exact .inl (List.mem_append_right _ (List.mem_append_right _ (List.mem_append_left _ q)))
  · exact .inl (List.mem_append_right _ (List.mem_append_right _ (List.mem_append_right _ q)))
theorem Bk.meds0 {B : Bk} {C : Addr → Prop} (f : ∀ a ∈ B.xs.map (·.a), a ∈ S.w0.xs.map (·.a) ∨ C a) : ∀ a ∈ ({ S with w0 := B } : St).meds, a ∈ S.meds ∨ C a := fun a ha => by
  rcases List.mem_append.mp ha with q | q
  · exact (f a q).imp (fun q => List.mem_append_left _ q) id
  rcases List.mem_append.mp q with q | q
  · exact .inl (List.mem_append_right _ (List.mem_append_left _ q))
  rcases List.mem_append.mp q with q | q
  · exact .inl (List.mem_append_right _ (List.mem_append_right _ (List.mem_append_left _ q)))
  · exact .inl (List.mem_append_right _ (List.mem_append_right _ (List.mem_append_right _ q)))
theorem mut_of0 : ∀ a ∈ S.w0.mut, a ∈ S.mut := fun a q => List.mem_append_left _ q
theorem Done.step0 {gone xs' : List Row} {ou' : Option Int} {z : Addr} (A : Four prog w P h S) (D : Done prog w P h h' S.w0.b S.w0.db S.w0.r S.w0.xs gone xs' ou' z) (hx : ∀ x ∈ xs', x.l ∈ S.w0.xs.map (·.l) ∧ x.a ∈ S.w0.xs.map (·.a)) :
    ∃ (B' : Bk) (c : Nat), Four prog w P h' { S with w0 := B' } ∧ B'.b = S.w0.b ∧ B'.xs = xs' ∧ UV B'.u ou' ∧ Keep S.mut h h' ∧ New h S.mut ({ S with w0 := B' } : St).mut ∧ (∀ a ∈ ({ S with w0 := B' } : St).meds, a ∈ S.meds) ∧ h.get? z = none ∧ h'.get? z = some (W.listOf (keysR gone).toArray c) := by
  obtain ⟨r', u', c, K, hz, ez, hu, B, hr⟩ := D
  obtain ⟨B', A', e1, e2, e3, e4, e5⟩ := Bk.exact B
  have f : New h S.w0.mut B'.mut := fun a ha => by
    simp only [e1, e2, e3, e5, List.mem_cons, List.mem_map] at ha
    rcases ha with rfl | rfl | rfl | ⟨y, hy, rfl⟩
    · exact .inl (.head _)
    · exact .inl (.tail _ (.head _))
    · rcases hr with rfl | q
      · exact .inl (.tail _ (.tail _ (.head _)))
      · exact .inr q
    · exact .inl (.tail _ (.tail _ (.tail _ (hx y hy).1)))
  refine ⟨B', c, A.step0 K (fun a ha => .tail _ ha) A' f, e1, e5, e4 ▸ hu, K.more fun a ha => mut_of0 a (.tail _ ha), Bk.into0 f, fun a ha => ?_, hz, ez⟩
  refine (Bk.meds0 (C := fun _ => False) (fun a ha => ?_) a ha).elim id False.elim
  rw [e5] at ha
  obtain ⟨y, hy, rfl⟩ := List.mem_map.mp ha
  exact .inl (hx y hy).2
theorem gone_k0 {ou : Option Int} {nw wt : Int} {tn tw t0 : Tok} {v : Value} {d : Deed} (F : Fr g L s.heap m) (N : News g L s.heap (l ++ S.core w hl)) (Z : Later prog w (PH H₀) g L S hl) (sep : ∀ p ∈ l, p.1 ∉ S.mut) (C : Cx w mean mg mb H₀ (PH H₀) A s.heap 4) (hu : UV S.w0.u ou) (hd : d.ok) (hT : d.told s.heap v) (hw : d.wait wt)
    (hQ : ∀ h' t z c B' hl', Fr g L h' m → News g L h' ((z, W.listOf (keysR (goneR (d.act ou nw).1 S.w0.xs)).toArray c) :: (l ++ ({ S with w0 := B' } : St).core w hl')) → Later prog w (PH H₀) g L { S with w0 := B' } hl' → (∀ p ∈ (z, W.listOf (keysR (goneR (d.act ou nw).1 S.w0.xs)).toArray c) :: l, p.1 ∉ ({ S with w0 := B' } : St).mut) →
      B'.b = S.w0.b → B'.xs = restR (d.act ou nw).1 S.w0.xs → UV B'.u (d.act ou nw).2 → Q (.ref z) { s with heap := h', toks := t }) :
    wpAny (model prog w) A (call (.ref 174) [.ref S.w0.b, .str d.word t0, .int nw tn, v, .int wt tw]) Q E s := by
  have A4 := Z.at F N
  refine wpAny_call (gone_ct C A4.a0.bk hu hd hT hw fun h' t z D => ?_)
  obtain ⟨B', c, A', e1, e2, hu', K, f, fm, z0, ez⟩ := Done.step0 A4 D restR_sub
  obtain ⟨hl', F', N', Z', sep'⟩ := A4.go F N K A' f (fun a ha => Z.1 a (fm a ha)) sep
  have zm : z ∉ ({ S with w0 := B' } : St).mut := fun q => (f z q).elim (fun q => by
    obtain ⟨o, e⟩ := A4.there z q; rw [z0] at e; cases e) fun _ => by
    have := ids_ne A' ez (fun x st q => by
      have := congrArg List.getLast? q
      rw [List.getLast?_map] at this
      cases q2 : (goneR (d.act ou nw).1 S.w0.xs).getLast? with
      | none => rw [q2] at this; cases this
      | some y => rw [q2] at this; cases this)
    exact this q
  exact hQ h' t z c B' hl' F' (all2 ⟨ez, none_L F z0, none_base F z0⟩ N') Z' (all2 zm sep') e1 e2 hu'
theorem Bk.into1 {B : Bk} (f : New h S.w1.mut B.mut) : New h S.mut ({ S with w1 := B } : St).mut := fun a ha => by
  rcases List.mem_append.mp ha with q | q
  · exact .inl (List.mem_append_left _ q)
  rcases List.mem_append.mp q with q | q
  · exact (f a q).imp (fun q => List.mem_append_right _ (List.mem_append_left _ q)) id
  rcases List.mem_append.mp q with q | q
  · exact .inl (List.mem_append_right _ (List.mem_append_right _ (List.mem_append_left _ q)))
  · exact .inl (List.mem_append_right _ (List.mem_append_right _ (List.mem_append_right _ q)))
theorem Bk.meds1 {B : Bk} {C : Addr → Prop} (f : ∀ a ∈ B.xs.map (·.a), a ∈ S.w1.xs.map (·.a) ∨ C a) : ∀ a ∈ ({ S with w1 := B } : St).meds, a ∈ S.meds ∨ C a := fun a ha => by
  rcases List.mem_append.mp ha with q | q
  · exact .inl (List.mem_append_left _ q)
  rcases List.mem_append.mp q with q | q
  · exact (f a q).imp (fun q => List.mem_append_right _ (List.mem_append_left _ q)) id
  rcases List.mem_append.mp q with q | q
  · exact .inl (List.mem_append_right _ (List.mem_append_right _ (List.mem_append_left _ q)))
  · exact .inl (List.mem_append_right _ (List.mem_append_right _ (List.mem_append_right _ q)))
theorem mut_of1 : ∀ a ∈ S.w1.mut, a ∈ S.mut := fun a q => List.mem_append_right _ (List.mem_append_left _ q)
theorem Done.step1 {gone xs' : List Row} {ou' : Option Int} {z : Addr} (A : Four prog w P h S) (D : Done prog w P h h' S.w1.b S.w1.db S.w1.r S.w1.xs gone xs' ou' z) (hx : ∀ x ∈ xs', x.l ∈ S.w1.xs.map (·.l) ∧ x.a ∈ S.w1.xs.map (·.a)) :
    ∃ (B' : Bk) (c : Nat), Four prog w P h' { S with w1 := B' } ∧ B'.b = S.w1.b ∧ B'.xs = xs' ∧ UV B'.u ou' ∧ Keep S.mut h h' ∧ New h S.mut ({ S with w1 := B' } : St).mut ∧ (∀ a ∈ ({ S with w1 := B' } : St).meds, a ∈ S.meds) ∧ h.get? z = none ∧ h'.get? z = some (W.listOf (keysR gone).toArray c) := by
  obtain ⟨r', u', c, K, hz, ez, hu, B, hr⟩ := D
  obtain ⟨B', A', e1, e2, e3, e4, e5⟩ := Bk.exact B
  have f : New h S.w1.mut B'.mut := fun a ha => by
    simp only [e1, e2, e3, e5, List.mem_cons, List.mem_map] at ha
    rcases ha with rfl | rfl | rfl | ⟨y, hy, rfl⟩
    · exact .inl (.head _)
    · exact .inl (.tail _ (.head _))
    · rcases hr with rfl | q
      · exact .inl (.tail _ (.tail _ (.head _)))
      · exact .inr q
    · exact .inl (.tail _ (.tail _ (.tail _ (hx y hy).1)))
  refine ⟨B', c, A.step1 K (fun a ha => .tail _ ha) A' f, e1, e5, e4 ▸ hu, K.more fun a ha => mut_of1 a (.tail _ ha), Bk.into1 f, fun a ha => ?_, hz, ez⟩
  refine (Bk.meds1 (C := fun _ => False) (fun a ha => ?_) a ha).elim id False.elim
  rw [e5] at ha
  obtain ⟨y, hy, rfl⟩ := List.mem_map.mp ha
  exact .inl (hx y hy).2
theorem gone_k1 {ou : Option Int} {nw wt : Int} {tn tw t0 : Tok} {v : Value} {d : Deed} (F : Fr g L s.heap m) (N : News g L s.heap (l ++ S.core w hl)) (Z : Later prog w (PH H₀) g L S hl) (sep : ∀ p ∈ l, p.1 ∉ S.mut) (C : Cx w mean mg mb H₀ (PH H₀) A s.heap 4) (hu : UV S.w1.u ou) (hd : d.ok) (hT : d.told s.heap v) (hw : d.wait wt)
    (hQ : ∀ h' t z c B' hl', Fr g L h' m → News g L h' ((z, W.listOf (keysR (goneR (d.act ou nw).1 S.w1.xs)).toArray c) :: (l ++ ({ S with w1 := B' } : St).core w hl')) → Later prog w (PH H₀) g L { S with w1 := B' } hl' → (∀ p ∈ (z, W.listOf (keysR (goneR (d.act ou nw).1 S.w1.xs)).toArray c) :: l, p.1 ∉ ({ S with w1 := B' } : St).mut) →
      B'.b = S.w1.b → B'.xs = restR (d.act ou nw).1 S.w1.xs → UV B'.u (d.act ou nw).2 → Q (.ref z) { s with heap := h', toks := t }) :
    wpAny (model prog w) A (call (.ref 174) [.ref S.w1.b, .str d.word t0, .int nw tn, v, .int wt tw]) Q E s := by
  have A4 := Z.at F N
  refine wpAny_call (gone_ct C A4.a1.bk hu hd hT hw fun h' t z D => ?_)
  obtain ⟨B', c, A', e1, e2, hu', K, f, fm, z0, ez⟩ := Done.step1 A4 D restR_sub
  obtain ⟨hl', F', N', Z', sep'⟩ := A4.go F N K A' f (fun a ha => Z.1 a (fm a ha)) sep
  have zm : z ∉ ({ S with w1 := B' } : St).mut := fun q => (f z q).elim (fun q => by
    obtain ⟨o, e⟩ := A4.there z q; rw [z0] at e; cases e) fun _ => by
    have := ids_ne A' ez (fun x st q => by
      have := congrArg List.getLast? q
      rw [List.getLast?_map] at this
      cases q2 : (goneR (d.act ou nw).1 S.w1.xs).getLast? with
      | none => rw [q2] at this; cases this
      | some y => rw [q2] at this; cases this)
    exact this q
  exact hQ h' t z c B' hl' F' (all2 ⟨ez, none_L F z0, none_base F z0⟩ N') Z' (all2 zm sep') e1 e2 hu'
theorem Bk.into2 {B : Bk} (f : New h S.w2.mut B.mut) : New h S.mut ({ S with w2 := B } : St).mut := fun a ha => by
  rcases List.mem_append.mp ha with q | q
  · exact .inl (List.mem_append_left _ q)
  rcases List.mem_append.mp q with q | q
  · exact .inl (List.mem_append_right _ (List.mem_append_left _ q))
  rcases List.mem_append.mp q with q | q
  · exact (f a q).imp (fun q => List.mem_append_right _ (List.mem_append_right _ (List.mem_append_left _ q))) id
  · exact .inl (List.mem_append_right _ (List.mem_append_right _ (List.mem_append_right _ q)))
theorem Bk.meds2 {B : Bk} {C : Addr → Prop} (f : ∀ a ∈ B.xs.map (·.a), a ∈ S.w2.xs.map (·.a) ∨ C a) : ∀ a ∈ ({ S with w2 := B } : St).meds, a ∈ S.meds ∨ C a := fun a ha => by
  rcases List.mem_append.mp ha with q | q
  · exact .inl (List.mem_append_left _ q)
  rcases List.mem_append.mp q with q | q
  · exact .inl (List.mem_append_right _ (List.mem_append_left _ q))
  rcases List.mem_append.mp q with q | q
  · exact (f a q).imp (fun q => List.mem_append_right _ (List.mem_append_right _ (List.mem_append_left _ q))) id
  · exact .inl (List.mem_append_right _ (List.mem_append_right _ (List.mem_append_right _ q)))
theorem mut_of2 : ∀ a ∈ S.w2.mut, a ∈ S.mut := fun a q => List.mem_append_right _ (List.mem_append_right _ (List.mem_append_left _ q))
theorem Done.step2 {gone xs' : List Row} {ou' : Option Int} {z : Addr} (A : Four prog w P h S) (D : Done prog w P h h' S.w2.b S.w2.db S.w2.r S.w2.xs gone xs' ou' z) (hx : ∀ x ∈ xs', x.l ∈ S.w2.xs.map (·.l) ∧ x.a ∈ S.w2.xs.map (·.a)) :
    ∃ (B' : Bk) (c : Nat), Four prog w P h' { S with w2 := B' } ∧ B'.b = S.w2.b ∧ B'.xs = xs' ∧ UV B'.u ou' ∧ Keep S.mut h h' ∧ New h S.mut ({ S with w2 := B' } : St).mut ∧ (∀ a ∈ ({ S with w2 := B' } : St).meds, a ∈ S.meds) ∧ h.get? z = none ∧ h'.get? z = some (W.listOf (keysR gone).toArray c) := by
  obtain ⟨r', u', c, K, hz, ez, hu, B, hr⟩ := D
  obtain ⟨B', A', e1, e2, e3, e4, e5⟩ := Bk.exact B
  have f : New h S.w2.mut B'.mut := fun a ha => by
    simp only [e1, e2, e3, e5, List.mem_cons, List.mem_map] at ha
    rcases ha with rfl | rfl | rfl | ⟨y, hy, rfl⟩
    · exact .inl (.head _)
    · exact .inl (.tail _ (.head _))
    · rcases hr with rfl | q
      · exact .inl (.tail _ (.tail _ (.head _)))
      · exact .inr q
    · exact .inl (.tail _ (.tail _ (.tail _ (hx y hy).1)))
  refine ⟨B', c, A.step2 K (fun a ha => .tail _ ha) A' f, e1, e5, e4 ▸ hu, K.more fun a ha => mut_of2 a (.tail _ ha), Bk.into2 f, fun a ha => ?_, hz, ez⟩
  refine (Bk.meds2 (C := fun _ => False) (fun a ha => ?_) a ha).elim id False.elim
  rw [e5] at ha
  obtain ⟨y, hy, rfl⟩ := List.mem_map.mp ha
  exact .inl (hx y hy).2
theorem gone_k2 {ou : Option Int} {nw wt : Int} {tn tw t0 : Tok} {v : Value} {d : Deed} (F : Fr g L s.heap m) (N : News g L s.heap (l ++ S.core w hl)) (Z : Later prog w (PH H₀) g L S hl) (sep : ∀ p ∈ l, p.1 ∉ S.mut) (C : Cx w mean mg mb H₀ (PH H₀) A s.heap 4) (hu : UV S.w2.u ou) (hd : d.ok) (hT : d.told s.heap v) (hw : d.wait wt)
    (hQ : ∀ h' t z c B' hl', Fr g L h' m → News g L h' ((z, W.listOf (keysR (goneR (d.act ou nw).1 S.w2.xs)).toArray c) :: (l ++ ({ S with w2 := B' } : St).core w hl')) → Later prog w (PH H₀) g L { S with w2 := B' } hl' → (∀ p ∈ (z, W.listOf (keysR (goneR (d.act ou nw).1 S.w2.xs)).toArray c) :: l, p.1 ∉ ({ S with w2 := B' } : St).mut) →
      B'.b = S.w2.b → B'.xs = restR (d.act ou nw).1 S.w2.xs → UV B'.u (d.act ou nw).2 → Q (.ref z) { s with heap := h', toks := t }) :
    wpAny (model prog w) A (call (.ref 174) [.ref S.w2.b, .str d.word t0, .int nw tn, v, .int wt tw]) Q E s := by
  have A4 := Z.at F N
  refine wpAny_call (gone_ct C A4.a2.bk hu hd hT hw fun h' t z D => ?_)
  obtain ⟨B', c, A', e1, e2, hu', K, f, fm, z0, ez⟩ := Done.step2 A4 D restR_sub
  obtain ⟨hl', F', N', Z', sep'⟩ := A4.go F N K A' f (fun a ha => Z.1 a (fm a ha)) sep
  have zm : z ∉ ({ S with w2 := B' } : St).mut := fun q => (f z q).elim (fun q => by
    obtain ⟨o, e⟩ := A4.there z q; rw [z0] at e; cases e) fun _ => by
    have := ids_ne A' ez (fun x st q => by
      have := congrArg List.getLast? q
      rw [List.getLast?_map] at this
      cases q2 : (goneR (d.act ou nw).1 S.w2.xs).getLast? with
      | none => rw [q2] at this; cases this
      | some y => rw [q2] at this; cases this)
    exact this q
  exact hQ h' t z c B' hl' F' (all2 ⟨ez, none_L F z0, none_base F z0⟩ N') Z' (all2 zm sep') e1 e2 hu'
theorem Kp.into {B : Kp} (f : New h S.k.mut B.mut) : New h S.mut ({ S with k := B } : St).mut := fun a ha => by
  rcases List.mem_append.mp ha with q | q
  · exact .inl (List.mem_append_left _ q)
  rcases List.mem_append.mp q with q | q
  · exact .inl (List.mem_append_right _ (List.mem_append_left _ q))
  rcases List.mem_append.mp q with q | q
  · exact .inl (List.mem_append_right _ (List.mem_append_right _ (List.mem_append_left _ q)))
  · exact (f a q).imp (fun q => List.mem_append_right _ (List.mem_append_right _ (List.mem_append_right _ q))) id
theorem Kp.meds {B : Kp} {C : Addr → Prop} (f : ∀ a ∈ B.rs.map (·.a), a ∈ S.k.rs.map (·.a) ∨ C a) : ∀ a ∈ ({ S with k := B } : St).meds, a ∈ S.meds ∨ C a := fun a ha => by
  rcases List.mem_append.mp ha with q | q
  · exact .inl (List.mem_append_left _ q)
  rcases List.mem_append.mp q with q | q
  · exact .inl (List.mem_append_right _ (List.mem_append_left _ q))
  rcases List.mem_append.mp q with q | q
  · exact .inl (List.mem_append_right _ (List.mem_append_right _ (List.mem_append_left _ q)))
  · exact (f a q).imp (fun q => List.mem_append_right _ (List.mem_append_right _ (List.mem_append_right _ q))) id
theorem mut_ofK : ∀ a ∈ S.k.mut, a ∈ S.mut := fun a q => List.mem_append_right _ (List.mem_append_right _ (List.mem_append_right _ q))
theorem keysR_list (A : Four prog w P h S) {z : Addr} {c : Nat} {xs : List Row} (ez : h.get? z = some (W.listOf (keysR xs).toArray c)) : z ∉ S.mut :=
  ids_ne A ez fun x st q => by
    have := congrArg List.getLast? q
    rw [List.getLast?_map] at this
    cases q2 : xs.getLast? with
    | none => rw [q2] at this; cases this
    | some y => rw [q2] at this; cases this
theorem DoneK.step {a : Act} {z : Addr} (A : Four prog w P h S) (D : DoneK prog w P h h' S.k.b S.k.db S.k.rt S.k.sl S.k.rs S.k.ss a z) :
    ∃ (B' : Kp) (c : Nat), Four prog w P h' { S with k := B' } ∧ B'.b = S.k.b ∧ (B'.rs, B'.ss) = restK a S.k.rs S.k.ss ∧ Keep S.mut h h' ∧ New h S.mut ({ S with k := B' } : St).mut ∧ (∀ a ∈ ({ S with k := B' } : St).meds, a ∈ S.meds) ∧ h.get? z = none ∧ h'.get? z = some (W.listOf (keysR (goneK a S.k.rs S.k.ss)).toArray c) := by
  obtain ⟨rt', sl', c, K, hz, ez, B, hr, hs⟩ := D
  obtain ⟨B', A', e1, e2, e3, e4, e5, e6⟩ := Kp.exact B
  have f : New h S.k.mut B'.mut := fun a ha => by
    simp only [e1, e2, e3, e4, List.mem_cons, List.not_mem_nil, or_false] at ha
    rcases ha with rfl | rfl | rfl | rfl
    · exact .inl (.head _)
    · exact .inl (.tail _ (.head _))
    · rcases hr with rfl | q
      · exact .inl (.tail _ (.tail _ (.head _)))
      · exact .inr q
    · rcases hs with rfl | q
      · exact .inl (.tail _ (.tail _ (.tail _ (.head _))))
      · exact .inr q
  have sub : ∀ a ∈ [S.k.db, S.k.rt], a ∈ S.k.mut := fun a ha => by
    simp only [List.mem_cons, List.not_mem_nil, or_false] at ha ⊢
    rcases ha with rfl | rfl
    · exact .inr (.inl rfl)
    · exact .inr (.inr (.inl rfl))
  refine ⟨B', c, A.stepK K sub A' f, e1, by rw [e5, e6], K.more fun a ha => mut_ofK a (sub a ha), Kp.into f, fun a ha => ?_, hz, ez⟩
  refine (Kp.meds (C := fun _ => False) (fun a ha => ?_) a ha).elim id False.elim
  rw [e5] at ha
  obtain ⟨y, hy, rfl⟩ := List.mem_map.mp ha
  exact .inl (List.mem_map_of_mem (f := fun x : Row => x.a) (restK_sub y hy))
theorem swept_k {ou : Option Int} {nw : Int} {t0 : Tok} {v : Value} {d : Deed} {bo : Bool} (F : Fr g L s.heap m) (N : News g L s.heap (l ++ S.core w hl)) (Z : Later prog w (PH H₀) g L S hl) (sep : ∀ p ∈ l, p.1 ∉ S.mut) (C : Cx w mean mg mb H₀ (PH H₀) A s.heap 3) (hsub : ∀ y ∈ S.k.ss, ∃ x ∈ S.k.rs, x.i = y.i) (hd : d.ok) (hT : d.told s.heap v) (hb : bo = overD ou nw)
    (hQ : ∀ h' t z c B' hl', Fr g L h' m → News g L h' ((z, W.listOf (keysR (goneK (d.act ou nw).1 S.k.rs S.k.ss)).toArray c) :: (l ++ ({ S with k := B' } : St).core w hl')) → Later prog w (PH H₀) g L { S with k := B' } hl' → (∀ p ∈ (z, W.listOf (keysR (goneK (d.act ou nw).1 S.k.rs S.k.ss)).toArray c) :: l, p.1 ∉ ({ S with k := B' } : St).mut) →
      B'.b = S.k.b → (B'.rs, B'.ss) = restK (d.act ou nw).1 S.k.rs S.k.ss → Q (.ref z) { s with heap := h', toks := t }) :
    wpAny (model prog w) A (call (.ref 181) [.ref S.k.b, .str d.word t0, v, .bool bo]) Q E s := by
  subst hb
  have A4 := Z.at F N
  refine wpAny_call (swept_ct C A4.ak.kp hsub hd hT fun h' t z D => ?_)
  obtain ⟨B', c, A', e1, e2, K, f, fm, z0, ez⟩ := DoneK.step A4 D
  obtain ⟨hl', F', N', Z', sep'⟩ := A4.go F N K A' f (fun a ha => Z.1 a (fm a ha)) sep
  exact hQ h' t z c B' hl' F' (all2 ⟨ez, none_L F z0, none_base F z0⟩ N') Z' (all2 (keysR_list A' ez) sep') e1 e2
end
end Mine
end
local macro_rules | `(tactic| walk_at "assign Tuple") => `(tactic| (k_extra "own 16"; intro h' F' N'; (try k_sweep)))
local macro_rules | `(tactic| walk_at "binaryOp Add ref ref") => `(tactic| k_extra "own 17")
local macro_rules | `(tactic| walk_at "compareOp Eq ref ref") => `(tactic| k_extra "own 18")
local macro_rules | `(tactic| walk_at "compareOp NotEq ref ref") => `(tactic| k_extra "own 18")
local macro_rules | `(tactic| walk_at "call ref") => `(tactic| k_extra "own 19")
local macro_rules | `(tactic| walk_at "unpackItems ref") => `(tactic| (k_extra "own 20"; intro h' F' N'; (try k_sweep)))
local macro_rules | `(tactic| walk_at "ite") => `(tactic| k_extra "own 21")
section
theorem Mine.off_31 : True := by
  w_top off
  trivial
namespace Mine
section
variable {prog : Program} {w : World} {A : Around} {s : Shared} {mean : ExcName → Option Value} {mg mb : Str → Option Value} {H₀ : Heap} {P : Addr → Prop} {R : Result → Shared → Prop} {E : Value → Shared → Prop} {Q : Value → Shared → Prop} {g : Heap} {L : Addr} {m : Str → Option Value} {S : St} {l hl : List (Addr × Obj)}
theorem Four.kg {h g : Heap} {S : St} (A : Four prog w P h S) (KG : Keep ((S.core w []).map (·.1)) h g) {k : List Int} {a : Addr} (x : KeyAt prog w h k a) : KeyAt prog w g k a := x.keep fun o e => KG _ o e fun q => A.hard_ne x.hard (core_mut q)
theorem Four.mdg {h g : Heap} {S : St} (A : Four prog w P h S) (KG : Keep ((S.core w []).map (·.1)) h g) {v : Int} {a : Addr} (x : IsMed prog w h a v) : IsMed prog w g a v := x.keep fun o e => KG _ o e fun q => A.hard_ne x.hard (core_mut q)
theorem Inv.nodup {h : Heap} {S : St} {V : List Cr} {ou : Option Int} (I : Inv prog w P h S V ou) : (V.map (·.1)).Nodup := by
  have := I.four.a0.bk.nodup
  rw [map_i, I.c0] at this; exact this
theorem Inv.sub {h : Heap} {S : St} {V : List Cr} {ou : Option Int} (I : Inv prog w P h S V ou) : ∀ y ∈ S.k.ss, ∃ x ∈ S.k.rs, x.i = y.i := fun y hy => by
  have h1 : y.i ∈ (staleV V).map (·.1) := I.cs ▸ List.mem_map_of_mem (f := fun x : Row => x.i) hy
  obtain ⟨c, hc, e⟩ := List.mem_map.mp h1
  have h2 : c.1 ∈ V.map (·.1) := List.mem_map_of_mem (f := fun c : Cr => c.1) (List.mem_filter.mp hc).1
  rw [map_fst_civ, ← I.cr, ← map_fst_iv] at h2
  obtain ⟨x, hx, e'⟩ := List.mem_map.mp h2
  exact ⟨x, hx, e'.trans e⟩
theorem rest_cr {a : Act} {rs ss : List Row} {V : List Cr} (h : rs.map Row.iv = V.map Cr.iv) (hs : ss.map (·.i) = (staleV V).map (·.1)) (hn : (V.map (·.1)).Nodup) : (restK a rs ss).1.map Row.iv = (restV a V).map Cr.iv := by
  have l := left_iv h hs hn
  cases a with
  | clear => rfl
  | age =>
    refine l.trans ?_
    show _ = (markV V).map Cr.iv
    unfold markV
    rw [List.map_map]; rfl
  | sweep => exact l
  | idle => exact h
theorem rest_cs {a : Act} {rs ss : List Row} {V : List Cr} (h : rs.map Row.iv = V.map Cr.iv) (hs : ss.map (·.i) = (staleV V).map (·.1)) (hn : (V.map (·.1)).Nodup) : (restK a rs ss).2.map (·.i) = (staleV (restV a V)).map (·.1) := by
  have l := left_iv h hs hn
  cases a with
  | clear => rfl
  | age =>
    have e1 : staleV (markV V) = markV V := List.filter_eq_self.mpr fun c hc => by
      obtain ⟨d, _, rfl⟩ := List.mem_map.mp hc; rfl
    show (leftR rs ss).map (·.i) = (staleV (markV V)).map (·.1)
    rw [e1, map_fst_iv, l]
    unfold markV
    rw [List.map_map, List.map_map]; rfl
  | sweep =>
    have e1 : staleV (keptV V) = [] := List.filter_eq_nil_iff.mpr fun c hc => by
      have := (List.mem_filter.mp hc).2
      simpa using this
    show ([] : List Row).map (·.i) = (staleV (keptV V)).map (·.1)
    rw [e1]; rfl
  | idle => exact hs
theorem goneK_i {a : Act} {rs ss : List Row} {V : List Cr} (h : rs.map Row.iv = V.map Cr.iv) (hs : ss.map (·.i) = (staleV V).map (·.1)) : (goneK a rs ss).map (·.i) = goneV a V := by
  have srt : ∀ {xs : List Row} {W : List Cr}, xs.map (·.i) = W.map (·.1) → (sortBy (·.i) xs).map (·.i) = (sortBy (·.1) W).map (·.1) := fun {xs W} e => by
    have e1 := sortBy_map (fun i : Nat => i) (fun x : Row => x.i) xs
    have e2 := sortBy_map (fun i : Nat => i) (fun c : Cr => c.1) W
    exact e1.symm.trans ((congrArg (sortBy fun i : Nat => i) e).trans e2)
  cases a with
  | clear => exact srt (by rw [map_fst_iv, h, ← map_fst_civ])
  | age => exact srt hs
  | sweep => exact srt hs
  | idle => rfl
theorem Four.tupc_ne {h : Heap} {S : St} (A : Four prog w P h S) {a : Addr} {o : Obj} (e : h.get? a = some o) (c : o.cls = .type "tuple") : a ∉ S.mut := by
  have bk : ∀ {B : Bk}, B.At prog w P h → a ∉ B.mut := fun {B} B' => by
    simp only [List.mem_cons, List.mem_map, not_or, not_exists, not_and]
    have := B'.bk.nek e (by rw [c]; intro q; cases q) (by rw [c]; decide)
    refine ⟨this.1, this.2.1, this.2.2, fun y hy q => ?_⟩
    exact ne_obj e (B'.bk.row y hy) (by rw [c]; show _ ≠ Value.type "list"; decide) q.symm
  simp only [List.mem_append, not_or]
  refine ⟨bk A.a0, bk A.a1, bk A.a2, ?_⟩
  have := A.ak.kp.tup_ne e c
  simp only [List.mem_cons, List.not_mem_nil, or_false, not_or]
  exact this
theorem Deed.told.keep {h h' : Heap} {d : Deed} {v : Value} (x : d.told h v) (e : ∀ a o, h.get? a = some o → o.cls = .type "tuple" → h'.get? a = some o) : d.told h' v := by
  cases d with
  | lost td => exact Told.keep x e
  | back td wt => exact Told.keep x e
  | tick => exact x
  | fin => exact x
theorem goneR_len (a : Act) (xs : List Row) : (goneR a xs).length ≤ xs.length := by
  have := sortBy_length (fun x : Row => x.i) xs
  cases a with
  | clear => exact this
  | age => exact Nat.le_trans (List.length_filter_le _ _) this
  | sweep => exact Nat.le_trans (List.length_filter_le _ _) this
  | idle => exact Nat.zero_le _
theorem add_keys {E : Value → Shared → Prop} {Q : Value → Shared → Prop} {h₀ : Heap} {L l b : Addr} {m : Str → Option Value} {news : List (Addr × Obj)} {vs ws : List Value} {c1 c2 : Nat} (F : Fr h₀ L s.heap m) (N : News h₀ L s.heap news) (e1 : s.heap.get? l = some (W.listOf vs.toArray c1)) (e2 : s.heap.get? b = some (W.listOf ws.toArray c2)) (hz : vs.length + ws.length ≤ 1000)
    (h : ∀ D h', Fr h₀ L h' m → News h₀ L h' ((D, W.listOf (vs ++ ws).toArray 0) :: news) → s.heap.get? D = none → (∀ q ∈ news, @Ne Nat q.1 D) → Q (.ref D) { s with heap := h' }) : wpAny (model prog w) A (binaryOp .Add (.ref l) (.ref b)) Q E s :=
  have n0 : s.heap.get? s.heap.objs.size = none := Heap.get?_none_of_le (Nat.le_refl _)
  add_arrays F N ⟨_, e1, rfl, _, rfl⟩ ⟨_, e2, rfl, _, rfl⟩ (fun h' F' N' => h _ h' F' N' n0 (news_ne N n0)) (by simp only [List.size_toArray]; rw [sizeLine_eq]; omega)
theorem step_fin {h h' g : Heap} {L : Addr} {m : Str → Option Value} {S S' : St} {l hl : List (Addr × Obj)} (A : Four prog w P h S) (KG : Keep ((S.core w []).map (·.1)) h g) (F : Fr g L h' m) (A' : Four prog w P h' S') (N : News g L h' (l ++ S'.core w hl)) (e : S'.ids = S.ids) : Step h h' S S' := step_end A KG F N A' e
theorem goneK_mem {a : Act} {rs ss : List Row} : ∀ x ∈ goneK a rs ss, x ∈ rs ∨ x ∈ ss := fun x hx => by
  cases a with
  | clear => exact .inl (sortBy_mem hx)
  | age => exact .inr (sortBy_mem hx)
  | sweep => exact .inr (sortBy_mem hx)
  | idle => cases hx
theorem sep_cons {a : Addr} {o : Obj} {l : List (Addr × Obj)} {S : St} (h : a ∉ S.mut) (hl : ∀ p ∈ l, p.1 ∉ S.mut) : ∀ p ∈ (a, o) :: l, p.1 ∉ S.mut := List.forall_mem_cons.mpr ⟨h, hl⟩
noncomputable def deedDef : List Stmt × Scope := match PySem.Challenge.pw_sj0176_01.main.body.reverse[3]? with
  | some (PySem.Stmt.FunctionDef _ _ body _ _ _ scope _ _ _) => (body, scope)
  | _ => ([], default)
noncomputable def overE : Expr := match deedDef.1[1]? with
  | some (PySem.Stmt.Assign _ e _) => e
  | _ => default
local macro_rules | `(tactic| walk_at "eval Name") => `(tactic| k_extra "own 41")
theorem over_k {L fa b db r n : Nat} {cdv u : Value} {t1 t2 tn : Tok} {ou : Option Int} {nw : Int} (F : Fr g L s.heap m) (N : News g L s.heap [(b, instObj 85 db), (db, dictOf (bkD w t1 t2 r u) n)]) (KX : (hd.heap_39 w.params).In g) (hm : m (Str.ofString "whole") = some (.ref b)) (hn : m (Str.ofString "now") = some (.int nw tn)) (hu : UV u ou)
    (hQ : ∀ t, Q (.bool (overD ou nw)) { s with toks := t }) : wpAny (model prog w) A (eval overE (envOf (Str.ofString "_law_deed_right") deedDef.2 L fa cdv)) Q E s := by
  conv in overE => whnf
  cases ou with
  | none =>
    replace hu : u = .none := hu
    subst hu
    k_steps
    exact hQ _
  | some k =>
    obtain ⟨tu, hu⟩ := hu
    subst hu
    k_steps
    exact hQ _
local macro_rules | `(tactic| walk_at "eval BoolOp") => `(tactic| k_extra "own 42")
theorem deed_ct {bl cb : Nat} {S : St} {V : List Cr} {ou : Option Int} {nw wt : Int} {tn tw t0 : Tok} {v : Value} {d : Deed} (C : Cx w mean mg mb H₀ (PH H₀) A s.heap 5) (I : Inv prog w (PH H₀) s.heap S V ou) (hbl : s.heap.get? bl = some (W.listOf S.ids.toArray cb)) (hd : d.ok) (hT : d.told s.heap v) (hw : d.wait wt)
    (hR : ∀ h' t S', Step s.heap h' S S' → Inv prog w (PH H₀) h' S' (restV (d.act ou nw).1 V) (d.act ou nw).2 → S'.k.rs = (restK (d.act ou nw).1 S.k.rs S.k.ss).1 → R (.ok (.ret (.bool true))) { s with heap := h', toks := t }) :
    codeAny (model prog w) A (.call (.ref 188) ⟨[.ref bl, .str d.word t0, .int nw tn, v, .int wt tw], []⟩) R s := by
  have A4 := I.four
  have hA := C.dep
  have hU := C.uni
  refine' enter (mo := S.core w []) C.B.X C.B.T C.st ?m ?ho ?hcd ?room ?bind ?loc ?_ ?c1 ?c2 ?c3 ?c4
  case ho => k_is
  case hcd => k_is
  case bind => exact BindsTo.of_eq rfl
  case loc => exact locs rfl
  case c1 => exact rfl
  case c2 => exact rfl
  case c3 => exact rfl
  case c4 => decide
  case room => show _ < 1000; k_extra "own a"
  case m => exact A4.mo
  intro g L h₁ KG eL F N X T SG
  dsimp only
  have blm : bl ∉ S.mut := ids_ne A4 hbl fun x st q => by cases q
  have gbl : g.get? bl = some (W.listOf #[.ref S.w0.b, .ref S.w1.b, .ref S.w2.b, .ref S.k.b] cb) := KG _ _ hbl fun q => blm (core_mut q)
  have Z : Later prog w (PH H₀) g L S [] := A4.start KG eL
  have kg : ∀ {k : List Int} {a : Addr}, KeyAt prog w s.heap k a → KeyAt prog w g k a := fun x => A4.kg KG x
  have hTg : d.told g v := hT.keep fun a o e c => KG a o e fun q => A4.tupc_ne e c (core_mut q)
  have CT : ∀ {h' : Heap} {k : Nat} {m : Str → Option Value} {env : Env}, k ≤ 4 → Fr g L h' m → Cx w mean mg mb H₀ (PH H₀) (A.deeper env) h' k := fun hk F => C.dt SG (Nat.succ_le_succ hk) F
  have hH : (A.deeper (envOf "" default 0 0 .none)).handled = none := C.hh
  k_steps
  (with_reducible rename Fr _ _ _ _ => F)
  (with_reducible rename News _ _ _ _ => N)
  unfold Halt
  refine' over_k F (all2 (N _ (.head _)) (all1 (N _ (.tail _ (.head _))))) X rfl rfl I.u0 ?ov
  case ov =>
  intro tk
  k_steps
  (with_reducible rename Fr _ _ _ _ => F)
  (with_reducible rename News _ _ _ _ => N)
  unfold Halt
  refine' gone_k0 (l := []) (hl := []) F N Z (fun _ h => nomatch h) (CT (by decide) F) I.u0 hd (hTg.keep fun a o e _ => F.keep a o e) hw ?g0
  case g0 =>
    clear F N Z
    intro h2 t2 z0 c0 B0 hl' F N Z sep b0 x0 e3
    replace N : News g L h2 ((z0, W.listOf (keysR (goneR (d.act ou nw).1 S.w0.xs)).toArray c0) :: (St.mk B0 S.w1 S.w2 S.k).core w hl') := N
    k_steps
    (with_reducible rename Fr _ _ _ _ => F)
    (with_reducible rename News _ _ _ _ => N)
    unfold Halt
    refine' gone_k1 (S := ⟨B0, S.w1, S.w2, S.k⟩) (l := [(z0, _)]) (hl := hl') F N Z sep (CT (by decide) F) I.u1 hd (hTg.keep fun a o e _ => F.keep a o e) hw ?g1
    case g1 =>
      clear F N Z sep
      intro h3 t3 z1 c1 B1 hl' F N Z sep b1 x1 e4
      dsimp only at N Z sep b1 x1
      replace N : News g L h3 ((z1, W.listOf (keysR (goneR (d.act ou nw).1 S.w1.xs)).toArray c1) :: (z0, W.listOf (keysR (goneR (d.act ou nw).1 S.w0.xs)).toArray c0) :: (St.mk B0 B1 S.w2 S.k).core w hl') := N
      k_steps
      (with_reducible rename Fr _ _ _ _ => F)
      (with_reducible rename News _ _ _ _ => N)
      unfold Halt
      refine' gone_k2 (S := ⟨B0, B1, S.w2, S.k⟩) (l := [(z1, _), (z0, _)]) (hl := hl') F N Z sep (CT (by decide) F) I.u2 hd (hTg.keep fun a o e _ => F.keep a o e) hw ?g2
      case g2 =>
        clear F N Z sep
        intro h4 t4 z2 c2 B2 hl' F N Z sep b2 x2 e5
        dsimp only at N Z sep b2 x2
        replace N : News g L h4 ((z2, W.listOf (keysR (goneR (d.act ou nw).1 S.w2.xs)).toArray c2) :: (z1, W.listOf (keysR (goneR (d.act ou nw).1 S.w1.xs)).toArray c1) :: (z0, W.listOf (keysR (goneR (d.act ou nw).1 S.w0.xs)).toArray c0) :: (St.mk B0 B1 B2 S.k).core w hl') := N
        k_steps
        (with_reducible rename Fr _ _ _ _ => F)
        (with_reducible rename News _ _ _ _ => N)
        unfold Halt
        refine' add_keys F N (N _ (.tail _ (.head _))).1 (N _ (.head _)).1 ?sz ?add
        case sz =>
          rw [List.length_map, List.length_map]
          exact Nat.le_trans (Nat.add_le_add (Nat.le_trans (goneR_len (d.act ou nw).1 S.w1.xs) A4.a1.bk.len) (Nat.le_trans (goneR_len (d.act ou nw).1 S.w2.xs) A4.a2.bk.len)) (by decide)
        case add =>
          clear F N
          intro D h5 F N hD0 nD
          k_steps
          (with_reducible rename Fr _ _ _ _ => F)
          (with_reducible rename News _ _ _ _ => N)
          have kr : ∀ {xs : List Row} {W : List Cr}, (∀ x ∈ xs, KeyAt prog w s.heap (Pk x.i) x.k) → xs.map Row.core = W → KeysAre prog w g (keysR (goneR (d.act ou nw).1 xs)) (goneV (d.act ou nw).1 W) := fun {xs W} hk e => by
            have := KeysAre.of_rows (h := g) (xs := goneR (d.act ou nw).1 xs) fun x hx => kg (hk x (goneR_mem x hx))
            rw [goneR_core, e] at this
            exact this
          have k0 := kr A4.a0.bk.keys I.c0
          have k1 := (kr A4.a1.bk.keys I.c1).append (kr A4.a2.bk.keys I.c2)
          rw [goneV_split] at k1
          unfold Halt
          refine' keys_eq ⟨_, (N _ (.head _)).1, rfl, _, rfl⟩ ⟨_, (N _ (.tail _ (.tail _ (.tail _ (.head _))))).1, rfl, _, rfl⟩ (k1.keep fun x => x.keep fun o => F.keep _ o) (k0.keep fun x => x.keep fun o => F.keep _ o) ?hu ?eq
          case hu => simp only [Around.deeper_units]; k_extra "own a"
          case eq =>
            k_steps
            (with_reducible rename Fr _ _ _ _ => F)
            (with_reducible rename News _ _ _ _ => N)
            unfold Halt
            have sep2 := sep_cons (a := D) (o := W.listOf (keysR (goneR (d.act ou nw).1 S.w1.xs) ++ keysR (goneR (d.act ou nw).1 S.w2.xs)).toArray 0) (fun q => by
              obtain ⟨o, _, mm⟩ := (Z.at (l' := [_, _, _, _]) F N).inLed (w := w) hl' _ q
              exact nD _ (.tail _ (.tail _ (.tail _ mm))) rfl) sep
            refine' swept_k (ou := ou) (nw := nw) (S := ⟨B0, B1, B2, S.k⟩) (l := [(D, _), (z2, _), (z1, _), (z0, _)]) (hl := hl') F N Z sep2 (CT (by decide) F) I.sub hd (hTg.keep fun a o e _ => F.keep a o e) rfl ?g3
            case g3 =>
              clear F N Z sep sep2
              intro h6 t6 z3 c3 K' hl' F N Z _ bk rk
              dsimp only at N Z bk rk
              replace N : News g L h6 ((z3, W.listOf (keysR (goneK (d.act ou nw).1 S.k.rs S.k.ss)).toArray c3) :: (D, _) :: (z2, _) :: (z1, _) :: (z0, W.listOf (keysR (goneR (d.act ou nw).1 S.w0.xs)).toArray c0) :: (St.mk B0 B1 B2 K').core w hl') := N
              k_steps
              (with_reducible rename Fr _ _ _ _ => F)
              (with_reducible rename News _ _ _ _ => N)
              unfold Halt
              have k3 : KeysAre prog w g (keysR (goneK (d.act ou nw).1 S.k.rs S.k.ss)) (goneV (d.act ou nw).1 V) := by
                have := KeysAre.of_rows (h := g) (xs := goneK (d.act ou nw).1 S.k.rs S.k.ss) fun x hx => kg ((goneK_mem x hx).elim (fun q => A4.ak.kp.keys x q) fun q => A4.ak.kp.skeys x q)
                rw [goneK_i I.cr I.cs] at this
                exact this
              refine' keys_eq ⟨_, (N _ (.head _)).1, rfl, _, rfl⟩ ⟨_, (N _ (.tail _ (.tail _ (.tail _ (.tail _ (.head _)))))).1, rfl, _, rfl⟩ (k3.keep fun x => x.keep fun o => F.keep _ o) (k0.keep fun x => x.keep fun o => F.keep _ o) ?hu2 ?eq2
              case hu2 => simp only [Around.deeper_units]; k_extra "own a"
              case eq2 =>
                have A' := Z.at (l' := [_, _, _, _, _]) F N
                have cc : ∀ {xs ys : List Row} {W : List Cr}, ys = restR (d.act ou nw).1 xs → xs.map Row.core = W → ys.map Row.core = restV (d.act ou nw).1 W := fun q e => by rw [q, restR_core, e]
                refine hR _ _ _ (step_fin (l := [_, _, _, _, _]) (hl := hl') A4 KG F A' N ?_) ⟨A', cc x0 I.c0, (cc x1 I.c1).trans (restV_filter _ (fun i => decide (i < 2)) V), (cc x2 I.c2).trans (restV_filter _ (fun i => !decide (i < 2)) V), ?_, ?_, e3, e4, e5⟩ (congrArg Prod.fst rk)
                · show [Value.ref B0.b, .ref B1.b, .ref B2.b, .ref K'.b] = _
                  rw [b0, b1, b2, bk]
                · exact (congrArg (fun p : List Row × List Row => p.1.map Row.iv) rk).trans (rest_cr I.cr I.cs I.nodup)
                · exact (congrArg (fun p : List Row × List Row => p.2.map (·.i)) rk).trans (rest_cs I.cr I.cs I.nodup)
end
end Mine
end
section
theorem Mine.off_32 : True := by
  w_top off
  trivial
namespace Mine
section
variable {prog : Program} {w : World} {A : Around} {s : Shared} {mean : ExcName → Option Value} {mg mb : Str → Option Value} {H₀ : Heap} {P : Addr → Prop} {R : Result → Shared → Prop} {E : Value → Shared → Prop} {Q : Value → Shared → Prop} {h h' g : Heap} {L : Addr} {m : Str → Option Value} {S : St} {l hl : List (Addr × Obj)}
theorem put_lists {xs : List Row} {i : Nat} {k l a : Addr} {v : Int} (hl : h.get? l = none) : ∀ x ∈ putR xs i k l a v, (x.l ∈ xs.map (·.l) ∨ h.get? x.l = none) ∧ (x.a ∈ xs.map (·.a) ∨ x.a = a) := fun x hx => by
  rcases putR_mem hx with ⟨q, _⟩ | ⟨_, q2, q3, _⟩
  · exact ⟨.inl (List.mem_map.mpr ⟨x, q, rfl⟩), .inl (List.mem_map.mpr ⟨x, q, rfl⟩)⟩
  · exact ⟨.inr (q2 ▸ hl), .inr q3⟩
theorem drop_lists {xs : List Row} {i : Nat} {a : Addr} : ∀ x ∈ dropR xs i, (x.l ∈ xs.map (·.l) ∨ h.get? x.l = none) ∧ (x.a ∈ xs.map (·.a) ∨ x.a = a) := fun x hx =>
  have q := (List.mem_filter.mp hx).1
  ⟨.inl (List.mem_map.mpr ⟨x, q, rfl⟩), .inl (List.mem_map.mpr ⟨x, q, rfl⟩)⟩
theorem Upd.step0 {xs' : List Row} {a0 : Addr} (A : Four prog w P h S) (K : Keep [S.w0.r] h h') (B : Book prog w P h' S.w0.b S.w0.db S.w0.r S.w0.u xs') (hx : ∀ x ∈ xs', (x.l ∈ S.w0.xs.map (·.l) ∨ h.get? x.l = none) ∧ (x.a ∈ S.w0.xs.map (·.a) ∨ x.a = a0)) :
    ∃ B' : Bk, Four prog w P h' { S with w0 := B' } ∧ B'.b = S.w0.b ∧ B'.u = S.w0.u ∧ B'.xs = xs' ∧ Keep S.mut h h' ∧ New h S.mut ({ S with w0 := B' } : St).mut ∧ ∀ a ∈ ({ S with w0 := B' } : St).meds, a ∈ S.meds ∨ a = a0 := by
  obtain ⟨B', A', e1, e2, e3, e4, e5⟩ := Bk.exact B
  have sub : ∀ a ∈ [S.w0.r], a ∈ S.w0.mut := fun a ha => by rw [List.mem_singleton.mp ha]; exact .tail _ (.tail _ (.head _))
  have f : New h S.w0.mut B'.mut := fun a ha => by
    simp only [e1, e2, e3, e5, List.mem_cons, List.mem_map] at ha
    rcases ha with rfl | rfl | rfl | ⟨y, hy, rfl⟩
    · exact .inl (.head _)
    · exact .inl (.tail _ (.head _))
    · exact .inl (.tail _ (.tail _ (.head _)))
    · exact (hx y hy).1.imp (fun q => .tail _ (.tail _ (.tail _ q))) id
  refine ⟨B', A.step0 K sub A' f, e1, e4, e5, K.more fun a ha => mut_of0 a (sub a ha), Bk.into0 f, Bk.meds0 fun a ha => ?_⟩
  rw [e5] at ha
  obtain ⟨y, hy, rfl⟩ := List.mem_map.mp ha
  exact (hx y hy).2
theorem put_s0 {k a i : Nat} {v : Int} (F : Fr g L s.heap m) (N : News g L s.heap (l ++ S.core w hl)) (Z : Later prog w (PH H₀) g L S hl) (sep : ∀ p ∈ l, p.1 ∉ S.mut) (C : Cx w mean mg mb H₀ (PH H₀) A s.heap 1) (hk : KeyAt prog w s.heap (Pk i) k) (hi : i < 4) (ha : IsMed prog w s.heap a v) (pk : PH H₀ k) (pa : PH H₀ a) (aL : @Ne Nat a L)
    (hQ : ∀ h' t B' hl', Fr g L h' m → News g L h' (l ++ ({ S with w0 := B' } : St).core w hl') → Later prog w (PH H₀) g L { S with w0 := B' } hl' → (∀ p ∈ l, p.1 ∉ ({ S with w0 := B' } : St).mut) → B'.b = S.w0.b → B'.u = S.w0.u → B'.xs.map Row.core = putV (S.w0.xs.map Row.core) i v → Q .none { s with heap := h', toks := t }) :
    wpAny (model prog w) A (call (.ref 35) [.ref S.w0.b, .ref k, .ref a]) Q E s := by
  have A4 := Z.at F N
  refine wpAny_call (put_ct C A4.a0.bk hk hi ha pk pa fun h' t l0 K hl0 B => ?_)
  obtain ⟨B', A', e1, e2, e3, K', f, fm⟩ := Upd.step0 A4 K B (put_lists hl0)
  obtain ⟨hl', F', N', Z', sep'⟩ := A4.go F N K' A' f (fun b hb => (fm b hb).elim (Z.1 b) fun q => q ▸ aL) sep
  exact hQ h' t B' hl' F' N' Z' sep' e1 e2 (by rw [e3, putR_corev])
theorem drop_s0 {k i : Nat} (F : Fr g L s.heap m) (N : News g L s.heap (l ++ S.core w hl)) (Z : Later prog w (PH H₀) g L S hl) (sep : ∀ p ∈ l, p.1 ∉ S.mut) (C : Cx w mean mg mb H₀ (PH H₀) A s.heap 1) (hk : KeyAt prog w s.heap (Pk i) k) (kL : @Ne Nat k L)
    (hQ : ∀ h' t B' hl', Fr g L h' m → News g L h' (l ++ ({ S with w0 := B' } : St).core w hl') → Later prog w (PH H₀) g L { S with w0 := B' } hl' → (∀ p ∈ l, p.1 ∉ ({ S with w0 := B' } : St).mut) → B'.b = S.w0.b → B'.u = S.w0.u → B'.xs.map Row.core = dropV (S.w0.xs.map Row.core) i → Q (.bool (findV (S.w0.xs.map Row.core) i).isSome) { s with heap := h', toks := t }) :
    wpAny (model prog w) A (call (.ref 42) [.ref S.w0.b, .ref k]) Q E s := by
  have A4 := Z.at F N
  refine wpAny_call (drop_ct C A4.a0.bk hk fun h' t K B => ?_)
  obtain ⟨B', A', e1, e2, e3, K', f, fm⟩ := Upd.step0 (a0 := k) A4 K B drop_lists
  obtain ⟨hl', F', N', Z', sep'⟩ := A4.go F N K' A' f (fun b hb => (fm b hb).elim (Z.1 b) fun q => q ▸ kL) sep
  have := hQ h' t B' hl' F' N' Z' sep' e1 e2 (by rw [e3, dropR_core])
  rw [findR_core, Option.isSome_map] at this
  exact this
theorem Upd.step1 {xs' : List Row} {a0 : Addr} (A : Four prog w P h S) (K : Keep [S.w1.r] h h') (B : Book prog w P h' S.w1.b S.w1.db S.w1.r S.w1.u xs') (hx : ∀ x ∈ xs', (x.l ∈ S.w1.xs.map (·.l) ∨ h.get? x.l = none) ∧ (x.a ∈ S.w1.xs.map (·.a) ∨ x.a = a0)) :
    ∃ B' : Bk, Four prog w P h' { S with w1 := B' } ∧ B'.b = S.w1.b ∧ B'.u = S.w1.u ∧ B'.xs = xs' ∧ Keep S.mut h h' ∧ New h S.mut ({ S with w1 := B' } : St).mut ∧ ∀ a ∈ ({ S with w1 := B' } : St).meds, a ∈ S.meds ∨ a = a0 := by
  obtain ⟨B', A', e1, e2, e3, e4, e5⟩ := Bk.exact B
  have sub : ∀ a ∈ [S.w1.r], a ∈ S.w1.mut := fun a ha => by rw [List.mem_singleton.mp ha]; exact .tail _ (.tail _ (.head _))
  have f : New h S.w1.mut B'.mut := fun a ha => by
    simp only [e1, e2, e3, e5, List.mem_cons, List.mem_map] at ha
    rcases ha with rfl | rfl | rfl | ⟨y, hy, rfl⟩
    · exact .inl (.head _)
    · exact .inl (.tail _ (.head _))
    · exact .inl (.tail _ (.tail _ (.head _)))
    · exact (hx y hy).1.imp (fun q => .tail _ (.tail _ (.tail _ q))) id
  refine ⟨B', A.step1 K sub A' f, e1, e4, e5, K.more fun a ha => mut_of1 a (sub a ha), Bk.into1 f, Bk.meds1 fun a ha => ?_⟩
  rw [e5] at ha
  obtain ⟨y, hy, rfl⟩ := List.mem_map.mp ha
  exact (hx y hy).2
theorem put_s1 {k a i : Nat} {v : Int} (F : Fr g L s.heap m) (N : News g L s.heap (l ++ S.core w hl)) (Z : Later prog w (PH H₀) g L S hl) (sep : ∀ p ∈ l, p.1 ∉ S.mut) (C : Cx w mean mg mb H₀ (PH H₀) A s.heap 1) (hk : KeyAt prog w s.heap (Pk i) k) (hi : i < 4) (ha : IsMed prog w s.heap a v) (pk : PH H₀ k) (pa : PH H₀ a) (aL : @Ne Nat a L)
    (hQ : ∀ h' t B' hl', Fr g L h' m → News g L h' (l ++ ({ S with w1 := B' } : St).core w hl') → Later prog w (PH H₀) g L { S with w1 := B' } hl' → (∀ p ∈ l, p.1 ∉ ({ S with w1 := B' } : St).mut) → B'.b = S.w1.b → B'.u = S.w1.u → B'.xs.map Row.core = putV (S.w1.xs.map Row.core) i v → Q .none { s with heap := h', toks := t }) :
    wpAny (model prog w) A (call (.ref 35) [.ref S.w1.b, .ref k, .ref a]) Q E s := by
  have A4 := Z.at F N
  refine wpAny_call (put_ct C A4.a1.bk hk hi ha pk pa fun h' t l0 K hl0 B => ?_)
  obtain ⟨B', A', e1, e2, e3, K', f, fm⟩ := Upd.step1 A4 K B (put_lists hl0)
  obtain ⟨hl', F', N', Z', sep'⟩ := A4.go F N K' A' f (fun b hb => (fm b hb).elim (Z.1 b) fun q => q ▸ aL) sep
  exact hQ h' t B' hl' F' N' Z' sep' e1 e2 (by rw [e3, putR_corev])
theorem drop_s1 {k i : Nat} (F : Fr g L s.heap m) (N : News g L s.heap (l ++ S.core w hl)) (Z : Later prog w (PH H₀) g L S hl) (sep : ∀ p ∈ l, p.1 ∉ S.mut) (C : Cx w mean mg mb H₀ (PH H₀) A s.heap 1) (hk : KeyAt prog w s.heap (Pk i) k) (kL : @Ne Nat k L)
    (hQ : ∀ h' t B' hl', Fr g L h' m → News g L h' (l ++ ({ S with w1 := B' } : St).core w hl') → Later prog w (PH H₀) g L { S with w1 := B' } hl' → (∀ p ∈ l, p.1 ∉ ({ S with w1 := B' } : St).mut) → B'.b = S.w1.b → B'.u = S.w1.u → B'.xs.map Row.core = dropV (S.w1.xs.map Row.core) i → Q (.bool (findV (S.w1.xs.map Row.core) i).isSome) { s with heap := h', toks := t }) :
    wpAny (model prog w) A (call (.ref 42) [.ref S.w1.b, .ref k]) Q E s := by
  have A4 := Z.at F N
  refine wpAny_call (drop_ct C A4.a1.bk hk fun h' t K B => ?_)
  obtain ⟨B', A', e1, e2, e3, K', f, fm⟩ := Upd.step1 (a0 := k) A4 K B drop_lists
  obtain ⟨hl', F', N', Z', sep'⟩ := A4.go F N K' A' f (fun b hb => (fm b hb).elim (Z.1 b) fun q => q ▸ kL) sep
  have := hQ h' t B' hl' F' N' Z' sep' e1 e2 (by rw [e3, dropR_core])
  rw [findR_core, Option.isSome_map] at this
  exact this
theorem Upd.step2 {xs' : List Row} {a0 : Addr} (A : Four prog w P h S) (K : Keep [S.w2.r] h h') (B : Book prog w P h' S.w2.b S.w2.db S.w2.r S.w2.u xs') (hx : ∀ x ∈ xs', (x.l ∈ S.w2.xs.map (·.l) ∨ h.get? x.l = none) ∧ (x.a ∈ S.w2.xs.map (·.a) ∨ x.a = a0)) :
    ∃ B' : Bk, Four prog w P h' { S with w2 := B' } ∧ B'.b = S.w2.b ∧ B'.u = S.w2.u ∧ B'.xs = xs' ∧ Keep S.mut h h' ∧ New h S.mut ({ S with w2 := B' } : St).mut ∧ ∀ a ∈ ({ S with w2 := B' } : St).meds, a ∈ S.meds ∨ a = a0 := by
  obtain ⟨B', A', e1, e2, e3, e4, e5⟩ := Bk.exact B
  have sub : ∀ a ∈ [S.w2.r], a ∈ S.w2.mut := fun a ha => by rw [List.mem_singleton.mp ha]; exact .tail _ (.tail _ (.head _))
  have f : New h S.w2.mut B'.mut := fun a ha => by
    simp only [e1, e2, e3, e5, List.mem_cons, List.mem_map] at ha
    rcases ha with rfl | rfl | rfl | ⟨y, hy, rfl⟩
    · exact .inl (.head _)
    · exact .inl (.tail _ (.head _))
    · exact .inl (.tail _ (.tail _ (.head _)))
    · exact (hx y hy).1.imp (fun q => .tail _ (.tail _ (.tail _ q))) id
  refine ⟨B', A.step2 K sub A' f, e1, e4, e5, K.more fun a ha => mut_of2 a (sub a ha), Bk.into2 f, Bk.meds2 fun a ha => ?_⟩
  rw [e5] at ha
  obtain ⟨y, hy, rfl⟩ := List.mem_map.mp ha
  exact (hx y hy).2
theorem put_s2 {k a i : Nat} {v : Int} (F : Fr g L s.heap m) (N : News g L s.heap (l ++ S.core w hl)) (Z : Later prog w (PH H₀) g L S hl) (sep : ∀ p ∈ l, p.1 ∉ S.mut) (C : Cx w mean mg mb H₀ (PH H₀) A s.heap 1) (hk : KeyAt prog w s.heap (Pk i) k) (hi : i < 4) (ha : IsMed prog w s.heap a v) (pk : PH H₀ k) (pa : PH H₀ a) (aL : @Ne Nat a L)
    (hQ : ∀ h' t B' hl', Fr g L h' m → News g L h' (l ++ ({ S with w2 := B' } : St).core w hl') → Later prog w (PH H₀) g L { S with w2 := B' } hl' → (∀ p ∈ l, p.1 ∉ ({ S with w2 := B' } : St).mut) → B'.b = S.w2.b → B'.u = S.w2.u → B'.xs.map Row.core = putV (S.w2.xs.map Row.core) i v → Q .none { s with heap := h', toks := t }) :
    wpAny (model prog w) A (call (.ref 35) [.ref S.w2.b, .ref k, .ref a]) Q E s := by
  have A4 := Z.at F N
  refine wpAny_call (put_ct C A4.a2.bk hk hi ha pk pa fun h' t l0 K hl0 B => ?_)
  obtain ⟨B', A', e1, e2, e3, K', f, fm⟩ := Upd.step2 A4 K B (put_lists hl0)
  obtain ⟨hl', F', N', Z', sep'⟩ := A4.go F N K' A' f (fun b hb => (fm b hb).elim (Z.1 b) fun q => q ▸ aL) sep
  exact hQ h' t B' hl' F' N' Z' sep' e1 e2 (by rw [e3, putR_corev])
theorem drop_s2 {k i : Nat} (F : Fr g L s.heap m) (N : News g L s.heap (l ++ S.core w hl)) (Z : Later prog w (PH H₀) g L S hl) (sep : ∀ p ∈ l, p.1 ∉ S.mut) (C : Cx w mean mg mb H₀ (PH H₀) A s.heap 1) (hk : KeyAt prog w s.heap (Pk i) k) (kL : @Ne Nat k L)
    (hQ : ∀ h' t B' hl', Fr g L h' m → News g L h' (l ++ ({ S with w2 := B' } : St).core w hl') → Later prog w (PH H₀) g L { S with w2 := B' } hl' → (∀ p ∈ l, p.1 ∉ ({ S with w2 := B' } : St).mut) → B'.b = S.w2.b → B'.u = S.w2.u → B'.xs.map Row.core = dropV (S.w2.xs.map Row.core) i → Q (.bool (findV (S.w2.xs.map Row.core) i).isSome) { s with heap := h', toks := t }) :
    wpAny (model prog w) A (call (.ref 42) [.ref S.w2.b, .ref k]) Q E s := by
  have A4 := Z.at F N
  refine wpAny_call (drop_ct C A4.a2.bk hk fun h' t K B => ?_)
  obtain ⟨B', A', e1, e2, e3, K', f, fm⟩ := Upd.step2 (a0 := k) A4 K B drop_lists
  obtain ⟨hl', F', N', Z', sep'⟩ := A4.go F N K' A' f (fun b hb => (fm b hb).elim (Z.1 b) fun q => q ▸ kL) sep
  have := hQ h' t B' hl' F' N' Z' sep' e1 e2 (by rw [e3, dropR_core])
  rw [findR_core, Option.isSome_map] at this
  exact this
theorem put_half {k a i : Nat} {v : Int} {V : List Cr} (F : Fr g L s.heap m) (N : News g L s.heap (l ++ S.core w hl)) (Z : Later prog w (PH H₀) g L S hl) (sep : ∀ p ∈ l, p.1 ∉ S.mut) (C : Cx w mean mg mb H₀ (PH H₀) A s.heap 1) (hk : KeyAt prog w s.heap (Pk i) k) (hi : i < 4) (ha : IsMed prog w s.heap a v) (pk : PH H₀ k) (pa : PH H₀ a) (aL : @Ne Nat a L) (c1 : S.w1.xs.map Row.core = V.filter lowC) (c2 : S.w2.xs.map Row.core = V.filter highC)
    (hQ : ∀ h' t (S' : St) hl', Fr g L h' m → News g L h' (l ++ S'.core w hl') → Later prog w (PH H₀) g L S' hl' → (∀ p ∈ l, p.1 ∉ S'.mut) → S'.w0 = S.w0 → S'.k = S.k → S'.ids = S.ids → S'.w1.u = S.w1.u → S'.w2.u = S.w2.u → S'.w1.xs.map Row.core = (putV V i v).filter lowC → S'.w2.xs.map Row.core = (putV V i v).filter highC → Q .none { s with heap := h', toks := t }) :
    wpAny (model prog w) A (call (.ref 35) [.ref (if i < 2 then S.w1 else S.w2).b, .ref k, .ref a]) Q E s := by
  by_cases q : i < 2
  · rw [if_pos q]
    refine put_s1 F N Z sep C hk hi ha pk pa aL fun h' t B' hl' F' N' Z' sep' e1 e2 e3 => ?_
    have := hQ h' t _ hl' F' N' Z' sep' rfl rfl (by dsimp only [St.ids]; rw [e1]) e2 rfl (e3.trans (by rw [c1]; exact putV_filter (fun i : Nat => decide (i < 2)) V i v (decide_eq_true q))) (c2.trans (putV_other (fun i : Nat => !decide (i < 2)) V i v (by simp [q])).symm)
    exact this
  · rw [if_neg q]
    refine put_s2 F N Z sep C hk hi ha pk pa aL fun h' t B' hl' F' N' Z' sep' e1 e2 e3 => ?_
    have := hQ h' t _ hl' F' N' Z' sep' rfl rfl (by dsimp only [St.ids]; rw [e1]) rfl e2 (c1.trans (putV_other (fun i : Nat => decide (i < 2)) V i v (decide_eq_false q)).symm) (e3.trans (by rw [c2]; exact putV_filter (fun i : Nat => !decide (i < 2)) V i v (by simp [q])))
    exact this
theorem drop_half {k i : Nat} {V : List Cr} (F : Fr g L s.heap m) (N : News g L s.heap (l ++ S.core w hl)) (Z : Later prog w (PH H₀) g L S hl) (sep : ∀ p ∈ l, p.1 ∉ S.mut) (C : Cx w mean mg mb H₀ (PH H₀) A s.heap 1) (hk : KeyAt prog w s.heap (Pk i) k) (kL : @Ne Nat k L) (c1 : S.w1.xs.map Row.core = V.filter lowC) (c2 : S.w2.xs.map Row.core = V.filter highC)
    (hQ : ∀ h' t (S' : St) hl', Fr g L h' m → News g L h' (l ++ S'.core w hl') → Later prog w (PH H₀) g L S' hl' → (∀ p ∈ l, p.1 ∉ S'.mut) → S'.w0 = S.w0 → S'.k = S.k → S'.ids = S.ids → S'.w1.u = S.w1.u → S'.w2.u = S.w2.u → S'.w1.xs.map Row.core = (dropV V i).filter lowC → S'.w2.xs.map Row.core = (dropV V i).filter highC → Q (.bool (findV V i).isSome) { s with heap := h', toks := t }) :
    wpAny (model prog w) A (call (.ref 42) [.ref (if i < 2 then S.w1 else S.w2).b, .ref k]) Q E s := by
  by_cases q : i < 2
  · rw [if_pos q]
    refine drop_s1 F N Z sep C hk kL fun h' t B' hl' F' N' Z' sep' e1 e2 e3 => ?_
    have := hQ h' t _ hl' F' N' Z' sep' rfl rfl (by dsimp only [St.ids]; rw [e1]) e2 rfl (e3.trans (by rw [c1]; exact dropV_filter (fun i : Nat => decide (i < 2)) V i)) (c2.trans (dropV_other (fun i : Nat => !decide (i < 2)) V i (by simp [q])).symm)
    rw [c1, findV_filter (fun i : Nat => decide (i < 2)) V i (decide_eq_true q)]; exact this
  · rw [if_neg q]
    refine drop_s2 F N Z sep C hk kL fun h' t B' hl' F' N' Z' sep' e1 e2 e3 => ?_
    have := hQ h' t _ hl' F' N' Z' sep' rfl rfl (by dsimp only [St.ids]; rw [e1]) rfl e2 (c1.trans (dropV_other (fun i : Nat => decide (i < 2)) V i (decide_eq_false q)).symm) (e3.trans (by rw [c2]; exact dropV_filter (fun i : Nat => !decide (i < 2)) V i))
    rw [c2, findV_filter (fun i : Nat => !decide (i < 2)) V i (by simp [q])]; exact this
theorem UpdK.step {rs' ss' : List Row} {a0 : Addr} (A : Four prog w P h S) (K : Keep [S.k.rt, S.k.sl] h h') (B : Kept prog w P h' S.k.b S.k.db S.k.rt S.k.sl rs' ss') (hx : ∀ x ∈ rs', x.a ∈ S.k.rs.map (·.a) ∨ x.a = a0) :
    ∃ B' : Kp, Four prog w P h' { S with k := B' } ∧ B'.b = S.k.b ∧ B'.rs = rs' ∧ B'.ss = ss' ∧ Keep S.mut h h' ∧ New h S.mut ({ S with k := B' } : St).mut ∧ ∀ a ∈ ({ S with k := B' } : St).meds, a ∈ S.meds ∨ a = a0 := by
  obtain ⟨B', A', e1, e2, e3, e4, e5, e6⟩ := Kp.exact B
  have sub : ∀ a ∈ [S.k.rt, S.k.sl], a ∈ S.k.mut := fun a ha => by
    simp only [List.mem_cons, List.not_mem_nil, or_false] at ha ⊢
    rcases ha with rfl | rfl
    · exact .inr (.inr (.inl rfl))
    · exact .inr (.inr (.inr rfl))
  have f : New h S.k.mut B'.mut := fun a ha => by
    rw [show B'.mut = S.k.mut by simp [e1, e2, e3, e4]] at ha
    exact .inl ha
  refine ⟨B', A.stepK K sub A' f, e1, e5, e6, K.more fun a ha => mut_ofK a (sub a ha), Kp.into f, Kp.meds fun a ha => ?_⟩
  rw [e5] at ha
  obtain ⟨y, hy, rfl⟩ := List.mem_map.mp ha
  exact hx y hy
theorem take_s {p0 p1 k a i n0 n1 : Nat} {now v : Int} {tn : Tok} {V : List Cr} (F : Fr g L s.heap m) (N : News g L s.heap (l ++ S.core w hl)) (Z : Later prog w (PH H₀) g L S hl) (sep : ∀ p ∈ l, p.1 ∉ S.mut) (C : Cx w mean mg mb H₀ (PH H₀) A s.heap 3) (hk : KeyAt prog w s.heap (Pk i) k) (hi : i < 4) (ha : IsMed prog w s.heap a v) (pa : PH H₀ a) (aL : @Ne Nat a L) (hp0 : s.heap.get? p0 = some (tupOf [] n0)) (hp1 : s.heap.get? p1 = some (tupOf [.ref k] n1))
    (cr : S.k.rs.map Row.iv = V.map Cr.iv) (cs : S.k.ss.map (·.i) = (staleV V).map (·.1))
    (hQ : ∀ h' t z c B' hl', Fr g L h' m → News g L h' ((z, W.listOf (if (findV V i).map (·.2.1) = some v then [] else [Value.ref k]).toArray c) :: (l ++ ({ S with k := B' } : St).core w hl')) → Later prog w (PH H₀) g L { S with k := B' } hl' → B'.b = S.k.b → B'.rs.map Row.iv = (putV V i v).map Cr.iv → B'.ss.map (·.i) = (staleV (putV V i v)).map (·.1) → ((findV V i).map (·.2.1) = some v → B'.rs = S.k.rs) → Q (.ref z) { s with heap := h', toks := t }) :
    wpAny (model prog w) A (call (.ref 113) [.ref S.k.b, .ref p0, .ref a, .ref p1, .int now tn]) Q E s := by
  have A4 := Z.at F N
  refine wpAny_call (take_put_ct C A4.ak.kp hk hi ha pa hp0 hp1 fun h' t z c rs' K _ z0 ez B e hx hs => ?_)
  obtain ⟨B', A', e1, e2, e3, K', f, fm⟩ := UpdK.step (a0 := a) A4 K B fun x hx' => (hx x hx').imp (fun q => List.mem_map.mpr ⟨x, q, rfl⟩) id
  obtain ⟨hl', F', N', Z', sep'⟩ := A4.go F N K' A' f (fun b hb => (fm b hb).elim (Z.1 b) fun q => q ▸ aL) sep
  rw [find_iv _ _ i cr] at ez
  exact hQ h' t z c B' hl' F' (all2 ⟨ez, none_L F z0, none_base F z0⟩ N') Z' e1 (by rw [e2]; exact Eq.trans e (putR_iv _ _ _ _ _ _ _ cr)) (by rw [e3, dropS_i i cs, putS_i]) (fun q => e2.trans (hs ((find_iv _ _ i cr).trans q)))
theorem back_s {p0 p1 k a i n0 n1 : Nat} {now : Int} {tn : Tok} {V : List Cr} (F : Fr g L s.heap m) (N : News g L s.heap (l ++ S.core w hl)) (Z : Later prog w (PH H₀) g L S hl) (sep : ∀ p ∈ l, p.1 ∉ S.mut) (C : Cx w mean mg mb H₀ (PH H₀) A s.heap 3) (hk : KeyAt prog w s.heap (Pk i) k) (hi : i < 4) (kL : @Ne Nat k L) (hp0 : s.heap.get? p0 = some (tupOf [.ref k] n0)) (hp1 : s.heap.get? p1 = some (tupOf [] n1))
    (cr : S.k.rs.map Row.iv = V.map Cr.iv) (cs : S.k.ss.map (·.i) = (staleV V).map (·.1))
    (hQ : ∀ h' t z c B' hl', Fr g L h' m → News g L h' ((z, W.listOf (if (findV V i).isSome then [Value.ref k] else []).toArray c) :: (l ++ ({ S with k := B' } : St).core w hl')) → Later prog w (PH H₀) g L { S with k := B' } hl' → B'.b = S.k.b → B'.rs.map Row.iv = (dropV V i).map Cr.iv → B'.ss.map (·.i) = (staleV (dropV V i)).map (·.1) → Q (.ref z) { s with heap := h', toks := t }) :
    wpAny (model prog w) A (call (.ref 113) [.ref S.k.b, .ref p0, .ref a, .ref p1, .int now tn]) Q E s := by
  have A4 := Z.at F N
  refine wpAny_call (take_back_ct C A4.ak.kp hk hi hp0 hp1 fun h' t z c K _ z0 ez B => ?_)
  obtain ⟨B', A', e1, e2, e3, K', f, fm⟩ := UpdK.step (a0 := k) A4 K B fun x hx' => .inl (List.mem_map.mpr ⟨x, (List.mem_filter.mp hx').1, rfl⟩)
  obtain ⟨hl', F', N', Z', sep'⟩ := A4.go F N K' A' f (fun b hb => (fm b hb).elim (Z.1 b) fun q => q ▸ kL) sep
  rw [some_iv (find_iv _ _ i cr)] at ez
  exact hQ h' t z c B' hl' F' (all2 ⟨ez, none_L F z0, none_base F z0⟩ N') Z' e1 (by rw [e2]; exact dropR_iv i cr) (by rw [e3, dropS_i i cs])
end
end Mine
end
section
theorem Mine.off_33 : True := by
  w_top off
  trivial
namespace Mine
section
variable {prog : Program} {w : World} {A : Around} {s : Shared} {mean : ExcName → Option Value} {mg mb : Str → Option Value} {H₀ : Heap} {P : Addr → Prop} {R : Result → Shared → Prop}
theorem key_item {E : Value → Shared → Prop} {Q : Value → Shared → Prop} {h₀ : Heap} {L k : Addr} {i : Nat} {m : Str → Option Value} {value slice : Expr} {t : Tok} (F : Fr h₀ L s.heap m) (hk : KeyAt prog w h₀ (Pk i) k) (h : ∀ u, Q (.int (4 * (i : Int)) u) s)
    (hs : subscripted slice false (.ref k) (.int 0 t) = operate [.ref k, .int 0 t] (getItem (.ref k) (.int 0 t)) := by with_unfolding_all rfl) :
    wpAny (model prog w) A (subscriptTail value slice (.ref k) (.int 0 t)) Q E s := by
  obtain ⟨o, n, t1, u, ho, hc, hd⟩ := key_seq (hk.keep fun o => F.keep _ o)
  have hL : IsTup s.heap k #[.int (4 * (i : Int)) t1, .int 2 u] := ⟨o, ho, hc, n, hd⟩
  exact tail_any hL.typeIs PyProof.Rows.slot_tuple_getitem.lookup (getItem_tuple (k := 0) (j := 0) hL (by decide) (by decide) (seqIndex_of (k := 0) (by decide) (by show (0 : Int) < 2; decide)) rfl (h t1)) hs
theorem findV_rows {xs : List Row} {V : List Cr} (h : xs.map Row.core = V) (i : Nat) : (findV V i).map (·.2.1) = (findR xs i).map (·.v) := by
  rw [← h, findR_core, Option.map_map]; rfl
theorem half_in {S : St} {i : Nat} {l : List (Addr × Obj)} {B : Bk} (e : B = if i < 2 then S.w1 else S.w2) : (B.b, instObj 85 B.db) ∈ S.core w l ∧ (B.db, dictOf (bkD w B.t1 B.t2 B.r B.u) B.n) ∈ S.core w l := by
  subst e
  split
  · exact ⟨.tail _ (.tail _ (.tail _ (.head _))), .tail _ (.tail _ (.tail _ (.tail _ (.head _))))⟩
  · exact ⟨.tail _ (.tail _ (.tail _ (.tail _ (.tail _ (.tail _ (.head _)))))), .tail _ (.tail _ (.tail _ (.tail _ (.tail _ (.tail _ (.tail _ (.head _)))))))⟩
theorem half_ix {i : Nat} (hi : i < 4) : 0 ≤ 1 + (4 * (i : Int)).fdiv 8 ∧ 1 + (4 * (i : Int)).fdiv 8 < 2 ^ 63 := by
  rcases lt_four hi with rfl | rfl | rfl | rfl <;> decide
theorem core_k (S : St) (l : List (Addr × Obj)) : (S.k.b, instObj 142 S.k.db) ∈ S.core w l ∧ (S.k.db, dictOf (akD w S.k.t0 S.k.t1 S.k.t2 S.k.t3 S.k.rt S.k.sl) S.k.n) ∈ S.core w l := ⟨(.tail _ (.tail _ (.tail _ (.tail _ (.tail _ (.tail _ (.tail _ (.tail _ (.tail _ (.head _)))))))))), (.tail _ (.tail _ (.tail _ (.tail _ (.tail _ (.tail _ (.tail _ (.tail _ (.tail _ (.tail _ (.head _)))))))))))⟩
theorem news_front2 {g h : Heap} {L : Addr} {a b : Addr × Obj} {l : List (Addr × Obj)} (N : News g L h l) (ha : a ∈ l) (hb : b ∈ l) : News g L h (a :: b :: l) := all2 (N _ ha) (all2 (N _ hb) N)
theorem news_back2 {g h : Heap} {L : Addr} {a b : Addr × Obj} {l : List (Addr × Obj)} (N : News g L h (a :: b :: l)) : News g L h l := all_drop (all_drop N)
theorem half_at {S : St} {i : Nat} {B : Bk} (hi : i < 4) (e : B = if i < 2 then S.w1 else S.w2) : S.ids[(1 + (4 * (i : Int)).fdiv 8).toNat]? = some (.ref B.b) := by
  subst e
  rcases lt_four hi with rfl | rfl | rfl | rfl <;> rfl
end
end Mine
open Mine
local macro_rules | `(tactic| walk_at "subscriptTail") => `(tactic| k_extra "own 22")
local macro_rules | `(tactic| walk_at "subscriptTail") => `(tactic| (k_extra "own 23"; intro u'))
local macro_rules | `(tactic| walk_at "compareOp NotEq ref ref") => `(tactic| k_extra "own 24")
namespace Mine
section
variable {prog : Program} {w : World} {A : Around} {s : Shared} {mean : ExcName → Option Value} {mg mb : Str → Option Value} {H₀ : Heap} {P : Addr → Prop} {R : Result → Shared → Prop}
noncomputable def toldDef : List Stmt × Scope := match PySem.Challenge.pw_sj0176_01.main.body.reverse[7]? with
  | some (PySem.Stmt.FunctionDef _ _ body _ _ _ scope _ _ _) => (body, scope)
  | _ => ([], default)
noncomputable def newE : Expr := match toldDef.1[1]? with
  | some (PySem.Stmt.Assign _ e _) => e
  | _ => default
local macro_rules | `(tactic| walk_at "eval Name") => `(tactic| k_extra "own 41")
theorem new_k {E : Value → Shared → Prop} {Q : Value → Shared → Prop} {g : Heap} {m : Str → Option Value} {L fa b db r n k a i : Nat} {cdv u : Value} {t1 t2 : Tok} {v : Int} {xs : List Row} {o : Obj} (hA : A.depth + 5 ≤ 900) (hU : A.units + 10 * 5 ≤ 9000) (F : Fr g L s.heap m)
    (N : News g L s.heap ((b, instObj 85 db) :: (db, dictOf (bkD w t1 t2 r u) n) :: (r, o) :: xs.map rowObj)) (KX : (hd.heap_39 w.params).In g) (hm : m (Str.ofString "whole") = some (.ref b)) (hm2 : m (Str.ofString "prefix") = some (.ref k)) (hm3 : m (Str.ofString "attrs") = some (.ref a))
    (ho : RowsObj prog w o (xs.map Row.ent)) (hks : ∀ x ∈ xs.map Row.ent, KeyAt prog w g x.1 x.2.1) (hkg : KeyAt prog w g (Pk i) k) (hmed : ∀ x, findR xs i = some x → IsMed prog w g x.a x.v ∧ (x.a == sysModules) = false ∧ (x.l, W.listOf #[.ref x.a, .bool x.st] 0) ∈ xs.map rowObj) (hag : IsMed prog w g a v)
    (la : (a == sysModules) = false) (lo0 : (r == sysModules) = false) (hzz : (xs.map Row.ent).length ≤ 1000) (hQ : ∀ t, Q (.bool (!decide ((findR xs i).map (·.v) = some v))) { s with toks := t }) :
    wpAny (model prog w) (A.deeper (envOf (Str.ofString "_law_told_right") toldDef.2 L fa cdv)) (eval newE (envOf (Str.ofString "_law_told_right") toldDef.2 L fa cdv)) Q E s := by
  conv in newE => whnf
  cases hf : findR xs i with
  | none =>
    have hp : (atKey (xs.map Row.ent) (Pk i)).isSome = false := by rw [atKey_ent, hf]; rfl
    rw [hf] at hQ
    k_steps
    exact hQ _
  | some x =>
    have hp : (atKey (xs.map Row.ent) (Pk i)).isSome = true := by rw [atKey_ent, hf]; rfl
    have hp2 : atKey (xs.map Row.ent) (Pk i) = some (x.k, .ref x.l) := by rw [atKey_ent, hf]; rfl
    obtain ⟨hxm, lx, hrow⟩ := hmed x hf
    have e0 : (!decide ((findR xs i).map (·.v) = some v)) = !(x.v == v) := by rw [hf]; by_cases q : x.v = v <;> simp [q]
    rw [e0] at hQ
    replace N : News g L s.heap ((x.l, W.listOf #[.ref x.a, .bool x.st] 0) :: _) := all2 (N _ (.tail _ (.tail _ (.tail _ hrow)))) N
    obtain ⟨nb, hnb⟩ : ∃ nb, (!(x.v == v)) = nb := ⟨_, rfl⟩
    rw [hnb] at hQ
    k_steps
    exact hQ _
local macro_rules | `(tactic| walk_at "eval BoolOp") => `(tactic| k_extra "own h")
theorem told_ct {bl cb k a i : Nat} {S : St} {V : List Cr} {ou : Option Int} {now v : Int} {tn : Tok} (C : Cx w mean mg mb H₀ (PH H₀) A s.heap 5) (I : Inv prog w (PH H₀) s.heap S V ou) (hbl : s.heap.get? bl = some (W.listOf S.ids.toArray cb))
    (hk : KeyAt prog w s.heap (Pk i) k) (hi : i < 4) (ha : IsMed prog w s.heap a v) (pk : PH H₀ k) (pa : PH H₀ a)
    (hR : ∀ h' t S', Step s.heap h' S S' → Inv prog w (PH H₀) h' S' (putV V i v) ou → ((findV V i).map (·.2.1) = some v → S'.k.rs = S.k.rs) → R (.ok (.ret (.bool true))) { s with heap := h', toks := t }) :
    codeAny (model prog w) A (.call (.ref 160) ⟨[.ref bl, .ref k, .ref a, .int now tn], []⟩) R s := by
  have A4 := I.four
  have hA := C.dep
  have hU := C.uni
  refine' enter (mo := S.core w []) C.B.X C.B.T C.st ?m ?ho ?hcd ?room ?bind ?loc ?_ ?c1 ?c2 ?c3 ?c4
  case ho => k_is
  case hcd => k_is
  case bind => exact BindsTo.of_eq rfl
  case loc => exact locs rfl
  case c1 => exact rfl
  case c2 => exact rfl
  case c3 => exact rfl
  case c4 => decide
  case room => show _ < 1000; k_extra "own a"
  case m => exact A4.mo
  intro g L h₁ KG eL F N X T SG
  dsimp only
  have blm : bl ∉ S.mut := ids_ne A4 hbl fun x st q => by cases q
  have gbl : g.get? bl = some (W.listOf #[.ref S.w0.b, .ref S.w1.b, .ref S.w2.b, .ref S.k.b] cb) := KG _ _ hbl fun q => blm (core_mut q)
  have Z : Later prog w (PH H₀) g L S [] := A4.start KG eL
  have kg : ∀ {k : List Int} {a : Addr}, KeyAt prog w s.heap k a → KeyAt prog w g k a := fun x => A4.kg KG x
  have hkg : KeyAt prog w g (Pk i) k := kg hk
  have hag : IsMed prog w g a v := A4.mdg KG ha
  have CT : ∀ {h' : Heap} {k : Nat} {m : Str → Option Value} {env : Env}, k ≤ 4 → Fr g L h' m → Cx w mean mg mb H₀ (PH H₀) (A.deeper env) h' k := fun hk F => C.dt SG (Nat.succ_le_succ hk) F
  have hH : (A.deeper (envOf "" default 0 0 .none)).handled = none := C.hh
  have hks : ∀ x ∈ S.w0.xs.map Row.ent, KeyAt prog w g x.1 x.2.1 := fun x hx => by obtain ⟨y, hy, rfl⟩ := List.mem_map.mp hx; exact kg (A4.a0.bk.keys y hy)
  have hzz : (S.w0.xs.map Row.ent).length ≤ 1000 := by rw [List.length_map]; exact Nat.le_trans A4.a0.bk.len (by decide)
  have lo0 : (S.w0.r == sysModules) = false := low_of (A4.own S.w0.r (.tail _ (.tail _ (.head _)))).2
  have la : (a == sysModules) = false := low_of pa.2
  have aL : @Ne Nat a L := by
    obtain ⟨o, _, e, _⟩ := ha
    have := Heap.lt_size e
    rw [eL]; exact Nat.ne_of_lt this
  obtain ⟨Bj, hBj⟩ : ∃ Bj : Bk, Bj = if i < 2 then S.w1 else S.w2 := ⟨_, rfl⟩
  have ix0 : 0 ≤ 1 + (4 * (i : Int)).fdiv 8 := (half_ix hi).1
  have ix1 : 1 + (4 * (i : Int)).fdiv 8 < 2 ^ 63 := (half_ix hi).2
  have ix2 : [Value.ref S.w0.b, .ref S.w1.b, .ref S.w2.b, .ref S.k.b][(1 + (4 * (i : Int)).fdiv 8).toNat]? = some (.ref Bj.b) := half_at hi hBj
  have hmed : ∀ x, findR S.w0.xs i = some x → IsMed prog w g x.a x.v ∧ (x.a == sysModules) = false ∧ (x.l, W.listOf #[.ref x.a, .bool x.st] 0) ∈ S.w0.xs.map rowObj := fun x hf =>
    have hx := (findR_mem hf).1
    ⟨A4.mdg KG (A4.a0.bk.med x hx), low_of (A4.a0.bk.pl x hx).2.2.2, List.mem_map.mpr ⟨x, hx, rfl⟩⟩
  replace N : News g L h₁ ((S.w0.b, instObj 85 S.w0.db) :: (S.w0.db, dictOf (bkD w S.w0.t1 S.w0.t2 S.w0.r S.w0.u) S.w0.n) :: S.core w []) := news_front2 N (.head _) (.tail _ (.head _))
  k_steps
  (with_reducible rename Fr _ _ _ _ => F)
  (with_reducible rename News _ _ _ _ => N)
  unfold Halt
  refine' new_k hA hU F (all2 (N _ (.tail _ (.head _))) (all2 (N _ (.tail _ (.tail _ (.head _)))) (all2 (N (S.w0.r, S.w0.o) (.tail _ (.tail _ (.tail _ (.tail _ (.tail _ (.head _))))))) fun p hp => N p (.tail _ (.tail _ (.tail _ (.tail _ (.tail _ (.tail _ (.tail _ (.tail _ (.tail _ (.tail _ (.tail _ (.tail _ (.tail _ (.tail _ (.tail _ (.tail _ (List.mem_append_left _ (List.mem_append_left _ hp))))))))))))))))))))) X rfl rfl rfl A4.a0.ro hks hkg hmed hag la lo0 hzz ?nk
  case nk =>
  intro tk
  obtain ⟨nb, hnb⟩ : ∃ nb, (!decide ((findR S.w0.xs i).map (·.v) = some v)) = nb := ⟨_, rfl⟩
  rw [hnb]
  k_steps
  (with_reducible rename Fr _ _ _ _ => F)
  (with_reducible rename News _ _ _ _ => N)
  unfold Halt
  replace N : News g L _ ([_] ++ S.core w []) := all2 (N _ (.head _)) (news_back2 (all_drop N))
  have sep : ∀ p ∈ ([_] : List (Addr × Obj)), p.1 ∉ S.mut := all1 ((Z.at (l' := [_]) F N).tupc_ne (N _ (.head _)).1 rfl)
  refine' put_s0 (l := [_]) (hl := []) F N Z sep (CT (by decide) F) (hkg.keep fun o => F.keep _ o) hi (hag.keep fun o => F.keep _ o) pk pa aL ?g0
  case g0 =>
    clear F N Z sep
    intro h2 t2 B' hl' F N Z sep e2 e3 e4
    have mj := half_in (w := w) (l := hl') (S := { S with w0 := B' }) hBj
    replace N : News g L h2 (_ :: _ :: _) := news_front2 N (List.mem_append_right _ mj.1) (List.mem_append_right _ mj.2)
    k_steps
    (with_reducible rename Fr _ _ _ _ => F)
    (with_reducible rename News _ _ _ _ => N)
    replace N : News g L _ ([_] ++ ({ S with w0 := B' } : St).core w hl') := news_back2 N
    unfold Halt
    rw [show Bj.b = (if i < 2 then S.w1 else S.w2).b from by rw [hBj]]
    refine' put_half (S := { S with w0 := B' }) (l := [_]) (hl := hl') (V := V) F N Z sep (CT (by decide) F) (hkg.keep fun o => F.keep _ o) hi (hag.keep fun o => F.keep _ o) pk pa aL I.c1 I.c2 ?g1
    case g1 =>
      clear F N Z sep mj
      intro h3 t3 S' hl' F N Z sep y1 y2 y3 y4 y5 y6 y7
      have mk := core_k (w := w) S' hl'
      rw [y2] at mk
      replace N : News g L h3 (_ :: _ :: _) := news_front2 N (List.mem_append_right _ mk.1) (List.mem_append_right _ mk.2)
      k_steps
      (with_reducible rename Fr _ _ _ _ => F)
      (with_reducible rename News _ _ _ _ => N)
      unfold Halt
      replace N : News g L _ ([_, _, _] ++ S'.core w hl') := all2 (N _ (.head _)) (all2 (N _ (.tail _ (.head _))) (news_back2 (all_drop (all_drop N))))
      have A' := Z.at (l' := [_, _, _]) F N
      have sep2 := all2 (A'.tupc_ne (N _ (.head _)).1 rfl) (all2 (A'.tupc_ne (N _ (.tail _ (.head _))).1 rfl) sep)
      rw [show S.k.b = S'.k.b from by rw [y2]]
      refine' take_s (S := S') (l := [_, _, _]) (hl := hl') (V := V) F N Z sep2 (CT (by decide) F) (hkg.keep fun o => F.keep _ o) hi (hag.keep fun o => F.keep _ o) pa aL (N _ (.tail _ (.head _))).1 (N _ (.head _)).1 (y2 ▸ I.cr) (y2 ▸ I.cs) ?g2
      case g2 =>
        clear F N Z sep sep2 A'
        intro h4 t4 z c B2 hl' F N Z e1 e2' e3' e5
        have kz : KeysAre prog w g (if (findV V i).map (·.2.1) = some v then [] else [Value.ref k]) (if nb then [i] else []) ∧ KeysAre prog w g (if nb then [Value.ref k] else []) (if nb then [i] else []) := by
          rw [findV_rows I.c0]
          cases nb with
          | false => rw [if_pos (by simpa using hnb)]; exact ⟨.nil, .nil⟩
          | true => rw [if_neg (by simpa using hnb)]; exact ⟨.cons hkg .nil, .cons hkg .nil⟩
        have fin : ∀ (h' : Heap) (t' : Nat) (m' : Str → Option Value) (x y a b c : Addr × Obj), Fr g L h' m' → News g L h' (x :: y :: ([a, b, c] ++ ({ S' with k := B2 } : St).core w hl')) → R (.ok (.ret (.bool true))) { s with heap := h', toks := t' } := fun h' t' m' x y a b c F N => by
          have A'' := Z.at (l' := [_, _, _, _, _]) F N
          refine hR _ _ _ (step_fin (l := [_, _, _, _, _]) (hl := hl') A4 KG F A'' N ?_) ⟨A'', (congrArg (fun B : Bk => B.xs.map Row.core) y1).trans (e4.trans (by rw [I.c0])), y6, y7, e2', e3', ?_, y4 ▸ I.u1, y5 ▸ I.u2⟩ fun e => (e5 e).trans (congrArg Kp.rs y2)
          · show [Value.ref S'.w0.b, .ref S'.w1.b, .ref S'.w2.b, .ref B2.b] = _
            rw [e1]
            exact y3.trans (by show [Value.ref B'.b, .ref S.w1.b, .ref S.w2.b, .ref S.k.b] = _; rw [e2])
          · show UV S'.w0.u ou
            rw [y1, e3]; exact I.u0
        cases nb
        all_goals
          k_steps
          (with_reducible rename Fr _ _ _ _ => F)
          (with_reducible rename News _ _ _ _ => N)
          unfold Halt
          refine' keys_eq ⟨_, (N _ (.tail _ (.head _))).1, rfl, _, rfl⟩ ⟨_, (N _ (.head _)).1, rfl, _, rfl⟩ (kz.1.keep fun x => x.keep fun o => F.keep _ o) (kz.2.keep fun x => x.keep fun o => F.keep _ o) ?hu ?eq
          case hu => simp only [Around.deeper_units]; k_extra "own a"
          case eq => exact fin _ _ _ _ _ _ _ _ F N
end
end Mine
end
section
theorem Mine.off_34 : True := by
  w_top off
  trivial
local macro_rules | `(tactic| walk_at "no such tree 34 0") => `(tactic| skip)
local macro_rules | `(tactic| walk_at "subscriptTail") => `(tactic| k_extra "own 22")
local macro_rules | `(tactic| walk_at "subscriptTail") => `(tactic| (k_extra "own 23"; intro u'))
namespace Mine
section
variable {prog : Program} {w : World} {A : Around} {s : Shared} {mean : ExcName → Option Value} {mg mb : Str → Option Value} {H₀ : Heap} {P : Addr → Prop} {R : Result → Shared → Prop}
theorem taken_ct {bl cb k i : Nat} {S : St} {V : List Cr} {ou : Option Int} {now : Int} {tn : Tok} (C : Cx w mean mg mb H₀ (PH H₀) A s.heap 5) (I : Inv prog w (PH H₀) s.heap S V ou) (hbl : s.heap.get? bl = some (W.listOf S.ids.toArray cb))
    (hk : KeyAt prog w s.heap (Pk i) k) (hi : i < 4)
    (hR : ∀ h' t S', Step s.heap h' S S' → Inv prog w (PH H₀) h' S' (dropV V i) ou → R (.ok (.ret (.bool true))) { s with heap := h', toks := t }) :
    codeAny (model prog w) A (.call (.ref 167) ⟨[.ref bl, .ref k, .int now tn], []⟩) R s := by
  have A4 := I.four
  have hA := C.dep
  have hU := C.uni
  refine' enter (mo := S.core w []) C.B.X C.B.T C.st ?m ?ho ?hcd ?room ?bind ?loc ?_ ?c1 ?c2 ?c3 ?c4
  case ho => k_is
  case hcd => k_is
  case bind => exact BindsTo.of_eq rfl
  case loc => exact locs rfl
  case c1 => exact rfl
  case c2 => exact rfl
  case c3 => exact rfl
  case c4 => decide
  case room => show _ < 1000; k_extra "own a"
  case m => exact A4.mo
  intro g L h₁ KG eL F N X T SG
  dsimp only
  have blm : bl ∉ S.mut := ids_ne A4 hbl fun x st q => by cases q
  have gbl : g.get? bl = some (W.listOf #[.ref S.w0.b, .ref S.w1.b, .ref S.w2.b, .ref S.k.b] cb) := KG _ _ hbl fun q => blm (core_mut q)
  have Z : Later prog w (PH H₀) g L S [] := A4.start KG eL
  have kg : ∀ {k : List Int} {a : Addr}, KeyAt prog w s.heap k a → KeyAt prog w g k a := fun x => A4.kg KG x
  have hkg : KeyAt prog w g (Pk i) k := kg hk
  have CT : ∀ {h' : Heap} {k : Nat} {m : Str → Option Value} {env : Env}, k ≤ 4 → Fr g L h' m → Cx w mean mg mb H₀ (PH H₀) (A.deeper env) h' k := fun hk F => C.dt SG (Nat.succ_le_succ hk) F
  have hH : (A.deeper (envOf "" default 0 0 .none)).handled = none := C.hh
  obtain ⟨Bj, hBj⟩ : ∃ Bj : Bk, Bj = if i < 2 then S.w1 else S.w2 := ⟨_, rfl⟩
  have ix0 : 0 ≤ 1 + (4 * (i : Int)).fdiv 8 := (half_ix hi).1
  have ix1 : 1 + (4 * (i : Int)).fdiv 8 < 2 ^ 63 := (half_ix hi).2
  have ix2 : [Value.ref S.w0.b, .ref S.w1.b, .ref S.w2.b, .ref S.k.b][(1 + (4 * (i : Int)).fdiv 8).toNat]? = some (.ref Bj.b) := half_at hi hBj
  have kL : @Ne Nat k L := by
    obtain ⟨o, _, _, e, _⟩ := hk
    have := Heap.lt_size e
    rw [eL]; exact Nat.ne_of_lt this
  obtain ⟨bo, hbo⟩ : ∃ bo, (findV V i).isSome = bo := ⟨_, rfl⟩
  replace N : News g L h₁ ((S.w0.b, instObj 85 S.w0.db) :: (S.w0.db, dictOf (bkD w S.w0.t1 S.w0.t2 S.w0.r S.w0.u) S.w0.n) :: S.core w []) := news_front2 N (.head _) (.tail _ (.head _))
  k_steps
  (with_reducible rename Fr _ _ _ _ => F)
  (with_reducible rename News _ _ _ _ => N)
  unfold Halt
  replace N : News g L _ ([] ++ S.core w []) := news_back2 N
  refine' drop_s0 (l := []) (hl := []) F N Z (fun _ h => nomatch h) (CT (by decide) F) (hkg.keep fun o => F.keep _ o) kL ?g0
  case g0 =>
    clear F N Z
    intro h2 t2 B' hl' F N Z sep e2 e3 e4
    have mj := half_in (w := w) (l := hl') (S := { S with w0 := B' }) hBj
    replace N : News g L h2 (_ :: _ :: _) := news_front2 (l := ({ S with w0 := B' } : St).core w hl') N mj.1 mj.2
    rw [I.c0, hbo]
    k_steps
    (with_reducible rename Fr _ _ _ _ => F)
    (with_reducible rename News _ _ _ _ => N)
    replace N : News g L _ ([] ++ ({ S with w0 := B' } : St).core w hl') := news_back2 N
    unfold Halt
    rw [show Bj.b = (if i < 2 then S.w1 else S.w2).b from by rw [hBj]]
    refine' drop_half (S := { S with w0 := B' }) (l := []) (hl := hl') (V := V) F N Z (fun _ h => nomatch h) (CT (by decide) F) (hkg.keep fun o => F.keep _ o) kL I.c1 I.c2 ?g1
    case g1 =>
      clear F N Z sep mj
      intro h3 t3 S' hl' F N Z sep y1 y2 y3 y4 y5 y6 y7
      have mk := core_k (w := w) S' hl'
      rw [y2] at mk
      replace N : News g L h3 (_ :: _ :: _) := news_front2 (l := S'.core w hl') N mk.1 mk.2
      rw [hbo]
      cases bo
      case' true =>
        have kz1 : KeysAre prog w g (if (findV V i).isSome then [Value.ref k] else []) [i] := by rw [hbo]; exact .cons hkg .nil
        have kz2 : KeysAre prog w g [Value.ref k] [i] := .cons hkg .nil
      case' false =>
        have kz1 : KeysAre prog w g (if (findV V i).isSome then [Value.ref k] else []) [] := by rw [hbo]; exact .nil
        have kz2 : KeysAre prog w g [] [] := .nil
      all_goals
        k_steps
        (with_reducible rename Fr _ _ _ _ => F)
        (with_reducible rename News _ _ _ _ => N)
        replace N : News g L _ ([_, _] ++ S'.core w hl') := all2 (N _ (.head _)) (all2 (N _ (.tail _ (.tail _ (.head _)))) (news_back2 (all_drop (all_drop (all_drop N)))))
        unfold Halt
        have A' := Z.at (l' := [_, _]) F N
        have sep2 : ∀ p ∈ ([_, _] : List (Addr × Obj)), p.1 ∉ S'.mut := all2 (A'.tupc_ne (N _ (.head _)).1 rfl) (all1 (A'.tupc_ne (N _ (.tail _ (.head _))).1 rfl))
        rw [show S.k.b = S'.k.b from by rw [y2]]
        refine' back_s (S := S') (l := [_, _]) (hl := hl') (V := V) F N Z sep2 (CT (by decide) F) (hkg.keep fun o => F.keep _ o) hi kL (N _ (.tail _ (.head _))).1 (N _ (.head _)).1 (y2 ▸ I.cr) (y2 ▸ I.cs) ?g2
        case g2 =>
          clear F N Z sep sep2 A'
          intro h4 t4 z c B2 hl' F N Z e1 e2' e3'
          k_steps
          (with_reducible rename Fr _ _ _ _ => F)
          (with_reducible rename News _ _ _ _ => N)
          unfold Halt
          refine' keys_eq ⟨_, (N _ (.tail _ (.head _))).1, rfl, _, rfl⟩ ⟨_, (N _ (.head _)).1, rfl, _, rfl⟩ (kz1.keep fun x => x.keep fun o => F.keep _ o) (kz2.keep fun x => x.keep fun o => F.keep _ o) ?hu ?eq
          case hu => simp only [Around.deeper_units]; k_extra "own a"
          case eq =>
            have A'' := Z.at (l' := [_, _, _, _]) F N
            refine hR _ _ _ (step_fin (l := [_, _, _, _]) (hl := hl') A4 KG F A'' N ?_) ⟨A'', (congrArg (fun B : Bk => B.xs.map Row.core) y1).trans (e4.trans (by rw [I.c0])), y6, y7, e2', e3', ?_, y4 ▸ I.u1, y5 ▸ I.u2⟩
            · show [Value.ref S'.w0.b, .ref S'.w1.b, .ref S'.w2.b, .ref B2.b] = _
              rw [e1]
              exact y3.trans (by show [Value.ref B'.b, .ref S.w1.b, .ref S.w2.b, .ref S.k.b] = _; rw [e2])
            · show UV S'.w0.u ou
              rw [y1, e3]; exact I.u0
end
end Mine
end
section
theorem Mine.off_35 : True := by
  w_top off
  trivial
namespace Mine
open PySem PySem.W PySem.Calls PySem.Spec PyProof.Rows PySem.MeetsSeq PySem.MeetsSeq2 PySem.MeetsSeq3 PySem.SeqRoads2
section
variable {prog : Program} {w : World} {A : Around} {s : Shared} {E : Value → Shared → Prop} {Q : Value → Shared → Prop}
/-- y and x come out equal in this very program and world -/
noncomputable def EqIn (prog : Program) (w : World) (A : Around) (s : Shared) (y x : Value) : Prop := ∀ (E : Value → Shared → Prop) (Q : Bool → Shared → Prop), Q true s → wpAny (model prog w) A (eqBool y x) Q E s
theorem EqIn.of {y x : Value} (h : SeqAt.EqAt A s y x true) : EqIn prog w A s y x := fun E Q => h prog w E Q
theorem EqIn.refs {a b : Addr} (h : a ≠ b → ∀ (E : Value → Shared → Prop) (Q : Value → Shared → Prop), Q (.bool true) s → wpAny (model prog w) A (compareOp .Eq (.ref a) (.ref b)) Q E s) : EqIn prog w A s (.ref a) (.ref b) := fun E Q hq => by
  by_cases e : a = b
  · subst e; exact SeqAt.EqAt.same _ prog w E Q hq
  · unfold eqBool
    refine wpAny_holding ?_
    refine wpAny_ite_split (fun x => absurd (by have := eq_of_beq x; injection this) e) (fun _ => ?_)
    exact wpAny_bind (h e E _ (wpAny_truthy_bool hq))
theorem EqIn.med {a b : Addr} {v : Int} (ha : (a == sysModules) = false) (hb : (b == sysModules) = false) (ma : IsMed prog w s.heap a v) (mb : IsMed prog w s.heap b v) (hu : A.units < 9900) : EqIn prog w A s (.ref a) (.ref b) :=
  EqIn.refs fun _ E Q hq => med_eq ha hb ma mb hu (by rw [beq_self_eq_true]; exact hq)
theorem eqw_loop (l b : Addr) (xs ys : Array Value) (n n' : Nat) (dd dd' : Option Addr) (sl sl' : Array (Option Value)) (hsz : xs.size = ys.size) (k : Nat) :
    ∀ i : Nat, xs.size - i = k → MeetsIn prog w (Builtin.«list.__eq__.loop» ⟨[.ref l, .ref b, rawInt i, rawInt 2], []⟩)
      (fun A R s => s.heap.get? l = some { cls := .type "list", dict := dd, data := .seq xs n, slots := sl } ∧ s.heap.get? b = some { cls := .type "list", dict := dd', data := .seq ys n', slots := sl' } ∧
        (∀ j (h1 : j < xs.size) (h2 : j < ys.size), EqIn prog w A.in1 s xs[j] ys[j]) ∧ R (.ok (.ret (.bool true))) s) := by
  induction k with
  | zero =>
    intro i hk A R s h
    obtain ⟨hp, g, d, tk, os⟩ := s; obtain ⟨hl, hb, he, h⟩ := h
    wp_walk using AutoSeq1.wpAny_loadPart' hl, AutoSeq1.wpAny_loadPart' hb
    have q1 : xs[((i : Nat) : Int).toNat]? = none := Array.getElem?_eq_none (Nat.le_of_sub_eq_zero hk)
    have q2 : ys[((i : Nat) : Int).toNat]? = none := Array.getElem?_eq_none (hsz ▸ Nat.le_of_sub_eq_zero hk)
    rw [q1, q2]
    wp_walk using AutoSeq1.wpAny_loadPart' hl, AutoSeq1.wpAny_loadPart' hb
    show R (.ok (.ret (.bool (xs.size == ys.size)))) _
    rw [hsz, beq_self_eq_true]
    exact h
  | succ k ih =>
    intro i hk A R s h
    obtain ⟨hp, g, d, tk, os⟩ := s; obtain ⟨hl, hb, he, h⟩ := h
    wp_walk using AutoSeq1.wpAny_loadPart' hl, AutoSeq1.wpAny_loadPart' hb
    have p1 : i < xs.size := lp_lt hk
    have p2 : i < ys.size := hsz ▸ p1
    have q1 : xs[((i : Nat) : Int).toNat]? = some xs[i] := by simp [p1]
    have q2 : ys[((i : Nat) : Int).toNat]? = some ys[i] := by simp [p2]
    have hc : ((i : Int) + 1) = ((i + 1 : Nat) : Int) := by push_cast; rfl
    rw [q1, q2]
    refine wpAny_bind (he i p1 p2 _ _ ?_)
    wp_walk
    rw [hc]
    exact ⟨plainId_quiet plain_eq_loop _, codeAny_builtin entry_eq_loop (by
      rw [Around.under_plainId plain_eq_loop _]
      exact ih (i + 1) (lp_step hk) A R _ ⟨hl, hb, he, h⟩)⟩
theorem eqw_list (l b : Addr) (xs ys : Array Value) (n n' : Nat) (dd dd' : Option Addr) (sl sl' : Array (Option Value)) (hsz : xs.size = ys.size) :
    MeetsIn prog w (Builtin.«list.__eq__» ⟨[.ref l, .ref b], []⟩)
      (fun A R s => s.heap.get? l = some { cls := .type "list", dict := dd, data := .seq xs n, slots := sl } ∧ s.heap.get? b = some { cls := .type "list", dict := dd', data := .seq ys n', slots := sl' } ∧
        (∀ j (h1 : j < xs.size) (h2 : j < ys.size), EqIn prog w A.in1 s xs[j] ys[j]) ∧ R (.ok (.ret (.bool true))) s) := by
  intro A R s h
  obtain ⟨hp, g, d, tk, os⟩ := s; obtain ⟨hl, hb, he, h⟩ := h
  have f3 := AutoSeq1.sub_list_list
  have hne : ¬ (xs.size != ys.size) = true := by simp [hsz]
  wp_walk using AutoSeq1.wpAny_loadPart' hl, AutoSeq1.wpAny_loadPart' hb
  exact ⟨plainId_quiet plain_eq_loop _, codeAny_builtin entry_eq_loop (by
    rw [Around.under_plainId plain_eq_loop _]
    exact eqw_loop l b xs ys n n' dd dd' sl sl' hsz _ 0 rfl A R _ ⟨hl, hb, he, h⟩)⟩
theorem list_eqW {l b : Addr} {xs ys : Array Value} (hl : s.heap.IsList l xs) (hb : s.heap.IsList b ys) (hsz : xs.size = ys.size) (hu : A.units < 9900) (he : ∀ j (h1 : j < xs.size) (h2 : j < ys.size), EqIn prog w A.in1 s xs[j] ys[j]) (hQ : Q (.bool true) s) :
    wpAny (model prog w) A (compareOp .Eq (.ref l) (.ref b)) Q E s := by
  obtain ⟨⟨cls, dd, data, sl⟩, ho, hc, n, hd⟩ := id hl
  obtain ⟨⟨cls2, dd2, data2, sl2⟩, ho2, hc2, n2, hd2⟩ := id hb
  simp only at hc hd hc2 hd2
  subst hc hd hc2 hd2
  exact wpAny_richCompare_same_room (op := .Eq) ⟨_, ho, rfl⟩ ⟨_, ho2, rfl⟩ F.slot_list_eq (call_meetsIn F.slot_list_eq ⟨_, ho, rfl⟩ F.entry_list_eq (F.args_list_eq_2 _ _) (eqw_list l b xs ys n n2 dd dd2 sl sl2 hsz)
    ⟨ho, ho2, he, ⟨(fun x => nomatch x), hQ⟩⟩) hu
theorem EqIn.list {a b : Addr} {xs ys : Array Value} (hl : s.heap.IsList a xs) (hb : s.heap.IsList b ys) (hsz : xs.size = ys.size) (hu : A.units < 9900) (he : ∀ j (h1 : j < xs.size) (h2 : j < ys.size), EqIn prog w A.in1 s xs[j] ys[j]) : EqIn prog w A s (.ref a) (.ref b) :=
  EqIn.refs fun _ E Q hq => list_eqW hl hb hsz hu he hq

theorem sorted_L {ks : List (Nat × Addr)} {h₀ : Heap} {L l : Addr} {m : Str → Option Value} {news : List (Addr × Obj)} (F : Fr h₀ L s.heap m) (N : News h₀ L s.heap news) (hl : s.heap.IsList l (refsOf ks).toArray) (hk : ∀ x ∈ ks, KeyAt prog w h₀ (Pk x.1) x.2) (hs : ∀ x ∈ ks, x.1 < 4) (h4 : ks.length ≤ 4)
    (h : ∀ D c h', Fr h₀ L h' m → News h₀ L h' ((D, W.listOf (refsOf (sortBy (·.1) ks)).toArray c) :: news) → (∀ q ∈ news, q.1 < D) → Q (.ref D) { s with heap := h' }) :
    wpAny (model prog w) A (call (.builtin "sorted") [.ref l]) Q E s := by
  have hz : (refsOf ks).length ≤ sizeLine := by rw [List.length_map, sizeLine_eq]; omega
  refine call_function_entry kind_sorted plain_sorted entry_sorted (args_sorted1 _) ?_
  unfold Builtin.«sorted»
  refine wpAny_bind (m := checkCount "sorted" 1 1 _) (wpAny_pure ?_)
  refine wpAny_bind (collect_list hl ?_ hz)
  refine wpAny_bind (wpAny_newList ?_ hz)
  have keep : ∀ b o, s.heap.get? b = some o → (((s.heap.push (seqObj "list" #[] 0)).update s.heap.objs.size (Obj.mapSeq (· ++ (refsOf ks).toArray))).push (seqObj "list" (refsOf ks).toArray 0)).get? b = some o := fun b o q => by
    have hlt : b < s.heap.objs.size := Heap.lt_size q
    have e1 := Heap.get?_push_of_some (o := seqObj "list" #[] 0) q
    have e2 : ((s.heap.push (seqObj "list" #[] 0)).update s.heap.objs.size (Obj.mapSeq (· ++ (refsOf ks).toArray))).get? b = some o := by
      rw [Heap.get?_update_ne _ _ _ _ (Nat.ne_of_lt hlt)]; exact e1
    exact Heap.get?_push_of_some _ e2
  have hsz : ((s.heap.push (seqObj "list" #[] 0)).update s.heap.objs.size (Obj.mapSeq (· ++ (refsOf ks).toArray))).objs.size = s.heap.objs.size + 1 := by
    rw [Heap.size_update, Heap.size_push]
  have hoL : (((s.heap.push (seqObj "list" #[] 0)).update s.heap.objs.size (Obj.mapSeq (· ++ (refsOf ks).toArray))).push (seqObj "list" (refsOf ks).toArray 0)).get? (s.heap.objs.size + 1) = some (seqObj "list" (refsOf ks).toArray 0) := by
    rw [← hsz]; exact Heap.get?_push_size _ rfl
  have hL : L < s.heap.objs.size := F.ns.lt
  show wpAny _ _ _ _ _ { s with heap := ((s.heap.push (seqObj "list" #[] 0)).update s.heap.objs.size (Obj.mapSeq (· ++ (refsOf ks).toArray))).push (seqObj "list" (refsOf ks).toArray 0) }
  rw [hsz]
  refine wpAny_bind (wpAny_holding (wpAny_call_entry slot_list_sort ⟨_, hoL, rfl⟩ entry_list_sort (sort_keys (s := { s with heap := ((s.heap.push (seqObj "list" #[] 0)).update s.heap.objs.size (Obj.mapSeq (· ++ (refsOf ks).toArray))).push (seqObj "list" (refsOf ks).toArray 0) }) (fr_all F keep) (news_all N keep) hoL (Nat.ne_of_gt (Nat.lt_succ_of_lt hL)) (Heap.get?_none_of_le (Nat.le_trans F.above (Nat.le_succ_of_le (Nat.le_of_lt hL))))
      (fun p hp => Nat.ne_of_lt (Nat.lt_succ_of_lt (Heap.lt_size (N p hp).1))) hk hs h4 fun h' c F' N' => ?_) (args_list_sort _)))
  exact ⟨_, rfl, wpAny_pure ⟨_, rfl, h _ c h' F' N' fun q hq => Nat.lt_succ_of_lt (Heap.lt_size (N q hq).1)⟩⟩
end
end Mine
end
section
theorem Mine.off_36 : True := by
  w_top off
  trivial
local macro_rules | `(tactic| walk_at "no such tree 36 0") => `(tactic| skip)
local macro_rules | `(tactic| walk_at "assign Tuple") => `(tactic| (k_extra "own 25"; intro h' F' N'; (try k_sweep)))
local macro_rules | `(tactic| k_handed) => `(tactic| with_reducible assumption)
local macro_rules | `(tactic| walk_at "compareOp NotEq") => `(tactic| k_extra "own 26")
local macro_rules | `(tactic| walk_at "call builtin:sorted") => `(tactic| k_extra "own 27")
namespace Mine
section
variable {prog : Program} {w : World} {A : Around} {s : Shared} {mean : ExcName → Option Value} {mg mb : Str → Option Value} {H₀ : Heap} {P : Addr → Prop} {R : Result → Shared → Prop}
theorem fresh_i (xs : List Row) : (freshR xs).map (·.i) = (sortBy (·.1) (keptV (xs.map Row.core))).map (·.1) := by
  unfold freshR keptV
  rw [sortBy_filter, map_i, sortBy_core, List.filter_map]; rfl
theorem stale_i (xs : List Row) : (staleR xs).map (·.i) = (sortBy (·.1) (staleV (xs.map Row.core))).map (·.1) := by
  show (staleR xs).map (·.i) = (sortBy (·.1) ((xs.map Row.core).filter (·.2.2))).map (·.1)
  unfold staleR
  rw [sortBy_filter, map_i, sortBy_core, List.filter_map]; rfl
theorem fresh_split (V : List Cr) : (sortBy (·.1) (keptV (V.filter lowC))).map (·.1) ++ (sortBy (·.1) (keptV (V.filter highC))).map (·.1) = (sortBy (·.1) (keptV V)).map (·.1) := by
  unfold keptV
  rw [← List.map_append, filter_swap, filter_swap (α := Cr) highC, sortBy_split]
theorem stale_split (V : List Cr) : (sortBy (·.1) (staleV (V.filter lowC))).map (·.1) ++ (sortBy (·.1) (staleV (V.filter highC))).map (·.1) = (sortBy (·.1) (staleV V)).map (·.1) := by
  show (sortBy (·.1) ((V.filter lowC).filter (·.2.2))).map (·.1) ++ (sortBy (·.1) ((V.filter highC).filter (·.2.2))).map (·.1) = (sortBy (·.1) (V.filter (·.2.2))).map (·.1)
  rw [← List.map_append, filter_swap, filter_swap (α := Cr) highC, sortBy_split]
theorem fresh_keys {h : Heap} {B : Bk} {V : List Cr} (A : B.At prog w P h) (e : B.xs.map Row.core = V) : KeysAre prog w h (keysR (freshR B.xs)) ((sortBy (·.1) (keptV V)).map (·.1)) := by
  have := KeysAre.of_rows (h := h) (xs := freshR B.xs) fun x hx => A.bk.keys x (sortBy_mem (List.mem_filter.mp hx).1)
  rw [fresh_i, e] at this; exact this
theorem stale_keys {h : Heap} {B : Bk} {V : List Cr} (A : B.At prog w P h) (e : B.xs.map Row.core = V) : KeysAre prog w h (keysR (staleR B.xs)) ((sortBy (·.1) (staleV V)).map (·.1)) := by
  have := KeysAre.of_rows (h := h) (xs := staleR B.xs) fun x hx => A.bk.keys x (sortBy_mem (List.mem_filter.mp hx).1)
  rw [stale_i, e] at this; exact this
theorem fas_len {h : Heap} {B : Bk} (A : B.At prog w P h) : (keysR (freshR B.xs)).length ≤ 4 ∧ (keysR (staleR B.xs)).length ≤ 4 := by
  have h1 := sortBy_length (fun x : Row => x.i) B.xs
  have h2 := A.bk.len
  rw [List.length_map, List.length_map]
  exact ⟨Nat.le_trans (List.length_filter_le _ _) (Nat.le_trans h1 h2), Nat.le_trans (List.length_filter_le _ _) (Nat.le_trans h1 h2)⟩
theorem until_ne {E : Value → Shared → Prop} {Q : Value → Shared → Prop} {u u' : Value} {ou : Option Int} (x : UV u ou) (y : UV u' ou) (h : Q (.bool false) s) : wpAny (model prog w) A (compareOp .NotEq u u') Q E s := by
  cases ou with
  | none => cases x; cases y; exact EqNone.ne_none_none h
  | some k =>
    obtain ⟨t, rfl⟩ := x
    obtain ⟨t', rfl⟩ := y
    refine ne_int ?_
    rw [bne_self_eq_false]; exact h
theorem UV.handed {u : Value} {ou : Option Int} (x : UV u ou) : handedIn u = true := by
  cases ou with
  | none => cases x; rfl
  | some k => obtain ⟨t, rfl⟩ := x; rfl
theorem sortBy_perm_nat {l l' : List Nat} (h : l.Perm l') : sortBy (fun i : Nat => i) l = sortBy (fun i : Nat => i) l' := by
  rw [sortBy_four, sortBy_four]
  have e : ∀ j : Nat, l.filter (fun x => x == j) = l'.filter (fun x => x == j) := fun j => by rw [List.filter_beq, List.filter_beq, h.count_eq]
  rw [e 0, e 1, e 2, e 3]
theorem both_perm {xs : List Row} (h : ∀ x ∈ xs, x.i < 4) : (freshR xs ++ staleR xs).Perm xs := by
  have h1 := List.filter_append_perm (fun x : Row => !x.st) (sortBy (·.i) xs)
  unfold freshR staleR
  simp only [Bool.not_not] at h1
  exact h1.trans (sortBy_perm h)
theorem both_keys {h : Heap} {B : Bk} {V : List Cr} (A : B.At prog w P h) (e : B.xs.map Row.core = V) : KeysAre prog w h (keysR (sortBy (·.i) (freshR B.xs ++ staleR B.xs))) ((sortBy (·.1) V).map (·.1)) := by
  have hp := both_perm A.bk.small
  have := KeysAre.of_rows (h := h) (xs := sortBy (·.i) (freshR B.xs ++ staleR B.xs)) fun x hx => A.bk.keys x (hp.mem_iff.mp (sortBy_mem hx))
  have e1 := sortBy_map (fun i : Nat => i) (fun x : Row => x.i) (freshR B.xs ++ staleR B.xs)
  have e2 := sortBy_map (fun i : Nat => i) (fun c : Cr => c.1) V
  have e3 : (B.xs.map (·.i)) = V.map (·.1) := by rw [map_i, e]
  rw [← e1, sortBy_perm_nat (hp.map (·.i)), e3, e2] at this
  exact this
theorem both_med {h : Heap} {S : St} {V : List Cr} {ou : Option Int} (I : Inv prog w P h S V ou) {x : Row} (hx : x ∈ S.w0.xs) : ∃ r, findR S.k.rs x.i = some r ∧ r ∈ S.k.rs ∧ r.i = x.i ∧ r.v = x.v := by
  have h1 := find_iv _ _ x.i I.cr
  rw [findV_rows I.c0, findR_of I.four.a0.bk.nodup hx] at h1
  obtain ⟨r, hr, e⟩ := Option.map_eq_some_iff.mp h1
  exact ⟨r, hr, (findR_mem hr).1, (findR_mem hr).2, e⟩
theorem news4 {g h : Heap} {L : Addr} {a b c d : Addr × Obj} (ha : h.get? a.1 = some a.2 ∧ a.1 ≠ L ∧ g.get? a.1 = none) (hb : h.get? b.1 = some b.2 ∧ b.1 ≠ L ∧ g.get? b.1 = none) (hc : h.get? c.1 = some c.2 ∧ c.1 ≠ L ∧ g.get? c.1 = none) (hd : h.get? d.1 = some d.2 ∧ d.1 ≠ L ∧ g.get? d.1 = none) : News g L h [a, b, c, d] := all2 ha (all2 hb (all2 hc (all1 hd)))
theorem alike_ct {bl cb : Nat} {S : St} {V : List Cr} {ou : Option Int} (C : Cx w mean mg mb H₀ (PH H₀) A s.heap 5) (I : Inv prog w (PH H₀) s.heap S V ou) (hbl : s.heap.get? bl = some (W.listOf S.ids.toArray cb))
    (hR : ∀ h' t, Keep [] s.heap h' → R (.ok (.ret (.bool true))) { s with heap := h', toks := t }) :
    codeAny (model prog w) A (.call (.ref 193) ⟨[.ref bl], []⟩) R s := by
  have A4 := I.four
  have hA := C.dep
  have hU := C.uni
  refine' enterC (mo := []) C.B.X C.B.T C.st ?m ?ho ?hcd ?room ?bind ?loc ?nd ?_ ?c1 ?c2 ?c3
  case ho => k_is
  case hcd => k_is
  case bind => exact BindsTo.of_eq rfl
  case loc => exact rfl
  case nd => decide +kernel
  case c1 => exact rfl
  case c2 => exact rfl
  case c3 => exact rfl
  case room => show _ < 1000; k_extra "own a"
  case m => exact fun _ h => nomatch h
  intro g L h₁ tk cells KG eL F N Y lL X T SG
  k_cells Y
  simp only [List.cons_append, List.nil_append] at N
  (try dsimp only)
  have kgl : ∀ b o, s.heap.get? b = some o → g.get? b = some o := fun b o e => KG b o e (by simp)
  have A4g : Four prog w (PH H₀) g S := A4.stay (fun a _ o => kgl a o) (fun a _ o => kgl a o)
  have gbl : g.get? bl = some (W.listOf #[.ref S.w0.b, .ref S.w1.b, .ref S.w2.b, .ref S.k.b] cb) := kgl _ _ hbl
  have CT : ∀ {h' : Heap} {k : Nat} {m : Str → Option Value} {env : Env}, k ≤ 4 → Fr g L h' m → Cx w mean mg mb H₀ (PH H₀) (A.deeper env) h' k := fun hk F => C.dt SG (Nat.succ_le_succ hk) F
  have hH : (A.deeper (envOf "" default 0 0 .none)).handled = none := C.hh
  obtain ⟨⟨b0, db0, r0, u0, xs0, p0, q0, n0, o0⟩, ⟨b1, db1, r1, u1, xs1, p1, q1, n1, o1⟩, ⟨b2, db2, r2, u2, xs2, p2, q2, n2, o2⟩, ⟨b3, db3, rt, sl, rs, ss, p3, q3, p4, q4, n3, ro, so⟩⟩ := S
  dsimp only at gbl
  have i0 : g.get? b0 = some (instObj 85 db0) := A4g.a0.bk.inst
  have i1 : g.get? b1 = some (instObj 85 db1) := A4g.a1.bk.inst
  have i2 : g.get? b2 = some (instObj 85 db2) := A4g.a2.bk.inst
  have i3 : g.get? b3 = some (instObj 142 db3) := A4g.ak.kp.inst
  have j0 : g.get? db0 = some (dictOf (bkD w p0 q0 r0 u0) n0) := A4g.a0.d
  have j1 : g.get? db1 = some (dictOf (bkD w p1 q1 r1 u1) n1) := A4g.a1.d
  have j2 : g.get? db2 = some (dictOf (bkD w p2 q2 r2 u2) n2) := A4g.a2.d
  have j3 : g.get? db3 = some (dictOf (akD w p3 q3 p4 q4 rt sl) n3) := A4g.ak.d
  have hh0 : handedIn u0 = true := UV.handed I.u0
  have hh1 : handedIn u1 = true := UV.handed I.u1
  have hh2 : handedIn u2 = true := UV.handed I.u2
  have BK : ∀ {B : Bk} {h' : Heap} {m : Str → Option Value}, B.At prog w (PH H₀) g → Fr g L h' m → Book prog w (PH H₀) h' B.b B.db B.r B.u B.xs := fun A F => A.bk.at fun b o e _ => F.keep b o e
  k_steps
  (with_reducible rename Fr _ _ _ _ => F)
  (with_reducible rename News _ _ _ _ => N)
  unfold Halt
  (with_reducible rename _ = PySem.Data.cell (some (Value.ref b0)) => dwc)
  (with_reducible rename _ = PySem.Data.cell (some (Value.ref b3)) => dkc)
  refine' fas_k F N (CT (by decide) F) (BK A4g.a0 F) ?f0
  case f0 =>
    clear F N
    intro h2 t2 z0 zf zs c1 c2 c3 K2 F N nq nf nz
    k_steps
    (with_reducible rename Fr _ _ _ _ => F)
    (with_reducible rename News _ _ _ _ => N)
    unfold Halt
    refine' fas_k F N (CT (by decide) F) (BK A4g.a1 F) ?f1
    case f1 =>
      clear F N
      intro h3 t3 y0 yf ys c4 c5 c6 K3 F N nq1 nf1 nz1
      k_steps
      (with_reducible rename Fr _ _ _ _ => F)
      (with_reducible rename News _ _ _ _ => N)
      unfold Halt
      refine' fas_k F N (CT (by decide) F) (BK A4g.a2 F) ?f2
      case f2 =>
        clear F N
        intro h4 t4 x0 xf xz c7 c8 c9 K4 F N nq2 nf2 nz2
        k_steps
        (with_reducible rename Fr _ _ _ _ => F)
        (with_reducible rename News _ _ _ _ => N)
        unfold Halt
        have kc : ∀ {k : List Int} {a : Addr} {h' : Heap} {m : Str → Option Value}, KeyAt prog w g k a → Fr g L h' m → KeyAt prog w h' k a := fun x F => x.keep fun o => F.keep _ o
        have ksc : ∀ {vs : List Value} {is : List Nat} {h' : Heap} {m : Str → Option Value}, KeysAre prog w g vs is → Fr g L h' m → KeysAre prog w h' vs is := fun x F => x.keep fun y => kc y F
        have f0 := fresh_keys A4g.a0 I.c0
        have s0 := stale_keys A4g.a0 I.c0
        have f12 := (fresh_keys A4g.a1 I.c1).append (fresh_keys A4g.a2 I.c2)
        have s12 := (stale_keys A4g.a1 I.c1).append (stale_keys A4g.a2 I.c2)
        rw [fresh_split] at f12
        rw [stale_split] at s12
        have ln0 := fas_len A4g.a0
        have ln1 := fas_len A4g.a1
        have ln2 := fas_len A4g.a2
        dsimp only at ln0 ln1 ln2
        refine' add_keys F N (News.get N (by k_mem)) (News.get N (by k_mem)) ?z1 ?a1
        case z1 => exact Nat.le_trans (Nat.add_le_add ln1.1 ln2.1) (by decide)
        case a1 =>
          clear F N
          intro D1 h5 F N _ _
          k_steps
          (with_reducible rename Fr _ _ _ _ => F)
          (with_reducible rename News _ _ _ _ => N)
          unfold Halt
          refine' keys_ne ⟨_, (N _ (.head _)).1, rfl, _, rfl⟩ ⟨_, News.get N (by k_mem), rfl, _, rfl⟩ (ksc f12 F) (ksc f0 F) ?hu1 ?n1
          case hu1 => simp only [Around.deeper_units]; k_extra "own a"
          case n1 =>
            k_steps
            (with_reducible rename Fr _ _ _ _ => F)
            (with_reducible rename News _ _ _ _ => N)
            unfold Halt
            refine' add_keys F N (News.get N (by k_mem)) (News.get N (by k_mem)) ?z2 ?a2
            case z2 => exact Nat.le_trans (Nat.add_le_add ln1.2 ln2.2) (by decide)
            case a2 =>
              clear F N
              intro D2 h6 F N _ _
              k_steps
              (with_reducible rename Fr _ _ _ _ => F)
              (with_reducible rename News _ _ _ _ => N)
              unfold Halt
              refine' keys_ne ⟨_, (N _ (.head _)).1, rfl, _, rfl⟩ ⟨_, News.get N (by k_mem), rfl, _, rfl⟩ (ksc s12 F) (ksc s0 F) ?hu2 ?n2
              case hu2 => simp only [Around.deeper_units]; k_extra "own a"
              case n2 =>
                k_steps
                unfold Halt
                refine' until_ne I.u1 I.u0 ?w1
                case w1 =>
                  k_steps
                  unfold Halt
                  refine' until_ne I.u2 I.u0 ?w2
                  case w2 =>
                    k_steps
                    (with_reducible rename Fr _ _ _ _ => F)
                    (with_reducible rename News _ _ _ _ => N)
                    unfold Halt
                    replace N := news4 (N (zf, _) (by k_mem)) (N (zs, _) (by k_mem)) (N (L + 1, _) (by k_mem)) (N (L + 1 + 1, _) (by k_mem))
                    refine' sorted_D (xs := ss.map Row.sent) (ks := ss.map fun x : Row => (x.i, x.k)) hH F N (F.keep _ _ A4g.ak.s) (low_of A4g.ak.kp.p.2.2.2.2) A4g.ak.so ?sx ?sk ?ss ?s4 ?st
                    case sx => rw [List.map_map, List.map_map]; rfl
                    case sk => intro x hx; obtain ⟨y, hy, rfl⟩ := List.mem_map.mp hx; exact A4g.ak.kp.skeys y hy
                    case ss => intro x hx; obtain ⟨y, hy, rfl⟩ := List.mem_map.mp hx; exact A4g.ak.kp.ssmall y hy
                    case s4 => rw [List.length_map]; exact A4g.ak.kp.slen
                    case st =>
                      clear F N
                      intro D3 cs h7 t7 F N _
                      rw [refs_keys] at N
                      k_steps
                      (with_reducible rename Fr _ _ _ _ => F)
                      (with_reducible rename News _ _ _ _ => N)
                      unfold Halt
                      have ks1 := KeysAre.of_rows (h := g) (xs := sortBy (·.i) ss) fun x hx => A4g.ak.kp.skeys x (sortBy_mem hx)
                      rw [show (sortBy (·.i) ss).map (·.i) = _ from goneK_i (a := .sweep) I.cr I.cs] at ks1
                      refine' keys_ne ⟨_, (N _ (.head _)).1, rfl, _, rfl⟩ ⟨_, News.get N (by k_mem), rfl, _, rfl⟩ (ksc ks1 F) (ksc s0 F) ?hu3 ?n3
                      case hu3 => simp only [Around.deeper_units]; k_extra "own a"
                      case n3 =>
                        k_steps
                        (with_reducible rename Fr _ _ _ _ => F)
                        (with_reducible rename News _ _ _ _ => N)
                        unfold Halt
                        refine' sorted_D (xs := rs.map Row.ent) (ks := rs.map fun x : Row => (x.i, x.k)) hH F N (F.keep _ _ A4g.ak.r) (low_of A4g.ak.kp.p.2.2.1.2) A4g.ak.ro ?rx ?rk ?rs ?r4 ?rt
                        case rx => rw [List.map_map, List.map_map]; rfl
                        case rk => intro x hx; obtain ⟨y, hy, rfl⟩ := List.mem_map.mp hx; exact A4g.ak.kp.keys y hy
                        case rs => intro x hx; obtain ⟨y, hy, rfl⟩ := List.mem_map.mp hx; exact A4g.ak.kp.small y hy
                        case r4 => rw [List.length_map]; exact A4g.ak.kp.len
                        case rt =>
                          clear F N
                          intro D4 cr h8 t8 F N _
                          rw [refs_keys] at N
                          k_steps
                          (with_reducible rename Fr _ _ _ _ => F)
                          (with_reducible rename News _ _ _ _ => N)
                          unfold Halt
                          refine' add_keys F N (News.get N (by k_mem)) (News.get N (by k_mem)) ?z3 ?a3
                          case z3 => exact Nat.le_trans (Nat.add_le_add ln0.1 ln0.2) (by decide)
                          case a3 =>
                            clear F N
                            intro D5 h9 F N _ _
                            k_steps
                            (with_reducible rename Fr _ _ _ _ => F)
                            (with_reducible rename News _ _ _ _ => N)
                            unfold Halt
                            have hp := both_perm A4g.a0.bk.small
                            dsimp only at hp
                            refine' sorted_L (ks := (freshR xs0 ++ staleR xs0).map fun x : Row => (x.i, x.k)) F N ?ll ?lk ?ls ?l4 ?lt
                            case ll =>
                              have e : refsOf ((freshR xs0 ++ staleR xs0).map fun x : Row => (x.i, x.k)) = keysR (freshR xs0) ++ keysR (staleR xs0) := by
                                show List.map _ (List.map _ _) = _
                                rw [List.map_map, List.map_append]; rfl
                              rw [e]
                              exact ⟨_, (N _ (.head _)).1, rfl, _, rfl⟩
                            case lk => intro x hx; obtain ⟨y, hy, rfl⟩ := List.mem_map.mp hx; exact A4g.a0.bk.keys y (hp.mem_iff.mp hy)
                            case ls => intro x hx; obtain ⟨y, hy, rfl⟩ := List.mem_map.mp hx; exact A4g.a0.bk.small y (hp.mem_iff.mp hy)
                            case l4 => rw [List.length_map, hp.length_eq]; exact A4g.a0.bk.len
                            case lt =>
                              clear F N
                              intro D6 c6 h10 F N _
                              rw [refs_keys] at N
                              k_steps
                              (with_reducible rename Fr _ _ _ _ => F)
                              (with_reducible rename News _ _ _ _ => N)
                              unfold Halt
                              have kr1 := KeysAre.of_rows (h := g) (xs := sortBy (·.i) rs) fun x hx => A4g.ak.kp.keys x (sortBy_mem hx)
                              rw [show (sortBy (·.i) rs).map (·.i) = _ from goneK_i (a := .clear) I.cr I.cs] at kr1
                              refine' keys_ne ⟨_, News.get N (by k_mem), rfl, _, rfl⟩ ⟨_, (N _ (.head _)).1, rfl, _, rfl⟩ (ksc kr1 F) (ksc (both_keys A4g.a0 I.c0) F) ?hu4 ?n4
                              case hu4 => simp only [Around.deeper_units]; k_extra "own a"
                              case n4 =>
                                k_steps
                                (with_reducible rename Fr _ _ _ _ => F)
                                (with_reducible rename News _ _ _ _ => N)
                                replace N := news4 (N (zf, _) (by k_mem)) (N (zs, _) (by k_mem)) (N (L + 1, _) (by k_mem)) (N (L + 1 + 1, _) (by k_mem))
                                refine' comp_start ?hclos ?hkind ?hnames ?hsrc ?hfold
                                case hclos => exact rfl
                                case hfold => intro _; rfl
                                case hkind => exact rfl
                                case hnames => decide
                                k_steps
                                unfold Halt
                                (with_reducible rename Fr _ _ _ _ => F)
                                (with_reducible rename News _ _ _ _ => N)
                                refine' add_keys F N (News.get N (by k_mem)) (News.get N (by k_mem)) ?z4 ?a4
                                case z4 => exact Nat.le_trans (Nat.add_le_add ln0.1 ln0.2) (by decide)
                                case a4 =>
                                  clear F N
                                  intro D7 h11 F N _ _
                                  have eL : keysR (freshR xs0) ++ keysR (staleR xs0) = keysR (freshR xs0 ++ staleR xs0) := List.map_append.symm
                                  have hLl : (keysR (freshR xs0 ++ staleR xs0)).length ≤ 1000 := by
                                    rw [List.length_map, hp.length_eq]
                                    exact Nat.le_trans A4g.a0.bk.len (by decide)
                                  have nK : h11.get? (L + 1 + 1) = some _ := News.get N (by k_mem)
                                  have nW : h11.get? (L + 1) = some _ := News.get N (by k_mem)
                                  have Xc := X.keeps F.keep
                                  have Tc := T.keeps F.keep
                                  rw [eL] at N
                                  have A11 : Four prog w (PH H₀) h11 _ := A4g.stay (fun a _ o => F.keep a o) (fun a _ o => F.keep a o)
                                  have ii3 : h11.get? b3 = some (instObj 142 db3) := F.keep _ _ i3
                                  have jj3 : h11.get? db3 = some (dictOf (akD w p3 q3 p4 q4 rt sl) n3) := F.keep _ _ j3
                                  have CC : ∀ {h' : Heap} {Cf : Addr} {k : Nat} {m : Str → Option Value} {env : Env}, k ≤ 4 → Fr h11 Cf h' m → Cx w mean mg mb H₀ (PH H₀) (A.deeper env) h' k := fun hk F' => C.to (fun b o e => F'.keep b o (F.keep b o (SG b o e))) (by simp only [depth_deeper]; k_extra "own a") (by simp only [Around.deeper_units]; k_extra "own a") C.hh
                                  refine' comp_list (l := D7) (vs := keysR (freshR xs0 ++ staleR xs0)) (fun C D I i ys h => ys.length = i ∧ ∀ (j : Nat) (y : Value) (x : Row), ys[j]? = some y → (freshR xs0 ++ staleR xs0)[j]? = some x → ∃ r, findR rs x.i = some r ∧ y = .ref r.a)
                                    ?J0 ?Jk hH F N ?hcell ?hkind ?hx ⟨_, (N _ (.head _)).1, rfl, _, rfl⟩ hLl ?body ?rest
                                  case J0 => exact fun C D I h => ⟨rfl, fun j y x e => by simp at e⟩
                                  case Jk => exact fun C D I i ys h h' x _ => x
                                  case hkind => exact rfl
                                  case hcell => decide
                                  case hx => exact rfl
                                  case body =>
                                    intro Cf D I' i v ys s₃ m₃ E' K hv hi hm F₃ al frs hne hj hk
                                    refine turn_nil ?_
                                    obtain ⟨ey, fy⟩ := hj
                                    obtain ⟨oD, oI, N₃⟩ := comp_led al frs hne
                                    rw [List.getElem?_map] at hv
                                    obtain ⟨x, hx, rfl⟩ := Option.map_eq_some_iff.mp hv
                                    have hxm := hp.mem_iff.mp (List.mem_of_getElem? hx)
                                    obtain ⟨r, hr, hrm, hri, hrv⟩ := both_med I hxm
                                    obtain ⟨tv, tt, nt, hrt⟩ := A11.ak.kp.tup r hrm
                                    have hkx : KeyAt prog w h11 (Pk x.i) x.k := A11.a0.bk.keys x hxm
                                    clear F N
                                    k_steps
                                    (with_reducible rename Fr _ _ _ _ => F₃)
                                    (with_reducible rename News _ _ _ _ => N₃)
                                    unfold Halt
                                    have eD := (N₃ _ (.head _)).1
                                    have eI := (N₃ _ (.tail _ (.head _))).1
                                    refine' wpAny_call (look_ct (CC (by omega) F₃) (A11.ak.kp.at fun b o e _ => F₃.keep b o e) (hkx.keep fun o => F₃.keep _ o) hr ?lk)
                                    case lk =>
                                      intro h' t' Kh
                                      have kh : ∀ b o, s₃.heap.get? b = some o → h'.get? b = some o := fun b o e => Kh b o e (by simp)
                                      have F₅ := fr_all F₃ kh
                                      have N₅ := news_all N₃ kh
                                      clear F₃ N₃
                                      k_steps
                                      refine hk (some _) _ _ F₅ ((kh _ _ eD).trans eD.symm) ((kh _ _ eI).trans eI.symm) ⟨by simp [ey], fun j y x' e1 e2 => ?_⟩
                                      rw [Option.toList_some] at e1
                                      exact ext1 ey hx fy ⟨r, hr, rfl⟩ j y x' e1 e2
                                  case rest =>
                                    clear F N
                                    intro Cc D8 I' zs1 h12 t12 F N hD8 hk12 ⟨ey1, fy1⟩
                                    k_steps
                                    (with_reducible rename Fr _ _ _ _ => F)
                                    (with_reducible rename News _ _ _ _ => N)
                                    refine' comp_start ?hclos ?hkind ?hnames ?hsrc2 ?hfold
                                    case hclos => exact rfl
                                    case hfold => intro _; rfl
                                    case hkind => exact rfl
                                    case hnames => decide
                                    k_steps
                                    unfold Halt
                                    (with_reducible rename Fr _ _ _ _ => F)
                                    (with_reducible rename News _ _ _ _ => N)
                                    refine' add_keys F N (News.get N (by k_mem)) (News.get N (by k_mem)) ?z5 ?a5
                                    case z5 => exact Nat.le_trans (Nat.add_le_add ln0.1 ln0.2) (by decide)
                                    case a5 =>
                                      clear F N A11 ii3 jj3 CC nK nW Xc Tc
                                      intro D9 h13 F N _ _
                                      have nW : h13.get? (L + 1) = some _ := News.get N (by k_mem)
                                      have Xc := X.keeps F.keep
                                      have Tc := T.keeps F.keep
                                      rw [eL] at N
                                      have A13 : Four prog w (PH H₀) h13 _ := A4g.stay (fun a _ o => F.keep a o) (fun a _ o => F.keep a o)
                                      have ii0 : h13.get? b0 = some (instObj 85 db0) := F.keep _ _ i0
                                      have jj0 : h13.get? db0 = some (dictOf (bkD w p0 q0 r0 u0) n0) := F.keep _ _ j0
                                      have rr0 : h13.get? r0 = some o0 := A13.a0.r
                                      have ro0 : RowsObj prog w o0 (xs0.map Row.ent) := A13.a0.ro
                                      have hks0 : ∀ x ∈ xs0.map Row.ent, KeyAt prog w h13 x.1 x.2.1 := fun x hx => by obtain ⟨y, hy, rfl⟩ := List.mem_map.mp hx; exact A13.a0.bk.keys y hy
                                      refine' comp_list (l := D9) (vs := keysR (freshR xs0 ++ staleR xs0)) (fun C D I i ys h => ys.length = i ∧ ∀ (j : Nat) (y : Value) (x : Row), ys[j]? = some y → (freshR xs0 ++ staleR xs0)[j]? = some x → y = .ref x.a)
                                        ?J0 ?Jk hH F N ?hcell ?hkind ?hx ⟨_, (N _ (.head _)).1, rfl, _, rfl⟩ hLl ?body2 ?rest2
                                      case J0 => exact fun C D I h => ⟨rfl, fun j y x e => by simp at e⟩
                                      case Jk => exact fun C D I i ys h h' x _ => x
                                      case hkind => exact rfl
                                      case hcell => decide
                                      case hx => exact rfl
                                      case body2 =>
                                        intro Cf D I' i v ys s₃ m₃ E' K hv hi hm F₃ al frs hne hj hk
                                        refine turn_nil ?_
                                        obtain ⟨ey, fy⟩ := hj
                                        obtain ⟨oD, oI, N₃⟩ := comp_led al frs hne
                                        rw [List.getElem?_map] at hv
                                        obtain ⟨x, hx, rfl⟩ := Option.map_eq_some_iff.mp hv
                                        have hxm := hp.mem_iff.mp (List.mem_of_getElem? hx)
                                        have hkx : KeyAt prog w h13 (Pk x.i) x.k := A13.a0.bk.keys x hxm
                                        have hpx : atKey (xs0.map Row.ent) (Pk x.i) = some (x.k, .ref x.l) := by rw [atKey_ent, findR_of A13.a0.bk.nodup hxm]; rfl
                                        have hrow : h13.get? x.l = some (W.listOf #[.ref x.a, .bool x.st] 0) := A13.a0.bk.row x hxm
                                        clear F N
                                        k_steps
                                        refine hk (some _) _ _ F₃ rfl rfl ⟨by simp [ey], fun j y x' e1 e2 => ?_⟩
                                        rw [Option.toList_some] at e1
                                        exact ext1 ey hx fy rfl j y x' e1 e2
                                      case rest2 =>
                                        clear F N
                                        intro Cc D10 I' ys2 h14 t14 F N hD10 hk14 ⟨ey2, fy2⟩
                                        k_steps
                                        (with_reducible rename Fr _ _ _ _ => F)
                                        (with_reducible rename News _ _ _ _ => N)
                                        unfold Halt
                                        have A14 : Four prog w (PH H₀) _ _ := A4g.stay (fun a _ o => F.keep a o) (fun a _ o => F.keep a o)
                                        refine' list_eqW ⟨_, News.get (a := D8) N (by k_mem), rfl, _, rfl⟩ ⟨_, (N _ (.head _)).1, rfl, _, rfl⟩ ?sz ?hu5 ?el ?fin
                                        case sz => simp [ey1, ey2]
                                        case hu5 => simp only [Around.deeper_units]; k_extra "own a"
                                        case el =>
                                          intro j h1 h2
                                          rw [List.size_toArray] at h1 h2
                                          have hjL : j < (freshR xs0 ++ staleR xs0).length := by rw [ey1, List.length_map] at h1; exact h1
                                          have hxL := List.getElem?_eq_getElem hjL
                                          obtain ⟨r, hr, e1⟩ := fy1 j _ _ (List.getElem?_eq_getElem h1) hxL
                                          have e2 := fy2 j _ _ (List.getElem?_eq_getElem h2) hxL
                                          have hxm := hp.mem_iff.mp (List.mem_of_getElem? hxL)
                                          obtain ⟨r', hr', hrm, hri, hrv⟩ := both_med I hxm
                                          rw [hr] at hr'; cases hr'
                                          simp only [List.getElem_toArray]
                                          rw [e1, e2]
                                          refine EqIn.med (v := ((freshR xs0 ++ staleR xs0)[j]).v) (low_of (A14.ak.kp.medP r hrm).2) (low_of (A14.a0.bk.pl _ hxm).2.2.2) (hrv ▸ A14.ak.kp.med r hrm) (A14.a0.bk.med _ hxm) ?_
                                          simp only [Around.deeper_units, Around.in1_units]; k_extra "own a"
                                        case fin =>
                                          exact hR _ _ (keep_end (mo := []) KG F)
end
end Mine
end
section
theorem Mine.off_37 : True := by
  w_top off
  trivial
namespace Mine
section
variable {prog : Program} {w : World} {A : Around} {s : Shared} {mean : ExcName → Option Value} {mg mb : Str → Option Value} {H₀ : Heap} {P : Addr → Prop} {R : Result → Shared → Prop}
theorem draw_ct {bx sc c c1 : Nat} {t tm : Tok} {sp many : Int} {vs : List Value} {ns : List Int} (C : Cx w mean mg mb H₀ (PH H₀) A s.heap 1) (hb : s.heap.get? bx = some (W.listOf #[.ref sc, .int sp t] c)) (hs : s.heap.get? sc = some (W.listOf vs.toArray c1)) (hv : IntsAre vs ns) (hbs : @Ne Nat bx sc) (b0 : H₀.get? bx = none)
    (h0 : 0 ≤ sp) (h1 : sp ≤ 1000) (hm : 0 < many) (hl : vs.length ≤ 1000)
    (hR : ∀ h' tk r t' t'', Keep [bx] s.heap h' → h'.get? bx = some (W.listOf #[.ref sc, .int (sp + 1) t'] c) → 0 ≤ r → r < many → R (.ok (.ret (.int r t''))) { s with heap := h', toks := tk }) :
    codeAny (model prog w) A (.call (.ref 153) ⟨[.ref bx, .int many tm], []⟩) R s := by
  have hA := C.dep
  have hU := C.uni
  refine' enter (mo := [(bx, W.listOf #[.ref sc, .int sp t] c)]) C.B.X C.B.T C.st ?m ?ho ?hcd ?room ?bind ?loc ?_ ?c1 ?c2 ?c3 ?c4
  case ho => k_is
  case hcd => k_is
  case bind => exact BindsTo.of_eq rfl
  case loc => exact locs rfl
  case c1 => exact rfl
  case c2 => exact rfl
  case c3 => exact rfl
  case c4 => decide
  case room => show _ < 1000; k_extra "own a"
  case m => exact all1 ⟨hb, b0⟩
  intro g L h₁ KG eL F N X T SG
  dsimp only
  have hsg : g.get? sc = some (W.listOf vs.toArray c1) := KG _ _ hs (by simp; exact Ne.symm hbs)
  have hsl : g.IsList sc vs.toArray := ⟨_, hsg, rfl, _, rfl⟩
  have hsq0 : 0 ≤ sp * sp := Int.mul_nonneg h0 h0
  have hsq1 : sp * sp ≤ 1000 * 1000 := Int.mul_le_mul h1 h1 h0 (by decide)
  k_steps
  (with_reducible rename Fr _ _ _ _ => F)
  (with_reducible rename News _ _ _ _ => N)
  refine' len_list ⟨_, F.keep _ _ hsg, rfl, _, rfl⟩ ?fit ?len
  case fit => rw [List.size_toArray]; omega
  case len =>
    rw [List.size_toArray]
    by_cases hlt : sp < (vs.length : Int)
    · k_steps
      all_goals
        (with_reducible rename Fr _ _ _ _ => F)
        (with_reducible rename News _ _ _ _ => N)
        exact hR _ _ _ _ _ (keep_end KG F) (N _ (.head _)).1 (Int.fmod_nonneg_of_pos _ hm) (Int.fmod_lt_of_pos _ hm)
    · k_steps
      all_goals
        (with_reducible rename Fr _ _ _ _ => F)
        (with_reducible rename News _ _ _ _ => N)
        exact hR _ _ _ _ _ (keep_end KG F) (N _ (.head _)).1 (Int.fmod_nonneg_of_pos _ hm) (Int.fmod_lt_of_pos _ hm)
end
end Mine
end
section
theorem Mine.off_38 : True := by
  w_top off
  trivial
namespace Mine
open PySem PySem.W PySem.Calls PySem.Spec PyProof.Rows
/-- the last def of the text: its body and its scope -/
noncomputable def lawDef : List Stmt × Scope := match PySem.Challenge.pw_sj0176_01.main.body.getLast? with
  | some (PySem.Stmt.FunctionDef _ _ body _ _ _ scope _ _ _) => (body, scope)
  | _ => ([], default)
/-- the body of its second loop -/
noncomputable def turnStmts : List Stmt := match lawDef.1[3]? with
  | some (PySem.Stmt.For _ _ body _ _) => body
  | _ => []
section
variable {prog : Program} {w : World} {A : Around} {s : Shared} {env : Env} {h₀ : Heap}
theorem loop_range {β : Type} {Q : Flow → Shared → Prop} {E E' : Value → Shared → Prop} {x : Str} {body : List Stmt} {m : Str → Option Value} {r : Addr} {n : Nat} {t u v : Tok} (hh : A.handled = none) (hr : s.heap.get? r = some { cls := .type "range", dict := none, data := .fields #[.int 0 t, .int n u, .int 1 v], slots := #[] }) (hz : n ≤ 1000)
    (F : Fr h₀ env.locals s.heap m) (led : β → List (Addr × Obj)) (x₀ : β) (N : News h₀ env.locals s.heap (led x₀))
    (J : Nat → β → (Str → Option Value) → Prop) (h0 : J 0 x₀ m)
    (step : ∀ i v y m₁ h tk own (Q' : Flow → Shared → Prop), (∀ p ∈ own, s.heap.get? p.1 = none) → i < n → (∃ t, v = .int (i : Int) t) → J i y m₁ → Fr h₀ env.locals h (fun z => if z = x then some v else m₁ z) → News h₀ env.locals h (led y ++ own) →
      (∀ h' tk' y' m', Fr h₀ env.locals h' m' → News h₀ env.locals h' (led y' ++ own) → (∀ p ∈ led y', (∀ q ∈ own, p.1 ≠ q.1) ∨ ∃ o, (p.1, o) ∈ led y) → J (i + 1) y' m' → Q' .next { s with heap := h', toks := tk' }) →
      wpAny (model prog w) A (execs body env) Q' E { s with heap := h, toks := tk })
    (hQ : ∀ h' tk m' y, Fr h₀ env.locals h' m' → News h₀ env.locals h' (led y) → J n y m' → Q .next { s with heap := h', toks := tk }) :
    wpAny (model prog w) A (pyIter (.ref r)) (fun it s₂ => LoopAtV prog w A h₀ env x body Q E it s₂) E' s := by
  have hsz : Builtin.Range.rangeSize 0 n 1 = n := by unfold Builtin.Range.rangeSize; simp; intro h; subst h; rfl
  have up : ∀ b o, s.heap.get? b = some o → (s.heap.push { cls := .type "range_iterator", data := .fields #[rawInt 0, rawInt n, rawInt 1] }).get? b = some o := fun b o e => Heap.get?_push_of_some _ e
  have n0 : s.heap.get? s.heap.objs.size = none := Heap.get?_none_of_le (Nat.le_refl _)
  refine wpAny_pyIter_range hr ?small ?_
  case small => exact small_one (by decide) (by decide) (by omega) (by omega)
  rw [hsz]
  refine loop_at (Walks.range hh s.heap.objs.size 0 1 n) (none_base F n0) ?_ ?_ ?_ (fr_all F up) led x₀ (news_all N up) ?_ J h0 ?_ hQ
  · intro hb
    exact none_L F n0 (List.mem_singleton.mp hb).symm
  · show IsRangeIter _ _ _ _ _
    have : (s.heap.push { cls := .type "range_iterator", data := .fields #[rawInt 0, rawInt n, rawInt 1] }).get? s.heap.objs.size = some { cls := .type "range_iterator", data := .fields #[rawInt 0, rawInt n, rawInt 1] } := Heap.get?_push_size _ rfl
    simpa using this
  · exact fun i h e => ⟨_, e⟩
  · intro p hp e
    have := (N p hp).1
    rw [e, n0] at this; cases this
  · intro i v y m₁ h tk own Q' ho hi hv
    refine step i v y m₁ h tk own Q' (fun p hp => by rw [List.mem_singleton.mp (ho p hp)]; exact n0) hi ?_
    obtain ⟨t, e⟩ := hv
    exact ⟨t, by rw [e]; congr 1; omega⟩
end
end Mine
end
section
theorem Mine.off_39 : True := by
  w_top off
  trivial
namespace Mine
section
variable {prog : Program} {w : World} {A : Around} {s : Shared} {mean : ExcName → Option Value} {mg mb : Str → Option Value} {H₀ : Heap} {P : Addr → Prop} {E : Value → Shared → Prop} {Q : Value → Shared → Prop} {h h' g : Heap} {L : Addr} {m : Str → Option Value} {S : St} {V : List Cr} {ou : Option Int} {l hl : List (Addr × Obj)}
/-- what Inv says of the four beyond the heap -/
structure Pure (S : St) (V : List Cr) (ou : Option Int) : Prop where
  c0 : S.w0.xs.map Row.core = V
  c1 : S.w1.xs.map Row.core = V.filter lowC
  c2 : S.w2.xs.map Row.core = V.filter highC
  cr : S.k.rs.map Row.iv = V.map Cr.iv
  cs : S.k.ss.map (·.i) = (staleV V).map (·.1)
  u0 : UV S.w0.u ou
  u1 : UV S.w1.u ou
  u2 : UV S.w2.u ou
theorem Inv.pure (I : Inv prog w P h S V ou) : Pure S V ou := ⟨I.c0, I.c1, I.c2, I.cr, I.cs, I.u0, I.u1, I.u2⟩
theorem Pure.inv (p : Pure S V ou) (A : Four prog w P h S) : Inv prog w P h S V ou := ⟨A, p.c0, p.c1, p.c2, p.cr, p.cs, p.u0, p.u1, p.u2⟩
/-- a med dict is no frame that holds another name than med -/
theorem med_neL {a : Addr} {v : Int} {y : Str} {u : Value} (x : IsMed prog w h a v) (F : Fr g L h m) (hy : m y = some u) (ny : y ≠ Str.ofString "med") : a ≠ L := fun q => by
  subst q
  obtain ⟨o, es, ep, ho, hd, hk, hn⟩ := F.ns
  obtain ⟨o', t, e, x⟩ := x
  rw [ho] at e; cases e
  obtain ⟨es', ep', hc, hd', hk', hp, hnn⟩ := x
  rw [hd] at hd'; cases hd'
  have hz := hn y
  rw [hy] at hz
  unfold nsFind findBy at hz
  cases hq : es.toList with
  | nil => rw [hq] at hp; cases hp
  | cons e r =>
    rw [hq] at hp
    cases hp with
    | cons h1 h2 h3 =>
      cases h3
      obtain ⟨t, ht⟩ := Value.isStrOf_shape h1
      rw [← Array.find?_toList, hq, List.find?_cons, List.find?_nil] at hz
      rw [ht] at hz
      dsimp only [Value.isStr] at hz
      cases q : (Str.ofString "med" == y) with
      | true => exact ny (eq_of_beq q).symm
      | false => rw [q] at hz; cases hz
theorem Four.meds_neL {y : Str} {u : Value} (A : Four prog w P h S) (F : Fr g L h m) (hy : m y = some u) (ny : y ≠ Str.ofString "med") : ∀ a ∈ S.meds, a ≠ L := fun a ha => by
  have bk : ∀ {B : Bk}, B.At prog w P h → ∀ a ∈ B.xs.map (·.a), a ≠ L := fun A a ha => by obtain ⟨y, hy', rfl⟩ := List.mem_map.mp ha; exact med_neL (A.bk.med y hy') F hy ny
  rcases List.mem_append.mp ha with q | q
  · exact bk A.a0 a q
  rcases List.mem_append.mp q with q | q
  · exact bk A.a1 a q
  rcases List.mem_append.mp q with q | q
  · exact bk A.a2 a q
  · obtain ⟨y, hy', rfl⟩ := List.mem_map.mp q; exact med_neL (A.ak.kp.med y hy') F hy ny
/-- the ledger of the four at a heap at which they stand -/
theorem Four.recover (A : Four prog w P h S) (F : Fr g L h m) (fm : ∀ a ∈ S.meds, a ≠ L) (out : ∀ a ∈ S.mut, a ≠ L ∧ g.get? a = none) : ∃ hl, News g L h (S.core w hl) ∧ Later prog w P g L S hl := by
  obtain ⟨hl, h1, h2⟩ := A.cover F fm
  refine ⟨hl, A.core (Q := fun p => h.get? p.1 = some p.2 ∧ p.1 ≠ L ∧ g.get? p.1 = none) (fun a ha o e => ⟨e, out a ha⟩) h1, fm, fun h'' m'' l'' F'' N'' => A.stay (fun a ha o e => ?_) fun a ha o e => ?_⟩
  · obtain ⟨o', e', mm⟩ := A.inLed (w := w) hl a ha
    rw [e] at e'; cases e'
    exact (N'' _ (List.mem_append_right _ mm)).1
  · rcases h2 a ha with ⟨o', e'⟩ | ⟨o', mm⟩
    · have := F.keep a o' e'
      rw [e] at this; cases this
      exact F''.keep a _ e'
    · have := (h1 _ mm).1
      rw [e] at this; cases this
      exact (N'' _ (List.mem_append_right _ (S.core_tail mm))).1
theorem Later.out (Z : Later prog w P g L S hl) (F : Fr g L h m) (N : News g L h (l ++ S.core w hl)) : ∀ a ∈ S.mut, a ≠ L ∧ g.get? a = none := fun a ha => by
  obtain ⟨o, _, mm⟩ := (Z.at F N).inLed (w := w) hl a ha
  exact (N _ (List.mem_append_right _ mm)).2
theorem hard_list {a : Addr} {xs : Array Value} {c : Nat} (x : HardAt prog w h a) (e : h.get? a = some (W.listOf xs c)) : False := by
  rcases x with ⟨o, _, _, e', hc, _⟩ | ⟨v, o, t, e', y⟩
  · rw [e] at e'; cases e'
    exact absurd (show Value.type "list" = Value.type "tuple" from hc) (by decide)
  · rw [e] at e'; cases e'
    obtain ⟨_, _, hc, _⟩ := y
    exact absurd (show Value.type "list" = Value.type "dict" from hc.1) (by decide)
/-- the draw in the law's own frame -/
theorem draw_k {bx sc c c1 : Nat} {t tm : Tok} {sp many : Int} {vs : List Value} {ns : List Int} (SG : H₀.StaysIn g) (F : Fr g L s.heap m) (hbN : s.heap.get? bx = some (W.listOf #[.ref sc, .int sp t] c) ∧ bx ≠ L ∧ g.get? bx = none) (N : News g L s.heap (l ++ S.core w hl)) (Z : Later prog w (PH H₀) g L S hl) (C : Cx w mean mg mb H₀ (PH H₀) A s.heap 1)
    (hs : s.heap.get? sc = some (W.listOf vs.toArray c1)) (hv : IntsAre vs ns) (hbs : @Ne Nat bx sc) (h0 : 0 ≤ sp) (h1 : sp ≤ 1000) (hm : 0 < many) (hz : vs.length ≤ 1000) (hx : ∀ p ∈ l, p.1 ≠ bx)
    (hQ : ∀ h' tk hl' r t' t'', Fr g L h' m → (h'.get? bx = some (W.listOf #[.ref sc, .int (sp + 1) t'] c) ∧ bx ≠ L ∧ g.get? bx = none) → News g L h' (l ++ S.core w hl') → Later prog w (PH H₀) g L S hl' → Keep [bx] s.heap h' → 0 ≤ r → r < many → Q (.int r t'') { s with heap := h', toks := tk }) :
    wpAny (model prog w) A (call (.ref 153) [.ref bx, .int many tm]) Q E s := by
  have A4 := Z.at F N
  have b0 : H₀.get? bx = none := by
    cases q : H₀.get? bx with
    | none => rfl
    | some o => have := SG _ _ q; rw [hbN.2.2] at this; cases this
  refine wpAny_call (draw_ct C hbN.1 hs hv hbs b0 h0 h1 hm hz fun h' tk r t' t'' K e r0 r1 => ?_)
  have F' : Fr g L h' m := fr_keep F K (fun q => hbN.2.1 (List.mem_singleton.mp q).symm) fun a ha => by rw [List.mem_singleton.mp ha]; exact hbN.2.2
  have A' : Four prog w (PH H₀) h' S := A4.stay (fun a ha o e' => K a o e' fun q => by
      rw [List.mem_singleton.mp q] at ha
      exact ids_ne A4 hbN.1 (fun x st q => by cases q) ha) fun a ha o e' => K a o e' fun q => by
      have := A4.hards a ha
      rw [List.mem_singleton.mp q] at this
      exact hard_list this hbN.1
  obtain ⟨hl', N', Z'⟩ := A'.recover F' Z.1 (Z.out F N)
  refine hQ h' tk hl' r t' t'' F' ⟨e, hbN.2⟩ (fun p hp => ?_) Z' K r0 r1
  rcases List.mem_append.mp hp with q | q
  · have := N p (List.mem_append_left _ q)
    exact ⟨K _ _ this.1 fun q' => hx p q (List.mem_singleton.mp q'), this.2⟩
  · exact N' p q
theorem Four.goS {S' : St} {y : Str} {u : Value} (A : Four prog w P h S) (F : Fr g L h m) (N : News g L h (l ++ S.core w hl)) (st : Step h h' S S') (A' : Four prog w P h' S') (sep : ∀ p ∈ l, p.1 ∉ S.mut) (hy : m y = some u) (ny : y ≠ Str.ofString "med") :
    ∃ hl', Fr g L h' m ∧ News g L h' (l ++ S'.core w hl') ∧ Later prog w P g L S' hl' ∧ ∀ p ∈ l, p.1 ∉ S'.mut := by
  have out : ∀ a ∈ S.mut, a ≠ L ∧ g.get? a = none := fun a ha => by
    obtain ⟨o, _, mm⟩ := A.inLed (w := w) hl a ha
    exact (N _ (List.mem_append_right _ mm)).2
  have F' : Fr g L h' m := fr_keep F st.1 (fun q => (out L q).1 rfl) fun a ha => (out a ha).2
  exact A.go F N st.1 A' st.2.1 (A'.meds_neL F' hy ny) sep
theorem deed_k {bl cb : Nat} {nw wt : Int} {tn tw t0 : Tok} {v : Value} {d : Deed} {y : Str} {u : Value} (F : Fr g L s.heap m) (N : News g L s.heap (l ++ S.core w hl)) (Z : Later prog w (PH H₀) g L S hl) (p : Pure S V ou) (sep : ∀ p ∈ l, p.1 ∉ S.mut) (C : Cx w mean mg mb H₀ (PH H₀) A s.heap 5) (hbl : s.heap.get? bl = some (W.listOf S.ids.toArray cb)) (hd : d.ok) (hT : d.told s.heap v) (hw : d.wait wt) (hy : m y = some u) (ny : y ≠ Str.ofString "med")
    (hQ : ∀ h' t S' hl', Fr g L h' m → News g L h' (l ++ S'.core w hl') → Later prog w (PH H₀) g L S' hl' → Pure S' (restV (d.act ou nw).1 V) (d.act ou nw).2 → (∀ p ∈ l, p.1 ∉ S'.mut) → S'.ids = S.ids → S'.k.rs = (restK (d.act ou nw).1 S.k.rs S.k.ss).1 → Step s.heap h' S S' → Q (.bool true) { s with heap := h', toks := t }) :
    wpAny (model prog w) A (call (.ref 188) [.ref bl, .str d.word t0, .int nw tn, v, .int wt tw]) Q E s := by
  have A4 := Z.at F N
  refine wpAny_call (deed_ct C (p.inv A4) hbl hd hT hw fun h' t S' st I' e => ?_)
  obtain ⟨hl', F', N', Z', sep'⟩ := A4.goS F N st I'.four sep hy ny
  exact hQ h' t S' hl' F' N' Z' I'.pure sep' st.2.2 e st
theorem told_k {bl cb k a i : Nat} {now v : Int} {tn : Tok} {y : Str} {u : Value} (F : Fr g L s.heap m) (N : News g L s.heap (l ++ S.core w hl)) (Z : Later prog w (PH H₀) g L S hl) (p : Pure S V ou) (sep : ∀ p ∈ l, p.1 ∉ S.mut) (C : Cx w mean mg mb H₀ (PH H₀) A s.heap 5) (hbl : s.heap.get? bl = some (W.listOf S.ids.toArray cb)) (hk : KeyAt prog w s.heap (Pk i) k) (hi : i < 4) (ha : IsMed prog w s.heap a v) (pk : PH H₀ k) (pa : PH H₀ a) (hy : m y = some u) (ny : y ≠ Str.ofString "med")
    (hQ : ∀ h' t S' hl', Fr g L h' m → News g L h' (l ++ S'.core w hl') → Later prog w (PH H₀) g L S' hl' → Pure S' (putV V i v) ou → (∀ p ∈ l, p.1 ∉ S'.mut) → S'.ids = S.ids → ((findV V i).map (·.2.1) = some v → S'.k.rs = S.k.rs) → Step s.heap h' S S' → Q (.bool true) { s with heap := h', toks := t }) :
    wpAny (model prog w) A (call (.ref 160) [.ref bl, .ref k, .ref a, .int now tn]) Q E s := by
  have A4 := Z.at F N
  refine wpAny_call (told_ct C (p.inv A4) hbl hk hi ha pk pa fun h' t S' st I' e => ?_)
  obtain ⟨hl', F', N', Z', sep'⟩ := A4.goS F N st I'.four sep hy ny
  exact hQ h' t S' hl' F' N' Z' I'.pure sep' st.2.2 e st
theorem taken_k {bl cb k i : Nat} {now : Int} {tn : Tok} {y : Str} {u : Value} (F : Fr g L s.heap m) (N : News g L s.heap (l ++ S.core w hl)) (Z : Later prog w (PH H₀) g L S hl) (p : Pure S V ou) (sep : ∀ p ∈ l, p.1 ∉ S.mut) (C : Cx w mean mg mb H₀ (PH H₀) A s.heap 5) (hbl : s.heap.get? bl = some (W.listOf S.ids.toArray cb)) (hk : KeyAt prog w s.heap (Pk i) k) (hi : i < 4) (hy : m y = some u) (ny : y ≠ Str.ofString "med")
    (hQ : ∀ h' t S' hl', Fr g L h' m → News g L h' (l ++ S'.core w hl') → Later prog w (PH H₀) g L S' hl' → Pure S' (dropV V i) ou → (∀ p ∈ l, p.1 ∉ S'.mut) → S'.ids = S.ids → Step s.heap h' S S' → Q (.bool true) { s with heap := h', toks := t }) :
    wpAny (model prog w) A (call (.ref 167) [.ref bl, .ref k, .int now tn]) Q E s := by
  have A4 := Z.at F N
  refine wpAny_call (taken_ct C (p.inv A4) hbl hk hi fun h' t S' st I' => ?_)
  obtain ⟨hl', F', N', Z', sep'⟩ := A4.goS F N st I'.four sep hy ny
  exact hQ h' t S' hl' F' N' Z' I'.pure sep' st.2.2 st
theorem alike_k {bl cb : Nat} {news : List (Addr × Obj)} (F : Fr g L s.heap m) (N : News g L s.heap news) (I : Inv prog w (PH H₀) s.heap S V ou) (C : Cx w mean mg mb H₀ (PH H₀) A s.heap 5) (hbl : s.heap.get? bl = some (W.listOf S.ids.toArray cb))
    (hQ : ∀ h' t, Fr g L h' m → News g L h' news → Keep [] s.heap h' → Q (.bool true) { s with heap := h', toks := t }) :
    wpAny (model prog w) A (call (.ref 193) [.ref bl]) Q E s :=
  wpAny_call (alike_ct C I hbl fun h' t K => by
    have k : ∀ b o, s.heap.get? b = some o → h'.get? b = some o := fun b o e => K b o e (by simp)
    exact hQ h' t (fr_all F k) (news_all N k) K)
end
end Mine
end
section
theorem Mine.off_40 : True := by
  w_top off
  trivial
local macro_rules | `(tactic| walk_at "no such tree 40 0") => `(tactic| skip)
local macro_rules | `(tactic| walk_at "no such tree 40 1") => `(tactic| skip)
local macro_rules | `(tactic| walk_at "no such tree 40 2") => `(tactic| skip)
local macro_rules | `(tactic| walk_at "no such tree 40 3") => `(tactic| skip)
local macro_rules | `(tactic| walk_at "subscriptTail") => `(tactic| k_extra "own 28")
namespace Mine
section
variable {prog : Program} {w : World} {A : Around} {s : Shared} {mean : ExcName → Option Value} {mg mb : Str → Option Value} {H₀ : Heap} {P : Addr → Prop} {E : Value → Shared → Prop} {Q : Flow → Shared → Prop} {g : Heap} {L : Addr}
inductive ToldL (l : List (Addr × Obj)) : Value → Option (Int × Value) → Prop where
  | no : ToldL l .none none
  | yes {p : Addr} {c : Value} {k : Int} {t : Tok} {v : Value} {n : Nat} : (p, ({ cls := .type "tuple", data := .seq #[c, .int k t, v] n } : Obj)) ∈ l → ToldL l (.ref p) (some (k, v))
theorem ToldL.told {l : List (Addr × Obj)} {v : Value} {td} {h : Heap} (x : ToldL l v td) (e : ∀ p ∈ l, h.get? p.1 = some p.2) : Told h v td := by
  cases x with
  | no => exact .no
  | yes m => exact .yes (e _ m)
theorem ToldL.more {l l' : List (Addr × Obj)} {v : Value} {td} (x : ToldL l v td) (e : ∀ p ∈ l, p ∈ l') : ToldL l' v td := by
  cases x with
  | no => exact .no
  | yes m => exact .yes (e _ m)
theorem key_of {h : Heap} {k : Addr} {i : Nat} {t u : Tok} {n : Nat} (e : h.get? k = some { cls := .type "tuple", data := .seq #[.int (4 * (i : Int)) t, .int 2 u] n }) : KeyAt prog w h (Pk i) k :=
  ⟨_, _, _, e, rfl, rfl, .cons (by simp [intKind, Value.isInt]) (.cons (by simp [intKind, Value.isInt]) .nil)⟩
structure Ty where
  S : St
  hl : List (Addr × Obj)
  V : List Cr
  ou : Option Int
  sp : Int
  t : Tok
  now : Int
  tn : Tok
  tv : Value
  td : Option (Int × Value)
  l : List (Addr × Obj)
  up : Bool
  tr : Option Value
  ir : Option Value
  fm : Option Value
noncomputable def lawM (m₀ : Str → Option Value) (bx bl : Addr) (tr ir : Option Value) (up : Bool) (tv : Value) (fm : Option Value) (nw : Value) : Str → Option Value := fun z =>
  if z = Str.ofString "turn" then tr else if z = Str.ofString "is_right" then ir else if z = Str.ofString "is_up" then some (.bool up) else if z = Str.ofString "told" then some tv else if z = Str.ofString "form" then fm
  else if z = Str.ofString "now" then some nw else if z = Str.ofString "books" then some (.ref bl) else if z = Str.ofString "box" then some (.ref bx) else m₀ z
theorem lawM_turn {m₀ : Str → Option Value} {bx bl : Addr} {tr ir fm : Option Value} {up : Bool} {tv nw : Value} {x : Option Value} {z : Str} : (if z = Str.ofString "turn" then x else lawM m₀ bx bl tr ir up tv fm nw z) = lawM m₀ bx bl x ir up tv fm nw z := by
  by_cases q : z = Str.ofString "turn"
  · subst q; rfl
  · rw [if_neg q]; unfold lawM; simp only [if_neg q]
theorem lawM_is_right {m₀ : Str → Option Value} {bx bl : Addr} {tr ir fm : Option Value} {up : Bool} {tv nw : Value} {x : Option Value} {z : Str} : (if z = Str.ofString "is_right" then x else lawM m₀ bx bl tr ir up tv fm nw z) = lawM m₀ bx bl tr x up tv fm nw z := by
  by_cases q : z = Str.ofString "is_right"
  · subst q; rfl
  · rw [if_neg q]; unfold lawM; simp only [if_neg q]
theorem lawM_is_up {m₀ : Str → Option Value} {bx bl : Addr} {tr ir fm : Option Value} {up : Bool} {tv nw : Value} {x : Bool} {z : Str} : (if z = Str.ofString "is_up" then some (.bool x) else lawM m₀ bx bl tr ir up tv fm nw z) = lawM m₀ bx bl tr ir x tv fm nw z := by
  by_cases q : z = Str.ofString "is_up"
  · subst q; rfl
  · rw [if_neg q]; unfold lawM; simp only [if_neg q]
theorem lawM_told {m₀ : Str → Option Value} {bx bl : Addr} {tr ir fm : Option Value} {up : Bool} {tv nw : Value} {x : Value} {z : Str} : (if z = Str.ofString "told" then some x else lawM m₀ bx bl tr ir up tv fm nw z) = lawM m₀ bx bl tr ir up x fm nw z := by
  by_cases q : z = Str.ofString "told"
  · subst q; rfl
  · rw [if_neg q]; unfold lawM; simp only [if_neg q]
theorem lawM_form {m₀ : Str → Option Value} {bx bl : Addr} {tr ir fm : Option Value} {up : Bool} {tv nw : Value} {x : Option Value} {z : Str} : (if z = Str.ofString "form" then x else lawM m₀ bx bl tr ir up tv fm nw z) = lawM m₀ bx bl tr ir up tv x nw z := by
  by_cases q : z = Str.ofString "form"
  · subst q; rfl
  · rw [if_neg q]; unfold lawM; simp only [if_neg q]
theorem lawM_now {m₀ : Str → Option Value} {bx bl : Addr} {tr ir fm : Option Value} {up : Bool} {tv nw : Value} {x : Value} {z : Str} : (if z = Str.ofString "now" then some x else lawM m₀ bx bl tr ir up tv fm nw z) = lawM m₀ bx bl tr ir up tv fm x z := by
  by_cases q : z = Str.ofString "now"
  · subst q; rfl
  · rw [if_neg q]; unfold lawM; simp only [if_neg q]
noncomputable abbrev Ty.M (m₀ : Str → Option Value) (bx bl : Addr) (y : Ty) : Str → Option Value := lawM m₀ bx bl y.tr y.ir y.up y.tv y.fm (.int y.now y.tn)
noncomputable abbrev Ty.led (w : World) (bx bl sc cx cb c1 : Nat) (vs : List Value) (own : List (Addr × Obj)) (y : Ty) : List (Addr × Obj) :=
  (bx, W.listOf #[.ref sc, .int y.sp y.t] cx) :: (bl, W.listOf y.S.ids.toArray cb) :: (sc, W.listOf vs.toArray c1) :: (own ++ (y.l ++ y.S.core w y.hl))
/-- classes of objects that no book is made of -/
noncomputable def Soft (o : Obj) : Prop := o.cls = .type "tuple" ∨ o.cls = .type "range_iterator" ∨ o.cls = .type "list_iterator" ∨ o.cls = .type "tuple_iterator"
theorem Soft.list {o : Obj} (x : Soft o) : o.cls ≠ .type "list" := by rcases x with x | x | x | x <;> rw [x] <;> decide
theorem Four.mut_cls {h : Heap} {S : St} (A : Four prog w P h S) : ∀ a ∈ S.mut, ∀ o, h.get? a = some o → o.cls = .ref 85 ∨ o.cls = .ref 142 ∨ o.cls = .type "dict" ∨ o.cls = .type "list" := fun a ha o e => by
  have bk : ∀ {B : Bk}, B.At prog w P h → a ∈ B.mut → o.cls = .ref 85 ∨ o.cls = .ref 142 ∨ o.cls = .type "dict" ∨ o.cls = .type "list" := fun {B} A ha => by
    simp only [List.mem_cons, List.mem_map] at ha
    rcases ha with rfl | rfl | rfl | ⟨y, hy, rfl⟩
    · rw [A.bk.inst] at e; cases e; exact .inl rfl
    · rw [A.d] at e; cases e; exact .inr (.inr (.inl rfl))
    · rw [A.r] at e; cases e; exact .inr (.inr (.inl A.ro.cls))
    · rw [A.bk.row y hy] at e; cases e; exact .inr (.inr (.inr rfl))
  rcases List.mem_append.mp ha with m | m
  · exact bk A.a0 m
  rcases List.mem_append.mp m with m | m
  · exact bk A.a1 m
  rcases List.mem_append.mp m with m | m
  · exact bk A.a2 m
  · simp only [List.mem_cons, List.not_mem_nil, or_false] at m
    rcases m with rfl | rfl | rfl | rfl
    · rw [A.ak.kp.inst] at e; cases e; exact .inr (.inl rfl)
    · rw [A.ak.d] at e; cases e; exact .inr (.inr (.inl rfl))
    · rw [A.ak.r] at e; cases e; exact .inr (.inr (.inl A.ak.ro.cls))
    · rw [A.ak.s] at e; cases e; exact .inr (.inr (.inl A.ak.so.cls))
theorem Four.soft_ne {h : Heap} {S : St} (A : Four prog w P h S) {a : Addr} {o : Obj} (e : h.get? a = some o) (x : Soft o) : a ∉ S.mut := fun ha => by
  have := A.mut_cls a ha o e
  rcases x with x | x | x | x <;> rw [x] at this <;> exact absurd this (by decide)
structure TyOk (prog : Program) (w : World) (H₀ g : Heap) (L : Addr) (i : Nat) (y : Ty) : Prop where
  Z : Later prog w (PH H₀) g L y.S y.hl
  p : Pure y.S y.V y.ou
  td : tdOk y.td
  told : ToldL y.l y.tv y.td
  tup : ∀ p ∈ y.l, p.2.cls = .type "tuple"
  sp0 : 0 ≤ y.sp
  sp1 : y.sp ≤ 3 * i
theorem h0_new {h' : Heap} {news : List (Addr × Obj)} {a bx : Addr} {o : Obj} (SG : H₀.StaysIn g) (hbx : 1 < bx) (N : News g L h' news) (m : (a, o) ∈ news) (hlt : bx < a) : PH H₀ a := And.intro (by
  cases q : H₀.get? a with
  | none => rfl
  | some o' => have := SG _ _ q; rw [(N _ m).2.2] at this; cases this) (Nat.lt_trans hbx hlt)
theorem pre3 {a b c p : Addr × Obj} {l X : List (Addr × Obj)} (hp : p ∈ a :: b :: c :: l) : p ∈ a :: b :: c :: (l ++ X) := by
  rcases List.mem_cons.mp hp with rfl | hp
  · exact .head _
  rcases List.mem_cons.mp hp with rfl | hp
  · exact .tail _ (.head _)
  rcases List.mem_cons.mp hp with rfl | hp
  · exact .tail _ (.tail _ (.head _))
  · exact .tail _ (.tail _ (.tail _ (List.mem_append_left _ hp)))
theorem pre2 {a b p : Addr × Obj} {l X : List (Addr × Obj)} (hp : p ∈ a :: b :: l) : p ∈ a :: b :: (l ++ X) := by
  rcases List.mem_cons.mp hp with rfl | hp
  · exact .head _
  rcases List.mem_cons.mp hp with rfl | hp
  · exact .tail _ (.head _)
  · exact .tail _ (.tail _ (List.mem_append_left _ hp))
theorem news_put {h : Heap} {a : Addr} {o : Obj} {l : List (Addr × Obj)} (e : h.get? a = some o ∧ a ≠ L ∧ g.get? a = none) (N : News g L h l) : News g L h ((a, o) :: l) := List.forall_mem_cons.mpr ⟨e, N⟩
theorem ints_no_row {vs : List Value} {ns : List Int} (x : IntsAre vs ns) : ∀ a st, vs ≠ [Value.ref a, .bool st] := fun a st e => by
  subst e; cases x
theorem law_sep {h : Heap} {S : St} {l : List (Addr × Obj)} {bx bl sc cx cb c1 : Nat} {sp : Int} {t : Tok} {vs : List Value} {ns : List Int} {xs : List Value} (A : Four prog w P h S) (hv : IntsAre vs ns) (tup : ∀ p ∈ l, Soft p.2) (hx : xs.length = 4)
    (e : ∀ p ∈ (bx, W.listOf #[.ref sc, .int sp t] cx) :: (bl, W.listOf xs.toArray cb) :: (sc, W.listOf vs.toArray c1) :: l, h.get? p.1 = some p.2) : ∀ p ∈ (bx, W.listOf #[.ref sc, .int sp t] cx) :: (bl, W.listOf xs.toArray cb) :: (sc, W.listOf vs.toArray c1) :: l, p.1 ∉ S.mut :=
  all2 (ids_ne A (e _ (.head _)) fun x st q => by cases q) (all2 (ids_ne A (e _ (.tail _ (.head _))) fun x st q => by rw [q] at hx; cases hx) (all2 (ids_ne A (e _ (.tail _ (.tail _ (.head _)))) (ints_no_row hv)) fun p hp => A.soft_ne (e p (.tail _ (.tail _ (.tail _ hp)))) (tup p hp)))
theorem law_hx {h : Heap} {l : List (Addr × Obj)} {bx bl sc cb c1 : Nat} {b : Array Value} {cx : Nat} {vs xs : List Value} (tup : ∀ p ∈ l, Soft p.2) (d1 : @Ne Nat bx bl) (d2 : @Ne Nat bx sc) (eb : h.get? bx = some (W.listOf b cx)) (e : ∀ p ∈ (bl, W.listOf xs.toArray cb) :: (sc, W.listOf vs.toArray c1) :: l, h.get? p.1 = some p.2) :
    ∀ p ∈ (bl, W.listOf xs.toArray cb) :: (sc, W.listOf vs.toArray c1) :: l, p.1 ≠ bx :=
  all2 (Ne.symm d1) (all2 (Ne.symm d2) fun p hp => ne_obj (e p (.tail _ (.tail _ hp))) eb (tup p hp).list)
theorem news_drop5 {h : Heap} {a b c d e : Addr × Obj} {l : List (Addr × Obj)} (N : News g L h (a :: b :: c :: d :: e :: l)) : News g L h l := fun p hp => N p (.tail _ (.tail _ (.tail _ (.tail _ (.tail _ hp)))))
inductive Pick (P : Addr × Obj → Prop) (vs : List Value) (q : Int) : Prop where
  | mk {tv : Value} {td : Option (Int × Value)} {l : List (Addr × Obj)} (ix : vs[q.toNat]? = some tv) (tup : ∀ p ∈ l, p.2.cls = .type "tuple") (told : ToldL l tv td) (ok : tdOk td) (all : ∀ p ∈ l, P p)
theorem told_pick {P : Addr × Obj → Prop} {q : Int} {a1 a2 a3 a4 : Addr} {c1 c2 c3 c4 : Value} {t1 t2 t3 t4 : Tok} {n1 n2 n3 n4 : Nat} (f0 : 0 ≤ q) (f5 : q < 5) (m1 : P (a1, { cls := .type "tuple", data := .seq #[c1, .int 4 t1, .bool true] n1 })) (m2 : P (a2, { cls := .type "tuple", data := .seq #[c2, .int 5 t2, .bool true] n2 }))
    (m3 : P (a3, { cls := .type "tuple", data := .seq #[c3, .int 3 t3, .bool false] n3 })) (m4 : P (a4, { cls := .type "tuple", data := .seq #[c4, .int 2 t4, .none] n4 })) : Pick P [Value.ref a1, .none, .ref a2, .ref a3, .ref a4] q := by
  obtain ⟨n, rfl⟩ := Int.eq_ofNat_of_zero_le f0
  rcases lt_or (m := 4) (Int.ofNat_lt.mp f5) with f | rfl
  · rcases lt_four f with rfl | rfl | rfl | rfl
    · exact .mk rfl (all1 rfl) (.yes (.head _)) (.inr ⟨_, .inr ⟨_, rfl⟩⟩) (all1 m1)
    · exact .mk (l := []) rfl (fun _ h => nomatch h) .no (.inl rfl) (fun _ h => nomatch h)
    · exact .mk rfl (all1 rfl) (.yes (.head _)) (.inr ⟨_, .inr ⟨_, rfl⟩⟩) (all1 m2)
    · exact .mk rfl (all1 rfl) (.yes (.head _)) (.inr ⟨_, .inr ⟨_, rfl⟩⟩) (all1 m3)
  · exact .mk rfl (all1 rfl) (.yes (.head _)) (.inr ⟨_, .inl rfl⟩) (all1 m4)
theorem turn_end {fa bx bl sc cx cb c1 i : Nat} {cdv : Value} {m₀ : Str → Option Value} {vs : List Value} {own l l₀ hl : List (Addr × Obj)} {S : St} {V : List Cr} {ou : Option Int} {sp now : Int} {t tn : Tok} {tv : Value} {td : Option (Int × Value)} {up : Bool} {tr fm : Option Value} (B : Bs w mean mg mb H₀) (SG : H₀.StaysIn g) (X : (hd.heap_39 w.params).In g) (T : Top hd.view_39 (looseW hd.view_39 []) mean mg mb g)
    (hA : A.depth + 10 ≤ 900) (hU : A.units + 100 ≤ 9000) (hh : A.handled = none) (Z : Later prog w (PH H₀) g L S hl) (p : Pure S V ou) (htd : tdOk td) (told : ToldL l₀ tv td) (tup : ∀ p ∈ l₀, p.2.cls = .type "tuple") (sp0 : 0 ≤ sp) (sp1 : sp ≤ 3 * ((i + 1 : Nat) : Int)) (hl' : l = own ++ l₀)
    (F : Fr g L s.heap (lawM m₀ bx bl tr (some (.bool true)) up tv fm (.int now tn))) (N : News g L s.heap ((bx, W.listOf #[.ref sc, .int sp t] cx) :: (bl, W.listOf S.ids.toArray cb) :: (sc, W.listOf vs.toArray c1) :: (l ++ S.core w hl)))
    (hQ : ∀ h' tk (y' : Ty), TyOk prog w H₀ g L (i + 1) y' → y'.tr = tr → y'.S.ids = S.ids → Fr g L h' (y'.M m₀ bx bl) → News g L h' (y'.led w bx bl sc cx cb c1 vs own) → Q .next { s with heap := h', toks := tk }) :
    wpAny (model prog w) (A.deeper (envOf (Str.ofString "law") lawDef.2 L fa cdv)) (execs (turnStmts.drop 4) (envOf (Str.ofString "law") lawDef.2 L fa cdv)) Q E s := by
  have hH : (A.deeper (envOf "" default 0 0 .none)).handled = none := hh
  have CT : ∀ {h' : Heap} {k : Nat} {m : Str → Option Value} {env : Env}, k ≤ 9 → Fr g L h' m → Cx w mean mg mb H₀ (PH H₀) (A.deeper env) h' k := fun hk F => Cx.dp (n := 10) B SG (Nat.le_trans hA (by decide)) (Nat.le_trans hU (by decide)) hh (Nat.succ_le_succ hk) F
  conv in (List.drop _ _) => whnf
  have A6 := Z.at (l' := (bx, _) :: (bl, _) :: (sc, _) :: l) F N
  k_steps
  unfold Halt
  refine' alike_k F N (p.inv A6) (CT (by decide) F) (N _ (.tail _ (.head _))).1 ?gtE
  case gtE =>
    clear F N A6
    intro h6 tk6 F N K6
    k_steps
    rw [hl', List.append_assoc] at N
    exact hQ _ _ ⟨S, hl, _, _, _, _, _, _, tv, td, l₀, _, tr, _, _⟩ ⟨Z, p, htd, told, tup, sp0, sp1⟩ rfl rfl F N
local macro_rules | `(tactic| walk_at "execs cons") => `(tactic| k_extra "own 45")
theorem turn_ct {fa bx bl sc cx cb c1 i : Nat} {cdv : Value} {m₀ : Str → Option Value} {vs : List Value} {ns : List Int} {own : List (Addr × Obj)} {y : Ty} (hown : ∀ p ∈ own, Soft p.2) (B : Bs w mean mg mb H₀) (SG : H₀.StaysIn g) (X : (hd.heap_39 w.params).In g) (T : Top hd.view_39 (looseW hd.view_39 []) mean mg mb g)
    (hA : A.depth + 10 ≤ 900) (hU : A.units + 100 ≤ 9000) (hh : A.handled = none) (hv : IntsAre vs ns) (hz : vs.length ≤ 1000) (hbx : 1 < bx) (d1 : @Ne Nat bx bl) (d2 : @Ne Nat bx sc) (hi : i ≤ 100)
    (O : TyOk prog w H₀ g L i y) (F : Fr g L s.heap (y.M m₀ bx bl)) (N : News g L s.heap (y.led w bx bl sc cx cb c1 vs own))
    (hQ : ∀ h' tk (y' : Ty), TyOk prog w H₀ g L (i + 1) y' → y'.tr = y.tr → y'.S.ids = y.S.ids → Fr g L h' (y'.M m₀ bx bl) → News g L h' (y'.led w bx bl sc cx cb c1 vs own) → Q .next { s with heap := h', toks := tk }) :
    wpAny (model prog w) (A.deeper (envOf (Str.ofString "law") lawDef.2 L fa cdv)) (execs turnStmts (envOf (Str.ofString "law") lawDef.2 L fa cdv)) Q E s := by
  obtain ⟨S, hl, V, ou, sp, t, now, tn, tv, td, l₀, up, tr, ir, fm⟩ := y
  obtain ⟨Z, p, htd, told, tup, sp0, sp1⟩ := O
  dsimp only [Ty.M, Ty.led] at F N told tup sp0 sp1 p Z htd
  rw [← List.append_assoc] at N
  have told₀ := told
  have tup₀ := tup
  replace told : ToldL (own ++ l₀) tv td := told.more fun p hp => List.mem_append_right _ hp
  replace tup : ∀ p ∈ own ++ l₀, Soft p.2 := fun p hp => (List.mem_append.mp hp).elim (hown p) fun hp => .inl (tup p hp)
  obtain ⟨l, hl'⟩ : ∃ l, l = own ++ l₀ := ⟨_, rfl⟩
  rw [← hl'] at N told tup
  have hpart : ∀ p ∈ own, p ∈ l := fun p hp => hl' ▸ List.mem_append_left _ hp
  have CT : ∀ {h' : Heap} {k : Nat} {m : Str → Option Value} {env : Env}, k ≤ 9 → Fr g L h' m → Cx w mean mg mb H₀ (PH H₀) (A.deeper env) h' k := fun hk F => Cx.dp (n := 10) B SG (Nat.le_trans hA (by decide)) (Nat.le_trans hU (by decide)) hh (Nat.succ_le_succ hk) F
  have hH : (A.deeper (envOf "" default 0 0 .none)).handled = none := hh
  have hbls : ∀ {h' : Heap} {S' : St}, Four prog w (PH H₀) h' S' → h'.get? bl = some (W.listOf S'.ids.toArray cb) → bl ∉ S'.mut := fun A e => ids_ne A e fun x st q => by cases q
  conv in turnStmts => whnf
  k_steps
  (with_reducible rename Fr _ _ _ _ => F)
  (with_reducible rename News _ _ _ _ => N)
  unfold Halt
  have hb := N _ (.head _)
  have N2 := all_drop N
  refine' draw_k (l := (bl, _) :: (sc, _) :: l) SG F hb N2 Z (CT (by decide) F) (N2 _ (.tail _ (.head _))).1 hv d2 sp0 (by omega) (by decide) hz (law_hx tup d1 d2 hb.1 fun p hp => (N2 p (pre2 hp)).1) ?g0
  case g0 =>
    clear F N N2 hb Z
    intro h1 tk1 hl1 r t1 t1' F hb N Z K1 r0 r1
    replace N := news_put hb N
    (try dsimp only [List.cons_append] at N)
    k_steps
    (with_reducible rename Fr _ _ _ _ => F)
    (with_reducible rename News _ _ _ _ => N)
    unfold Halt
    have A4 := Z.at (l' := (bx, _) :: (bl, _) :: (sc, _) :: l) F N
    have sep := law_sep A4 hv tup rfl fun p hp => (N p (pre3 hp)).1
    refine' deed_k (d := .tick) (wt := 0) (y := Str.ofString "box") (u := .ref bx) (l := (bx, _) :: (bl, _) :: (sc, _) :: l) F N Z p sep (CT (by decide) F) (N _ (.tail _ (.head _))).1 trivial rfl trivial rfl (by decide) ?g1
    case g1 =>
      clear F N hb Z A4 sep
      intro h2 tk2 S1 hl2 F N Z p1 sep ids1 _ _
      generalize (Deed.act .tick ou (now + r)).2 = ou1 at p1
      generalize restV (Deed.act .tick ou (now + r)).1 V = V1 at p1
      rw [← ids1] at N
      (try dsimp only [List.cons_append] at N)
      k_steps
      (with_reducible rename Fr _ _ _ _ => F)
      (with_reducible rename News _ _ _ _ => N)
      unfold Halt
      have hb := N _ (.head _)
      have N2 := all_drop N
      refine' draw_k (l := (bl, _) :: (sc, _) :: l) SG F hb N2 Z (CT (by decide) F) (N2 _ (.tail _ (.head _))).1 hv d2 (by omega) (by omega) (by decide) hz (law_hx tup d1 d2 hb.1 fun p hp => (N2 p (pre2 hp)).1) ?g2
      case g2 =>
        clear F N N2 hb Z sep
        intro h3 tk3 hl3 fr t3 t3' F hb N Z K3 fr0 fr1
        replace N := news_put hb N
        (try dsimp only [List.cons_append] at N)
        have hb1 : 1 < bx := hbx
        have hform : fr < 3 ∨ fr = 3 ∨ (3 < fr ∧ fr < 6) ∨ 6 ≤ fr := by omega
        cases up with
        | true =>
          rcases hform with hf | hf | ⟨hf, hf2⟩ | hf
          case' inl =>
            k_steps
            (with_reducible rename Fr _ _ _ _ => F)
            (with_reducible rename News _ _ _ _ => N)
            unfold Halt
            have hb := N _ (.head _)
            have N2 := all_drop N
            refine' draw_k (l := (bl, _) :: (sc, _) :: l) SG F hb N2 Z (CT (by decide) F) (N2 _ (.tail _ (.head _))).1 hv d2 (by omega) (by omega) (by decide) hz (law_hx tup d1 d2 hb.1 fun p hp => (N2 p (pre2 hp)).1) ?gaA
            case' gaA =>
              clear F N N2 hb Z
              intro h4 tk4 hl4 r4 t4 t4' F hb N Z K4 r40 r41
              replace N := news_put hb N
              (try dsimp only [List.cons_append] at N)
              obtain ⟨n4, rfl⟩ : ∃ n : Nat, r4 = (n : Int) := ⟨r4.toNat, (Int.toNat_of_nonneg r40).symm⟩
              k_steps
              rename_i Dk hk0 Fk Nk l1k frd hd0 od F N lod hdd hff app l1d
              unfold Halt
              have hkk : KeyAt prog w _ (Pk n4) Dk := key_of (N _ (.tail _ (.head _))).1
              have haa : IsMed prog w _ hk0.objs.size fr := ⟨od, _, (N _ (.head _)).1, hdd⟩
              have A5 := Z.at (l' := (hk0.objs.size, od) :: (Dk, _) :: (bx, _) :: (bl, _) :: (sc, _) :: l) F N
              refine' told_k (i := n4) (v := fr) (y := Str.ofString "box") (u := .ref bx) (l := (hk0.objs.size, od) :: (Dk, _) :: (bx, _) :: (bl, _) :: (sc, _) :: l) F N Z p1 (sep_cons (A5.hard_ne haa.hard) (sep_cons (A5.tupc_ne (N _ (.tail _ (.head _))).1 rfl) (law_sep A5 hv tup rfl fun p hp => (N p (.tail _ (.tail _ (pre3 hp)))).1))) (CT (by decide) F) (N _ (.tail _ (.tail _ (.tail _ (.head _))))).1 hkk (by omega) haa (h0_new SG hbx N (.tail _ (.head _)) l1k.1) (h0_new SG hbx N (.head _) l1d.2.1) rfl (by decide) ?gbA
              case' gbA =>
                clear F N hb Z A5 hkk haa
                intro h5 tk5 S2 hl5 F N Z p2 sep ids2 _ _
                replace N : News g L h5 _ := (List.forall_mem_cons.mp (List.forall_mem_cons.mp N).2).2
                rw [← ids2] at N
                (try dsimp only [List.cons_append] at N)
                have ids3 := ids2.trans ids1
                k_steps
                (with_reducible rename Fr _ _ _ _ => F)
                (with_reducible rename News _ _ _ _ => N)
                unfold Halt
                simp only [lawM_now, lawM_form, lawM_is_right] at F
                replace N : News g L _ ((bx, _) :: (bl, _) :: (sc, _) :: (l ++ S2.core w hl5)) := N
          case' inr.inl =>
            have he : (fr == 3) = true := beq_iff_eq.mpr hf
            k_steps
            all_goals (try exact absurd hf (by assumption))
            (with_reducible rename Fr _ _ _ _ => F)
            (with_reducible rename News _ _ _ _ => N)
            unfold Halt
            have hb := N _ (.head _)
            have N2 := all_drop N
            refine' draw_k (l := (bl, _) :: (sc, _) :: l) SG F hb N2 Z (CT (by decide) F) (N2 _ (.tail _ (.head _))).1 hv d2 (by omega) (by omega) (by decide) hz (law_hx tup d1 d2 hb.1 fun p hp => (N2 p (pre2 hp)).1) ?gaB
            case' gaB =>
              clear F N N2 hb Z
              intro h4 tk4 hl4 r4 t4 t4' F hb N Z K4 r40 r41
              replace N := news_put hb N
              (try dsimp only [List.cons_append] at N)
              obtain ⟨n4, rfl⟩ : ∃ n : Nat, r4 = (n : Int) := ⟨r4.toNat, (Int.toNat_of_nonneg r40).symm⟩
              k_steps
              rename_i Dk hk0 F N l1k
              unfold Halt
              have hkk : KeyAt prog w _ (Pk n4) Dk := key_of (N _ (.head _)).1
              have A5 := Z.at (l' := (Dk, _) :: (bx, _) :: (bl, _) :: (sc, _) :: l) F N
              refine' taken_k (i := n4) (y := Str.ofString "box") (u := .ref bx) (l := (Dk, _) :: (bx, _) :: (bl, _) :: (sc, _) :: l) F N Z p1 (sep_cons (A5.tupc_ne (N _ (.head _)).1 rfl) (law_sep A5 hv tup rfl fun p hp => (N p (.tail _ (pre3 hp))).1)) (CT (by decide) F) (N _ (.tail _ (.tail _ (.head _)))).1 hkk (by omega) rfl (by decide) ?gbB
              case' gbB =>
                clear F N hb Z A5 hkk
                intro h5 tk5 S2 hl5 F N Z p2 sep ids2 _
                replace N : News g L h5 _ := (List.forall_mem_cons.mp N).2
                rw [← ids2] at N
                (try dsimp only [List.cons_append] at N)
                have ids3 := ids2.trans ids1
                k_steps
                (with_reducible rename Fr _ _ _ _ => F)
                (with_reducible rename News _ _ _ _ => N)
                simp only [lawM_now, lawM_form, lawM_is_right] at F
                replace N : News g L _ ((bx, _) :: (bl, _) :: (sc, _) :: (l ++ S2.core w hl5)) := N
          case' inr.inr.inl =>
            have hne : (fr == 3) = false := beq_eq_false_iff_ne.mpr (by omega)
            have hne' : ¬ fr = 3 := by omega
            k_steps
            (with_reducible rename Fr _ _ _ _ => F)
            (with_reducible rename News _ _ _ _ => N)
            unfold Halt
            have A5 := Z.at (l' := (bx, _) :: (bl, _) :: (sc, _) :: l) F N
            refine' deed_k (d := .lost td) (y := Str.ofString "box") (u := .ref bx) (l := (bx, _) :: (bl, _) :: (sc, _) :: l) F N Z p1 (law_sep A5 hv tup rfl fun p hp => (N p (pre3 hp)).1) (CT (by decide) F) (N _ (.tail _ (.head _))).1 htd (told.told fun p hp => (N p (.tail _ (.tail _ (.tail _ (List.mem_append_left _ hp))))).1) trivial (by exact rfl) (by decide) ?gbC
            case' gbC =>
              clear F N hb Z A5
              intro h5 tk5 S2 hl5 F N Z p2 sep ids2 _ _
              rw [← ids2] at N
              (try dsimp only [List.cons_append] at N)
              have ids3 := ids2.trans ids1
              k_steps
              (with_reducible rename Fr _ _ _ _ => F)
              (with_reducible rename News _ _ _ _ => N)
              simp only [lawM_now, lawM_form, lawM_is_right, lawM_is_up] at F
              replace N : News g L _ ((bx, _) :: (bl, _) :: (sc, _) :: (l ++ S2.core w hl5)) := (List.forall_mem_cons.mp N).2
          case' inr.inr.inr =>
            have hne : (fr == 3) = false := beq_eq_false_iff_ne.mpr (by omega)
            have hne' : ¬ fr = 3 := by omega
            k_steps
            (with_reducible rename Fr _ _ _ _ => F)
            (with_reducible rename News _ _ _ _ => N)
            unfold Halt
            have A5 := Z.at (l' := (bx, _) :: (bl, _) :: (sc, _) :: l) F N
            refine' deed_k (d := .fin) (y := Str.ofString "box") (u := .ref bx) (l := (bx, _) :: (bl, _) :: (sc, _) :: l) F N Z p1 (law_sep A5 hv tup rfl fun p hp => (N p (pre3 hp)).1) (CT (by decide) F) (N _ (.tail _ (.head _))).1 trivial rfl trivial rfl (by decide) ?gbD
            case' gbD =>
              clear F N hb Z A5
              intro h5 tk5 S2 hl5 F N Z p2 sep ids2 _ _
              rw [← ids2] at N
              (try dsimp only [List.cons_append] at N)
              have ids3 := ids2.trans ids1
              k_steps
              (with_reducible rename Fr _ _ _ _ => F)
              (with_reducible rename News _ _ _ _ => N)
              simp only [lawM_now, lawM_form, lawM_is_right] at F
              replace N : News g L _ ((bx, _) :: (bl, _) :: (sc, _) :: (l ++ S2.core w hl5)) := N
          all_goals
            (try unfold Halt)
            refine turn_end (i := i) B SG X T hA hU hh Z p2 htd told₀ tup₀ (by omega) (by omega) hl' F N fun h' tk y' O' e1 e2 F' N' => hQ h' tk y' O' e1 (e2.trans ids3) F' N'
        | false =>
          clear hform
          k_steps
          rename_i a1 _ _ a2 _ _ a3 _ _ a4 _ _ D5 hx5 F N l5
          unfold Halt
          have f0 : 0 ≤ fr.fmod 5 := Int.fmod_nonneg_of_pos fr (by decide)
          have f5 : fr.fmod 5 < 5 := Int.fmod_lt_of_pos fr (by decide)
          obtain ⟨hix, tup3, told3, htd2, nl3⟩ := told_pick (P := fun p => hx5.get? p.1 = some p.2 ∧ p.1 ≠ L ∧ g.get? p.1 = none) f0 f5 (N _ (.tail _ (.tail _ (.tail _ (.tail _ (.head _)))))) (N _ (.tail _ (.tail _ (.tail _ (.head _))))) (N _ (.tail _ (.tail _ (.head _)))) (N _ (.tail _ (.head _)))
          rename_i tv2 td2 l3
          refine' item_base (N _ (.head _)).1 f0 (by omega) hix ?giF
          case giF =>
            have M0 := news_drop5 N
            obtain ⟨l2, hl3'⟩ : ∃ l2, l2 = own ++ l3 := ⟨_, rfl⟩
            have tup2 : ∀ p ∈ l2, Soft p.2 := fun p hp => (List.mem_append.mp (hl3' ▸ hp)).elim (hown p) fun hp => .inl (tup3 p hp)
            have told2 : ToldL l2 tv2 td2 := told3.more fun p hp => hl3' ▸ List.mem_append_right _ hp
            have nl2 : ∀ p ∈ l2, hx5.get? p.1 = some p.2 ∧ p.1 ≠ L ∧ g.get? p.1 = none := fun p hp => (List.mem_append.mp (hl3' ▸ hp)).elim (fun hp => M0 p (.tail _ (.tail _ (.tail _ (List.mem_append_left _ (hpart p hp)))))) (nl3 p)
            replace N : News g L hx5 ((bx, _) :: (bl, _) :: (sc, _) :: (l2 ++ S1.core w hl3)) := fun p hp => by
              rcases List.mem_cons.mp hp with rfl | hp
              · exact M0 _ (.head _)
              rcases List.mem_cons.mp hp with rfl | hp
              · exact M0 _ (.tail _ (.head _))
              rcases List.mem_cons.mp hp with rfl | hp
              · exact M0 _ (.tail _ (.tail _ (.head _)))
              rcases List.mem_append.mp hp with hp | hp
              · exact nl2 p hp
              · exact M0 p (.tail _ (.tail _ (.tail _ (List.mem_append_right _ hp))))
            clear M0 hix nl2 nl3 f0 f5 hb
            k_steps
            (with_reducible rename Fr _ _ _ _ => F)
            (with_reducible rename News _ _ _ _ => N)
            unfold Halt
            have hb := N _ (.head _)
            have N2 := all_drop N
            refine' draw_k (l := (bl, _) :: (sc, _) :: l2) SG F hb N2 Z (CT (by decide) F) (N2 _ (.tail _ (.head _))).1 hv d2 (by omega) (by omega) (by decide) hz (law_hx tup2 d1 d2 hb.1 fun p hp => (N2 p (pre2 hp)).1) ?gaF
            case gaF =>
              clear F N N2 hb Z
              intro h4 tk4 hl4 r4 t4 t4' F hb N Z K4 r40 r41
              replace N := news_put hb N
              (try dsimp only [List.cons_append] at N)
              k_steps
              (with_reducible rename Fr _ _ _ _ => F)
              (with_reducible rename News _ _ _ _ => N)
              unfold Halt
              have A5 := Z.at (l' := (bx, _) :: (bl, _) :: (sc, _) :: l2) F N
              refine' deed_k (d := .back td2 (1 + r4)) (y := Str.ofString "box") (u := .ref bx) (l := (bx, _) :: (bl, _) :: (sc, _) :: l2) F N Z p1 (law_sep A5 hv tup2 rfl fun p hp => (N p (pre3 hp)).1) (CT (by decide) F) (N _ (.tail _ (.head _))).1 htd2 (told2.told fun p hp => (N p (.tail _ (.tail _ (.tail _ (List.mem_append_left _ hp))))).1) rfl (by exact rfl) (by decide) ?gbF
              case gbF =>
                clear F N hb Z A5
                intro h5 tk5 S2 hl5 F N Z p2 sep ids2 _ _
                rw [← ids2] at N
                (try dsimp only [List.cons_append] at N)
                have ids3 := ids2.trans ids1
                k_steps
                (with_reducible rename Fr _ _ _ _ => F)
                (with_reducible rename News _ _ _ _ => N)
                simp only [lawM_now, lawM_form, lawM_told, lawM_is_right, lawM_is_up] at F
                replace N : News g L _ ((bx, _) :: (bl, _) :: (sc, _) :: (l2 ++ S2.core w hl5)) := (List.forall_mem_cons.mp N).2
                (try unfold Halt)
                exact turn_end (i := i) B SG X T hA hU hh Z p2 htd2 told3 tup3 (by omega) (by omega) hl3' F N fun h' tk y' O' e1 e2 F' N' => hQ h' tk y' O' e1 (e2.trans ids3) F' N'
end
end Mine
end
section
theorem Mine.off_41 : True := by
  w_top off
  trivial
namespace Mine
open PySem PySem.W PySem.Calls PySem.Spec PyProof.Rows
section
variable {prog : Program} {w : World} {A : Around} {s : Shared} {E : Value → Shared → Prop}
theorem samePairs_T {nm : String} {a b : Addr} {xs ys : List (List Int × Addr × Value)} {Q : Bool → Shared → Prop} (ha : (a == sysModules) = false) (hb : (b == sysModules) = false) (da : s.heap.DictOfH (TK prog w) a xs) (db : s.heap.DictOfH (TK prog w) b ys) (hu : A.units + 1 < cLine)
    (hlen : xs.length = ys.length) (hit : ∀ x ∈ xs, ∃ p, atKey ys x.1 = some p ∧ EqIn prog w A s x.2.2 p.2) (h : Q true s) : wpAny (model prog w) A (Builtin.Dict.samePairs nm a b) Q E s := by
  obtain ⟨oa, es, ep, hoa, hca, hda, hea, hka, hna⟩ := da
  obtain ⟨ob, es', ep', hob, hcb, hdb, heb, hkb, hnb⟩ := db
  have la : es.size = xs.length := size_of_entries hea
  have lb : es'.size = ys.length := size_of_entries heb
  unfold Builtin.Dict.samePairs Builtin.Dict.showsAll
  rw [if_neg (show ¬ (a == sysModules) = true by rw [ha]; exact Bool.false_ne_true), if_neg (show ¬ (b == sysModules) = true by rw [hb]; exact Bool.false_ne_true)]
  refine wpAny_bind (wpAny_pure (wpAny_bind (wpAny_pure ?_)))
  refine wpAny_bind (wpAny_dictEntries hoa hda ?_)
  dsimp only
  refine wpAny_bind (wpAny_dictEntries hob hdb ?_)
  rw [if_neg (by rw [la, lb, hlen]; simp)]
  refine wpAny_bind (wpAny_dictEpoch hoa hda ?_)
  refine wpAny_bind ?_
  rw [Std.Legacy.Range.forIn_eq_forIn_range']
  simp only [Std.Legacy.Range.size, Nat.sub_zero, Nat.add_sub_cancel, Nat.div_one]
  refine wpAny_forIn_list _ (fun rest q s' => s' = s ∧ q = (none, ()) ∧ ∃ i, rest = List.range' i (es.size - i) ∧ i ≤ es.size) _ ?_ ?_ _ _ ⟨rfl, rfl, 0, by simp, Nat.zero_le _⟩
  · rintro x rest q s' ⟨rfl, rfl, i, hr, hi⟩
    have hlt : i < es.size := by
      rcases Nat.lt_or_ge i es.size with h | h
      · exact h
      · rw [Nat.sub_eq_zero_of_le h] at hr; simp at hr
    obtain ⟨rfl, hrest⟩ : x = i ∧ rest = List.range' (i + 1) (es.size - (i + 1)) := by
      have e : es.size - i = (es.size - (i + 1)) + 1 := (Nat.succ_pred_eq_of_pos (Nat.sub_pos_of_lt hlt)).symm
      rw [e, List.range'_succ] at hr
      injection hr with h1 h2
      exact ⟨h1, h2⟩
    have hlx : x < xs.length := la ▸ hlt
    have hex : es[x]? = some (entryOfKey (TK prog w) xs[x]) := by
      rw [entry_at hea x, List.getElem?_eq_getElem hlx]; rfl
    have hxm := List.getElem_mem hlx
    obtain ⟨p, hp, he⟩ := hit _ hxm
    refine wpAny_bind (wpAny_dictEntries hoa hda ?_)
    rw [hex]
    dsimp only
    refine wpAny_bind (wpAny_holding (wpAny_bind ?_))
    refine wpAny_dictFind_heap (knd := TK prog w) (show A.units < cLine from Nat.lt_of_succ_lt hu) (hka _ hxm) hob hdb heb hkb hnb ?_ ?_
    · intro hno
      have := atKey_none_of_get hno
      rw [hp] at this; cases this
    · intro j q hj
      have hq := atKey_of_get hnb hj
      rw [hp] at hq; cases hq
      have hej : es'[j]? = some (entryOfKey (TK prog w) (xs[x].1, p)) := by rw [entry_at heb j, hj]; rfl
      refine wpAny_bind (wpAny_dictEntries hob hdb ?_)
      rw [hej]
      refine wpAny_holding (he _ _ ?_)
      show wpAny _ _ (if (!true) = true then _ else _) _ _ _
      rw [if_neg (by decide)]
      refine wpAny_bind (wpAny_dictEpoch hoa hda ?_)
      rw [if_neg (by simp)]
      exact wpAny_pure ⟨rfl, rfl, x + 1, hrest, hlt⟩
  · rintro q s' ⟨rfl, rfl, i, hr, hi⟩
    exact wpAny_pure h
theorem dict_eqT {a b : Addr} {xs ys : List (List Int × Addr × Value)} {Q : Value → Shared → Prop} (ha : (a == sysModules) = false) (hb : (b == sysModules) = false) (da : s.heap.DictOfH (TK prog w) a xs) (db : s.heap.DictOfH (TK prog w) b ys) (hu : A.units + 2 < 9900)
    (hlen : xs.length = ys.length) (hit : ∀ x ∈ xs, ∃ p, atKey ys x.1 = some p ∧ EqIn prog w A.in1 s x.2.2 p.2) (h : Q (.bool true) s) : wpAny (model prog w) A (compareOp .Eq (.ref a) (.ref b)) Q E s := by
  refine wpAny_richCompare_same_room (op := .Eq) da.typeIs db.typeIs PySem.F.slot_dict_eq (wpAny_call_entry PySem.F.slot_dict_eq da.typeIs PySem.F.entry_dict_eq ?_ (PySem.F.args_dict_eq_2 _ _)) (by show _ < 9900; omega)
  show wpAny _ _ (Builtin.Dict.dictSlotArgs "__eq__" ⟨[.ref a, .ref b], []⟩ >>= _) _ _ s
  refine wpAny_bind ?_
  unfold Builtin.Dict.dictSlotArgs
  refine wpAny_bind (wpAny_notOrdered_dict da.typeIs ?_)
  show wpAny _ _ (pure (Value.ref a, Value.ref b)) _ _ s
  refine wpAny_pure ?_
  refine wpAny_bind (wpAny_isInstance (T := "dict") db.typeIs PySem.F.sub_dict_dict ?_)
  simp only [Bool.not_true, Bool.false_eq_true, if_false]
  refine wpAny_bind (wpAny_pure (wpAny_bind (wpAny_pure ?_)))
  refine wpAny_bind (samePairs_T ha hb da db (by show _ < 9900; simp only [Around.in1_units]; k_extra "own a") hlen hit ?_)
  refine wpAny_pure ⟨_, rfl, ?_, ?_⟩
  · exact fun x => nomatch x
  · exact h
end
end Mine
end
section
theorem Mine.off_42 : True := by
  w_top off
  trivial
namespace Mine
open PySem PySem.W PySem.Calls PySem.Spec PyProof.Rows
section
variable {prog : Program} {w : World} {A : Around} {s : Shared} {E : Value → Shared → Prop} {Q : Value → Shared → Prop}
theorem key_eqAt2 {i j : Nat} {a b : Addr} (x : KeyAt prog w s.heap (Pk i) a) (y : KeyAt prog w s.heap (Pk j) b) (hu : A.units < cLine) : SeqAt.EqAt A s (.ref a) (.ref b) (decide (i = j)) := by
  by_cases e : a = b
  · subst e
    have := Pk_inj.mp (IsTupleKey.inj x y)
    rw [decide_eq_true this]; exact SeqAt.EqAt.same _
  · obtain ⟨o, n, t, u, ho, hc, hd⟩ := key_seq x
    obtain ⟨o', n', t', u', ho', hc', hd'⟩ := key_seq y
    have := SeqAt.RcAt.tuples (A := A) (s := s) (e := fun k => if k = 0 then (4 * (i : Int) == 4 * (j : Int)) else true) (l := a) (b := b) (items := #[.int (4 * (i : Int)) t, .int 2 u]) (items2 := #[.int (4 * (j : Int)) t', .int 2 u']) ⟨o, ho, hc, n, hd⟩ ⟨o', ho', hc', n', hd'⟩ hu fun k h1 h2 => by
      have h1' : k < 2 := h1
      rcases lt_two h1' with rfl | rfl
      · exact SeqAt.EqAt.int_int (A := A.in1) (s := s) (4 * (i : Int)) t (4 * (j : Int)) t'
      · exact SeqAt.EqAt.int_int (A := A.in1) (s := s) 2 u 2 u'
    have e2 : ((List.range (min (#[Value.int (4 * (i : Int)) t, .int 2 u]).size (#[Value.int (4 * (j : Int)) t', .int 2 u']).size)).all (fun k => if k = 0 then (4 * (i : Int) == 4 * (j : Int)) else true) && (#[Value.int (4 * (i : Int)) t, .int 2 u]).size == (#[Value.int (4 * (j : Int)) t', .int 2 u']).size) = decide (i = j) := by
      show ((4 * (i : Int) == 4 * (j : Int)) && (true && true) && true) = _
      by_cases q : i = j
      · subst q; simp
      · have : (4 * (i : Int) == 4 * (j : Int)) = false := beq_eq_false_iff_ne.mpr (by omega)
        rw [this, decide_eq_false q]; rfl
    rw [e2] at this
    exact SeqAt.EqAt.of_refs e this
theorem notIn_none {l a : Addr} (hl : s.heap.IsList l #[]) (h : Q (.bool true) s) : wpAny (model prog w) A (compareOp .NotIn (.ref a) (.ref l)) Q E s :=
  SeqAt.notIn_listAt (fun _ => false) hl (fun y hy => by simp at hy) (by simpa using h)
theorem notIn_one {l a b : Addr} {i j : Nat} (hl : s.heap.IsList l #[.ref b]) (x : KeyAt prog w s.heap (Pk j) b) (y : KeyAt prog w s.heap (Pk i) a) (hu : A.units + 1 < 9900) (h : Q (.bool (!decide (j = i))) s) : wpAny (model prog w) A (compareOp .NotIn (.ref a) (.ref l)) Q E s :=
  SeqAt.notIn_listAt (fun _ => decide (j = i)) hl (fun v hv => by
    have : v = .ref b := by simpa using hv
    subst this
    exact key_eqAt2 x y (by show _ < 9900; simp only [Around.in1_units]; k_extra "own a")) (by simpa using h)
theorem lists_eqAt {l1 l2 : Addr} {vs vs' : List Value} {is : List Nat} (e1 : s.heap.IsList l1 vs.toArray) (e2 : s.heap.IsList l2 vs'.toArray) (x : KeysAre prog w s.heap vs is) (y : KeysAre prog w s.heap vs' is) (hu : A.units + 1 < 9900) : SeqAt.EqAt A s (.ref l1) (.ref l2) true := by
  by_cases e : l1 = l2
  · rw [e]; exact SeqAt.EqAt.same _
  · have := SeqAt.RcAt.lists (A := A) (e := fun _ => true) e1 e2 (by simp [x.len, y.len]) (by show _ < 9900; omega) (fun j h1 h2 => by
      have := x.eqAt (A := A.in1) (by show _ < 9900; simp only [Around.in1_units]; k_extra "own a") y j (by simpa using h1) (by simpa using h2)
      simpa using this)
    rw [all_true] at this
    exact SeqAt.EqAt.of_refs e this
/-- two pairs of lists of keys, alike in both halves -/
theorem pair_ne {p q f1 z1 f2 z2 : Addr} {n1 n2 : Nat} {vf vz vf' vz' : List Value} {isf isz : List Nat} (hp : s.heap.get? p = some { cls := .type "tuple", data := .seq #[.ref f1, .ref z1] n1 }) (hq : s.heap.get? q = some { cls := .type "tuple", data := .seq #[.ref f2, .ref z2] n2 })
    (e1 : s.heap.IsList f1 vf.toArray) (e2 : s.heap.IsList f2 vf'.toArray) (e3 : s.heap.IsList z1 vz.toArray) (e4 : s.heap.IsList z2 vz'.toArray) (x1 : KeysAre prog w s.heap vf isf) (x2 : KeysAre prog w s.heap vf' isf) (x3 : KeysAre prog w s.heap vz isz) (x4 : KeysAre prog w s.heap vz' isz)
    (hu : A.units + 2 < 9900) (hQ : Q (.bool false) s) : wpAny (model prog w) A (compareOp .NotEq (.ref p) (.ref q)) Q E s := by
  have := SeqAt.RcNeAt.tuples (A := A) (s := s) (e := fun _ => true) (l := p) (b := q) (items := #[.ref f1, .ref z1]) (items2 := #[.ref f2, .ref z2]) ⟨_, hp, rfl, _, rfl⟩ ⟨_, hq, rfl, _, rfl⟩ (by show _ < 9900; omega) fun k h1 h2 => by
    have h1' : k < 2 := h1
    rcases lt_two h1' with rfl | rfl
    · exact lists_eqAt (A := A.in1) e1 e2 x1 x2 (by simp only [Around.in1_units]; k_extra "own a")
    · exact lists_eqAt (A := A.in1) e3 e4 x3 x4 (by simp only [Around.in1_units]; k_extra "own a")
  exact this prog w E Q hQ
end
end Mine
end
section
theorem Mine.off_43 : True := by
  w_top off
  trivial
namespace Mine
open PySem PySem.W PySem.Calls PySem.Spec PyProof.Rows
section
variable {prog : Program} {w : World} {P : Addr → Prop} {h : Heap}
theorem Bk.fresh {b db r : Nat} {t1 t2 : Tok} {n : Nat} {o : Obj} (e1 : h.get? b = some (instObj 85 db)) (e2 : h.get? db = some (dictOf (bkD w t1 t2 r .none) n)) (e3 : h.get? r = some o) (x : o.IsDictOf (strKind prog w) []) (nd : ([b, db, r] : List Nat).Nodup) (p : ∀ a ∈ [b, db, r], P a) :
    (⟨b, db, r, .none, [], t1, t2, n, o⟩ : Bk).At prog w P h where
  bk := ⟨e1, ⟨t1, t2, n, e2⟩, ⟨o, e3, rows_empty x⟩, (fun _ h => nomatch h), (fun _ h => nomatch h), (fun _ h => nomatch h), (fun _ h => nomatch h), nd, p⟩
  d := e2
  r := e3
  ro := rows_empty x
theorem sents_empty {o : Obj} (x : o.IsDictOf (strKind prog w) []) : RowsObj prog w o (([] : List Row).map Row.sent) := rows_empty x
theorem Kp.fresh {b db rt sl : Nat} {t0 t1 t2 t3 : Tok} {n : Nat} {o o' : Obj} (e1 : h.get? b = some (instObj 142 db)) (e2 : h.get? db = some (dictOf (akD w t0 t1 t2 t3 rt sl) n)) (e3 : h.get? rt = some o) (e4 : h.get? sl = some o') (x : o.IsDictOf (strKind prog w) []) (x' : o'.IsDictOf (strKind prog w) []) (nd : ([b, db, rt, sl] : List Nat).Nodup) (p : ∀ a ∈ [b, db, rt, sl], P a) :
    (⟨b, db, rt, sl, [], [], t0, t1, t2, t3, n, o, o'⟩ : Kp).At prog w P h where
  kp := ⟨e1, ⟨t0, t1, t2, t3, n, e2⟩, ⟨o, e3, rows_empty x⟩, ⟨o', e4, sents_empty x'⟩, (fun _ h => nomatch h), (fun _ h => nomatch h), (fun _ h => nomatch h), (fun _ h => nomatch h), (fun _ h => nomatch h), (fun _ h => nomatch h), (fun _ h => nomatch h), nd, p⟩
  d := e2
  r := e3
  s := e4
  ro := rows_empty x
  so := sents_empty x'
theorem apart_nodup {a b : List Nat} (h : (a ++ b).Nodup) : Apart a b := fun x hx hy => (List.nodup_append.mp h).2.2 x hx x hy rfl
/-- three new books and the new kept one stand apart -/
theorem Four.fresh {A B C : Bk} {K : Kp} (a0 : A.At prog w P h) (a1 : B.At prog w P h) (a2 : C.At prog w P h) (ak : K.At prog w P h) (nd : (A.mut ++ (B.mut ++ (C.mut ++ K.mut))).Nodup) : Four prog w P h ⟨A, B, C, K⟩ := by
  have h1 := List.nodup_append.mp nd
  have h2 := List.nodup_append.mp h1.2.1
  have h3 := List.nodup_append.mp h2.2.1
  exact ⟨a0, a1, a2, ak, fun x hx hy => h1.2.2 x hx x (List.mem_append_left _ hy) rfl, fun x hx hy => h1.2.2 x hx x (List.mem_append_right _ (List.mem_append_left _ hy)) rfl,
    fun x hx hy => h2.2.2 x hx x (List.mem_append_left _ hy) rfl, fun x hx hy => h1.2.2 x hx x (List.mem_append_right _ (List.mem_append_right _ hy)) rfl, fun x hx hy => h2.2.2 x hx x (List.mem_append_right _ hy) rfl, fun x hx hy => h3.2.2 x hx x hy rfl⟩
theorem Pure.fresh {A B C : Bk} {K : Kp} (a : A.xs = []) (b : B.xs = []) (c : C.xs = []) (k : K.rs = []) (k' : K.ss = []) (u0 : A.u = .none) (u1 : B.u = .none) (u2 : C.u = .none) : Pure ⟨A, B, C, K⟩ [] none :=
  ⟨by dsimp only; rw [a]; rfl, by dsimp only; rw [b]; rfl, by dsimp only; rw [c]; rfl, by dsimp only; rw [k]; rfl, by dsimp only; rw [k']; rfl, u0, u1, u2⟩
theorem nd3 {q d b r : Nat} {l : List Nat} (h0 : q < d) (h1 : d < b) (h2 : b < r) (hl : l.Nodup ∧ ∀ x ∈ l, r < x) : (b :: d :: r :: l).Nodup ∧ ∀ x ∈ b :: d :: r :: l, q < x := by
  refine ⟨List.nodup_cons.mpr ⟨fun m => ?_, List.nodup_cons.mpr ⟨fun m => ?_, List.nodup_cons.mpr ⟨fun m => absurd (hl.2 _ m) (Nat.lt_irrefl _), hl.1⟩⟩⟩, fun x m => ?_⟩
  · rcases List.mem_cons.mp m with e | m
    · exact absurd e (Nat.ne_of_gt h1)
    · rcases List.mem_cons.mp m with e | m
      · exact absurd e (Nat.ne_of_lt h2)
      · exact absurd (hl.2 _ m) (Nat.lt_asymm h2)
  · rcases List.mem_cons.mp m with e | m
    · exact absurd e (Nat.ne_of_lt (Nat.lt_trans h1 h2))
    · exact absurd (hl.2 _ m) (Nat.lt_asymm (Nat.lt_trans h1 h2))
  · rcases List.mem_cons.mp m with rfl | m
    · exact Nat.lt_trans h0 h1
    · rcases List.mem_cons.mp m with rfl | m
      · exact h0
      · rcases List.mem_cons.mp m with rfl | m
        · exact Nat.lt_trans h0 (Nat.lt_trans h1 h2)
        · exact Nat.lt_trans (Nat.lt_trans h0 (Nat.lt_trans h1 h2)) (hl.2 _ m)
theorem law_nodup {b0 d0 r0 b1 d1 r1 b2 d2 r2 b3 d3 rt sl : Nat} (h0 : 1 < d0) (h1 : d0 < b0) (h2 : b0 < r0) (h3 : r0 < d1) (h4 : d1 < b1) (h5 : b1 < r1) (h6 : r1 < d2) (h7 : d2 < b2) (h8 : b2 < r2) (h9 : r2 < d3) (ha : d3 < b3) (hb : b3 < rt) (hc : rt < sl) : ([b0, d0, r0, b1, d1, r1, b2, d2, r2, b3, d3, rt, sl] : List Nat).Nodup ∧ ∀ x ∈ ([b0, d0, r0, b1, d1, r1, b2, d2, r2, b3, d3, rt, sl] : List Nat), 1 < x :=
  nd3 h0 h1 h2 (nd3 h3 h4 h5 (nd3 h6 h7 h8 (nd3 h9 ha hb ⟨List.nodup_cons.mpr ⟨List.not_mem_nil, .nil⟩, fun x m => by rcases List.mem_cons.mp m with rfl | m; exact hc; cases m⟩)))
theorem law_start {H₀ : Heap} {L : Addr} {news : List (Addr × Obj)} {bl b0 b1 b2 b3 d0 d1 d2 d3 r0 r1 r2 rt sl : Nat} {cb n0 n1 n2 n3 : Nat} {s0 s1 s2 s3 s4 s5 s6 s7 s8 s9 : Tok} {o0 o1 o2 ro so : Obj} (N : News H₀ L h news)
    (mb : (bl, W.listOf #[.ref b0, .ref b1, .ref b2, .ref b3] cb) ∈ news) (i0 : (b0, instObj 85 d0) ∈ news) (i1 : (b1, instObj 85 d1) ∈ news) (i2 : (b2, instObj 85 d2) ∈ news) (i3 : (b3, instObj 142 d3) ∈ news)
    (e0 : (d0, dictOf (bkD w s0 s1 r0 .none) n0) ∈ news) (e1 : (d1, dictOf (bkD w s2 s3 r1 .none) n1) ∈ news) (e2 : (d2, dictOf (bkD w s4 s5 r2 .none) n2) ∈ news) (e3 : (d3, dictOf (akD w s6 s7 s8 s9 rt sl) n3) ∈ news)
    (f0 : (r0, o0) ∈ news) (f1 : (r1, o1) ∈ news) (f2 : (r2, o2) ∈ news) (f3 : (rt, ro) ∈ news) (f4 : (sl, so) ∈ news) (x0 : o0.IsDictOf (strKind prog w) []) (x1 : o1.IsDictOf (strKind prog w) []) (x2 : o2.IsDictOf (strKind prog w) []) (x3 : ro.IsDictOf (strKind prog w) []) (x4 : so.IsDictOf (strKind prog w) [])
    (h0 : 1 < d0) (h1 : d0 < b0) (h2 : b0 < r0) (h3 : r0 < d1) (h4 : d1 < b1) (h5 : b1 < r1) (h6 : r1 < d2) (h7 : d2 < b2) (h8 : b2 < r2) (h9 : r2 < d3) (ha : d3 < b3) (hb : b3 < rt) (hc : rt < sl) :
    ∃ S : St, Four prog w (PH H₀) h S ∧ Pure S [] none ∧ S.ids = [.ref b0, .ref b1, .ref b2, .ref b3] ∧ S.mut = [b0, d0, r0, b1, d1, r1, b2, d2, r2, b3, d3, rt, sl] ∧ ∀ a ∈ S.mut, a ≠ L ∧ H₀.get? a = none := by
  obtain ⟨nd, big⟩ := law_nodup h0 h1 h2 h3 h4 h5 h6 h7 h8 h9 ha hb hc
  have k_b0 : PH H₀ b0 := ⟨(N _ i0).2.2, big _ (.head _)⟩
  have k_d0 : PH H₀ d0 := ⟨(N _ e0).2.2, big _ (.tail _ (.head _))⟩
  have k_r0 : PH H₀ r0 := ⟨(N _ f0).2.2, big _ (.tail _ (.tail _ (.head _)))⟩
  have k_b1 : PH H₀ b1 := ⟨(N _ i1).2.2, big _ (.tail _ (.tail _ (.tail _ (.head _))))⟩
  have k_d1 : PH H₀ d1 := ⟨(N _ e1).2.2, big _ (.tail _ (.tail _ (.tail _ (.tail _ (.head _)))))⟩
  have k_r1 : PH H₀ r1 := ⟨(N _ f1).2.2, big _ (.tail _ (.tail _ (.tail _ (.tail _ (.tail _ (.head _))))))⟩
  have k_b2 : PH H₀ b2 := ⟨(N _ i2).2.2, big _ (.tail _ (.tail _ (.tail _ (.tail _ (.tail _ (.tail _ (.head _)))))))⟩
  have k_d2 : PH H₀ d2 := ⟨(N _ e2).2.2, big _ (.tail _ (.tail _ (.tail _ (.tail _ (.tail _ (.tail _ (.tail _ (.head _))))))))⟩
  have k_r2 : PH H₀ r2 := ⟨(N _ f2).2.2, big _ (.tail _ (.tail _ (.tail _ (.tail _ (.tail _ (.tail _ (.tail _ (.tail _ (.head _)))))))))⟩
  have k_b3 : PH H₀ b3 := ⟨(N _ i3).2.2, big _ (.tail _ (.tail _ (.tail _ (.tail _ (.tail _ (.tail _ (.tail _ (.tail _ (.tail _ (.head _))))))))))⟩
  have k_d3 : PH H₀ d3 := ⟨(N _ e3).2.2, big _ (.tail _ (.tail _ (.tail _ (.tail _ (.tail _ (.tail _ (.tail _ (.tail _ (.tail _ (.tail _ (.head _)))))))))))⟩
  have k_rt : PH H₀ rt := ⟨(N _ f3).2.2, big _ (.tail _ (.tail _ (.tail _ (.tail _ (.tail _ (.tail _ (.tail _ (.tail _ (.tail _ (.tail _ (.tail _ (.head _))))))))))))⟩
  have k_sl : PH H₀ sl := ⟨(N _ f4).2.2, big _ (.tail _ (.tail _ (.tail _ (.tail _ (.tail _ (.tail _ (.tail _ (.tail _ (.tail _ (.tail _ (.tail _ (.tail _ (.head _)))))))))))))⟩
  have p : ∀ a ∈ [b0, d0, r0, b1, d1, r1, b2, d2, r2, b3, d3, rt, sl], PH H₀ a := by
    intro a hm
    simp only [List.mem_cons, List.not_mem_nil, or_false] at hm
    rcases hm with rfl | rfl | rfl | rfl | rfl | rfl | rfl | rfl | rfl | rfl | rfl | rfl | rfl <;> assumption
  have sub : ∀ {l : List Nat}, l.Sublist [b0, d0, r0, b1, d1, r1, b2, d2, r2, b3, d3, rt, sl] → l.Nodup ∧ ∀ a ∈ l, PH H₀ a := fun s => ⟨s.nodup nd, fun a ha => p a (s.subset ha)⟩
  have q0 := sub (l := [b0, d0, r0]) (.cons_cons _ (.cons_cons _ (.cons_cons _ (List.nil_sublist _))))
  have q1 := sub (l := [b1, d1, r1]) (.cons _ (.cons _ (.cons _ (.cons_cons _ (.cons_cons _ (.cons_cons _ (List.nil_sublist _)))))))
  have q2 := sub (l := [b2, d2, r2]) (.cons _ (.cons _ (.cons _ (.cons _ (.cons _ (.cons _ (.cons_cons _ (.cons_cons _ (.cons_cons _ (List.nil_sublist _))))))))))
  have q3 := sub (l := [b3, d3, rt, sl]) (.cons _ (.cons _ (.cons _ (.cons _ (.cons _ (.cons _ (.cons _ (.cons _ (.cons _ (List.Sublist.refl _))))))))))
  refine ⟨⟨⟨b0, d0, r0, .none, [], s0, s1, n0, o0⟩, ⟨b1, d1, r1, .none, [], s2, s3, n1, o1⟩, ⟨b2, d2, r2, .none, [], s4, s5, n2, o2⟩, ⟨b3, d3, rt, sl, [], [], s6, s7, s8, s9, n3, ro, so⟩⟩,
    Four.fresh (Bk.fresh (N _ i0).1 (N _ e0).1 (N _ f0).1 x0 q0.1 q0.2) (Bk.fresh (N _ i1).1 (N _ e1).1 (N _ f1).1 x1 q1.1 q1.2) (Bk.fresh (N _ i2).1 (N _ e2).1 (N _ f2).1 x2 q2.1 q2.2) (Kp.fresh (N _ i3).1 (N _ e3).1 (N _ f3).1 (N _ f4).1 x3 x4 q3.1 q3.2) nd, Pure.fresh rfl rfl rfl rfl rfl rfl rfl rfl, rfl, rfl, fun a ha => ?_⟩
  have ha : a ∈ [b0, d0, r0, b1, d1, r1, b2, d2, r2, b3, d3, rt, sl] := ha
  simp only [List.mem_cons, List.not_mem_nil, or_false] at ha
  rcases ha with rfl | rfl | rfl | rfl | rfl | rfl | rfl | rfl | rfl | rfl | rfl | rfl | rfl
  · exact (N _ i0).2
  · exact (N _ e0).2
  · exact (N _ f0).2
  · exact (N _ i1).2
  · exact (N _ e1).2
  · exact (N _ f1).2
  · exact (N _ i2).2
  · exact (N _ e2).2
  · exact (N _ f2).2
  · exact (N _ i3).2
  · exact (N _ e3).2
  · exact (N _ f3).2
  · exact (N _ f4).2
end
end Mine
end
section
theorem Mine.off_43b : True := by
  w_top off
  trivial
namespace Mine
section
variable {prog : Program} {w : World} {A : Around} {s : Shared} {mean : ExcName → Option Value} {mg mb : Str → Option Value} {H₀ g : Heap} {L : Nat} {R : Result → Shared → Prop} {m : Str → Option Value} {l : List (Addr × Obj)}
theorem uni_k {u k : Nat} (hk : k ≤ 20) (h : u + 30 ≤ 9000) : u + k + 10 ≤ 9000 := by omega
theorem keep_21 {a b : Addr} {oa : Obj} {h h' : Heap} (K : Keep [a, b] h h') (ha : h.get? a = some oa) (ha' : h'.get? a = some oa) : Keep [b] h h' := fun x o e n => by
  by_cases q : x = a
  · subst q; rw [ha] at e; cases e; exact ha'
  · exact K x o e fun m => (List.mem_cons.mp m).elim q n
theorem sinit_ct {b db : Nat} (X : (hd.heap_39 w.params).In H₀) (T : Top hd.view_39 (looseW hd.view_39 []) mean mg mb H₀) (st : H₀.StaysIn s.heap) (hA : A.depth + 1 ≤ 900) (hU : A.units + 10 ≤ 9000) (hb : s.heap.get? b = some (instObj 85 db)) (hdb : s.heap.get? db = some (dictOf [] 0)) (pb : H₀.get? b = none) (pd : H₀.get? db = none) (hlt : db < b)
    (hR : ∀ h' t t1 t2 (r : Nat) o n, Keep [db] s.heap h' → s.heap.get? r = none → b < r → h'.get? r = some o → o.IsDictOf (strKind prog w) [] → h'.get? db = some (dictOf (bkD w t1 t2 r .none) n) → R (.ok (.ret .none)) { s with heap := h', toks := t }) :
    codeAny (model prog w) A (.call (.ref 28) ⟨[.ref b], []⟩) R s := by
  refine' enter (mo := [(b, instObj 85 db), (db, dictOf [] 0)]) X T st ?m ?ho ?hcd ?room ?bind ?loc ?_ ?c1 ?c2 ?c3 ?c4
  case ho => k_is
  case hcd => k_is
  case bind => exact BindsTo.of_eq rfl
  case loc => exact locs rfl
  case c1 => exact rfl
  case c2 => exact rfl
  case c3 => exact rfl
  case c4 => decide
  case room => show _ < 1000; k_extra "own a"
  case m => exact all2 ⟨hb, pb⟩ (all1 ⟨hdb, pd⟩)
  intro g L h₁ KG eL F N X T SG
  dsimp only
  try k_fold
  k_steps
  (with_reducible rename Fr _ _ _ _ => F)
  (with_reducible rename News _ _ _ _ => N)
  (with_reducible rename Obj.IsDictOf (strKind _ _) _ _ => hs)
  (with_reducible rename _ ∧ _ => l1)
  have K := keep_end KG F
  have m2 := (N _ (.tail _ (.head _))).1
  exact hR _ _ _ _ _ _ _ (keep_21 K hb m2) (keep_none KG (N _ (.head _)).2.2 (all2 (Nat.ne_of_lt l1.1) (all1 (Nat.ne_of_lt l1.2)))) l1.1 (N _ (.head _)).1 hs (N _ (.tail _ (.tail _ (.head _)))).1
theorem ainit_ct {b db : Nat} {t0 : Tok} (X : (hd.heap_39 w.params).In H₀) (T : Top hd.view_39 (looseW hd.view_39 []) mean mg mb H₀) (st : H₀.StaysIn s.heap) (hA : A.depth + 1 ≤ 900) (hU : A.units + 10 ≤ 9000) (hb : s.heap.get? b = some (instObj 142 db)) (hdb : s.heap.get? db = some (dictOf [] 0)) (pb : H₀.get? b = none) (pd : H₀.get? db = none) (hlt : db < b)
    (hR : ∀ h' t t0 t1 t2 t3 (rt sl : Nat) o o' n, Keep [db] s.heap h' → s.heap.get? rt = none → s.heap.get? sl = none → b < rt → rt < sl → h'.get? rt = some o → o.IsDictOf (strKind prog w) [] → h'.get? sl = some o' → o'.IsDictOf (strKind prog w) [] → h'.get? db = some (dictOf (akD w t0 t1 t2 t3 rt sl) n) → R (.ok (.ret .none)) { s with heap := h', toks := t }) :
    codeAny (model prog w) A (.call (.ref 108) ⟨[.ref b, .str (Str.ofString "ibgp") t0], []⟩) R s := by
  refine' enter (mo := [(b, instObj 142 db), (db, dictOf [] 0)]) X T st ?m ?ho ?hcd ?room ?bind ?loc ?_ ?c1 ?c2 ?c3 ?c4
  case ho => k_is
  case hcd => k_is
  case bind => exact BindsTo.of_eq rfl
  case loc => exact locs rfl
  case c1 => exact rfl
  case c2 => exact rfl
  case c3 => exact rfl
  case c4 => decide
  case room => show _ < 1000; k_extra "own a"
  case m => exact all2 ⟨hb, pb⟩ (all1 ⟨hdb, pd⟩)
  intro g L h₁ KG eL F N X T SG
  dsimp only
  try k_fold
  k_steps
  (with_reducible rename Fr _ _ _ _ => F)
  (with_reducible rename News _ _ _ _ => N)
  (with_reducible rename _ < _ ∧ _ < _ => l1)
  (with_reducible rename _ < _ ∧ _ < _ ∧ _ < _ => l2)
  have K := keep_end KG F
  exact hR _ _ _ _ _ _ _ _ _ _ _ (keep_21 K hb (N _ (.tail _ (.tail _ (.head _)))).1) (keep_none KG (N _ (.tail _ (.head _))).2.2 (all2 (Nat.ne_of_lt l1.1) (all1 (Nat.ne_of_lt l1.2)))) (keep_none KG (N _ (.head _)).2.2 (all2 (Nat.ne_of_lt l2.2.1) (all1 (Nat.ne_of_lt l2.2.2)))) l1.1 l2.1 (N _ (.tail _ (.head _))).1 (by with_reducible assumption) (N _ (.head _)).1 (by with_reducible assumption) (N _ (.tail _ (.tail _ (.tail _ (.head _))))).1
theorem new_bk {E : Value → Shared → Prop} {Q : Value → Shared → Prop} (X : (hd.heap_39 w.params).In g) (T : Top hd.view_39 (looseW hd.view_39 []) mean mg mb g) (hA : A.depth + 3 ≤ 900) (hU : A.units + 30 ≤ 9000) (F : Fr g L s.heap m) (N : News g L s.heap l)
    (hQ : ∀ h' t (b db r : Nat) o t1 t2 n, Fr g L h' m → News g L h' ((r, o) :: (b, instObj 85 db) :: (db, dictOf (bkD w t1 t2 r .none) n) :: l) → o.IsDictOf (strKind prog w) [] → (∀ p ∈ l, p.1 < db) → db < b → b < r → Q (.ref b) { s with heap := h', toks := t }) :
    wpAny (model prog w) A (call (.ref 85) []) Q E s := by
  refine call_cls (fI := 28) F X N (by k_is) (by k_is) (by k_is) fun x dx h' F' N' l1 l2 => ?_
  have e0 := N' _ (.head _)
  have e1 := N' _ (.tail _ (.head _))
  refine sinit_ct (s := { s with heap := h' }) X T F'.keep ?_ ?_ e0.1 e1.1 e0.2.2 e1.2.2 l2 fun h2 t t1 t2 r o n K r0 lr er hs ed => (And.intro rfl ?_ : _ ∧ _)
  · simp only [depth_under_kw]; exact Nat.le_of_succ_le hA
  · rw [units_under_make]; exact uni_k (by decide) hU
  have hL : L ∉ [dx] := fun q => e1.2.1 (List.mem_singleton.mp q).symm
  have F2 := fr_keep F' K hL fun a ha => by rw [List.mem_singleton.mp ha]; exact e1.2.2
  have kp : ∀ p ∈ (x, instObj 85 dx) :: l, p.1 ≠ dx := all2 (Nat.ne_of_gt l2) fun p hp => Nat.ne_of_lt (l1 p hp)
  refine hQ h2 t x dx r o t1 t2 n F2 (all2 ⟨er, none_L F' r0, none_base F' r0⟩ (all2 ⟨K _ _ e0.1 fun q => kp _ (.head _) (List.mem_singleton.mp q), e0.2⟩ (all2 ⟨ed, e1.2⟩ fun p hp => ?_))) hs l1 l2 lr
  have e := N' p (.tail _ (.tail _ hp))
  exact ⟨K _ _ e.1 fun q => kp _ (.tail _ hp) (List.mem_singleton.mp q), e.2⟩
theorem new_ak {E : Value → Shared → Prop} {Q : Value → Shared → Prop} {tk : Tok} (X : (hd.heap_39 w.params).In g) (T : Top hd.view_39 (looseW hd.view_39 []) mean mg mb g) (hA : A.depth + 3 ≤ 900) (hU : A.units + 30 ≤ 9000) (F : Fr g L s.heap m) (N : News g L s.heap l)
    (hQ : ∀ h' t (b db rt sl : Nat) o o' t0 t1 t2 t3 n, Fr g L h' m → News g L h' ((sl, o') :: (rt, o) :: (b, instObj 142 db) :: (db, dictOf (akD w t0 t1 t2 t3 rt sl) n) :: l) → o.IsDictOf (strKind prog w) [] → o'.IsDictOf (strKind prog w) [] → (∀ p ∈ l, p.1 < db) → db < b → b < rt → rt < sl → Q (.ref b) { s with heap := h', toks := t }) :
    wpAny (model prog w) A (call (.ref 142) [.str (Str.ofString "ibgp") tk]) Q E s := by
  refine call_cls (fI := 108) F X N (by k_is) (by k_is) (by k_is) fun x dx h' F' N' l1 l2 => ?_
  have e0 := N' _ (.head _)
  have e1 := N' _ (.tail _ (.head _))
  refine ainit_ct (s := { s with heap := h' }) X T F'.keep ?_ ?_ e0.1 e1.1 e0.2.2 e1.2.2 l2 fun h2 t t0 t1 t2 t3 rt sl o o' n K r0 s0 lr ls er hs es hs' ed => (And.intro rfl ?_ : _ ∧ _)
  · simp only [depth_under_kw]; exact Nat.le_of_succ_le hA
  · rw [units_under_make]; exact uni_k (by decide) hU
  have hL : L ∉ [dx] := fun q => e1.2.1 (List.mem_singleton.mp q).symm
  have F2 := fr_keep F' K hL fun a ha => by rw [List.mem_singleton.mp ha]; exact e1.2.2
  have kp : ∀ p ∈ (x, instObj 142 dx) :: l, p.1 ≠ dx := all2 (Nat.ne_of_gt l2) fun p hp => Nat.ne_of_lt (l1 p hp)
  refine hQ h2 t x dx rt sl o o' t0 t1 t2 t3 n F2 (all2 ⟨es, none_L F' s0, none_base F' s0⟩ (all2 ⟨er, none_L F' r0, none_base F' r0⟩ (all2 ⟨K _ _ e0.1 fun q => kp _ (.head _) (List.mem_singleton.mp q), e0.2⟩ (all2 ⟨ed, e1.2⟩ fun p hp => ?_)))) hs hs' l1 l2 lr ls
  have e := N' p (.tail _ (.tail _ hp))
  exact ⟨K _ _ e.1 fun q => kp _ (.tail _ hp) (List.mem_singleton.mp q), e.2⟩
end
end Mine
end
section
theorem Mine.off_44 : True := by
  w_top off
  trivial
namespace Mine
open PySem PySem.W PySem.Calls PySem.Spec PyProof.Rows
section
variable {prog : Program} {w : World} {A : Around} {E : Value → Shared → Prop} {s : Shared} {es : Array DictEntry} {ep : Nat}
/-- the iterator of an items view at turn i: it owns no tuple yet, or one that lives -/
noncomputable def ItSt (h : Heap) (it d S : Addr) (i n ep : Nat) : Prop := ∃ (x0 : Value) (f : Bool) (ok ov : Value),
  h.get? it = some { cls := .type "dict_itemiterator", dict := none, data := .fields #[x0, .bool f, .ref d, .int i 0, .int n 0, .int ep 0, ok, ov], slots := #[] } ∧ (x0 = .none ∨ ∃ (a : Addr) (oa : Obj), x0 = rawInt a ∧ h.get? a = some oa ∧ a ≠ it ∧ a ≠ S)
theorem ItSt.keep {h h' : Heap} {it d S : Addr} {i n ep : Nat} (x : ItSt h it d S i n ep) (k : ∀ b o, b ≠ S → h.get? b = some o → h'.get? b = some o) (hI : it ≠ S) : ItSt h' it d S i n ep := by
  obtain ⟨x0, f, ok, ov, e, r⟩ := x
  exact ⟨x0, f, ok, ov, k _ _ hI e, r.imp id fun x => x.imp fun a x => x.imp fun oa x => ⟨x.1, k _ _ x.2.2.2 x.2.1, x.2.2⟩⟩
theorem items_next {it d S : Addr} {i : Nat} {Q : Option Value → Shared → Prop} (hst : ItSt s.heap it d S i es.size ep) (hS : S < s.heap.objs.size) (hm : DictRaw s.heap d es ep) (hi : i < es.size)
    (hQ : ∀ h', ItSt h' it d S (i + 1) es.size ep → h'.get? s.heap.objs.size = some { cls := .type "tuple", data := .seq #[es[i].key, es[i].val] } → (∀ b o, b ≠ it → s.heap.get? b = some o → h'.get? b = some o) → Q (some (.ref s.heap.objs.size)) { s with heap := h' }) :
    wpAny (model prog w) A (pyNext (.ref it)) Q E s := by
  obtain ⟨hp, g, dr, tk, os⟩ := s
  obtain ⟨x0, f, ok, ov, hit, hx0⟩ := hst
  obtain ⟨od, hod, hcd, hdd⟩ := hm
  dsimp only at hit hx0 hod hS hQ
  have hT : Shared.TypeIs ⟨hp, g, dr, tk, os⟩ (.ref it) "dict_itemiterator" := ⟨_, hit, rfl⟩
  have hown : Builtin.Dict_items.ownsTuple "dict_itemiterator" = true := by decide
  unfold pyNext
  refine wpAny_bind (wpAny_attempt (wpAny_callSpecial?_slot (name := Str.ofString "__next__") hT PySem.F.slot_dict_itemiterator_next
    (wpAny_call_entry PySem.F.slot_dict_itemiterator_next hT PySem.F.entry_dict_itemiterator_next ?_ (PySem.F.args_dict_itemiterator_next_1 _))))
  refine wpAny_bind (wpAny_pure (wpAny_bind (wpAny_bind ?_)))
  first | refine wpAny_bind (wpAny_typeNameOfWhole_itemiter hT (wpAny_pure ?_)) | refine wpAny_bind (wpAny_typeNameOf_itemiter hT (wpAny_pure ?_))
  refine wpAny_bind (wpAny_fieldsOf hit rfl ?_)
  simp -iota only [hown, if_true]
  show wpAny _ _ (if (Value.ref d == Value.none) = true then _ else _) _ _ _
  rw [if_neg (show ¬ ((Value.ref d == Value.none) = true) from Bool.false_ne_true)]
  refine wpAny_bind (wpAny_pure (wpAny_bind (wpAny_dictEntries hod hdd ?_)))
  rw [if_neg (by simp)]
  refine wpAny_bind (wpAny_pure (wpAny_bind (wpAny_dictEpoch hod hdd ?_)))
  rw [if_neg (by simp)]
  refine wpAny_pure ?_
  dsimp only
  rw [show (if (i : Int) < 0 then none else es[(i : Int).toNat]?) = some es[i] from by rw [if_neg (by omega), Int.toNat_natCast, Array.getElem?_eq_getElem hi]]
  refine wpAny_bind ?_
  first | refine wpAny_bind (wpAny_typeNameOfWhole_itemiter hT (wpAny_pure ?_)) | refine wpAny_bind (wpAny_typeNameOf_itemiter hT (wpAny_pure ?_))
  refine wpAny_bind (wpAny_isOneOf_itemiter hT ?_)
  show wpAny _ _ (setField (.ref it) 3 (rawInt ((i : Int) + 1)) >>= _) _ _ ⟨hp, g, dr, tk, os⟩
  refine wpAny_bind (wpAny_setField_rec hit (by simp) fun h₁ he₁ hs₁ => ?_)
  have e1 : h₁.get? it = some { cls := .type "dict_itemiterator", dict := none, data := .fields #[x0, .bool f, .ref d, .int (i + 1 : Nat) 0, .int es.size 0, .int ep 0, ok, ov], slots := #[] } := by
    rw [show ((i + 1 : Nat) : Int) = (i : Int) + 1 from by omega]; simpa [rawInt] using he₁
  have hs₁' : Heap.SameBut it hp h₁ := hs₁
  have hT₁ : Shared.TypeIs ⟨h₁, g, dr, tk, os⟩ (.ref it) "dict_itemiterator" := ⟨_, e1, rfl⟩
  refine wpAny_bind (wpAny_holding ?_)
  refine wpAny_bind (wpAny_isOneOf_itemiter hT₁ (wpAny_bind (wpAny_isOneOf_itemiter hT₁ ?_)))
  show wpAny _ _ (Builtin.Dict_items.pairFromOwner (.ref it) 6 es[i].key es[i].val) _ _ ⟨h₁, g, dr, tk, os⟩
  unfold Builtin.Dict_items.pairFromOwner
  refine wpAny_bind (wpAny_newTuple ?_)
  have e2 := Heap.get?_push_of_some (o := ({ cls := .type "tuple", data := .seq #[es[i].key, es[i].val] } : Obj)) e1
  have z1 : h₁.objs.size = hp.objs.size := hs₁'.1
  have il : it < hp.objs.size := Heap.lt_size hit
  have t2 : (h₁.push { cls := .type "tuple", data := .seq #[es[i].key, es[i].val] }).get? hp.objs.size = some { cls := .type "tuple", data := .seq #[es[i].key, es[i].val] } := by rw [← z1]; exact Heap.get?_push_size _ rfl
  have k2 : ∀ b o, b ≠ it → hp.get? b = some o → (h₁.push { cls := .type "tuple", data := .seq #[es[i].key, es[i].val] }).get? b = some o := fun b o n e => Heap.get?_push_of_some _ (hs₁'.extBut b o n e)
  rw [z1]
  generalize h₁.push { cls := .type "tuple", data := .seq #[es[i].key, es[i].val] } = h₂ at e2 t2 k2
  refine wpAny_bind ?_
  unfold Builtin.Dict_items.ownedTupleIsFree
  refine wpAny_bind (wpAny_field e2 rfl (x := x0) rfl ?_)
  have ni : hp.objs.size ≠ it := Nat.ne_of_gt il
  rcases hx0 with rfl | ⟨a, oa, rfl, ha, hai, haS⟩
  · refine wpAny_pure ?_
    simp only [if_true]
    refine wpAny_bind (wpAny_field e2 rfl (x := ok) rfl (wpAny_bind (wpAny_field e2 rfl (x := ov) rfl ?_)))
    refine wpAny_bind (wpAny_setField_rec e2 (by simp) fun h₃ e3 s3 => ?_)
    refine wpAny_bind (wpAny_setField_rec e3 (by simp) fun h₄ e4 s4 => ?_)
    refine wpAny_bind (wpAny_setField_rec e4 (by simp) fun h₅ e5 s5 => ?_)
    refine wpAny_bind (wpAny_setField_rec e5 (by simp) fun h₆ e6 s6 => ?_)
    have kk : ∀ b o, b ≠ it → h₂.get? b = some o → h₆.get? b = some o := fun b o n e => s6.extBut b o n (s5.extBut b o n (s4.extBut b o n (s3.extBut b o n e)))
    exact wpAny_bind (wpAny_letGo (wpAny_pure (wpAny_pure ⟨_, rfl, wpAny_pure (hQ h₆ ⟨rawInt hp.objs.size, false, es[i].key, es[i].val, e6, .inr ⟨_, _, rfl, kk _ _ ni t2, ni, Nat.ne_of_gt hS⟩⟩ (kk _ _ ni t2) fun b o n e => kk b o n (k2 b o n e))⟩)))
  · show wpAny _ _ (loadIfAlive ((a : Int).toNat) >>= _) _ _ _
    rw [Int.toNat_natCast]
    have ha2 := k2 a oa hai ha
    refine wpAny_bind (kdx_alive ha2 ?_)
    simp only [Option.isNone_some, Bool.false_eq_true, if_false]
    refine wpAny_bind (wpAny_field e2 rfl (x := .bool f) rfl ?_)
    have fin : ∀ h₃ : Heap, h₃.get? it = some { cls := .type "dict_itemiterator", dict := none, data := .fields #[rawInt a, .bool true, .ref d, .int (i + 1 : Nat) 0, .int es.size 0, .int ep 0, ok, ov], slots := #[] } → Heap.SameBut it h₂ h₃ → Q (some (.ref hp.objs.size)) ⟨h₃, g, dr, tk, os⟩ := fun h₃ e3 s3 =>
      hQ h₃ ⟨rawInt a, true, ok, ov, e3, .inr ⟨a, oa, rfl, s3.extBut a oa hai ha2, hai, haS⟩⟩ (s3.extBut _ _ ni t2) fun b o n e => s3.extBut b o n (k2 b o n e)
    cases f with
    | true =>
      rw [if_neg (show ¬ ((Value.bool true != Value.bool true) = true) from Bool.false_ne_true)]
      refine wpAny_pure ?_
      simp only [Bool.false_eq_true, if_false]
      exact wpAny_pure (wpAny_pure ⟨_, rfl, wpAny_pure (fin h₂ e2 (Heap.SameBut.refl _ _))⟩)
    | false =>
      rw [if_pos (show (Value.bool false != Value.bool true) = true from rfl)]
      refine wpAny_bind (wpAny_setField_rec e2 (by simp) fun h₃ e3 s3 => ?_)
      refine wpAny_pure ?_
      simp only [Bool.false_eq_true, if_false]
      exact wpAny_pure (wpAny_pure ⟨_, rfl, wpAny_pure (fin h₃ e3 s3)⟩)
theorem items_done {it d S : Addr} {Q : Option Value → Shared → Prop} (hh : A.handled = none) (hst : ItSt s.heap it d S es.size es.size ep) (hm : DictRaw s.heap d es ep) (hQ : ∀ h', Heap.ExtBut it s.heap h' → Q none { s with heap := h' }) :
    wpAny (model prog w) A (pyNext (.ref it)) Q E s := by
  obtain ⟨x0, f, ok, ov, hit, _⟩ := hst
  obtain ⟨od, hod, hcd, hdd⟩ := hm
  have hT : s.TypeIs (.ref it) "dict_itemiterator" := ⟨_, hit, rfl⟩
  have hown : Builtin.Dict_items.ownsTuple "dict_itemiterator" = true := by decide
  unfold pyNext
  refine wpAny_bind (wpAny_attempt (wpAny_callSpecial?_slot (name := Str.ofString "__next__") hT PySem.F.slot_dict_itemiterator_next
    (wpAny_call_entry PySem.F.slot_dict_itemiterator_next hT PySem.F.entry_dict_itemiterator_next ?_ (PySem.F.args_dict_itemiterator_next_1 _))))
  refine wpAny_bind (wpAny_pure (wpAny_bind (wpAny_bind ?_)))
  first | refine wpAny_bind (wpAny_typeNameOfWhole_itemiter hT (wpAny_pure ?_)) | refine wpAny_bind (wpAny_typeNameOf_itemiter hT (wpAny_pure ?_))
  refine wpAny_bind (wpAny_fieldsOf hit rfl ?_)
  simp -iota only [hown, if_true]
  show wpAny _ _ (if (Value.ref d == Value.none) = true then _ else _) _ _ s
  rw [if_neg (show ¬ ((Value.ref d == Value.none) = true) from Bool.false_ne_true)]
  refine wpAny_bind (wpAny_pure (wpAny_bind (wpAny_dictEntries hod hdd ?_)))
  rw [if_neg (by simp)]
  refine wpAny_bind (wpAny_pure (wpAny_bind (wpAny_dictEpoch hod hdd ?_)))
  rw [if_neg (by simp)]
  refine wpAny_pure ?_
  dsimp only
  rw [show (if (es.size : Int) < 0 then none else es[(es.size : Int).toNat]?) = none from by rw [if_neg (by omega), Int.toNat_natCast, Array.getElem?_eq_none (Nat.le_refl es.size)]]
  refine wpAny_bind ?_
  first | refine wpAny_bind (wpAny_typeNameOfWhole_itemiter hT (wpAny_pure ?_)) | refine wpAny_bind (wpAny_typeNameOf_itemiter hT (wpAny_pure ?_))
  show wpAny _ _ (setField (.ref it) 2 .none >>= _) _ _ s
  refine wpAny_bind (wpAny_setField hit rfl (by simp) ?_)
  show wpAny _ _ (newExc (.type "StopIteration") [] >>= _) _ _ _
  refine wpAny_bind ?_
  simp only [newExc, newTuple]
  refine wpAny_bind (wpAny_newObj_type ?_ (by size_fits))
  refine wpAny_bind (m := firstArgMember _ _) (wpAny_of_eq (a := Value.none) (by first | rfl | (simp only [firstArgMember]; rfl)) ?_)
  refine wpAny_newObj_type ?_ (by size_fits)
  simp -iota only [raiseNew]
  refine wpAny_bind (wpAny_handled ?_)
  rw [show A.in1.handled = none from hh]
  refine wpAny_bind (wpAny_pure (wpAny_throw ?_))
  refine wpAny_bind (wpAny_isInstance (T := "StopIteration") (b := true) ⟨_, Heap.get?_push_size _ rfl, rfl⟩ isSubtype_stop ?_)
  exact wpAny_pure (hQ _ (((Heap.SameBut.update ..).extBut.push _).push _))

noncomputable def TupsAt (h : Heap) (I : Addr) (es : Array DictEntry) (as : List Addr) : Prop := ∀ (j : Nat) (a : Addr), as[j]? = some a → I < a ∧ ∃ e, es[j]? = some e ∧ h.get? a = some { cls := .type "tuple", data := .seq #[e.key, e.val] }
theorem items_loop {R : Result → Shared → Prop} {S I d : Addr} (hh : A.handled = none) (hSI : S < I) (hSd : d ≠ S) (hId : d ≠ I) (hn : es.size ≤ 1000) (res : Value) {h₁ : Heap}
    (hR : ∀ h' tk c as, (∀ b o, b ≠ S → b ≠ I → h₁.get? b = some o → h'.get? b = some o) → h'.get? S = some (W.listOf (as.map Value.ref).toArray c) → as.length = es.size → TupsAt h' I es as → R (.ok (.ret res)) { s with heap := h', toks := tk }) :
    ∀ (k i : Nat) (h : Heap) (tk c : Nat) (as : List Addr), es.size - i = k → i ≤ es.size → ItSt h I d S i es.size ep → DictRaw h d es ep → (∀ b o, b ≠ S → b ≠ I → h₁.get? b = some o → h.get? b = some o) →
      h.get? S = some (W.listOf (as.map Value.ref).toArray c) → as.length = i → TupsAt h I es as →
      codeAny (model prog w) A (.builtin "list.extend.loop" ⟨[.ref S, .ref I, res], []⟩) R { s with heap := h, toks := tk } := by
  have hne : S ≠ I := Nat.ne_of_lt hSI
  intro k
  induction k with
  | zero =>
    intro i h tk c as hk hi hst hD hkeep hS hal hG
    obtain rfl : i = es.size := lp_end hk hi
    refine codeAny_builtin PySem.F.entry_extend_loop ?_
    rw [Around.under_plainId PySem.F.plain_extend_loop _]
    show wpAny _ A.in1 (pyNext (.ref I) >>= _) _ _ _
    refine wpAny_bind (items_done (s := { s with heap := h, toks := tk }) (A := A.in1) hh hst hD fun h' he => ?_)
    refine wpAny_pure (hR h' tk c as (fun b o h1 h2 e => he b o h2 (hkeep b o h1 h2 e)) (he S _ hne hS) hal fun j a hj => ?_)
    obtain ⟨g1, e, e1, e2⟩ := hG j a hj
    exact ⟨g1, e, e1, he a _ (Nat.ne_of_gt g1) e2⟩
  | succ k ih =>
    intro i h tk c as hk hi hst hD hkeep hS hal hG
    have hlt : i < es.size := lp_lt hk
    have hSl : S < h.objs.size := Heap.lt_size hS
    have hIl : I < h.objs.size := by obtain ⟨_, _, _, _, e, _⟩ := hst; exact Heap.lt_size e
    refine codeAny_builtin PySem.F.entry_extend_loop ?_
    rw [Around.under_plainId PySem.F.plain_extend_loop _]
    show wpAny _ A.in1 (pyNext (.ref I) >>= _) _ _ _
    refine wpAny_bind (items_next (s := { s with heap := h, toks := tk }) (S := S) hst hSl hD hlt fun h' hst' ht hkp => ?_)
    dsimp only at ht hkp ⊢
    have hS' := hkp S _ hne hS
    have up : ∀ b o, b ≠ S → h'.get? b = some o → (h'.update S (Obj.mapSeq (·.push (Value.ref h.objs.size)))).get? b = some o := fun b o hb e => (Heap.get?_update_other _ _ (Ne.symm hb)).trans e
    have hz : (as.map Value.ref).toArray.size = i := by rw [List.size_toArray, List.length_map, hal]
    obtain ⟨c', hc'⟩ : ∃ c', (h'.update S (Obj.mapSeq (·.push (Value.ref h.objs.size)))).get? S = some (W.listOf ((as ++ [h.objs.size]).map Value.ref).toArray c') := by
      have e := Heap.get?_update_self (Obj.mapSeq (·.push (Value.ref h.objs.size))) hS' rfl
      rw [List.map_append, List.map_cons, List.map_nil, ← List.push_toArray]
      exact ⟨_, e⟩
    show wpAny _ A.in1 (updateSeq S (·.push (Value.ref h.objs.size)) >>= _) _ _ _
    refine wpAny_bind ?_
    refine wpAny_updateSeq hS' rfl (wpAny_pure ⟨plainId_quiet PySem.F.plain_extend_loop _, ih (i + 1) _ tk c' (as ++ [h.objs.size]) (lp_step hk) hlt (hst'.keep up (Ne.symm hne)) ((hD.at fun o e => hkp d o hId e).at fun o e => up d o hSd e)
      (fun b o h1 h2 e => up b o h1 (hkp b o h2 (hkeep b o h1 h2 e))) hc' (by rw [List.length_append, hal]; rfl) ?_⟩) (by rw [hz, sizeLine_eq]; omega) (by show ((as.map Value.ref).toArray.push (Value.ref h.objs.size)).size ≤ sizeLine + 1; rw [Array.size_push, hz, sizeLine_eq]; omega)
    · intro j b hj
      rcases Nat.lt_trichotomy j as.length with h1 | h1 | h1
      · rw [List.getElem?_append_left h1] at hj
        obtain ⟨g1, e, e1, e2⟩ := hG j b hj
        exact ⟨g1, e, e1, up b _ (Nat.ne_of_gt (Nat.lt_trans hSI g1)) (hkp b _ (Nat.ne_of_gt g1) e2)⟩
      · subst h1
        have hb : h.objs.size = b := by simpa using hj
        subst hb
        exact ⟨hIl, es[as.length]'(hal ▸ hlt), Array.getElem?_eq_getElem (hal ▸ hlt), up _ _ (Nat.ne_of_gt hSl) (by simpa [hal] using ht)⟩
      · have : (as ++ [h.objs.size])[j]? = none := List.getElem?_eq_none (by rw [List.length_append, List.length_singleton]; omega)
        rw [this] at hj; cases hj
theorem items_iter {v d : Addr} {Q : Value → Shared → Prop} (hv : s.heap.IsItemsView v d) (hm : DictRaw s.heap d es ep)
    (hQ : Q (.ref s.heap.objs.size) { s with heap := s.heap.push { cls := .type "dict_itemiterator", data := .fields #[.none, .bool false, .ref d, .int 0 0, .int es.size 0, .int ep 0, .none, .none] } }) :
    wpAny (model prog w) A (pyIter (.ref v)) Q E s := by
  obtain ⟨ov, hov, hcv, hdv⟩ := id hv
  obtain ⟨o, ho, hc, hdat⟩ := hm
  refine wpAny_pyIter_slot hv.typeIs PySem.F.slot_dict_items_iter (wpAny_call_entry PySem.F.slot_dict_items_iter hv.typeIs PySem.F.entry_dict_items_iter ?_ (PySem.F.args_dict_items_iter_1 _))
  unfold Builtin.«dict_items.__iter__»
  refine wpAny_bind (wpAny_pure (wpAny_bind ?_))
  unfold Builtin.Dict_items.dictOf
  refine wpAny_bind (wpAny_field hov hdv (x := .ref d) rfl (wpAny_pure (wpAny_bind ?_)))
  unfold Builtin.Dict_items.newIterator
  refine wpAny_bind (wpAny_dictEntries ho hdat (wpAny_bind (wpAny_dictEpoch ho hdat ?_)))
  have hown : Builtin.Dict_items.ownsTuple "dict_itemiterator" = true := by decide
  simp -iota only [hown, if_true]
  refine wpAny_newObj_type (wpAny_pure ⟨_, rfl, "dict_itemiterator", _, ⟨_, Heap.get?_push_size _ rfl, rfl⟩, PySem.F.slot_dict_itemiterator_next.lookup, ?_⟩)
    (by simp only [sizeOk, Builtin.Dict_items.ownedTupleFields, List.size_toArray, List.length_append, List.length_cons, List.length_nil, sizeLine_eq]; omega)
  simpa [rawInt, Builtin.Dict_items.ownedTupleFields] using hQ
theorem items_extend {R : Result → Shared → Prop} {r d : Addr} (hh : A.handled = none) (hv : s.heap.IsItemsView r d) (hm : DictRaw s.heap d es ep) (S : Addr) (hSr : S ≠ r) (hSd : d ≠ S) (res : Value) (c₀ : Nat) (hS : s.heap.get? S = some (W.listOf #[] c₀))
    (hR : ∀ h' tk c as, (∀ b o, b ≠ S → s.heap.get? b = some o → h'.get? b = some o) → h'.get? S = some (W.listOf (as.map Value.ref).toArray c) → as.length = es.size → TupsAt h' s.heap.objs.size es as → R (.ok (.ret res)) { s with heap := h', toks := tk }) (hn : es.size ≤ 1000) :
    wpAny (model prog w) A.in1 (Builtin.List.listExtendWith (.ref S) (.ref r) res)
      (fun fin s' => match fin with | .done f => R (.ok f) s' | .again c' => c'.quiet = true ∧ codeAny (model prog w) A c' R s') (fun e s' => R (.error e) s') s := by
  have hSI : S < s.heap.objs.size := Heap.lt_size hS
  have key : ∀ (h : Heap) (c₁ tk : Nat), (∀ b o, b ≠ S → (s.heap.push { cls := .type "dict_itemiterator", data := .fields #[.none, .bool false, .ref d, .int 0 0, .int es.size 0, .int ep 0, .none, .none] }).get? b = some o → h.get? b = some o) →
      h.get? S = some (W.listOf #[] c₁) → codeAny (model prog w) A (.builtin "list.extend.loop" ⟨[.ref S, .ref s.heap.objs.size, res], []⟩) R { s with heap := h, toks := tk } := by
    intro h c₁ tk hk hS₁
    have hI := hk s.heap.objs.size _ (Nat.ne_of_gt hSI) (Heap.get?_push_size _ rfl)
    exact items_loop (s := s) (h₁ := s.heap) hh hSI hSd (Nat.ne_of_lt hm.lt) hn res (fun h' tk' c as hk' hS' hl hG => hR h' tk' c as (fun b o hb e => hk' b o hb (Nat.ne_of_lt (Heap.lt_size e)) e) hS' hl hG)
      es.size 0 h tk c₁ [] (Nat.sub_zero _) (Nat.zero_le _) ⟨.none, false, .none, .none, hI, .inl rfl⟩ (hm.at fun o e => hk d o hSd (Heap.get?_push_of_some _ e)) (fun b o hb _ e => hk b o hb (Heap.get?_push_of_some _ e)) hS₁ rfl (fun j a hj => by simp at hj)
  unfold Builtin.List.listExtendWith
  refine wpAny_bind (wpAny_typeOf (T := "dict_items") hv.typeIs ?_)
  have h1 : Builtin.List.listSameRef (.ref S) (.ref r) = false := by simp [Builtin.List.listSameRef, hSr]
  have h2 : (Value.type "dict_items" == Value.type "list") = false := by decide
  have h3 : (Value.type "dict_items" == Value.type "tuple") = false := by decide
  simp only [h1, h2, h3, Bool.or_false, Bool.false_eq_true, if_false]
  refine wpAny_bind (items_iter hv hm ?_)
  have hS₁ := Heap.get?_push_of_some { cls := .type "dict_itemiterator", data := .fields #[.none, .bool false, .ref d, .int 0 0, .int es.size 0, .int ep 0, .none, .none] } hS
  refine wpAny_bind (wpAny_holding (kdx_hint (let ⟨o, ho, hc, _⟩ := hv; ⟨o, Heap.get?_push_of_some _ ho, hc⟩) ?_))
  refine wpAny_ite_split (fun _ => ?_) (fun _ => wpAny_pure ⟨plainId_quiet PySem.F.plain_extend_loop _, key _ c₀ _ (fun b o _ e => e) hS₁⟩)
  refine wpAny_bind (wpAny_rule (wpAny_bind ?_))
  show wpAny _ _ (updateSeq S (·.push .none) >>= fun _ => updateSeq S (·.pop)) _ _ _
  refine wpAny_bind (wpAny_updateSeq hS₁ rfl ?_)
  have hS₂ := Heap.get?_update_self (Obj.mapSeq (·.push Value.none)) hS₁ rfl
  refine wpAny_updateSeq (hz := by seq_fits) hS₂ rfl ?_
  have hS₃ := Heap.get?_update_self (Obj.mapSeq (·.pop)) hS₂ rfl
  exact wpAny_pure ⟨plainId_quiet PySem.F.plain_extend_loop _, key _ _ _ (fun b o hb e => (Heap.get?_update_other _ _ (Ne.symm hb)).trans ((Heap.get?_update_other _ _ (Ne.symm hb)).trans e)) hS₃⟩
theorem TupsAt.low {h : Heap} {I J : Addr} {as : List Addr} (x : TupsAt h I es as) (l : J ≤ I) : TupsAt h J es as := fun j a hj => ⟨Nat.lt_of_le_of_lt l (x j a hj).1, (x j a hj).2⟩
theorem items_list {Q : Value → Shared → Prop} {r d : Addr} (hh : A.handled = none) (hv : s.heap.IsItemsView r d) (hm : DictRaw s.heap d es ep) (hn : es.size ≤ 1000)
    (hQ : ∀ h' tk c as, (∀ b o, s.heap.get? b = some o → h'.get? b = some o) → h'.get? s.heap.objs.size = some (W.listOf (as.map Value.ref).toArray c) → as.length = es.size → TupsAt h' s.heap.objs.size es as → Q (.ref s.heap.objs.size) { s with heap := h', toks := tk }) :
    wpAny (model prog w) A (call (.type "list") [.ref r]) Q E s := by
  refine callType_codes (Q₁ := fun obj s₁ => obj = .ref s.heap.objs.size ∧ s₁ = { s with heap := s.heap.push { cls := .type "list", data := .seq #[] } }) PySem.F.called_list (PySem.F.typeCall_list_1 _) PySem.F.entry_list_init
    (code_list_new _ ⟨rfl, rfl⟩) fun obj s₁ h₁ => ?_
  obtain ⟨rfl, rfl⟩ := h₁
  have hS : (s.heap.push { cls := .type "list", data := .seq #[] }).get? s.heap.objs.size = some { cls := .type "list", data := .seq #[] } := Heap.get?_push_size _ rfl
  have hr : r < s.heap.objs.size := let ⟨_, ho, _⟩ := hv; Heap.lt_size ho
  refine ⟨⟨_, hS, rfl⟩, PySem.F.args_list_init_2 _ _, ?_⟩
  show wpAny _ _ (do let old ← Builtin.List.listItems (.ref s.heap.objs.size); Builtin.List.listUpdate (.ref s.heap.objs.size) (fun _ => #[]); letGo old.toList.reverse; Builtin.List.listExtendWith (.ref s.heap.objs.size) (.ref r) .none) _ _ _
  refine wpAny_bind ?_
  unfold Builtin.List.listItems
  refine wpAny_bind (wpAny_seqItems hS rfl (wpAny_pure ?_))
  show wpAny _ _ (updateSeq s.heap.objs.size (fun _ => #[]) >>= fun _ => letGo (#[] : Array Value).toList.reverse >>= fun _ => Builtin.List.listExtendWith (.ref s.heap.objs.size) (.ref r) .none) _ _ _
  refine wpAny_bind (wpAny_updateSeq hS rfl ?_)
  have hS₂ := Heap.get?_update_self (Obj.mapSeq (fun _ => (#[] : Array Value))) hS rfl
  have oth : ∀ b o, s.heap.get? b = some o → ((s.heap.push { cls := .type "list", data := .seq #[] }).update s.heap.objs.size (Obj.mapSeq (fun _ => (#[] : Array Value)))).get? b = some o :=
    fun b o e => (Heap.get?_update_other _ _ (Nat.ne_of_gt (Heap.lt_size e))).trans (Heap.get?_push_of_some _ e)
  refine wpAny_bind (wpAny_letGo ?_)
  refine items_extend (A := A.in1) (s := { s with heap := (s.heap.push { cls := .type "list", data := .seq #[] }).update s.heap.objs.size (Obj.mapSeq (fun _ => (#[] : Array Value))) }) hh (let ⟨o, ho, x⟩ := hv; ⟨o, oth r o ho, x⟩) (hm.at fun o e => oth d o e) _ (Nat.ne_of_gt hr) (Nat.ne_of_lt hm.lt) .none 0 (by simpa [Obj.mapSeq] using hS₂) (fun h' tk c as hk hS' hl hG => ?_) hn
  exact ⟨rfl, hQ h' tk c as (fun b o e => hk b o (Nat.ne_of_lt (Heap.lt_size e)) (oth b o e)) hS' hl (hG.low (by rw [Heap.size_update, Heap.size_push]; exact Nat.le_succ _))⟩
theorem items_view {d : Addr} {o : Obj} {xs : List (List Int × Addr × Value)} {Q : Value → Shared → Prop} {h₀ : Heap} {L : Addr} {m : Str → Option Value} {news : List (Addr × Obj)} (F : Fr h₀ L s.heap m) (N : News h₀ L s.heap news) (hd : s.heap.get? d = some o) (ho : RowsObj prog w o xs) (lo : (d == sysModules) = false)
    (h : ∀ (D : Addr) h', Fr h₀ L h' m → News h₀ L h' ((D, { cls := .type "dict_items", data := .fields #[.ref d] }) :: news) → s.heap.get? D = none → Q (.ref D) { s with heap := h' }) :
    wpAny (model prog w) A (call (.builtin "dict.items") [.ref d]) Q E s := by
  have hT : s.TypeIs (.ref d) "dict" := ho.typeIs hd
  refine wpAny_call_entry PySem.F.slot_dict_items hT PySem.F.entry_dict_items ?_ (PySem.F.args_dict_items_1 _)
  unfold Builtin.«dict.items»
  refine wpAny_bind ?_
  unfold Builtin.Dict.noArgs
  refine wpAny_bind (wpAny_notOrdered_dict hT ?_)
  show wpAny _ _ (pure d) _ _ s
  refine wpAny_pure ?_
  show wpAny _ _ (Builtin.Dict.showsAll d >>= _) _ _ s
  unfold Builtin.Dict.showsAll
  rw [if_neg (by rw [lo]; exact Bool.false_ne_true)]
  refine wpAny_bind (wpAny_pure ?_)
  have n0 : s.heap.get? s.heap.objs.size = none := Heap.get?_none_of_le (Nat.le_refl _)
  refine wpAny_bind (wpAny_newObj_type (wpAny_pure ⟨_, rfl, ?_⟩))
  exact h _ _ (F.push _) (News.push F N _ rfl) n0
/-- a copy of a dict by dict(list(d.items())) -/
theorem items_listN {h₀ : Heap} {L : Addr} {m : Str → Option Value} {news : List (Addr × Obj)} {r d : Addr} {o : Obj} {xs : List (List Int × Addr × Value)} {Q : Value → Shared → Prop} (hh : A.handled = none) (F : Fr h₀ L s.heap m) (N : News h₀ L s.heap news) (hv : s.heap.get? r = some { cls := .type "dict_items", data := .fields #[.ref d] }) (hd : s.heap.get? d = some o) (ho : RowsObj prog w o xs) (hn : xs.length ≤ 1000)
    (h : ∀ (D : Addr) (c : Nat) (as : List Addr) (h' : Heap) (tk : Nat), Fr h₀ L h' m → News h₀ L h' ((D, W.listOf (as.map Value.ref).toArray c) :: news) → s.heap.get? D = none → (∀ b o, s.heap.get? b = some o → h'.get? b = some o) → as.length = xs.length → (∀ (j : Nat) (a : Addr), as[j]? = some a → (s.heap.get? a = none ∧ a ≠ D) ∧ ∃ x, xs[j]? = some x ∧ h'.get? a = some { cls := .type "tuple", data := .seq #[.ref x.2.1, x.2.2] }) → Q (.ref D) { s with heap := h', toks := tk }) :
    wpAny (model prog w) A (call (.type "list") [.ref r]) Q E s := by
  obtain ⟨es, ep, hc, hdat, he, _⟩ := id ho
  have hm : DictRaw s.heap d es ep := ⟨o, hd, hc, hdat⟩
  have esz : es.size = xs.length := by have := congrArg List.length he; simpa using this
  refine items_list hh ⟨_, hv, rfl, rfl⟩ hm (by omega) fun h' tk c as hk hS hl hG => ?_
  have n0 : s.heap.get? s.heap.objs.size = none := Heap.get?_none_of_le (Nat.le_refl _)
  refine h _ c as h' tk (fr_all F hk) (List.forall_mem_cons.mpr ⟨⟨hS, none_L F n0, none_base F n0⟩, news_all N hk⟩) n0 hk (hl.trans esz) fun j a hj => ?_
  obtain ⟨g1, e, e1, e2⟩ := hG j a hj
  refine ⟨⟨Heap.get?_none_of_le (Nat.le_of_lt g1), Nat.ne_of_gt g1⟩, ?_⟩
  have e3 : es[j]? = es.toList[j]? := Array.getElem?_toList.symm
  rw [e3, he, List.getElem?_map] at e1
  obtain ⟨x, hx, rfl⟩ := Option.map_eq_some_iff.mp e1
  exact ⟨x, hx, e2⟩
end
end Mine
end
section
theorem Mine.off_45 : True := by
  w_top off
  trivial
namespace Mine
open PySem PySem.W PySem.Calls PySem.Spec PyProof.Rows
section
variable {prog : Program} {w : World} {A : Around} {E : Value → Shared → Prop} {env : Env}
noncomputable def CompT (prog : Program) (w : World) (A : Around) (env : Env) (elt target iter : Expr) (ifs : List Expr) (scope : Scope) (cl : List (Str × Addr)) (pos : Pos) (Q : Value → Shared → Prop) (E : Value → Shared → Prop) (xv : Value) (s₁ : Shared) : Prop :=
  wpAny (model prog w) A (pyIter xv) (fun it s₂ => wpAny (model prog w) A (newList []) (fun acc s₃ =>
      wpAny (model prog w) A (newFunctionEnv scope env.globals cl [] env.qual none .none (some env)) (fun cenv s₄ =>
        codeAny (model prog w) A (.compStart (.ListComp elt [⟨target, iter, ifs, 0⟩] scope pos) 0 it acc { cenv with scope := relabel scope env }) (compPost (model prog w) A E none Q acc cenv.locals) s₄) E s₃) E s₂) E s₁
theorem comp_startT {s : Shared} {elt target iter : Expr} {ifs : List Expr} {scope : Scope} {cl : List (Str × Addr)} {pos : Pos} {Q : Value → Shared → Prop}
    (hclos : closureFor scope env = pure cl) (hkind : scope.kind = .function) (hnames : ∀ y ∈ scope.names, y.2 = .local → scope.names.lookup y.1 = some .local)
    (h : wpAny (model prog w) A (eval iter env) (fun xv s₁ => CompT prog w A env elt target iter ifs scope cl pos Q E xv s₁) E s)
    (hs : ∀ x, foldedSetIterable iter env x = pure x := by intro _; rfl) :
    Halt (wpAny (model prog w) A (eval (.ListComp elt [⟨target, iter, ifs, 0⟩] scope pos) env) Q E s) := by
  show wpAny _ _ _ _ _ _
  rw [eval_ListComp]
  exact wpAny_comprehension_free (use := none) rfl hs hclos hkind hnames h
theorem assign_name {s : Shared} {h₁ : Heap} {C : Addr} {m : Str → Option Value} {x : Str} {px : Pos} {scope : Scope} {cl : List (Str × Addr)} {v : Value} {Q : Unit → Shared → Prop} (F : Fr h₁ C s.heap m) (hkind : scope.kind = .function) (hx : scope.names.lookup x = some .local)
    (h : ∀ h' tk, Fr h₁ C h' (fun z => if z = x then some v else m z) → (∀ b o, b ≠ C → s.heap.get? b = some o → h'.get? b = some o) → Q () { s with heap := h', toks := tk }) : wpAny (model prog w) A (assign (.Name x px) (compEnvC scope cl C env) v) Q E s :=
  wpAny_assign_Name (wpAny_storeName_local (lookup_relabel_local hx) F.ns (fun h₅ hn₅ hs₅ => h h₅ _ ⟨hn₅, fun b o e => hs₅.extBut b o (fun q => by
    have := Heap.get?_none_of_le F.above
    rw [show b = C from q] at e; rw [this] at e; cases e) (F.keep b o e), F.above⟩ fun b o n e => hs₅.extBut b o n e) (by simp [compEnvC, relabel, hkind]))
theorem assign_pair {s : Shared} {h₁ : Heap} {C t : Addr} {m : Str → Option Value} {x x₂ : Str} {px px₂ tp : Pos} {tk : Nat} {scope : Scope} {cl : List (Str × Addr)} {v₁ v₂ : Value} {Q : Unit → Shared → Prop} (hh : A.handled = none) (F : Fr h₁ C s.heap m) (hkind : scope.kind = .function) (hx : scope.names.lookup x = some .local) (hx₂ : scope.names.lookup x₂ = some .local)
    (ht : IsTup s.heap t #[v₁, v₂]) (h : ∀ h' tk, Fr h₁ C h' (fun z => if z = x₂ then some v₂ else if z = x then some v₁ else m z) → (∀ b o, b ≠ C → s.heap.get? b = some o → h'.get? b = some o) → Q () { s with heap := h', toks := tk }) :
    wpAny (model prog w) A (assign (.Tuple [.Name x px, .Name x₂ px₂] tk tp) (compEnvC scope cl C env) (.ref t)) Q E s := by
  refine assign_Tuple_tuple hh ht rfl rfl fun h₅ he => ?_
  have k5 : ∀ b o, s.heap.get? b = some o → h₅.get? b = some o := fun b o e => he b o (Nat.ne_of_lt (Heap.lt_size e)) e
  refine assignInOrder_cons (assign_name (s := { s with heap := h₅ }) (fr_all F k5) hkind hx fun h6 tk6 F6 k6 => ?_)
  refine assignInOrder_cons (assign_name (s := { s with heap := h6, toks := tk6 }) F6 hkind hx₂ fun h7 tk7 F7 k7 => ?_)
  exact assignInOrder_nil (h h7 tk7 F7 fun b o n e => k7 b o n (k6 b o n (k5 b o e)))
end
end Mine
end
section
theorem Mine.off_46 : True := by
  w_top off
  trivial
namespace Mine
open PySem PySem.W PySem.Calls PySem.Spec PyProof.Rows
section
variable {prog : Program} {w : World} {A : Around} {E : Value → Shared → Prop} {env : Env} {s : Shared} {h₀ : Heap} {L : Addr} {m : Str → Option Value} {news : List (Addr × Obj)}
/-- the items of a list are pairs that stand in the heap -/
noncomputable def PairsAt (h : Heap) (vs : List Value) (ps : List (Value × Value)) : Prop := vs.length = ps.length ∧ ∀ (j : Nat) (v : Value) (p : Value × Value), vs[j]? = some v → ps[j]? = some p → ∃ t, v = .ref t ∧ IsTup h t #[p.1, p.2]
theorem PairsAt.at {h h' : Heap} {vs : List Value} {ps : List (Value × Value)} (x : PairsAt h vs ps) (k : ∀ b o, h.get? b = some o → h'.get? b = some o) : PairsAt h' vs ps :=
  ⟨x.1, fun j v p e1 e2 => (x.2 j v p e1 e2).imp fun t x => ⟨x.1, x.2.imp fun o x => ⟨k _ _ x.1, x.2⟩⟩⟩
theorem PairsAt.rev {h : Heap} {vs : List Value} {ps : List (Value × Value)} (x : PairsAt h vs ps) : PairsAt h vs.reverse ps.reverse := ⟨by rw [List.length_reverse, List.length_reverse, x.1], fun j v p e1 e2 => by
  have l1 : j < vs.length := by have := (List.getElem?_eq_some_iff.mp e1).1; simpa using this
  rw [List.getElem?_reverse l1] at e1
  rw [List.getElem?_reverse (x.1 ▸ l1), ← x.1] at e2
  exact x.2 _ v p e1 e2⟩
theorem comp_pairs {elt iter : Expr} {x x₂ : Str} {px px₂ tp : Pos} {tk₀ : Nat} {ifs : List Expr} {scope : Scope} {cl : List (Str × Addr)} {pos : Pos} {Q : Value → Shared → Prop} {l : Addr} {vs : List Value} {ps : List (Value × Value)}
    (J : Addr → Addr → Addr → Nat → List Value → Heap → Prop) (hJ0 : ∀ C D I h, J C D I 0 [] h) (hJk : ∀ C D I i ys h h', J C D I i ys h → (∀ b o, b ≠ C → b ≠ D → b ≠ I → h.get? b = some o → h'.get? b = some o) → J C D I i ys h')
    (hh : A.handled = none) (F : Fr h₀ L s.heap m) (N : News h₀ L s.heap news)
    (hcell : ∀ y ∈ scope.names, y.2 ≠ .cell) (hkind : scope.kind = .function) (hx : scope.names.lookup x = some .local) (hx₂ : scope.names.lookup x₂ = some .local) (hxx : x ≠ x₂) (hl : s.heap.IsList l vs.toArray) (hsz : vs.length ≤ 1000) (hp : PairsAt s.heap vs ps)
    (body : ∀ C D I i p ys (s₃ : Shared) m₃ (E' : Value → Shared → Prop) (K : Option Value → Shared → Prop), ps[i]? = some p → i < ps.length → m₃ x = some p.1 → m₃ x₂ = some p.2 → Fr s.heap C s₃.heap m₃ → (∀ a ∈ [C, D, I], ∃ o, s₃.heap.get? a = some o) → (∀ a ∈ [C, D, I], s.heap.get? a = none) → (C ≠ D ∧ C ≠ I ∧ D ≠ I) → J C D I i ys s₃.heap →
      (∀ (y : Option Value) h' tk' m', Fr s.heap C h' m' → h'.get? D = s₃.heap.get? D → h'.get? I = s₃.heap.get? I → J C D I (i + 1) (ys ++ y.toList) h' → K y { s₃ with heap := h', toks := tk' }) → TurnOf prog w A (compEnvC scope cl C env) ifs elt E' K s₃)
    (h : ∀ C D I ys h' tk, Fr h₀ L h' m → News h₀ L h' ((D, lsA ys) :: news) → s.heap.get? D = none → (∀ b o, s.heap.get? b = some o → h'.get? b = some o) → J C D I ps.length ys h' → Q (.ref D) { s with heap := h', toks := tk }) :
    CompT prog w A env elt (.Tuple [.Name x px, .Name x₂ px₂] tk₀ tp) iter ifs scope cl pos Q E (.ref l) s := by
  unfold CompT
  have hlt : l < s.heap.objs.size := by obtain ⟨_, e, _⟩ := hl; exact Heap.lt_size e
  refine wpAny_pyIter_list hl ?_
  have up : ∀ b o, s.heap.get? b = some o → (s.heap.push { cls := .type "list_iterator", data := .fields #[.ref l, .int 0 0] }).get? b = some o := fun b o e => Heap.get?_push_of_some _ e
  have n0 : s.heap.get? s.heap.objs.size = none := Heap.get?_none_of_le (Nat.le_refl _)
  have nn : ∀ {a : Addr}, (s.heap.push { cls := .type "list_iterator", data := .fields #[.ref l, .int 0 0] }).get? a = none → s.heap.get? a = none := fun {a} e => by
    cases q : s.heap.get? a with
    | none => rfl
    | some o => rw [up a o q] at e; cases e
  have vsz : vs.toArray.size = vs.length := List.size_toArray
  refine comp_blockK (h₁ := s.heap) (KTurns.ofWalks (target := .Tuple [.Name x px, .Name x₂ px₂] tk₀ tp) (Walks.list hh s.heap.objs.size l (Nat.ne_of_lt hlt) vs.toArray) ?go) (fun s' Q E st hQ => wpAny_pyIter_listiter st.1 hQ) (by rw [vsz, sizeLine_eq]; omega) (fun i h st a ha => by
      rw [List.mem_singleton.mp ha]; obtain ⟨⟨o, e, _⟩, _⟩ := st; exact ⟨o, e⟩) (fun a ha => by rw [List.mem_singleton.mp ha]; exact n0) up (by rw [Heap.size_push]; exact Nat.le_succ _) hcell hkind ⟨⟨_, Heap.get?_push_size _ rfl, rfl, rfl⟩, hl.push _⟩ (fun b hb => ?_) (fun b hb n => by
      rcases List.mem_cons.mp hb with rfl | hb
      · exact absurd (List.mem_singleton.mpr rfl) n
      · rw [List.mem_singleton.mp hb]; obtain ⟨o, e, _⟩ := hl; exact ⟨o, e⟩)
    (fun C D i ys h => J C D s.heap.objs.size i ys h) (fun C D h => hJ0 C D _ h) (fun C D i ys h h' x k => hJk _ _ _ _ _ _ _ x fun b o n1 n2 n3 e => k b o n1 n2 (by simpa using n3) e) ?_ ?_
  case go =>
    intro i v s' Q' E' st hQ'
    obtain ⟨⟨o, ho, hc, hd⟩, _⟩ := st
    cases v with
    | ref T => exact wpAny_letOwnedTupleGo_listiter ⟨o, ho, hc, hd⟩ hQ'
    | _ => exact wpAny_pure hQ'
  · show b < (s.heap.push _).objs.size
    rw [Heap.size_push]
    rcases List.mem_cons.mp hb with rfl | hb
    · exact Nat.lt_succ_self _
    · rw [List.mem_singleton.mp hb]; exact Nat.lt_succ_of_lt hlt
  · intro C D i v ys s₃ m₃ E' K hP hi F₃ al nC nD hne hj hk
    have hi' : i < vs.length := by rw [← vsz]; exact hi
    have hv : vs[i]? = some v := by simpa using hP
    have hpi : ps[i]? = some (ps[i]'(hp.1 ▸ hi')) := List.getElem?_eq_getElem (hp.1 ▸ hi')
    obtain ⟨t, rfl, ot, hot, rt⟩ := hp.2 i v _ hv hpi
    have hne' : C ≠ s.heap.objs.size ∧ D ≠ s.heap.objs.size := by simpa using hne.2
    refine assign_pair hh F₃ hkind hx hx₂ ⟨ot, F₃.keep _ _ hot, rt⟩ fun h' tk' F' k' => ?_
    refine body C D s.heap.objs.size i _ ys _ _ E' K hpi (hp.1 ▸ hi') (by simp [hxx]) (by simp) F' (fun a ha => ?_) (fun a ha => ?_) ⟨hne.1, hne'.1, hne'.2⟩ (hJk _ _ _ _ _ _ _ hj fun b o n1 _ _ e => k' b o n1 e) (fun y h'' tk'' m'' F'' eD eI hj' => hk y h'' tk'' m'' F'' (fun a ha => ?_) hj')
    · simp only [List.mem_cons, List.not_mem_nil, or_false] at ha
      rcases ha with rfl | rfl | rfl
      · obtain ⟨o, _, _, e, _⟩ := F'.ns; exact ⟨o, e⟩
      · obtain ⟨o, e⟩ := al _ (.tail _ (.head _)); exact ⟨o, k' _ _ (Ne.symm hne.1) e⟩
      · obtain ⟨o, e⟩ := al s.heap.objs.size (by simp); exact ⟨o, k' _ _ (Ne.symm hne'.1) e⟩
    · simp only [List.mem_cons, List.not_mem_nil, or_false] at ha
      rcases ha with rfl | rfl | rfl
      · exact nC
      · exact nD
      · exact n0
    · simp only [List.mem_cons, List.not_mem_nil, or_false] at ha
      rcases ha with rfl | rfl
      · obtain ⟨o, e⟩ := al a (.tail _ (.head _)); exact eD.trans ((k' _ _ (Ne.symm hne.1) e).trans e.symm)
      · obtain ⟨o, e⟩ := al s.heap.objs.size (by simp); exact eI.trans ((k' _ _ (Ne.symm hne'.1) e).trans e.symm)
  · intro C D h' tk m' ys hD hj hk hDn hCn hCD hns
    rw [vsz, hp.1] at hj
    refine ⟨m', hns, fun h'' hs'' => ?_⟩
    have k : ∀ b o, s.heap.get? b = some o → h''.get? b = some o := fun b o e => hs''.extBut b o (ne_fresh e (nn hCn)) (hk b o e)
    refine h C D s.heap.objs.size ys h'' tk (fr_all F k) (List.forall_mem_cons.mpr ⟨⟨hs''.extBut D _ (Ne.symm hCD) hD, none_L F (nn hDn), none_base F (nn hDn)⟩, news_all N k⟩) (nn hDn) k (hJk _ _ _ _ _ _ _ hj fun b o n1 _ _ e => hs''.extBut b o n1 e)
theorem comp_enum {elt iter : Expr} {x₀ x x₂ : Str} {p₀ px px₂ tp tp' : Pos} {tk₀ tk₁ : Nat} {ifs : List Expr} {scope : Scope} {cl : List (Str × Addr)} {pos : Pos} {Q : Value → Shared → Prop} {l : Addr} {vs : List Value} {ps : List (Value × Value)}
    (J : Nat → List Value → Prop) (hJ0 : J 0 [])
    (hh : A.handled = none) (F : Fr h₀ L s.heap m) (N : News h₀ L s.heap news)
    (hcell : ∀ y ∈ scope.names, y.2 ≠ .cell) (hkind : scope.kind = .function) (hx₀ : scope.names.lookup x₀ = some .local) (hx : scope.names.lookup x = some .local) (hx₂ : scope.names.lookup x₂ = some .local) (hxx : x ≠ x₂ ∧ x₀ ≠ x ∧ x₀ ≠ x₂) (hl : s.heap.IsList l vs.toArray) (hsz : vs.length ≤ 1000) (hp : PairsAt s.heap vs ps)
    (body : ∀ C i p t ys (s₃ : Shared) m₃ (E' : Value → Shared → Prop) (K : Option Value → Shared → Prop), ps[i]? = some p → i < ps.length → m₃ x₀ = some (.int (i : Int) t) → m₃ x = some p.1 → m₃ x₂ = some p.2 → Fr s.heap C s₃.heap m₃ → J i ys →
      (∀ (y : Option Value) h' tk', (∀ b o, s₃.heap.get? b = some o → h'.get? b = some o) → J (i + 1) (ys ++ y.toList) → K y { s₃ with heap := h', toks := tk' }) → TurnOf prog w A (compEnvC scope cl C env) ifs elt E' K s₃)
    (h : ∀ D ys h' tk, Fr h₀ L h' m → News h₀ L h' ((D, lsA ys) :: news) → s.heap.get? D = none → (∀ b o, s.heap.get? b = some o → h'.get? b = some o) → J ps.length ys → Q (.ref D) { s with heap := h', toks := tk }) :
    wpAny (model prog w) A (call (.type "enumerate") [.ref l]) (fun xv s₁ => CompT prog w A env elt (.Tuple [.Name x₀ p₀, .Tuple [.Name x px, .Name x₂ px₂] tk₀ tp] tk₁ tp') iter ifs scope cl pos Q E xv s₁) E s := by
  have hlt : l < s.heap.objs.size := by obtain ⟨_, e, _⟩ := hl; exact Heap.lt_size e
  refine call_enumerate_list hl fun h₂ hE hI hz hk₂ => ?_
  unfold CompT
  refine wpAny_pyIter_enum hE ?_
  have n0 : s.heap.get? s.heap.objs.size = none := Heap.get?_none_of_le (Nat.le_refl _)
  have n1 : s.heap.get? (s.heap.objs.size + 1) = none := Heap.get?_none_of_le (Nat.le_succ _)
  have hl₂ : h₂.IsList l vs.toArray := hl.at fun o e => hk₂ l o e
  have vsz : vs.toArray.size = vs.length := List.size_toArray
  have nn : ∀ {a : Addr}, h₂.get? a = none → s.heap.get? a = none := fun {a} e => by
    cases q : s.heap.get? a with
    | none => rfl
    | some o => rw [hk₂ a o q] at e; cases e
  refine comp_blockK (h₁ := s.heap) (KTurns.ofWalksU (WalksT.enumerate hh (s.heap.objs.size + 1) s.heap.objs.size l (Nat.succ_ne_self _) (Nat.ne_of_lt (Nat.lt_succ_of_lt hlt)) (Nat.ne_of_lt hlt) vs.toArray).toU) (fun s' Q E st hQ => by obtain ⟨⟨old, he⟩, _⟩ := st; exact wpAny_pyIter_enum he hQ) (by rw [vsz, sizeLine_eq]; omega) (fun i h st a ha => ?al) (fun a ha => ?non) hk₂ (by show _ ≤ h₂.objs.size; rw [hz]; exact Nat.le_add_right _ _) hcell hkind ⟨⟨_, hE⟩, hI, hl₂⟩ (fun b hb => ?fp) (fun b hb n => ?fp1)
    (fun C D i ys h => J i ys) (fun C D h => hJ0) (fun C D i ys h h' x k => x) ?_ ?_
  case al =>
    obtain ⟨⟨old, he⟩, ⟨o, e, _⟩, _⟩ := st
    simp only [List.mem_cons, List.not_mem_nil, or_false] at ha
    rcases ha with rfl | rfl
    · exact ⟨_, he⟩
    · exact ⟨o, e⟩
  case non =>
    simp only [List.mem_cons, List.not_mem_nil, or_false] at ha
    rcases ha with rfl | rfl
    · exact n1
    · exact n0
  case fp =>
    show b < h₂.objs.size
    rw [hz]
    simp only [List.mem_cons, List.not_mem_nil, or_false] at hb
    rcases hb with rfl | rfl | rfl
    · exact Nat.lt_succ_self _
    · exact Nat.lt_succ_of_lt (Nat.lt_succ_self _)
    · exact Nat.lt_succ_of_lt (Nat.lt_succ_of_lt hlt)
  case fp1 =>
    simp only [List.mem_cons, List.not_mem_nil, or_false, not_or] at hb n
    rcases hb with rfl | rfl | rfl
    · exact absurd rfl n.1
    · exact absurd rfl n.2
    · obtain ⟨o, e, _⟩ := hl; exact ⟨o, e⟩
  · rintro C D i v ys s₃ m₃ E' K ⟨T, vals, rfl, ⟨t, x', hx', rfl⟩, hT⟩ hi F₃ al nC nD hne hj hk
    have hi' : i < vs.length := by rw [← vsz]; exact hi
    have hv : vs[i]? = some x' := by simpa using hx'
    have hpi : ps[i]? = some (ps[i]'(hp.1 ▸ hi')) := List.getElem?_eq_getElem (hp.1 ▸ hi')
    obtain ⟨t2, rfl, ot, hot, rt⟩ := hp.2 i _ _ hv hpi
    obtain ⟨oT, hoT, hcT, nT, hdT⟩ := hT
    refine assign_Tuple_tuple hh ⟨oT, hoT, hcT, nT, hdT⟩ rfl rfl fun h₅ he => ?_
    have k5 : ∀ b o, s₃.heap.get? b = some o → h₅.get? b = some o := fun b o e => he b o (Nat.ne_of_lt (Heap.lt_size e)) e
    refine assignInOrder_cons (assign_name (s := { s₃ with heap := h₅ }) (fr_all F₃ k5) hkind hx₀ fun h6 tk6 F6 k6 => ?_)
    refine assignInOrder_cons (assign_pair (tk := tk₀) (s := { s₃ with heap := h6, toks := tk6 }) hh F6 hkind hx hx₂ ⟨ot, F6.keep _ _ hot, rt⟩ fun h7 tk7 F7 k7 => ?_)
    refine assignInOrder_nil ?_
    refine body C i _ t ys { s₃ with heap := h7, toks := tk7 } _ E' K hpi (hp.1 ▸ hi') (by simp [hxx]) (by simp [hxx]) (by simp) F7 hj fun y h' tk' k' hj' => ?_
    have kall : ∀ b o, b ≠ C → s₃.heap.get? b = some o → h'.get? b = some o := fun b o n e => k' b o (k7 b o n (k6 b o n (k5 b o e)))
    refine hk y h' tk' _ (fr_all F7 k') (fun a ha => ?_) hj'
    obtain ⟨o, e⟩ := al a (.tail _ ha)
    have hac : a ≠ C := fun q => by
      subst q
      rcases List.mem_cons.mp ha with q | q
      · exact hne.1 q
      · exact hne.2.1 q
    exact (kall a o hac e).trans e.symm
  · intro C D h' tk m' ys hD hj hk hDn hCn hCD hns
    rw [vsz, hp.1] at hj
    refine ⟨m', hns, fun h'' hs'' => ?_⟩
    have k : ∀ b o, s.heap.get? b = some o → h''.get? b = some o := fun b o e => hs''.extBut b o (ne_fresh e (nn hCn)) (hk b o e)
    exact h D ys h'' tk (fr_all F k) (List.forall_mem_cons.mpr ⟨⟨hs''.extBut D _ (Ne.symm hCD) hD, none_L F (nn hDn), none_base F (nn hDn)⟩, news_all N k⟩) (nn hDn) k hj
end
end Mine
end
section
theorem Mine.off_47 : True := by
  w_top off
  trivial
namespace Mine
open PySem PySem.W PySem.Calls PySem.Spec PyProof.Rows
section
variable {prog : Program} {w : World} {A : Around} {s : Shared} {env : Env} {h₀ : Heap}
theorem loop_atC {LL : Addr → Prop} {β : Type} {Q : Flow → Shared → Prop} {E : Value → Shared → Prop} {x : Str} {body : List Stmt} {m : Str → Option Value} {I : Addr} {fp : List Addr} {n : Nat} {P : Nat → Value → Prop} {St : Nat → Heap → Prop} {cl : Value}
    (W : Walks prog w A I fp [I] n P St) (hI0 : h₀.get? I = none) (hLf : env.locals ∉ fp) (hst : St 0 s.heap) (alive : ∀ i h, St i h → ∃ o, h.get? I = some o ∧ o.cls = cl) (hfp : ∀ b ∈ fp, b = I ∨ LL b)
    (F : Fr h₀ env.locals s.heap m) (led : β → List (Addr × Obj)) (x₀ : β) (N : News h₀ env.locals s.heap (led x₀)) (hnI : ∀ p ∈ led x₀, p.1 ≠ I)
    (J : Nat → β → (Str → Option Value) → Prop) (h0 : J 0 x₀ m)
    (step : ∀ i v y m₁ h tk own (Q' : Flow → Shared → Prop), (∀ p ∈ own, LL p.1 ∨ p.2.cls = cl) → i < n → P i v → J i y m₁ → Fr h₀ env.locals h (fun z => if z = x then some v else m₁ z) → News h₀ env.locals h (led y ++ own) →
      (∀ h' tk' y' m', Fr h₀ env.locals h' m' → News h₀ env.locals h' (led y' ++ own) → (∀ p ∈ led y', (∀ q ∈ own, p.1 ≠ q.1) ∨ ∃ o, (p.1, o) ∈ led y) → J (i + 1) y' m' → Q' .next { s with heap := h', toks := tk' }) →
      wpAny (model prog w) A (execs body env) Q' E { s with heap := h, toks := tk })
    (hQ : ∀ h' tk m' y, Fr h₀ env.locals h' m' → News h₀ env.locals h' (led y) → J n y m' → Q .next { s with heap := h', toks := tk }) :
    LoopAtV prog w A h₀ env x body Q E (.ref I) s := by
  refine ⟨I, fp, [I], n, P, St, m, led x₀, fun i m' news => ∃ y, news = led y ∧ J i y m', rfl, W, hLf, fun b hb => by rw [List.mem_singleton.mp hb]; exact hI0, fun p hp q => hnI p hp (List.mem_singleton.mp q), hst, F, N, ⟨x₀, rfl, h0⟩, ?_, ?_⟩
  · rintro i v m₁ news₁ s₁ own ⟨h, tk, rfl⟩ hi hP ⟨y, rfl, hJ⟩ hnI' hown _ hall st F₁ N₁
    refine step i v y m₁ h tk own _ (fun p hp => ?_) hi hP hJ F₁ (news_swap N₁) fun h' tk' y' m' F' N' hin hJ' => LoopStepV.next (LoopStepU.intro F' (news_swap N') (fun p hp q => ?_) ⟨y', rfl, hJ'⟩)
    · obtain ⟨o, ho, hc⟩ := alive _ _ st
      rcases hfp _ (hown p hp) with q | q
      · have := (N₁ p (List.mem_append_left _ hp)).1
        rw [q] at this
        have ho' : h.get? I = some o := ho
        rw [this] at ho'; cases ho'
        exact .inr hc
      · exact .inl q
    · rw [List.mem_singleton] at q
      rcases hin p hp with e | ⟨o, e⟩
      · obtain ⟨o, ho, _⟩ := alive _ _ st
        exact e _ (hall I (W.sub _ (.head _)) hI0 o ho) q
      · exact hnI' _ e (List.mem_singleton.mpr q)
  · rintro h' tk m' news' F' N' _ ⟨y, rfl, hJ⟩
    exact hQ h' tk m' y F' N' hJ
theorem loop_rangeC {β : Type} {Q : Flow → Shared → Prop} {E E' : Value → Shared → Prop} {x : Str} {body : List Stmt} {m : Str → Option Value} {r : Addr} {n : Nat} {t u v : Tok} (hh : A.handled = none) (hr : s.heap.get? r = some { cls := .type "range", dict := none, data := .fields #[.int 0 t, .int n u, .int 1 v], slots := #[] }) (hz : n ≤ 1000)
    (F : Fr h₀ env.locals s.heap m) (led : β → List (Addr × Obj)) (x₀ : β) (N : News h₀ env.locals s.heap (led x₀))
    (J : Nat → β → (Str → Option Value) → Prop) (h0 : J 0 x₀ m)
    (step : ∀ i v y m₁ h tk own (Q' : Flow → Shared → Prop), (∀ p ∈ own, p.2.cls = .type "range_iterator") → i < n → (∃ t, v = .int (i : Int) t) → J i y m₁ → Fr h₀ env.locals h (fun z => if z = x then some v else m₁ z) → News h₀ env.locals h (led y ++ own) →
      (∀ h' tk' y' m', Fr h₀ env.locals h' m' → News h₀ env.locals h' (led y' ++ own) → (∀ p ∈ led y', (∀ q ∈ own, p.1 ≠ q.1) ∨ ∃ o, (p.1, o) ∈ led y) → J (i + 1) y' m' → Q' .next { s with heap := h', toks := tk' }) →
      wpAny (model prog w) A (execs body env) Q' E { s with heap := h, toks := tk })
    (hQ : ∀ h' tk m' y, Fr h₀ env.locals h' m' → News h₀ env.locals h' (led y) → J n y m' → Q .next { s with heap := h', toks := tk }) :
    wpAny (model prog w) A (pyIter (.ref r)) (fun it s₂ => LoopAtV prog w A h₀ env x body Q E it s₂) E' s := by
  have hsz : Builtin.Range.rangeSize 0 n 1 = n := by unfold Builtin.Range.rangeSize; simp; intro h; subst h; rfl
  have up : ∀ b o, s.heap.get? b = some o → (s.heap.push { cls := .type "range_iterator", data := .fields #[rawInt 0, rawInt n, rawInt 1] }).get? b = some o := fun b o e => Heap.get?_push_of_some _ e
  have n0 : s.heap.get? s.heap.objs.size = none := Heap.get?_none_of_le (Nat.le_refl _)
  refine wpAny_pyIter_range hr ?small ?_
  case small => exact small_one (by decide) (by decide) (by omega) (by omega)
  rw [hsz]
  refine loop_atC (LL := fun _ => False) (cl := .type "range_iterator") (Walks.range hh s.heap.objs.size 0 1 n) (none_base F n0) ?_ ?_ ?_ (fun b hb => .inl (List.mem_singleton.mp hb)) (fr_all F up) led x₀ (news_all N up) ?_ J h0 ?_ hQ
  · intro hb
    exact none_L F n0 (List.mem_singleton.mp hb).symm
  · show IsRangeIter _ _ _ _ _
    have : (s.heap.push { cls := .type "range_iterator", data := .fields #[rawInt 0, rawInt n, rawInt 1] }).get? s.heap.objs.size = some { cls := .type "range_iterator", data := .fields #[rawInt 0, rawInt n, rawInt 1] } := Heap.get?_push_size _ rfl
    simpa using this
  · exact fun i h e => ⟨_, e, rfl⟩
  · intro p hp e
    have := (N p hp).1
    rw [e, n0] at this; cases this
  · intro i v y m₁ h tk own Q' ho hi hv
    refine step i v y m₁ h tk own Q' (fun p hp => (ho p hp).elim (fun x => x.elim) id) hi ?_
    obtain ⟨t, e⟩ := hv
    exact ⟨t, by rw [e]; congr 1; omega⟩
theorem loop_tupleC {β : Type} {Q : Flow → Shared → Prop} {E E' : Value → Shared → Prop} {x : Str} {body : List Stmt} {m : Str → Option Value} {l : Addr} {vs : List Value} (hh : A.handled = none) (hl : s.heap.IsTuple l vs.toArray) (hlL : l ≠ env.locals)
    (F : Fr h₀ env.locals s.heap m) (led : β → List (Addr × Obj)) (x₀ : β) (N : News h₀ env.locals s.heap (led x₀))
    (J : Nat → β → (Str → Option Value) → Prop) (h0 : J 0 x₀ m)
    (step : ∀ i v y m₁ h tk own (Q' : Flow → Shared → Prop), (∀ p ∈ own, p.1 = l ∨ p.2.cls = .type "tuple_iterator") → i < vs.length → vs[i]? = some v → J i y m₁ → Fr h₀ env.locals h (fun z => if z = x then some v else m₁ z) → News h₀ env.locals h (led y ++ own) →
      (∀ h' tk' y' m', Fr h₀ env.locals h' m' → News h₀ env.locals h' (led y' ++ own) → (∀ p ∈ led y', (∀ q ∈ own, p.1 ≠ q.1) ∨ ∃ o, (p.1, o) ∈ led y) → J (i + 1) y' m' → Q' .next { s with heap := h', toks := tk' }) →
      wpAny (model prog w) A (execs body env) Q' E { s with heap := h, toks := tk })
    (hQ : ∀ h' tk m' y, Fr h₀ env.locals h' m' → News h₀ env.locals h' (led y) → J vs.length y m' → Q .next { s with heap := h', toks := tk }) :
    wpAny (model prog w) A (pyIter (.ref l)) (fun it s₂ => LoopAtV prog w A h₀ env x body Q E it s₂) E' s := by
  have hlt : l < s.heap.objs.size := by obtain ⟨_, e, _⟩ := hl; exact Heap.lt_size e
  have up : ∀ b o, s.heap.get? b = some o → (s.heap.push { cls := .type "tuple_iterator", data := .fields #[.ref l, .int 0 0] }).get? b = some o := fun b o e => Heap.get?_push_of_some _ e
  have n0 : s.heap.get? s.heap.objs.size = none := Heap.get?_none_of_le (Nat.le_refl _)
  refine wpAny_pyIter_tuple hl ?_
  refine loop_atC (LL := fun b => b = l) (cl := .type "tuple_iterator") (Walks.tuple hh s.heap.objs.size l (Nat.ne_of_lt hlt) vs.toArray) (none_base F n0) ?_ ⟨⟨_, Heap.get?_push_size _ rfl, rfl, rfl⟩, hl.push _⟩ ?_ (fun b hb => (List.mem_cons.mp hb).imp id List.mem_singleton.mp) (fr_all F up) led x₀ (news_all N up) ?_ J h0 ?_ ?_
  · intro hb
    rcases List.mem_cons.mp hb with e | hb
    · exact none_L F n0 e.symm
    · exact hlL (List.mem_singleton.mp hb).symm
  · rintro i h ⟨⟨o, ho, hc, _⟩, _⟩; exact ⟨o, ho, hc⟩
  · intro p hp e
    have := (N p hp).1
    rw [e, n0] at this; cases this
  · intro i v y m₁ h tk own Q' ho hi hv; exact step i v y m₁ h tk own Q' ho (by simpa using hi) (by simpa using hv)
  · rw [List.size_toArray]; exact hQ
end
section
variable {prog : Program} {w : World} {A : Around} {s : Shared} {mean : ExcName → Option Value} {mg mb : Str → Option Value} {H₀ : Heap} {P : Addr → Prop} {E : Value → Shared → Prop} {h h' g : Heap} {L : Addr} {m : Str → Option Value} {S : St} {V : List Cr} {ou : Option Int} {l hl : List (Addr × Obj)}
theorem HardAt.cls {a : Addr} {o : Obj} (x : HardAt prog w h a) (e : h.get? a = some o) : o.cls = .type "tuple" ∨ o.cls = .type "dict" := by
  rcases x with ⟨o', _, _, e', hc, _⟩ | ⟨v, o', t, e', y⟩
  · rw [e] at e'; cases e'; exact .inl hc
  · rw [e] at e'; cases e'
    obtain ⟨_, _, hc, _⟩ := y
    exact .inr hc.1
/-- the ledger of the four, its hard part of tuples and dicts alone -/
theorem Four.recoverC (A : Four prog w P h S) (F : Fr g L h m) (fm : ∀ a ∈ S.meds, a ≠ L) (out : ∀ a ∈ S.mut, a ≠ L ∧ g.get? a = none) : ∃ hl, News g L h (S.core w hl) ∧ Later prog w P g L S hl ∧ (∀ p ∈ hl, p.2.cls = .type "tuple" ∨ p.2.cls = .type "dict") ∧ (∀ p ∈ hl, p.1 ∈ S.hard ∧ h.get? p.1 = some p.2) ∧ ∀ a ∈ S.hard, (∃ o, g.get? a = some o) ∨ ∃ o, (a, o) ∈ hl := by
  obtain ⟨hl, hhl⟩ : ∃ hl : List (Addr × Obj), ∀ a o, (a, o) ∈ hl ↔ a ∈ S.hard ∧ g.get? a = none ∧ h.get? a = some o := by
    refine ⟨S.hard.filterMap fun a => if (g.get? a).isSome then none else (h.get? a).map fun o => (a, o), fun a o => ?_⟩
    rw [List.mem_filterMap]
    constructor
    · rintro ⟨b, hb, e⟩
      split at e
      · cases e
      · rename_i hn
        obtain ⟨o', e', q⟩ := Option.map_eq_some_iff.mp e
        cases q
        exact ⟨hb, by simpa using hn, e'⟩
    · rintro ⟨hb, e1, e2⟩
      exact ⟨a, hb, by rw [e1, e2]; rfl⟩
  have h1 : ∀ p ∈ hl, h.get? p.1 = some p.2 ∧ p.1 ≠ L ∧ g.get? p.1 = none := fun p hp => by
    have := (hhl p.1 p.2).mp hp
    exact ⟨this.2.2, A.neL F fm _ this.1, this.2.1⟩
  refine ⟨hl, A.core (Q := fun p => h.get? p.1 = some p.2 ∧ p.1 ≠ L ∧ g.get? p.1 = none) (fun a ha o e => ⟨e, out a ha⟩) h1, ⟨fm, fun h'' m'' l'' F'' N'' => A.stay (fun a ha o e => ?_) fun a ha o e => ?_⟩, fun p hp => ?_, fun p hp => ⟨((hhl p.1 p.2).mp hp).1, ((hhl p.1 p.2).mp hp).2.2⟩, fun a ha => ?_⟩
  · obtain ⟨o', e', mm⟩ := A.inLed (w := w) hl a ha
    rw [e] at e'; cases e'
    exact (N'' _ (List.mem_append_right _ mm)).1
  · cases q : g.get? a with
    | some o' =>
      have := F.keep a o' q
      rw [e] at this; cases this
      exact F''.keep a _ q
    | none => exact (N'' _ (List.mem_append_right _ (S.core_tail ((hhl a o).mpr ⟨ha, q, e⟩)))).1
  · have := (hhl p.1 p.2).mp hp
    exact (A.hards _ this.1).cls this.2.2
  · cases q : g.get? a with
    | some o => exact .inl ⟨o, rfl⟩
    | none =>
      obtain ⟨o, e⟩ := (A.hards a ha).there
      exact .inr ⟨o, (hhl a o).mpr ⟨ha, q, e⟩⟩
theorem core_cls {S : St} (A : Four prog w P h S) (hc : ∀ p ∈ hl, p.2.cls = .type "tuple" ∨ p.2.cls = .type "dict") (e : ∀ p ∈ S.core w hl, h.get? p.1 = some p.2) : ∀ p ∈ S.core w hl, p.2.cls ≠ .type "range_iterator" ∧ p.2.cls ≠ .type "list_iterator" ∧ p.2.cls ≠ .type "tuple_iterator" := fun p hp => by
  rcases core_mem hp with q | q
  · have := A.mut_cls _ q _ (e p hp)
    rcases this with x | x | x | x <;> rw [x] <;> exact ⟨by decide, by decide, by decide⟩
  · rcases hc p q with x | x <;> rw [x] <;> exact ⟨by decide, by decide, by decide⟩
/-- a turn with its loop's iterator -/
theorem turn_step {fa bx bl sc cx cb c1 i tk : Nat} {cdv v : Value} {m₀ m₁ : Str → Option Value} {vs : List Value} {ns : List Int} {own : List (Addr × Obj)} {y : Ty} {Q' : Flow → Shared → Prop} (B : Bs w mean mg mb H₀) (SG : H₀.StaysIn g) (X : (hd.heap_39 w.params).In g) (T : Top hd.view_39 (looseW hd.view_39 []) mean mg mb g)
    (hA : A.depth + 10 ≤ 900) (hU : A.units + 100 ≤ 9000) (hh : A.handled = none) (hv : IntsAre vs ns) (hz : vs.length ≤ 1000) (hbx : 1 < bx) (d1 : @Ne Nat bx bl) (d2 : @Ne Nat bx sc) (hi : i < 10) (hown : ∀ p ∈ own, p.2.cls = .type "range_iterator")
    (O : TyOk prog w H₀ g L i y ∧ m₁ = y.M m₀ bx bl) (F : Fr g L h (fun z => if z = Str.ofString "turn" then some v else m₁ z)) (N : News g L h (y.led w bx bl sc cx cb c1 vs [] ++ own))
    (hQ : ∀ h' tk' y' m', Fr g L h' m' → News g L h' (Ty.led w bx bl sc cx cb c1 vs [] y' ++ own) → (∀ p ∈ Ty.led w bx bl sc cx cb c1 vs [] y', (∀ q ∈ own, p.1 ≠ q.1) ∨ ∃ o, (p.1, o) ∈ y.led w bx bl sc cx cb c1 vs []) → (TyOk prog w H₀ g L (i + 1) y' ∧ m' = y'.M m₀ bx bl) ∧ y'.S.ids = y.S.ids → Q' .next { s with heap := h', toks := tk' }) :
    wpAny (model prog w) (A.deeper (envOf (Str.ofString "law") lawDef.2 L fa cdv)) (execs turnStmts (envOf (Str.ofString "law") lawDef.2 L fa cdv)) Q' E { s with heap := h, toks := tk } := by
  obtain ⟨O, rfl⟩ := O
  have eM : (fun z => if z = Str.ofString "turn" then some v else y.M m₀ bx bl z) = ({ y with tr := some v } : Ty).M m₀ bx bl := funext fun z => lawM_turn
  rw [eM] at F
  refine turn_ct (cx := cx) (cb := cb) (c1 := c1) (s := { s with heap := h, toks := tk }) (i := i) (own := own) (y := { y with tr := some v }) (fun p hp => .inr (.inl (hown p hp))) B SG X T hA hU hh hv hz hbx d1 d2 (by omega) ⟨O.Z, O.p, O.td, O.told, O.tup, O.sp0, O.sp1⟩ F (fun p hp => N p ?_) fun h' tk' y' O' _ ids F' N' => ?_
  · have hp : p ∈ (bx, _) :: (bl, _) :: (sc, _) :: (own ++ (y.l ++ y.S.core w y.hl)) := hp
    rcases List.mem_cons.mp hp with rfl | hp
    · exact .head _
    rcases List.mem_cons.mp hp with rfl | hp
    · exact .tail _ (.head _)
    rcases List.mem_cons.mp hp with rfl | hp
    · exact .tail _ (.tail _ (.head _))
    rcases List.mem_append.mp hp with hp | hp
    · exact List.mem_append_right (Ty.led w bx bl sc cx cb c1 vs [] y) hp
    · exact .tail _ (.tail _ (.tail _ (List.mem_append_left own hp)))
  · have Nc : News g L h' ([] ++ y'.S.core w y'.hl) := fun p hp => N' p (.tail _ (.tail _ (.tail _ (List.mem_append_right _ (List.mem_append_right _ hp)))))
    have A4 := O'.Z.at F' Nc
    obtain ⟨hl', N2, Z2, hc, _⟩ := A4.recoverC F' O'.Z.1 (O'.Z.out F' Nc)
    have hlc : Value.type "list" ≠ Value.type "range_iterator" := by decide
    have hall : ∀ p ∈ Ty.led w bx bl sc cx cb c1 vs [] { y' with hl := hl' }, (h'.get? p.1 = some p.2 ∧ p.1 ≠ L ∧ g.get? p.1 = none) ∧ p.2.cls ≠ .type "range_iterator" := fun p hp => by
      have hp : p ∈ (bx, _) :: (bl, _) :: (sc, _) :: (y'.l ++ y'.S.core w hl') := hp
      rcases List.mem_cons.mp hp with rfl | hp
      · exact ⟨N' _ (.head _), hlc⟩
      rcases List.mem_cons.mp hp with rfl | hp
      · exact ⟨N' _ (.tail _ (.head _)), hlc⟩
      rcases List.mem_cons.mp hp with rfl | hp
      · exact ⟨N' _ (.tail _ (.tail _ (.head _))), hlc⟩
      rcases List.mem_append.mp hp with hp | hp
      · exact ⟨N' _ (.tail _ (.tail _ (.tail _ (List.mem_append_right _ (List.mem_append_left _ hp))))), by rw [O'.tup p hp]; decide⟩
      · exact ⟨N2 p hp, (core_cls A4 hc (fun p hp => (N2 p hp).1) p hp).1⟩
    refine hQ h' tk' { y' with hl := hl' } _ F' (fun p hp => ?_) (fun p hp => .inl fun q hq e => ?_) ⟨⟨⟨Z2, O'.p, O'.td, O'.told, O'.tup, O'.sp0, O'.sp1⟩, rfl⟩, ids⟩
    · rcases List.mem_append.mp hp with hp | hp
      · exact (hall p hp).1
      · exact N' p (.tail _ (.tail _ (.tail _ (List.mem_append_left _ hp))))
    · have h1 := (hall p hp).1.1
      have h2 := (N' q (.tail _ (.tail _ (.tail _ (List.mem_append_left _ hq))))).1
      rw [e, h2] at h1
      have e3 : q.2 = p.2 := Option.some.inj h1
      exact (hall p hp).2 (e3 ▸ hown q hq)
end
end Mine
end
section
theorem Mine.off_48 : True := by
  w_top off
  trivial
namespace Mine
open PySem PySem.W PySem.Calls PySem.Spec PyProof.Rows
section
variable {prog : Program} {w : World} {A : Around} {s : Shared} {mean : ExcName → Option Value} {mg mb : Str → Option Value} {H₀ : Heap} {P : Addr → Prop} {E : Value → Shared → Prop} {h h' g h₀ : Heap} {L : Addr} {m : Str → Option Value} {S : St} {env : Env}
theorem Four.start2 {mo : List Addr} (A : Four prog w P h S) (KG : Keep mo h g) (hmo : ∀ a ∈ mo, a ∈ S.mut ∨ ∃ vs c, h.get? a = some (W.listOf vs c)) (eL : L = h.objs.size) : Later prog w P g L S [] := ⟨fun a ha q => by
  obtain ⟨o, e⟩ := (A.hards a (Four.meds_hard S a ha)).there
  have := Heap.lt_size e
  rw [q, eL] at this
  exact Nat.lt_irrefl _ this, fun h' m' l' F N =>
  A.stay (fun a ha o e => by
    obtain ⟨o', e', mm⟩ := A.inLed (w := w) [] a ha
    rw [e] at e'; cases e'
    exact (N _ (List.mem_append_right _ mm)).1) fun a ha o e => F.keep a o (KG a o e fun q => by
      rcases hmo a q with x | ⟨vs, c, x⟩
      · exact A.hard_ne (A.hards a ha) x
      · exact hard_list (A.hards a ha) x)⟩
theorem assign_nameF {x : Str} {px : Pos} {v : Value} {Q : Unit → Shared → Prop} (F : Fr h₀ env.locals s.heap m) (hx : env.kindOf x = some .local) (hc : (env.scope.kind == .class || (env.scope.kind == .module && env.locals != env.globals)) = false)
    (h : ∀ h' tk, Fr h₀ env.locals h' (fun z => if z = x then some v else m z) → (∀ b o, b ≠ env.locals → s.heap.get? b = some o → h'.get? b = some o) → Q () { s with heap := h', toks := tk }) : wpAny (model prog w) A (assign (.Name x px) env v) Q E s :=
  wpAny_assign_Name (wpAny_storeName_local hx F.ns (fun h₅ hn₅ hs₅ => h h₅ _ ⟨hn₅, fun b o e => hs₅.extBut b o (fun q => by
    have := Heap.get?_none_of_le F.above
    rw [q] at e; rw [this] at e; cases e) (F.keep b o e), F.above⟩ fun b o n e => hs₅.extBut b o n e) hc)
theorem news_env {h₁ h₂ : Heap} {L : Addr} {l : List (Addr × Obj)} (N : News h₀ L h₁ l) (k : ∀ b o, b ≠ L → h₁.get? b = some o → h₂.get? b = some o) : News h₀ L h₂ l := fun p hp => ⟨k _ _ (N p hp).2.1 (N p hp).1, (N p hp).2⟩
/-- a for over a list of pairs that stand -/
theorem loop_pairs {β : Type} {Q : Flow → Shared → Prop} {E' : Value → Shared → Prop} {x x₂ : Str} {px px₂ tp : Pos} {tk₀ : Nat} {body : List Stmt} {l : Addr} {vs : List Value} {ps : List (Value × Value)} (hh : A.handled = none) (hl : s.heap.IsList l vs.toArray) (hlL : l ≠ env.locals)
    (hx : env.kindOf x = some .local) (hx₂ : env.kindOf x₂ = some .local) (hc : (env.scope.kind == .class || (env.scope.kind == .module && env.locals != env.globals)) = false) (hxx : x ≠ x₂)
    (F : Fr h₀ env.locals s.heap m) (led : β → List (Addr × Obj)) (x₀ : β) (N : News h₀ env.locals s.heap (led x₀)) (J : Nat → β → Prop) (h0 : J 0 x₀)
    (hp : ∀ h₁ y m₁, Fr h₀ env.locals h₁ m₁ → News h₀ env.locals h₁ (led y) → PairsAt h₁ vs ps)
    (step : ∀ i p y h₁ tk own (Q' : Flow → Shared → Prop), (∀ q ∈ own, q.1 = l ∨ q.2.cls = .type "list_iterator") → (∀ b o, (b, o) ∈ own → ∀ o', (b, o') ∈ led y → o = o') → i < ps.length → ps[i]? = some p → J i y → Fr h₀ env.locals h₁ (fun z => if z = x₂ then some p.2 else if z = x then some p.1 else m z) → News h₀ env.locals h₁ (led y ++ own) →
      (∀ h' tk' y' pv pv₂, Fr h₀ env.locals h' (fun z => if z = x₂ then pv₂ else if z = x then pv else m z) → News h₀ env.locals h' (led y' ++ own) → (∀ p ∈ led y', p.2.cls ≠ .type "list_iterator" ∨ ∃ v, p.2.data = .cell v) → J (i + 1) y' → Q' .next { s with heap := h', toks := tk' }) →
      wpAny (model prog w) A (execs body env) Q' E { s with heap := h₁, toks := tk })
    (hQ : ∀ h' tk pv pv₂ y, Fr h₀ env.locals h' (fun z => if z = x₂ then pv₂ else if z = x then pv else m z) → News h₀ env.locals h' (led y) → J ps.length y → Q .next { s with heap := h', toks := tk }) :
    wpAny (model prog w) A (pyIter (.ref l)) (fun it s₂ => TurnsAt prog w A h₀ env (.Tuple [.Name x px, .Name x₂ px₂] tk₀ tp) body Q E it s₂) E' s := by
  have hlt : l < s.heap.objs.size := by obtain ⟨_, e, _⟩ := hl; exact Heap.lt_size e
  have up : ∀ b o, s.heap.get? b = some o → (s.heap.push { cls := .type "list_iterator", data := .fields #[.ref l, .int 0 0] }).get? b = some o := fun b o e => Heap.get?_push_of_some _ e
  have n0 : s.heap.get? s.heap.objs.size = none := Heap.get?_none_of_le (Nat.le_refl _)
  have vsz : vs.toArray.size = vs.length := List.size_toArray
  have off : ∀ {m₁ : Str → Option Value}, (∀ z, z ≠ x → z ≠ x₂ → m₁ z = m z) → m₁ = fun z => if z = x₂ then m₁ x₂ else if z = x then m₁ x else m z := fun {m₁} h => funext fun z => by
    by_cases q : z = x₂
    · rw [if_pos q, q]
    · rw [if_neg q]
      by_cases q2 : z = x
      · rw [if_pos q2, q2]
      · rw [if_neg q2, h z q2 q]
  refine wpAny_pyIter_list hl ?_
  refine ⟨s.heap.objs.size, [s.heap.objs.size, l], [s.heap.objs.size], vs.toArray.size, _, _, _, m, led x₀, fun i m' news => (∃ y, news = led y ∧ J i y) ∧ ∀ z, z ≠ x → z ≠ x₂ → m' z = m z, rfl, KTurns.ofWalks (Walks.list hh s.heap.objs.size l (Nat.ne_of_lt hlt) vs.toArray) ?go, ?nl, (fun b hb => by rw [List.mem_singleton.mp hb]; exact none_base F n0), (fun p hp q => ?nw), ⟨⟨_, Heap.get?_push_size _ rfl, rfl, rfl⟩, hl.push _⟩, fr_all F up, news_all N up, ⟨⟨x₀, rfl, h0⟩, fun _ _ _ => rfl⟩, ?st, ?en⟩
  case go =>
    intro i v s' Q' E' st hQ'
    obtain ⟨⟨o, ho, hc, hd⟩, _⟩ := st
    cases v with
    | ref T => exact wpAny_letOwnedTupleGo_listiter ⟨o, ho, hc, hd⟩ hQ'
    | _ => exact wpAny_pure hQ'
  case nl =>
    intro hb
    rcases List.mem_cons.mp hb with e | hb
    · exact none_L F n0 e.symm
    · exact hlL (List.mem_singleton.mp hb).symm
  case nw =>
    have := (N p hp).1
    rw [List.mem_singleton.mp q, n0] at this; cases this
  case st =>
    rintro i v m₁ news₁ h₁ tk₁ own hi hP ⟨⟨y, rfl, hJ⟩, hm⟩ hnw hof hon hall st F₁ N₁
    have hi' : i < vs.length := by rw [← vsz]; exact hi
    have hv : vs[i]? = some v := by simpa using hP
    have Nl : News h₀ env.locals h₁ (led y) := fun p hp => N₁ p (List.mem_append_right _ hp)
    have hpa := hp h₁ y m₁ F₁ Nl
    have hpi : ps[i]? = some (ps[i]'(hpa.1 ▸ hi')) := List.getElem?_eq_getElem (hpa.1 ▸ hi')
    obtain ⟨t, rfl, ot, hot, rt⟩ := hpa.2 i _ _ hv hpi
    obtain ⟨oI, hoI, hcI, hdI⟩ := st.1
    have hoI' : h₁.get? s.heap.objs.size = some oI := hoI
    have ownc : ∀ q ∈ own, q.1 = l ∨ q.2.cls = .type "list_iterator" := fun q hq => by
      have h3 := hof q hq
      simp only [List.mem_cons, List.not_mem_nil, or_false] at h3
      rcases h3 with e | e
      · have := hon q hq
        have this : h₁.get? q.1 = some q.2 := this
        rw [e, hoI'] at this; cases this
        exact .inr hcI
      · exact .inl e
    refine assign_Tuple_tuple hh ⟨ot, hot, rt⟩ rfl rfl fun h₅ he => ?_
    have k5 : ∀ b o, h₁.get? b = some o → h₅.get? b = some o := fun b o e => he b o (Nat.ne_of_lt (Heap.lt_size e)) e
    refine assignInOrder_cons (assign_nameF (s := { s with heap := h₅, toks := tk₁ }) (fr_all F₁ k5) hx hc fun h6 tk6 F6 k6 => ?_)
    refine assignInOrder_cons (assign_nameF (s := { s with heap := h6, toks := tk6 }) F6 hx₂ hc fun h7 tk7 F7 k7 => ?_)
    refine assignInOrder_nil ?_
    have N7 : News h₀ env.locals h7 (own ++ led y) := news_env (news_env (news_all N₁ k5) k6) k7
    have eM : (fun z => if z = x₂ then some (ps[i]'(hpa.1 ▸ hi')).2 else if z = x then some (ps[i]'(hpa.1 ▸ hi')).1 else m₁ z) = fun z => if z = x₂ then some (ps[i]'(hpa.1 ▸ hi')).2 else if z = x then some (ps[i]'(hpa.1 ▸ hi')).1 else m z := funext fun z => by
      by_cases q : z = x₂
      · rw [if_pos q, if_pos q]
      · rw [if_neg q, if_neg q]
        by_cases q2 : z = x
        · rw [if_pos q2, if_pos q2]
        · rw [if_neg q2, if_neg q2, hm z q2 q]
    rw [eM] at F7
    refine step i _ y h7 tk7 own _ ownc (fun b o hb o' hb' => ?_) (hpa.1 ▸ hi') hpi hJ F7 (news_swap N7) fun h' tk' y' pv pv₂ F' N' hin hJ' => LoopStepV.next (LoopStepU.intro F' (news_swap N') (fun p hp q => ?_) ⟨⟨y', rfl, hJ'⟩, fun z n1 n2 => by show (if z = x₂ then pv₂ else if z = x then pv else m z) = m z; rw [if_neg n2, if_neg n1]⟩)
    · have e1 := (N7 _ (List.mem_append_left _ hb)).1
      have e2 := (N7 _ (List.mem_append_right _ hb')).1
      rw [e1] at e2
      exact Option.some.inj e2
    · have e1 := (N' _ (List.mem_append_left _ hp)).1
      have e2 := (N' _ (List.mem_append_right _ (hall s.heap.objs.size (.head _) (none_base F n0) oI hoI'))).1
      rw [List.mem_singleton.mp q] at e1
      have e3 := Option.some.inj (e1.symm.trans e2)
      rcases hin p hp with x | ⟨v, x⟩
      · exact x (by rw [e3]; exact hcI)
      · rw [e3, hdI] at x; cases x
  case en =>
    rintro h' tk m' news' F' N' _ ⟨⟨y, rfl, hJ⟩, hm⟩
    have hpa := hp h' y m' F' N'
    rw [off hm] at F'
    rw [vsz, hpa.1] at hJ
    exact hQ h' tk _ _ y F' N' hJ
/-- a store to a cell of the frame, the four beside it -/
theorem cell_store {c : Addr} {oc : Obj} {v₀ : Option Value} {x : Str} {v : Value} {l hl : List (Addr × Obj)} {Q : Unit → Shared → Prop} (hk : env.scope.kind = .function) (hx : env.kindOf x = some .cell) (hc : env.cells.lookup x = some c)
    (F : Fr g L s.heap m) (N : News g L s.heap ((c, oc) :: (l ++ S.core w hl))) (Z : Later prog w P g L S hl) (hd : oc.data = .cell v₀) (hcs : c ∉ S.mut) (hlc : ∀ p ∈ l, p.1 ≠ c)
    (h : ∀ h' o' hl', Fr g L h' m → News g L h' ((c, o') :: (l ++ S.core w hl')) → Later prog w P g L S hl' → o'.data = .cell (some v) → (∀ b o, b ≠ c → s.heap.get? b = some o → h'.get? b = some o) → Q () { s with heap := h' }) : wpAny (model prog w) A (storeName env x v) Q E s := by
  have hm := N _ (.head _)
  refine wpAny_storeName_cell hk hx hc ⟨oc, hm.1, hd⟩ fun h' hv hs => ?_
  obtain ⟨o', ho', hd'⟩ := hv
  have k : ∀ b o, b ≠ c → s.heap.get? b = some o → h'.get? b = some o := fun b o n e => hs.extBut b o n e
  have F' : Fr g L h' m := ⟨F.ns.sameBut hs (Ne.symm hm.2.1), fun b o e => k b o (fun q => by rw [q, hm.2.2] at e; cases e) (F.keep b o e), F.above⟩
  have A4 := Z.at (l' := (c, oc) :: l) F N
  have A' : Four prog w P h' S := A4.stay (fun a ha o e => k a o (fun q => hcs (q ▸ ha)) e) fun a ha o e => k a o (fun q => by
    subst q
    rw [hm.1] at e; cases e
    rcases A4.hards a ha with ⟨o₁, vs, n, e1, _, e2⟩ | ⟨v, o₁, t, e1, y⟩
    · rw [hm.1] at e1; cases e1; rw [hd] at e2; cases e2
    · rw [hm.1] at e1; cases e1
      obtain ⟨es, ep, _, hd₁, _⟩ := y
      rw [hd] at hd₁; cases hd₁) e
  obtain ⟨hl', N2, Z2⟩ := A'.recover F' Z.1 fun a ha => by
    obtain ⟨o, _, mm⟩ := A4.inLed (w := w) hl a ha
    exact (N _ (.tail _ (List.mem_append_right _ mm))).2
  refine h h' o' hl' F' (List.forall_mem_cons.mpr ⟨⟨ho', hm.2⟩, fun p hp => ?_⟩) Z2 hd' k
  rcases List.mem_append.mp hp with hp | hp
  · have := N p (.tail _ (List.mem_append_left _ hp))
    exact ⟨k _ _ (hlc p hp) this.1, this.2⟩
  · exact N2 p hp
end
end Mine
end
section
theorem Mine.off_48s : True := by
  w_top off
  trivial
namespace Mine
open PySem PySem.W PySem.Calls PySem.Spec PyProof.Rows
section
variable {prog : Program} {w : World} {A : Around} {E : Value → Shared → Prop} {s : Shared} {h₀ : Heap} {L a d : Addr} {m : Str → Option Value} {news : List (Addr × Obj)} {ks : List (Nat × Addr)}
theorem sort_bigN {n : Nat} {P : PySem.Fin → Shared → Prop} (F : Fr h₀ L s.heap m) (N : News h₀ L s.heap news) (ho : s.heap.get? a = some (seqObj "list" (refsOf ks).toArray n)) (haL : a ≠ L) (ha0 : h₀.get? a = none) (hna : ∀ p ∈ news, p.1 ≠ a)
    (hk : ∀ h', Fr h₀ L h' m → News h₀ L h' news → ∀ x ∈ ks, KeyAt prog w h' (Pk x.1) x.2) (hs : ∀ x ∈ ks, x.1 < 4) (h2 : 2 ≤ ks.length) (h4 : ks.length ≤ 4)
    (h : ∀ h' c, Fr h₀ L h' m → News h₀ L h' ((a, W.listOf (refsOf (sortBy (·.1) ks)).toArray c) :: news) → P (.done (.ret .none)) { s with heap := h' }) :
    wpAny (model prog w) A (Builtin.«list.sort» ⟨[.ref a], []⟩) P E s := by
  refine kat_list_sort (vs := refsOf ks) F N ho haL ha0 hna (by rw [List.length_map]; exact h2) (by rw [List.length_map]; omega) fun e1 h' F' N' => ?_
  have hk' : ∀ x ∈ ks, KeyAt prog w h' (Pk x.1) x.2 := hk h' F' fun q hq => N' q (.tail _ hq)
  obtain ⟨fs, t, hl, hi⟩ := keys_tups hk'
  refine kat_kind (T := .type "int") t (by omega) (fun v hv => by obtain ⟨z, u, rfl⟩ := hi v hv; exact Looks.of_pure rfl) rfl ?_
  have hok := sorts_ok (l := ks.map (·.1)) (by rw [List.length_map]; exact h2) (by rw [List.length_map]; exact h4) fun y hy => by obtain ⟨x, hx, rfl⟩ := List.mem_map.mp hy; exact hs x hx
  unfold sortsOk at hok
  rw [List.length_map] at hok
  split at hok
  · rename_i p he
    rw [Bool.and_eq_true, decide_eq_true_eq, decide_eq_true_eq] at hok
    rw [List.length_map]
    refine eval_wp (n := ks.length) (fun i j C hi hj hC => ?_) _ p he ?_
    · have gi : (refsOf ks).getD i Value.none = .ref ks[i].2 := by simp [List.getD, hi]
      have gj : (refsOf ks).getD j Value.none = .ref ks[j].2 := by simp [List.getD, hj]
      have li : (ks.map (·.1)).getD i 0 = ks[i].1 := by simp [List.getD, hi]
      have lj : (ks.map (·.1)).getD j 0 = ks[j].1 := by simp [List.getD, hj]
      show wpAny _ _ (keyLt' _ ((refsOf ks).getD i Value.none) ((refsOf ks).getD j Value.none)) _ _ _
      rw [gi, gj]
      rw [li, lj] at hC
      exact lt_keys (hk' _ (List.getElem_mem hi)) (hk' _ (List.getElem_mem hj)) hC
    · refine KasFin.intro F' N' (UpdF.head fun q hq => hna q hq) fun h'' c F'' N'' => ?_
      refine h h'' c F'' ?_
      have e : (p.toList.map fun i => (refsOf ks).getD i Value.none) = refsOf (sortBy (·.1) ks) := by
        rw [hok.1]
        have e1 : ks = (List.range ks.length).map fun i => ks.getD i (0, 0) := (map_range_getD ks (0, 0)).symm
        have e2 : sortBy (fun x : Nat × Addr => x.1) ks = (sortBy (fun j => (ks.map (·.1)).getD j 0) (List.range ks.length)).map fun i => ks.getD i (0, 0) := by
          conv => lhs; rw [e1]
          rw [sortBy_map]
          congr 1
          refine sortBy_congr fun j hj => ?_
          have hj' := List.mem_range.mp hj
          simp [List.getD, hj']
        rw [e2]
        show _ = List.map _ (List.map _ _)
        rw [List.map_map]
        refine List.map_congr_left fun j hj => ?_
        have hj' : j < ks.length := by
          obtain ⟨i, _, hi⟩ := List.mem_flatMap.mp hj
          exact List.mem_range.mp (List.mem_filter.mp hi).1
        simp [List.getD, hj']
      rw [e] at N''
      exact N''
  · cases hok
theorem sort_keysN {n : Nat} {P : PySem.Fin → Shared → Prop} (F : Fr h₀ L s.heap m) (N : News h₀ L s.heap news) (ho : s.heap.get? a = some (seqObj "list" (refsOf ks).toArray n)) (haL : a ≠ L) (ha0 : h₀.get? a = none) (hna : ∀ p ∈ news, p.1 ≠ a)
    (hk : ∀ h', Fr h₀ L h' m → News h₀ L h' news → ∀ x ∈ ks, KeyAt prog w h' (Pk x.1) x.2) (hs : ∀ x ∈ ks, x.1 < 4) (h4 : ks.length ≤ 4)
    (h : ∀ h' c, Fr h₀ L h' m → News h₀ L h' ((a, W.listOf (refsOf (sortBy (·.1) ks)).toArray c) :: news) → P (.done (.ret .none)) { s with heap := h' }) :
    wpAny (model prog w) A (Builtin.«list.sort» ⟨[.ref a], []⟩) P E s := by
  by_cases h2 : 2 ≤ ks.length
  · exact sort_bigN F N ho haL ha0 hna hk hs h2 h4 h
  · refine sort_small F N ho haL ha0 hna (by rw [List.length_map]; omega) fun h' c F' N' => h h' c F' ?_
    rw [sortBy_small (by omega) hs]; exact N'

theorem sorted_DN {Q : Value → Shared → Prop} {o : Obj} {xs : List (List Int × Addr × Value)} (hh : A.handled = none) (F : Fr h₀ L s.heap m) (N : News h₀ L s.heap news) (hd : s.heap.get? d = some o) (lo : (d == sysModules) = false) (ho : RowsObj prog w o xs)
    (hx : xs.map (fun x => (x.1, x.2.1)) = ks.map fun x => (Pk x.1, x.2)) (hk : ∀ h', Fr h₀ L h' m → News h₀ L h' news → ∀ x ∈ ks, KeyAt prog w h' (Pk x.1) x.2) (hs : ∀ x ∈ ks, x.1 < 4) (h4 : ks.length ≤ 4)
    (h : ∀ D c h' t', Fr h₀ L h' m → News h₀ L h' ((D, W.listOf (refsOf (sortBy (·.1) ks)).toArray c) :: news) → (∀ q ∈ news, q.1 < D) → Q (.ref D) { s with heap := h', toks := t' }) :
    wpAny (model prog w) A (call (.builtin "sorted") [.ref d]) Q E s := by
  obtain ⟨es, ep, hc, hdat, he, hn⟩ := ho
  have hz : es.size = ks.length := by
    have e1 := congrArg List.length he
    have e2 := congrArg List.length hx
    simp only [List.length_map, Array.length_toList] at e1 e2
    omega
  refine kdu_sorted (raw_src lo es ep) hh F N ⟨o, hd, hc, hdat⟩ (by rw [hz, sizeLine_eq]; omega) fun D h' tk vs F' N' l1 hl hv => ?_
  have hvs : vs = refsOf ks := by
    apply List.ext_getElem
    · rw [hl, hz, List.length_map]
    · intro j h1 h2
      have e1 := hv j vs[j] (List.getElem?_eq_getElem h1)
      have e2 : es.toList[j]? = es[j]? := Array.getElem?_toList
      rw [← e2, he, List.getElem?_map] at e1
      have h3 : j < ks.length := by rw [List.length_map] at h2; exact h2
      have e3 : (xs.map fun x => (x.1, x.2.1))[j]? = some (Pk ks[j].1, ks[j].2) := by rw [hx, List.getElem?_map, List.getElem?_eq_getElem h3]; rfl
      rw [List.getElem?_map] at e3
      obtain ⟨x, hx1, hx2⟩ := Option.map_eq_some_iff.mp e3
      rw [hx1] at e1
      simp only [Option.map_some, Option.some.injEq] at e1
      rw [← e1, List.getElem_map]
      show Value.ref x.2.1 = Value.ref ks[j].2
      rw [(Prod.mk.inj hx2).2]
  subst hvs
  have nD := N' _ (.head _)
  have N₀ : News h₀ L h' news := fun q hq => N' q (.tail _ hq)
  refine wpAny_call_entry slot_list_sort ⟨_, nD.1, rfl⟩ entry_list_sort (sort_keysN (s := { s with heap := h', toks := tk }) F' N₀ nD.1 nD.2.1 nD.2.2 (fun q hq => Nat.ne_of_lt (l1 q hq)) hk hs h4 fun h'' c F'' N'' => ?_) (args_list_sort _)
  exact ⟨_, rfl, h D c h'' tk F'' N'' l1⟩
end
end Mine
end
section
theorem Mine.off_48t : True := by
  w_top off
  trivial
namespace Mine
open PySem PySem.W PySem.Calls PySem.Spec PyProof.Rows
section
variable {prog : Program} {w : World} {A : Around} {E : Value → Shared → Prop} {s : Shared} {h₀ h : Heap} {L d a : Addr} {m : Str → Option Value} {news : List (Addr × Obj)} {g : Obj → List (Addr × Obj)} {o : Obj} {xs : List (List Int × Addr × Value)} {k : List Int}
theorem pop_TN {more : List Value} {Q : Value → Shared → Prop} (hu : A.units + 1 < cLine) (F : Fr h₀ L s.heap m) (N : News h₀ L s.heap news) (U : UpdF d o news g) (lo : (d == sysModules) = false) (ho : RowsObj prog w o xs)
    (hks : ∀ x ∈ xs, KeyAt prog w s.heap x.1 x.2.1) (hk : KeyAt prog w s.heap k a) (hz : xs.length ≤ 1000)
    (hmore : (∃ v, more = [v]) ∨ (more = [] ∧ (atKey xs k).isSome = true))
    (hnone : ∀ v t', atKey xs k = none → more = [v] → Q v { s with toks := t' })
    (hsome : ∀ p h' o' t', atKey xs k = some p → Fr h₀ L h' m → News h₀ L h' (g o') → RowsObj prog w o' (dropK xs k) → Q p.2 { s with heap := h', toks := t' }) :
    wpAny (model prog w) A (call (.builtin "dict.pop") (.ref d :: .ref a :: more)) Q E s := by
  obtain ⟨pre, post, rfl, hg, a1, a2⟩ := U.split
  have hm := N (d, o) (by simp)
  have hD := ho.dictOf hm.1 hks
  have hkey : KeyAt prog w s.heap k a := hk
  have hargs : argsOk "dict.pop" ⟨.ref d :: .ref a :: more, []⟩ := by
    rcases hmore with ⟨v, rfl⟩ | ⟨rfl, _⟩
    · exact PySem.F.args_dict_pop_3 _ _ _
    · exact PySem.F.args_dict_pop_2 _ _
  refine call_meetsIn (S := fun A' R s' => A'.units + 1 < cLine ∧ s' = s ∧ R = wants Q E) PySem.F.slot_dict_pop hD.typeIs PySem.F.entry_dict_pop hargs (.of_wp fun A' R s' hS => ?_) ⟨hu, rfl, rfl⟩
  obtain ⟨hu', rfl, rfl⟩ := hS
  unfold Builtin.«dict.pop»
  refine wpAny_bind ?_
  unfold Builtin.Dict.keyAndDefault
  refine wpAny_bind (wpAny_notOrdered_dict hD.typeIs ?_)
  have core : ∀ dflt : Option Value, (dflt = more.head?) → wpAny (model prog w) A'.in1 (do
      let empty ← if (keyPart (.ref a)).isSome then pure false else do pure (← dictEntries d).isEmpty
      let old ← if empty then (do rule "dict.pop.empty"; pure none) else Builtin.Dict.takeOut d (.ref a)
      if old.isNone then Builtin.Dict.missedRemoval d (.ref a)
      match old, dflt with
      | some e, _ => (do letGo [e.key] [e.val]; ret e.val)
      | none, some x => (do rule "dict.pop.default"; ret x)
      | none, none => (do rule "dict.pop.keyerror"; raiseNew (← newExc (.type "KeyError") [.ref a]))) (fun fin s' => ∃ v, fin = .done (.ret v) ∧ wants Q E (.ok (.ret v)) s') (fun e s' => wants Q E (.error e) s') s' := by
    intro dflt hdf
    have miss : atKey xs k = none → ∀ t', wpAny (model prog w) A'.in1 (do
        if (none : Option DictEntry).isNone then Builtin.Dict.missedRemoval d (.ref a)
        match (none : Option DictEntry), dflt with
        | some e, _ => (do letGo [e.key] [e.val]; ret e.val)
        | none, some x => (do rule "dict.pop.default"; ret x)
        | none, none => (do rule "dict.pop.keyerror"; raiseNew (← newExc (.type "KeyError") [.ref a]))) (fun fin s' => ∃ v, fin = .done (.ret v) ∧ wants Q E (.ok (.ret v)) s') (fun e s' => wants Q E (.error e) s') { s' with toks := t' } := by
      intro hno t'
      rcases hmore with ⟨v, rfl⟩ | ⟨_, hy⟩
      · cases hdf
        simp only [Option.isNone_none, if_true]
        refine wpAny_bind (wpAny_missedRemoval_other lo ?_)
        exact wpAny_bind (wpAny_rule (wpAny_pure ⟨v, rfl, hnone v t' hno rfl⟩))
      · rw [hno] at hy; cases hy
    refine wpAny_bind ?_
    obtain ⟨o₂, es, ep, ho₂, hc, hdd, he, his, hn⟩ := id hD
    refine wpAny_dictEntries ho₂ hdd (wpAny_bind (wpAny_pure ?_))
    dsimp only
    by_cases hem : es.isEmpty = true
    · rw [hem]
      simp only [if_true]
      refine wpAny_bind (wpAny_bind (wpAny_rule (wpAny_pure ?_)))
      have : xs = [] := by
        have hs := size_of_entries he
        have : es.size = 0 := by simpa using hem
        exact List.length_eq_zero_iff.mp (by omega)
      subst this
      exact miss rfl s'.toks
    · rw [Bool.not_eq_true] at hem
      rw [hem]
      simp only [Bool.false_eq_true, if_false]
      refine wpAny_bind (takeOut_heap (by show A'.units + 1 < cLine; exact hu') hkey hD hz (fun hno => miss hno _) fun p e hp hev h' hd' hs' => ?_)
      simp only [Option.isNone_some, Bool.false_eq_true, if_false]
      obtain ⟨o', ho', hr', _⟩ := RowsObj.of hd'
      refine wpAny_bind (wpAny_letGo (wpAny_pure ⟨e.val, rfl, ?_⟩))
      rw [hev]
      exact hsome p h' o' _ hp (F.change hs' hm.2.1 hm.2.2) (hg o' ▸ news_set N a1 a2 hs' ho') hr'
  rcases hmore with ⟨v, rfl⟩ | ⟨rfl, hy⟩
  · show wpAny _ _ (pure (d, Value.ref a, some v)) _ _ s'
    exact wpAny_pure (core (some v) rfl)
  · show wpAny _ _ (pure (d, Value.ref a, none)) _ _ s'
    exact wpAny_pure (core none rfl)
end
end Mine
end
section
theorem Mine.off_49 : True := by
  w_top off
  trivial
namespace Mine
section
variable {prog : Program} {w : World} {A : Around} {s : Shared} {mean : ExcName → Option Value} {mg mb : Str → Option Value} {H₀ : Heap} {P : Addr → Prop} {R : Result → Shared → Prop}
/-- the def itself: its body and its scope -/
noncomputable def anewDef : List Stmt × Scope := match PySem.Challenge.pw_sj0176_01.main.body.dropLast.getLast? with
  | some (PySem.Stmt.FunctionDef _ _ body _ _ _ scope _ _ _) => (body, scope)
  | _ => ([], default)
noncomputable abbrev anewE (L : Addr) : Env := envOfC (Str.ofString "_law_anew_right") anewDef.2 L 198 (.ref 197)
noncomputable def anewM (bx bl : Addr) (nw : Int) (tn : Tok) (kept rows routes word one attrs due : Option Value) : Str → Option Value := fun z =>
  if z = Str.ofString "kept" then kept else if z = Str.ofString "rows" then rows else if z = Str.ofString "routes" then routes else if z = Str.ofString "word" then word else if z = Str.ofString "one" then one else if z = Str.ofString "attrs" then attrs
  else if z = Str.ofString "due" then due else if z = Str.ofString "now" then some (.int nw tn) else if z = Str.ofString "books" then some (.ref bl) else if z = Str.ofString "box" then some (.ref bx) else none
theorem fr_m {g h : Heap} {L : Addr} {m m' : Str → Option Value} (F : Fr g L h m) (e : ∀ y, m y = m' y) : Fr g L h m' := (funext e) ▸ F
theorem anewM_kept {bx bl : Addr} {nw : Int} {tn : Tok} {kp ro rt wd on at' du x : Option Value} {z : Str} : (if z = Str.ofString "kept" then x else anewM bx bl nw tn kp ro rt wd on at' du z) = anewM bx bl nw tn x ro rt wd on at' du z := by
  by_cases q : z = Str.ofString "kept"
  · subst q; rfl
  · rw [if_neg q]; unfold anewM; simp only [if_neg q]
theorem anewM_rows {bx bl : Addr} {nw : Int} {tn : Tok} {kp ro rt wd on at' du x : Option Value} {z : Str} : (if z = Str.ofString "rows" then x else anewM bx bl nw tn kp ro rt wd on at' du z) = anewM bx bl nw tn kp x rt wd on at' du z := by
  by_cases q : z = Str.ofString "rows"
  · subst q; rfl
  · rw [if_neg q]; unfold anewM; simp only [if_neg q]
theorem anewM_routes {bx bl : Addr} {nw : Int} {tn : Tok} {kp ro rt wd on at' du x : Option Value} {z : Str} : (if z = Str.ofString "routes" then x else anewM bx bl nw tn kp ro rt wd on at' du z) = anewM bx bl nw tn kp ro x wd on at' du z := by
  by_cases q : z = Str.ofString "routes"
  · subst q; rfl
  · rw [if_neg q]; unfold anewM; simp only [if_neg q]
theorem anewM_word {bx bl : Addr} {nw : Int} {tn : Tok} {kp ro rt wd on at' du x : Option Value} {z : Str} : (if z = Str.ofString "word" then x else anewM bx bl nw tn kp ro rt wd on at' du z) = anewM bx bl nw tn kp ro rt x on at' du z := by
  by_cases q : z = Str.ofString "word"
  · subst q; rfl
  · rw [if_neg q]; unfold anewM; simp only [if_neg q]
theorem anewM_one {bx bl : Addr} {nw : Int} {tn : Tok} {kp ro rt wd on at' du x : Option Value} {z : Str} : (if z = Str.ofString "one" then x else anewM bx bl nw tn kp ro rt wd on at' du z) = anewM bx bl nw tn kp ro rt wd x at' du z := by
  by_cases q : z = Str.ofString "one"
  · subst q; rfl
  · rw [if_neg q]; unfold anewM; simp only [if_neg q]
theorem anewM_attrs {bx bl : Addr} {nw : Int} {tn : Tok} {kp ro rt wd on at' du x : Option Value} {z : Str} : (if z = Str.ofString "attrs" then x else anewM bx bl nw tn kp ro rt wd on at' du z) = anewM bx bl nw tn kp ro rt wd on x du z := by
  by_cases q : z = Str.ofString "attrs"
  · subst q; rfl
  · rw [if_neg q]; unfold anewM; simp only [if_neg q]
theorem anewM_due {bx bl : Addr} {nw : Int} {tn : Tok} {kp ro rt wd on at' du x : Option Value} {z : Str} : (if z = Str.ofString "due" then x else anewM bx bl nw tn kp ro rt wd on at' du z) = anewM bx bl nw tn kp ro rt wd on at' x z := by
  by_cases q : z = Str.ofString "due"
  · subst q; rfl
  · rw [if_neg q]; unfold anewM; simp only [if_neg q]
theorem anewM_0 {bx bl : Addr} {nw : Int} {tn : Tok} {x : Option Value} (y : Str) : (if y = Str.ofString "kept" then x else if y = Str.ofString "now" then some (.int nw tn) else if y = Str.ofString "books" then some (.ref bl) else if y = Str.ofString "box" then some (.ref bx) else none) = anewM bx bl nw tn x none none none none none none y := by
  unfold anewM
  by_cases q1 : y = Str.ofString "rows"
  · subst q1; rfl
  by_cases q2 : y = Str.ofString "routes"
  · subst q2; rfl
  by_cases q3 : y = Str.ofString "word"
  · subst q3; rfl
  by_cases q4 : y = Str.ofString "one"
  · subst q4; rfl
  by_cases q5 : y = Str.ofString "attrs"
  · subst q5; rfl
  by_cases q6 : y = Str.ofString "due"
  · subst q6; rfl
  simp only [if_neg q1, if_neg q2, if_neg q3, if_neg q4, if_neg q5, if_neg q6]
theorem staleV_put {V : List Cr} (h : staleV V = []) (i : Nat) (v : Int) : staleV (putV V i v) = [] := by
  have := putS_i V i v
  have e : staleV (dropV V i) = [] := by
    show List.filter _ (List.filter _ V) = []
    rw [filter_swap, show V.filter (fun c => c.2.2) = [] from h]; rfl
  rw [e] at this
  simpa using this
theorem ids_eqs {S S' : St} (e : S'.ids = S.ids) : S'.w0.b = S.w0.b ∧ S'.k.b = S.k.b := by
  injection e with a b
  injection b with _ b
  injection b with _ b
  injection b with c _
  exact ⟨by injection a, by injection c⟩
theorem news_front {g h : Heap} {L : Addr} {S : St} {l hl : List (Addr × Obj)} (N : News g L h (l ++ S.core w hl)) : News g L h ((S.w0.b, instObj 85 S.w0.db) :: (S.w0.db, dictOf (bkD w S.w0.t1 S.w0.t2 S.w0.r S.w0.u) S.w0.n) :: (S.w0.r, S.w0.o) :: (S.k.b, instObj 142 S.k.db) :: (S.k.db, dictOf (akD w S.k.t0 S.k.t1 S.k.t2 S.k.t3 S.k.rt S.k.sl) S.k.n) :: (S.k.rt, S.k.ro) :: (S.k.sl, S.k.so) :: (l ++ S.core w hl)) := by
  have r : ∀ p ∈ S.core w hl, h.get? p.1 = some p.2 ∧ p.1 ≠ L ∧ g.get? p.1 = none := fun p hp => N p (List.mem_append_right _ hp)
  exact all2 (r _ (.head _)) (all2 (r _ (.tail _ (.head _))) (all2 (r _ (.tail _ (.tail _ (.head _)))) (all2 (r _ (.tail _ (.tail _ (.tail _ (.tail _ (.tail _ (.tail _ (.tail _ (.tail _ (.tail _ (.head _))))))))))) (all2 (r _ (.tail _ (.tail _ (.tail _ (.tail _ (.tail _ (.tail _ (.tail _ (.tail _ (.tail _ (.tail _ (.head _)))))))))))) (all2 (r _ (.tail _ (.tail _ (.tail _ (.tail _ (.tail _ (.tail _ (.tail _ (.tail _ (.tail _ (.tail _ (.tail _ (.head _))))))))))))) (all2 (r _ (.tail _ (.tail _ (.tail _ (.tail _ (.tail _ (.tail _ (.tail _ (.tail _ (.tail _ (.tail _ (.tail _ (.tail _ (.head _)))))))))))))) N))))))
end
end Mine
end
section
theorem Mine.off_49j : True := by
  w_top off
  trivial
namespace Mine
noncomputable def flagV (V : List Cr) (f : Nat → Bool) : List Cr := V.map fun c => (c.1, c.2.1, f c.1)
section
variable {V : List Cr} {f : Nat → Bool} {lX Xs : List Row}
theorem flag_fst (V : List Cr) (f : Nat → Bool) : (flagV V f).map (·.1) = V.map (·.1) := by unfold flagV; rw [List.map_map]; rfl
theorem flag_iv (V : List Cr) (f : Nat → Bool) : (flagV V f).map Cr.iv = V.map Cr.iv := by unfold flagV; rw [List.map_map]; rfl
theorem flag_congr {f' : Nat → Bool} (h : ∀ c ∈ V, f c.1 = f' c.1) : flagV V f = flagV V f' := List.map_congr_left fun c hc => by rw [h c hc]
theorem flag_mark (h : staleV V = []) : markV V = flagV V fun _ => true := by
  have e : keptV V = V := List.filter_eq_self.mpr fun c hc => by
    have := List.filter_eq_nil_iff.mp h c hc
    simpa using this
  unfold markV flagV
  rw [e]
theorem find_nodup {V : List Cr} {c : Cr} (hn : (V.map (·.1)).Nodup) (hc : c ∈ V) : findV V c.1 = some c := by
  cases h : findV V c.1 with
  | none => exact absurd (List.find?_eq_none.mp h c hc) (by simp)
  | some d =>
    have hd := List.mem_of_find?_eq_some h
    have e : d.1 = c.1 := by have := List.find?_some (p := fun c' : Cr => c'.1 == c.1) h; exact beq_iff_eq.mp this
    rw [nodup_fst hn hd hc e]
theorem flag_find {c : Cr} (hn : (V.map (·.1)).Nodup) (hc : c ∈ V) : (findV (flagV V f) c.1).map (·.2.1) = some c.2.1 := by
  have h := find_nodup (V := flagV V f) (c := (c.1, c.2.1, f c.1)) (by rw [flag_fst]; exact hn) (List.mem_map.mpr ⟨c, hc, rfl⟩)
  rw [show findV (flagV V f) c.1 = _ from h]; rfl
theorem flag_put {c : Cr} (hn : (V.map (·.1)).Nodup) (hc : c ∈ V) : putV (flagV V f) c.1 c.2.1 = flagV V fun k => if k = c.1 then false else f k := by
  have h := find_nodup (V := flagV V f) (c := (c.1, c.2.1, f c.1)) (by rw [flag_fst]; exact hn) (List.mem_map.mpr ⟨c, hc, rfl⟩)
  unfold putV
  rw [show findV (flagV V f) c.1 = _ from h, Option.isSome_some, if_pos rfl]
  unfold flagV
  rw [List.map_map]
  refine List.map_congr_left fun d hd => ?_
  show (if d.1 = c.1 then (c.1, c.2.1, false) else (d.1, d.2.1, f d.1)) = (d.1, d.2.1, if d.1 = c.1 then false else f d.1)
  by_cases q : d.1 = c.1
  · rw [if_pos q, if_pos q, nodup_fst hn hd hc q]
  · rw [if_neg q, if_neg q]
/-- stale at turn i of the rows backwards: not told again yet, or left out -/
noncomputable def stAt (Xs lX : List Row) (i : Nat) (k : Nat) : Bool := (!((Xs.reverse.take i).any fun x => x.i == k)) || lX.any fun y => y.i == k
theorem st_zero : stAt Xs lX 0 = fun _ => true := funext fun k => by simp [stAt]
theorem st_in {i : Nat} {x : Row} (hx : Xs.reverse[i]? = some x) (h : (lX.any fun y => y.i == x.i) = true) : stAt Xs lX (i + 1) = stAt Xs lX i := funext fun k => by
  unfold stAt
  rw [List.take_add_one, hx, Option.toList_some, List.any_append, List.any_cons, List.any_nil, Bool.or_false]
  by_cases q : x.i = k
  · rw [← q, h]; simp
  · have : (x.i == k) = false := beq_eq_false_iff_ne.mpr q
    rw [this, Bool.or_false]
theorem st_out {i : Nat} {x : Row} (hx : Xs.reverse[i]? = some x) (h : (lX.any fun y => y.i == x.i) = false) : stAt Xs lX (i + 1) = fun k => if k = x.i then false else stAt Xs lX i k := funext fun k => by
  unfold stAt
  rw [List.take_add_one, hx, Option.toList_some, List.any_append, List.any_cons, List.any_nil, Bool.or_false]
  by_cases q : x.i = k
  · rw [← q, h, if_pos rfl]; simp
  · have : (x.i == k) = false := beq_eq_false_iff_ne.mpr q
    rw [this, Bool.or_false, if_neg (Ne.symm q)]
theorem st_end (hVX : ∀ c ∈ V, ∃ x ∈ Xs, x.i = c.1) : flagV V (stAt Xs lX Xs.length) = flagV V fun k => lX.any fun y => y.i == k := flag_congr fun c hc => by
  obtain ⟨x, hx, e⟩ := hVX c hc
  have e1 : (Xs.reverse.take Xs.length) = Xs.reverse := List.take_of_length_le (by rw [List.length_reverse]; exact Nat.le_refl _)
  have e2 : (Xs.reverse.any fun x => x.i == c.1) = true := List.any_eq_true.mpr ⟨x, List.mem_reverse.mpr hx, beq_iff_eq.mpr e⟩
  unfold stAt
  rw [e1, e2]; rfl
theorem flag_stale (V : List Cr) (f : Nat → Bool) : (staleV (flagV V f)).map (·.1) = (V.map (·.1)).filter f := by
  show List.map _ (List.filter _ (List.map _ V)) = _
  rw [List.filter_map, List.filter_map, List.map_map]; rfl
theorem filter_one : ∀ {W : List Nat} {x : Nat}, W.Nodup → x ∈ W → W.filter (fun k => x == k) = [x]
  | [], _, _, h => nomatch h
  | w :: W, x, hn, hx => by
    rw [List.nodup_cons] at hn
    rw [List.filter_cons]
    by_cases q : x = w
    · have : (x == w) = true := beq_iff_eq.mpr q
      rw [if_pos this, ← q]
      congr 1
      refine List.filter_eq_nil_iff.mpr fun k hk e => ?_
      exact hn.1 (by rw [← q, beq_iff_eq.mp e]; exact hk)
    · have : ¬ (x == w) = true := fun e => q (beq_iff_eq.mp e)
      rw [if_neg this]
      rcases List.mem_cons.mp hx with e | hx
      · exact absurd e q
      · exact filter_one hn.2 hx
theorem left_sort (hn : (V.map (·.1)).Nodup) (h1 : lX.length ≤ 1) (hm : ∀ y ∈ lX, y.i ∈ V.map (·.1)) (h4 : ∀ y ∈ lX, y.i < 4) : (sortBy (·.1) (staleV (flagV V fun k => lX.any fun y => y.i == k))).map (·.1) = lX.map (·.i) := by
  have e1 := sortBy_map (fun i : Nat => i) (fun c : Cr => c.1) (staleV (flagV V fun k => lX.any fun y => y.i == k))
  rw [← e1, flag_stale]
  rcases le_one h1 with rfl | ⟨y, rfl⟩
  · have : (V.map (·.1)).filter (fun k => ([] : List Row).any fun y => y.i == k) = [] := List.filter_eq_nil_iff.mpr fun k _ => by simp
    rw [this]; rfl
  · have : (V.map (·.1)).filter (fun k => [y].any fun y => y.i == k) = [y.i] := by
      rw [← filter_one hn (hm y (.head _))]
      exact List.filter_congr fun k _ => by simp
    rw [this, sortBy_small (xs := [y.i]) (show 1 < 2 from Nat.lt_succ_self 1) (fun x hx => by rw [List.mem_singleton.mp hx]; exact h4 y (.head _))]; rfl
theorem left_rs {rs ss : List Row} (hr : rs.map Row.iv = V.map Cr.iv) (hs : ss.map (·.i) = (staleV (flagV V fun k => lX.any fun y => y.i == k)).map (·.1)) : leftR rs ss = rs.filter fun x => !(lX.any fun y => y.i == x.i) := by
  rw [flag_stale] at hs
  unfold leftR
  refine List.filter_congr fun x hx => ?_
  congr 1
  have hxV : x.i ∈ V.map (·.1) := by
    have : x.i ∈ rs.map (·.i) := List.mem_map_of_mem (f := fun x : Row => x.i) hx
    rw [map_fst_iv, hr, ← map_fst_civ] at this; exact this
  have e : (ss.any fun y => y.i == x.i) = ((ss.map (·.i)).any fun k => k == x.i) := by rw [List.any_map]; rfl
  rw [e, hs, Bool.eq_iff_iff, List.any_eq_true]
  constructor
  · rintro ⟨k, hk, q⟩
    have := (List.mem_filter.mp hk).2
    rw [beq_iff_eq.mp q] at this; exact this
  · intro q
    exact ⟨x.i, List.mem_filter.mpr ⟨hxV, q⟩, beq_self_eq_true _⟩
theorem flag_kept (V : List Cr) (f : Nat → Bool) : keptV (flagV V f) = (V.filter fun c => !f c.1).map fun c => (c.1, c.2.1, false) := by
  unfold keptV flagV
  rw [List.filter_map]
  refine List.map_congr_left fun c hc => ?_
  have := (List.mem_filter.mp hc).2
  have : f c.1 = false := by simpa using this
  rw [this]
end
section
variable {prog : Program} {w : World} {A : Around}
theorem notIn_lX {s : Shared} {A : Around} {E : Value → Shared → Prop} {Q : Value → Shared → Prop} {lX : List Row} {x : Row} {Dl : Addr} {c : Nat} (h1 : lX.length ≤ 1) (hl : s.heap.get? Dl = some (W.listOf (keysR lX).toArray c)) (hlk : ∀ y ∈ lX, KeyAt prog w s.heap (Pk y.i) y.k) (hk : KeyAt prog w s.heap (Pk x.i) x.k) (hu : A.units + 1 < 9900) (h : Q (.bool (!(lX.any fun y => y.i == x.i))) s) :
    wpAny (model prog w) A (compareOp .NotIn (.ref x.k) (.ref Dl)) Q E s := by
  rcases le_one h1 with rfl | ⟨y, rfl⟩
  · exact notIn_none ⟨_, hl, rfl, _, rfl⟩ h
  · refine notIn_one ⟨_, hl, rfl, _, rfl⟩ (hlk y (.head _)) hk hu ?_
    have e : ([y].any fun y => y.i == x.i) = decide (y.i = x.i) := by
      rw [List.any_cons, List.any_nil, Bool.or_false]
      by_cases q : y.i = x.i
      · rw [decide_eq_true q, q]; exact beq_self_eq_true _
      · rw [decide_eq_false q]; exact beq_eq_false_iff_ne.mpr q
    rw [e] at h; exact h
theorem turn_one {env : Env} {elt c : Expr} {E' : Value → Shared → Prop} {K : Option Value → Shared → Prop} {s₃ : Shared} (h : wpAny (model prog w) A (PySem.isTrue c env (eval c env)) (fun ok s₄ => if ok = true then wpAny (model prog w) A (eval elt env) (fun y s₅ => K (some y) s₅) E' s₄ else K none s₄) E' s₃) : TurnOf prog w A env [c] elt E' K s₃ := wpAny_tests_one h
end
section
variable {S : St} {V : List Cr} {ou : Option Int}
theorem ss_nil (p : Pure S V ou) (hV : staleV V = []) : S.k.ss = [] := by
  have := p.cs
  rw [hV] at this
  exact List.map_eq_nil_iff.mp this
end
end Mine
end
section
local macro_rules | `(tactic| walk_at "call builtin:dict.items") => `(tactic| k_extra "own h")
local macro_rules | `(tactic| walk_at "call type:list") => `(tactic| k_extra "own h")
local macro_rules | `(tactic| walk_at "call type:dict") => `(tactic| k_extra "own h")
local macro_rules | `(tactic| walk_at "call builtin:sorted") => `(tactic| k_extra "own 27")
local macro_rules | `(tactic| walk_at "call type:enumerate") => `(tactic| k_extra "own h")
local macro_rules | `(tactic| walk_at "getMethod ref") => `(tactic| k_extra "own 29")
local macro_rules | `(tactic| walk_at "assign Tuple") => `(tactic| (k_extra "own 25"; intro h' F' N'; (try k_sweep)))
local macro_rules | `(tactic| walk_at "storeName") => `(tactic| k_extra "own 30")
local macro_rules | `(tactic| walk_at "call builtin:len") => `(tactic| k_extra "own 27")
section
theorem Mine.off_49n : True := by
  w_top off
  trivial
local macro_rules | `(tactic| walk_at "execs cons") => `(tactic| k_extra "own 31")
namespace Mine
structure AnewCx (w : World) (mean : ExcName → Option Value) (mg mb : Str → Option Value) (H₀ g : Heap) (A : Around) (bx bl cb : Nat) (ids : List Value) : Prop where
  B : Bs w mean mg mb H₀
  SG : H₀.StaysIn g
  X : (hd.heap_39 w.params).In g
  T : Top hd.view_39 (looseW hd.view_39 []) mean mg mb g
  hA : A.depth + 7 ≤ 900
  hU : A.units + 70 ≤ 9000
  hh : A.handled = none
  gbl : g.get? bl = some (W.listOf ids.toArray cb)
  hb1 : 1 < bx
structure RowsK (prog : Program) (w : World) (H₀ g : Heap) (L : Addr) (el : List (Addr × Obj)) (ys : List Value) (Xs Rs : List Row) : Prop where
  at' : ∀ h m, Fr g L h m → (∀ p ∈ el, h.get? p.1 = some p.2) → (∀ x ∈ Xs, KeyAt prog w h (Pk x.i) x.k ∧ IsMed prog w h x.a x.v) ∧ PairsAt h ys (Xs.map fun x => (.ref x.k, .ref x.a))
  ph : ∀ x ∈ Xs, PH H₀ x.k ∧ PH H₀ x.a
  rk : ∀ h m, Fr g L h m → (∀ p ∈ el, h.get? p.1 = some p.2) → ∀ x ∈ Rs, KeyAt prog w h (Pk x.i) x.k
  cls : ∀ p ∈ el, p.2.cls = .type "tuple" ∨ p.2.cls = .type "dict"
section
theorem HardAt.no_cell {prog : Program} {w : World} {h : Heap} {a : Addr} {o : Obj} {v : Option Value} (x : HardAt prog w h a) (e : h.get? a = some o) (hd : o.data = .cell v) : False := by
  rcases x with ⟨o₁, vs, n, e1, _, e2⟩ | ⟨v', o₁, t, e1, y⟩
  · rw [e] at e1; cases e1; rw [hd] at e2; cases e2
  · rw [e] at e1; cases e1
    obtain ⟨es, ep, _, hd₁, _⟩ := y
    rw [hd] at hd₁; cases hd₁
variable {prog : Program} {w : World} {A : Around} {s : Shared} {mean : ExcName → Option Value} {mg mb : Str → Option Value} {H₀ g : Heap} {L : Nat} {Q : Flow → Shared → Prop} {S : St} {hl : List (Addr × Obj)} {V : List Cr} {ou : Option Int}
theorem anewB {bx bl sc cb cx c1 b0 b3 : Nat} {ids : List Value} {nw sp : Int} {tn t₀ : Tok} {vs : List Value} {ns : List Int} {ow ol os : Obj} {vos : Option Value} (K : AnewCx w mean mg mb H₀ g A bx bl cb ids)
    (Z : Later prog w (PH H₀) g L S hl) (p : Pure S V ou) (hV : staleV V = []) (e0 : S.w0.b = b0) (e3 : S.k.b = b3) (hids : S.ids = ids) (dw : ow.data = .cell (some (.ref b0))) (ds : os.data = .cell vos) (dl : ol.data = .cell none)
    (sep : ∀ p ∈ [(L + 1, ow), (L + 1 + 1 + 1, ol), (L + 1 + 1, os), (bx, W.listOf #[.ref sc, .int sp t₀] cx)], p.1 ∉ S.mut) (hs : g.get? sc = some (W.listOf vs.toArray c1)) (hv : IntsAre vs ns) (hbs : @Ne Nat bx sc) (h0 : 0 ≤ sp) (h1 : sp ≤ 900) (hz : vs.length ≤ 1000) (lbx : bx < L)
    (F : Fr g L s.heap (anewM bx bl nw tn (some (.ref b3)) none none none none none none))
    (N : News g L s.heap ((L + 1, ow) :: (L + 1 + 1 + 1, ol) :: (L + 1 + 1, os) :: (bx, W.listOf #[.ref sc, .int sp t₀] cx) :: S.core w hl))
    (hQ : ∀ h' tk hl' (D Dr : Nat) ys ord el os' r t, Fr g L h' (anewM bx bl nw tn (some (.ref b3)) (some (.ref D)) (some (.ref Dr)) none none none none) →
      News g L h' ((D, lsA ys) :: (Dr, ord) :: (L + 1, ow) :: (L + 1 + 1 + 1, ol) :: (L + 1 + 1, os') :: (el ++ S.core w hl')) → Later prog w (PH H₀) g L S hl' → RowsK prog w H₀ g L el ys (sortBy (·.i) S.w0.xs) S.k.rs → RowsObj prog w ord (S.k.rs.map Row.ent) → 1 < Dr → os'.data = .cell (some (.int r t)) → 0 ≤ r → r < (S.w0.xs.length : Int) + 1 →
      (∀ p ∈ (D, lsA ys) :: (Dr, ord) :: (L + 1, ow) :: (L + 1 + 1 + 1, ol) :: (L + 1 + 1, os') :: el, p.1 ∉ S.mut) → (∀ p ∈ (D, lsA ys) :: (Dr, ord) :: (L + 1, ow) :: (L + 1 + 1, os') :: el, p.1 ≠ L + 1 + 1 + 1) → (∀ p ∈ (D, lsA ys) :: (L + 1, ow) :: (L + 1 + 1 + 1, ol) :: el, p.1 ≠ Dr) →
      wpAny (model prog w) (A.deeper (anewE L)) (execs (anewDef.1.drop 4) (anewE L)) Q (fun _ _ => False) { s with heap := h', toks := tk }) :
    wpAny (model prog w) (A.deeper (anewE L)) (execs (anewDef.1.drop 2) (anewE L)) Q (fun _ _ => False) s := by
  obtain ⟨B, SG, X, T, hA, hU, hh, gbl, hb1⟩ := K
  have CT : ∀ {h' : Heap} {k : Nat} {m : Str → Option Value} {env : Env}, k ≤ 6 → Fr g L h' m → Cx w mean mg mb H₀ (PH H₀) (A.deeper env) h' k := fun hk F => Cx.dp (n := 7) B SG (by omega) (by omega) hh (Nat.succ_le_succ hk) F
  have hH : (A.deeper (envOf "" default 0 0 .none)).handled = none := hh
  conv in (List.drop _ _) => whnf
  have A4 := Z.at (l' := (L + 1, ow) :: (L + 1 + 1 + 1, ol) :: (L + 1 + 1, os) :: (bx, _) :: []) F N
  replace N := news_front (l := (L + 1, ow) :: (L + 1 + 1 + 1, ol) :: (L + 1 + 1, os) :: (bx, _) :: []) N
  rw [e0, e3] at N
  have ndl := A4.a0.bk.nodup
  have sml := A4.a0.bk.small
  have lenx : S.w0.xs.length ≤ 4 := A4.a0.bk.len
  obtain ⟨Xs, hXs⟩ : ∃ Xs, Xs = sortBy (·.i) S.w0.xs := ⟨_, rfl⟩
  have pX : Xs.Perm S.w0.xs := hXs ▸ sortBy_perm sml
  k_steps
  refine' comp_start ?hclos ?hkind ?hnames ?hsrc ?hfold
  case hclos => exact rfl
  case hfold => intro _; rfl
  case hkind => exact rfl
  case hnames => decide
  k_steps
  (with_reducible rename Fr _ _ _ _ => F)
  (with_reducible rename News _ _ _ _ => N)
  unfold Halt
  refine' sorted_DN (xs := S.w0.xs.map Row.ent) (ks := S.w0.xs.map fun x : Row => (x.i, x.k)) hH F N (N _ (.tail _ (.tail _ (.head _)))).1 (low_of A4.a0.bk.p.2.2.2) A4.a0.ro ?sx ?sk ?ss ?s4 ?st
  case sx => rw [List.map_map, List.map_map]; rfl
  case sk =>
    intro h' F' N' x hx
    obtain ⟨y, hy, rfl⟩ := List.mem_map.mp hx
    exact (Z.at (l' := [_, _, _, _, _, _, _, _, _, _, _]) F' N').a0.bk.keys y hy
  case ss => intro x hx; obtain ⟨y, hy, rfl⟩ := List.mem_map.mp hx; exact sml y hy
  case s4 => rw [List.length_map]; exact lenx
  case st =>
    clear F N
    intro D1 c1' h2 t2 F N _
    rw [refs_keys, ← hXs] at N
    k_steps
    have A2 := Z.at (l' := [_, _, _, _, _, _, _, _, _, _, _, _]) F N
    have F0 := F
    have Xc := X.keeps F.keep
    have Tc := T.keeps F.keep
    have nW : h2.get? (L + 1) = some ow := News.get N (by k_mem)
    have nBX : h2.get? bx = some _ := News.get N (by k_mem)
    have nS2 : h2.get? (L + 1 + 1) = some os := News.get N (by k_mem)
    have nS3 : h2.get? (L + 1 + 1 + 1) = some ol := News.get N (by k_mem)
    have ii0 : h2.get? b0 = some (instObj 85 S.w0.db) := News.get N (by k_mem)
    have jj0 : h2.get? S.w0.db = some (dictOf (bkD w S.w0.t1 S.w0.t2 S.w0.r S.w0.u) S.w0.n) := News.get N (by k_mem)
    have rr0 : h2.get? S.w0.r = some S.w0.o := News.get N (by k_mem)
    have ro0 : RowsObj prog w S.w0.o (S.w0.xs.map Row.ent) := A4.a0.ro
    have hks0 : ∀ x ∈ S.w0.xs.map Row.ent, KeyAt prog w h2 x.1 x.2.1 := fun x hx => by obtain ⟨y, hy, rfl⟩ := List.mem_map.mp hx; exact A2.a0.bk.keys y hy
    have hLl : (keysR Xs).length ≤ 1000 := by rw [List.length_map, pX.length_eq]; omega
    refine' comp_list (l := D1) (vs := keysR Xs) (fun C D I i ys h => ∃ tl : List (Addr × Obj), (∀ p ∈ tl, h.get? p.1 = some p.2 ∧ p.1 ≠ C ∧ p.1 ≠ D ∧ p.1 ≠ I ∧ h2.get? p.1 = none) ∧ (∀ p ∈ tl, p.2.cls = .type "tuple") ∧ ys.length = i ∧ ∀ (j : Nat) (y : Value) (x : Row), ys[j]? = some y → Xs[j]? = some x → ∃ p n, y = .ref p ∧ (p, ({ cls := .type "tuple", data := .seq #[.ref x.k, .ref x.a] n } : Obj)) ∈ tl)
      ?J0 ?Jk hH F N ?hcell ?hkind ?hx ⟨_, (N _ (.head _)).1, rfl, _, rfl⟩ hLl ?body ?rest
    case J0 => exact fun C D I h => ⟨[], (fun _ h => nomatch h), (fun _ h => nomatch h), rfl, fun j y x e => by simp at e⟩
    case Jk =>
      intro C D I i ys h h' ⟨tl, f, c, e, r⟩ k
      exact ⟨tl, fun p hp => ⟨k _ _ (f p hp).2.1 (f p hp).2.2.1 (f p hp).2.2.2.1 (f p hp).1, (f p hp).2⟩, c, e, r⟩
    case hkind => exact rfl
    case hcell => decide
    case hx => exact rfl
    case body =>
      intro Cf D I' i v ys s₃ m₃ E' K hv hi hm F₃ al frs hne hj hk
      refine turn_nil ?_
      obtain ⟨tl, ft, ct, ey, fy⟩ := hj
      obtain ⟨oD, oI, N₃⟩ := comp_led al frs hne
      rw [List.getElem?_map] at hv
      obtain ⟨x, hx, rfl⟩ := Option.map_eq_some_iff.mp hv
      have hxm := pX.mem_iff.mp (List.mem_of_getElem? hx)
      have hkx : KeyAt prog w h2 (Pk x.i) x.k := A2.a0.bk.keys x hxm
      have hpx : atKey (S.w0.xs.map Row.ent) (Pk x.i) = some (x.k, .ref x.l) := by rw [atKey_ent, findR_of ndl hxm]; rfl
      have hrow : h2.get? x.l = some (W.listOf #[.ref x.a, .bool x.st] 0) := A2.a0.bk.row x hxm
      have N₄ : News h2 Cf s₃.heap ((D, oD) :: (I', oI) :: tl) := fun p hp => by
        rcases List.mem_append.mp (show p ∈ [(D, oD), (I', oI)] ++ tl from hp) with hp | hp
        · exact N₃ p hp
        · exact ⟨(ft p hp).1, (ft p hp).2.1, (ft p hp).2.2.2.2⟩
      clear F N N₃
      k_steps
      (with_reducible rename Fr _ _ _ _ => F₄)
      (with_reducible rename News _ _ _ _ => N₅)
      (with_reducible rename _ ∧ _ => l2)
      have n1 := (N₅ _ (.head _)).1
      have nC := (N₅ _ (.head _)).2.1
      have n0 := (N₅ _ (.head _)).2.2
      have n2 := (N₅ _ (.tail _ (.head _))).1
      have n3 := (N₅ _ (.tail _ (.tail _ (.head _)))).1
      have M3 := all_drop (all_drop (all_drop N₅))
      refine hk (some _) _ _ F₄ (n2.trans (N₄ _ (.head _)).1.symm) (n3.trans (N₄ _ (.tail _ (.head _))).1.symm) ⟨_ :: tl, List.forall_mem_cons.mpr ⟨⟨n1, nC, Ne.symm (Nat.ne_of_lt l2.1), Ne.symm (Nat.ne_of_lt l2.2.1), n0⟩, fun p hp => ⟨(M3 p hp).1, (ft p hp).2⟩⟩, List.forall_mem_cons.mpr ⟨rfl, ct⟩, ?_, fun j y x' e1 e2 => ?_⟩
      · simp [ey]
      · rw [Option.toList_some] at e1
        revert j y x'
        refine ext1 ey hx (fun j y x' e1 e2 => ?_) ?_
        · obtain ⟨p, n, e, m⟩ := fy j y x' e1 e2
          exact ⟨p, n, e, .tail _ m⟩
        · exact ⟨_, _, rfl, .head _⟩
    case rest =>
      clear F N
      intro Cc D2 I' ys h3 t3 F N hD2 k3 ⟨tl, ft, ct, ey, fy⟩
      have roK : RowsObj prog w S.k.ro (S.k.rs.map Row.ent) := A4.ak.ro
      have A3 := Z.at (l' := [_, _, _, _, _, _, _, _, _, _, _, _, _]) F N
      obtain ⟨hl2, N2, Z2, hc2, hh2, cov2⟩ := A3.recoverC F Z.1 (Z.out (l := [_, _, _, _, _, _, _, _, _, _, _, _, _]) F N)
      have ftl : ∀ p ∈ tl, h3.get? p.1 = some p.2 ∧ p.1 ≠ L ∧ g.get? p.1 = none := fun p hp => ⟨(ft p hp).1, none_L F0 (ft p hp).2.2.2.2, none_base F0 (ft p hp).2.2.2.2⟩
      have hRK : RowsK prog w H₀ g L (tl ++ hl2) ys Xs S.k.rs := by
        have same : ∀ {h m}, Fr g L h m → (∀ p ∈ tl ++ hl2, h.get? p.1 = some p.2) → ∀ a ∈ S.hard, ∀ o, h3.get? a = some o → h.get? a = some o := fun {h m} F' he a ha o e => by
          rcases cov2 a ha with ⟨o', e'⟩ | ⟨o', e'⟩
          · have := F.keep a o' e'
            rw [e] at this; cases this
            exact F'.keep a o e'
          · have := (hh2 _ e').2
            rw [e] at this; cases this
            exact he _ (List.mem_append_right _ e')
        refine ⟨fun h m F' he => ?_, fun x hx => ?_, fun h m F' he x hx => (A3.ak.kp.keys x hx).keep (same F' he _ (List.mem_append_right _ (List.mem_append_right _ (List.mem_append_right _ (List.mem_append_left _ (List.mem_map_of_mem hx)))))), fun p hp => (List.mem_append.mp hp).elim (fun hp => .inl (ct p hp)) (hc2 p)⟩
        · have same := fun a ha o e => same F' he a ha o e
          refine ⟨fun x hx => ?_, ?_, fun j v q e1 e2 => ?_⟩
          · have hxm := pX.mem_iff.mp hx
            exact ⟨(A3.a0.bk.keys x hxm).keep (same _ (List.mem_append_left _ (List.mem_append_left _ (List.mem_map_of_mem hxm)))), (A3.a0.bk.med x hxm).keep (same _ (List.mem_append_left _ (List.mem_append_right _ (List.mem_map_of_mem hxm))))⟩
          · rw [ey, List.length_map, List.length_map]
          · rw [List.getElem?_map] at e2
            obtain ⟨x, hx, rfl⟩ := Option.map_eq_some_iff.mp e2
            obtain ⟨p, n, e, mm⟩ := fy j v x e1 hx
            exact ⟨p, e, _, he _ (List.mem_append_left _ mm), rfl, n, rfl⟩
        · have := A3.a0.bk.pl x (pX.mem_iff.mp hx)
          exact ⟨this.2.1, this.2.2⟩
      have sepe : ∀ p ∈ tl ++ hl2, p.1 ∉ S.mut := fun p hp q => by
        rcases List.mem_append.mp hp with hp | hp
        · obtain ⟨o, e⟩ := A2.there _ q
          rw [(ft p hp).2.2.2.2] at e; cases e
        · exact A3.hard_ne (A3.hards _ (hh2 p hp).1) q
      have nD2 : ∀ {c : Addr} {oc : Obj}, h2.get? c = some oc → D2 ≠ c := fun e q => by rw [← q, hD2] at e; cases e
      have nD2s := nD2 nS2
      have nD2l := nD2 nS3
      have nD2b : D2 ≠ bx := nD2 nBX
      clear nD2
      have sepD2 : D2 ∉ S.mut := fun q => by
        obtain ⟨o, e⟩ := A2.there _ q
        rw [hD2] at e; cases e
      have nbx : ∀ p ∈ tl ++ hl2, p.1 ≠ bx := fun p hp => ne_obj (show h3.get? p.1 = some p.2 from (List.mem_append.mp hp).elim (fun hp => (ftl p hp).1) fun hp => (hh2 p hp).2) (News.get N (by k_mem)) (by
        rcases (List.mem_append.mp hp).elim (fun hp => Or.inl (ct p hp)) (hc2 p) with q | q <;> rw [q] <;> show _ ≠ Value.type "list" <;> decide)
      have ncell : ∀ {c : Addr} {oc : Obj} {v : Option Value}, h2.get? c = some oc → h3.get? c = some oc → oc.data = .cell v → ∀ p ∈ tl ++ hl2, p.1 ≠ c := fun {c oc v} e2 e3 hd p hp q => by
        subst q
        rcases List.mem_append.mp hp with hp | hp
        · rw [(ft p hp).2.2.2.2] at e2; cases e2
        · exact (A3.hards _ (hh2 p hp).1).no_cell e3 hd
      have nspot := ncell nS2 (News.get N (by k_mem)) ds
      have nleft := ncell nS3 (News.get N (by k_mem)) dl
      replace N : News g L h3 (_ :: _ :: _ :: _ :: _ :: _ :: _ :: _ :: _ :: _ :: _ :: _ :: _ :: ((tl ++ hl2) ++ S.core w hl2)) := fun p hp => by
        rcases List.mem_append.mp (show p ∈ [_, _, _, _, _, _, _, _, _, _, _, _, _] ++ ((tl ++ hl2) ++ S.core w hl2) from hp) with hp | hp
        · exact N p (List.mem_append_left (S.core w hl) hp)
        · rcases List.mem_append.mp hp with hp | hp
          · rcases List.mem_append.mp hp with hp | hp
            · exact ftl p hp
            · exact N2 p (S.core_tail hp)
          · exact N2 p hp
      generalize tl ++ hl2 = el at hRK sepe nbx nspot nleft N
      clear Z N2 hc2 hh2 cov2 ftl ft ct fy A3 ncell
      k_steps
      unfold Halt
      refine' items_view F N (News.get N (by k_mem)) roK (low_of A4.ak.kp.p.2.2.1.2) ?iv
      case iv =>
        clear F N
        intro Dv h4 F N _
        k_steps
        unfold Halt
        refine' items_listN hH F N (N _ (.head _)).1 (News.get N (by k_mem)) roK (by rw [List.length_map]; have := A4.ak.kp.len; omega) ?il
        case il =>
          clear F N
          intro Dl cl as h5 t5 F N _ k5 las has
          k_steps
          unfold Halt
          have A5 := Z2.at (l' := _ :: _ :: _ :: _ :: _ :: _ :: _ :: _ :: _ :: _ :: _ :: _ :: _ :: _ :: _ :: el) F N
          refine' dict_pairs (es := S.k.rs.map fun x => (x.i, x.k, Value.ref x.l)) hH ?du F N ?d1 (N _ (.head _)).1 ?dz ?dn ?dv ?dp ?dr
          case du => show _ < 9900; simp only [Around.deeper_units]; k_extra "own a"
          case d1 => exact Nat.lt_trans (Nat.lt_trans hb1 lbx) F.ns.lt
          case dz => rw [List.length_map]; have := A4.ak.kp.len; omega
          case dn => rw [List.map_map]; exact A4.ak.kp.nodup
          case dv => rw [List.length_map, List.length_map, las, List.length_map]
          case dp =>
            intro j v e e1 e2
            rw [List.getElem?_map] at e1 e2
            obtain ⟨a, ha, rfl⟩ := Option.map_eq_some_iff.mp e1
            obtain ⟨x, hx, rfl⟩ := Option.map_eq_some_iff.mp e2
            obtain ⟨_, x', hx', et⟩ := has j a ha
            rw [List.getElem?_map, hx] at hx'
            cases hx'
            exact ⟨a, _, rfl, et, A5.ak.kp.keys x (List.mem_of_getElem? hx)⟩
          case dr =>
            clear F N
            intro Dr ord h6 t6 F N hord lor nDr k6 neD
            have sepDr : Dr ∉ S.mut := fun q => by
              obtain ⟨o, e⟩ := A5.there _ q
              have nDr' : h5.get? Dr = none := nDr
              rw [nDr'] at e; cases e
            have nDbx : Dr ≠ bx := fun q => neD (bx, _) (by k_mem) q.symm
            have nDs : Dr ≠ L + 1 + 1 := fun q => neD (L + 1 + 1, _) (by k_mem) q.symm
            have nDl : Dr ≠ L + 1 + 1 + 1 := fun q => neD (L + 1 + 1 + 1, _) (by k_mem) q.symm
            have nDe : ∀ p ∈ (D2, lsA ys) :: (L + 1, ow) :: (L + 1 + 1 + 1, ol) :: el, p.1 ≠ Dr := all2 (neD (D2, _) (by k_mem)) (all2 (neD (L + 1, _) (by k_mem)) (all2 (neD (L + 1 + 1 + 1, _) (by k_mem)) fun p hp => neD p (by
              iterate 15 refine .tail _ ?_
              exact List.mem_append_left _ hp)))
            clear neD A5 has las k6
            k_steps
            (with_reducible rename Fr _ _ _ _ => F)
            (with_reducible rename News _ _ _ _ => N)
            unfold Halt
            have lys : ys.length = S.w0.xs.length := by rw [ey, List.length_map, pX.length_eq]
            have fysz : (ys.toArray.size : Int) < 2 ^ 63 := by rw [List.size_toArray, lys]; omega
            refine' PyProof.Rows.len_list ⟨_, News.get (a := D2) N (by k_mem), rfl, _, rfl⟩ fysz ?ln
            case ln =>
              k_steps
              unfold Halt
              simp only [anewM_rows, anewM_routes] at F
              have m0 := N (bx, _) (by k_mem)
              have N' : News g L _ ((D2, lsA ys) :: (Dr, ord) :: (L + 1, ow) :: (L + 1 + 1 + 1, ol) :: (L + 1 + 1, os) :: (el ++ S.core w hl2)) := all2 (N _ (by k_mem)) (all2 (N _ (by k_mem)) (all2 (N _ (by k_mem)) (all2 (N _ (by k_mem)) (all2 (N _ (by k_mem)) fun p hp => N p (by
                iterate 17 refine .tail _ ?_
                exact hp)))))
              refine' draw_k (l := (D2, lsA ys) :: (Dr, ord) :: (L + 1, ow) :: (L + 1 + 1 + 1, ol) :: (L + 1 + 1, os) :: el) SG F m0 N' Z2 (CT (by decide) F) (F.keep _ _ hs) hv hbs h0 (by omega) (by rw [List.size_toArray]; omega) hz (all2 nD2b (all2 nDbx (all2 ?n1 (all2 ?n2 (all2 ?n3 nbx))))) ?dw
              case n1 => exact Nat.ne_of_gt (Nat.lt_trans lbx (show L < L + 1 by omega))
              case n2 => exact Nat.ne_of_gt (Nat.lt_trans lbx (show L < L + 1 + 1 + 1 by omega))
              case n3 => exact Nat.ne_of_gt (Nat.lt_trans lbx (show L < L + 1 + 1 by omega))
              case dw =>
                clear F N N' m0
                intro h7 t7 hl3 r t' t'' F _ N Z3 _ r0 r1
                k_steps
                unfold Halt
                have a1 := N _ (.head _)
                have a2 := N _ (.tail _ (.head _))
                have a3 := N _ (.tail _ (.tail _ (.head _)))
                have a4 := N _ (.tail _ (.tail _ (.tail _ (.head _))))
                have a5 := N _ (.tail _ (.tail _ (.tail _ (.tail _ (.head _)))))
                replace N := all_drop (all_drop (all_drop (all_drop (all_drop N))))
                refine' cell_store (c := L + 1 + 1) (oc := os) (l := (D2, lsA ys) :: (Dr, ord) :: (L + 1, ow) :: (L + 1 + 1 + 1, ol) :: el) rfl rfl rfl F (all2 a5 (all2 a1 (all2 a2 (all2 a3 (all2 a4 N))))) Z3 ds (sep _ (.tail _ (.tail _ (.head _)))) (all2 nD2s (all2 nDs (all2 (show @Ne Nat (L + 1) (L + 1 + 1) by omega) (all2 (show @Ne Nat (L + 1 + 1 + 1) (L + 1 + 1) by omega) nspot)))) ?cs
                case cs =>
                  clear F N Z3 a1 a2 a3 a4 a5
                  intro h8 os' hl4 F N Z4 dspot k8
                  k_steps
                  unfold Halt
                  have a5 := N _ (.head _)
                  have a1 := N _ (.tail _ (.head _))
                  have a2 := N _ (.tail _ (.tail _ (.head _)))
                  have a3 := N _ (.tail _ (.tail _ (.tail _ (.head _))))
                  have a4 := N _ (.tail _ (.tail _ (.tail _ (.tail _ (.head _)))))
                  replace N := all_drop (all_drop (all_drop (all_drop (all_drop N))))
                  refine hQ _ _ hl4 D2 Dr ys ord el os' r _ F (all2 a1 (all2 a2 (all2 a3 (all2 a4 (all2 a5 N))))) Z4 (hXs ▸ hRK) (by rw [List.map_map] at hord; exact hord) lor dspot r0 (by rw [List.size_toArray, lys] at r1; exact r1) (all2 sepD2 (all2 sepDr (all2 (sep _ (.head _)) (all2 (sep _ (.tail _ (.head _))) (all2 (show L + 1 + 1 ∉ S.mut from sep (L + 1 + 1, os) (.tail _ (.tail _ (.head _)))) sepe))))) (all2 nD2l (all2 nDl (all2 (show @Ne Nat (L + 1) (L + 1 + 1 + 1) by omega) (all2 (show @Ne Nat (L + 1 + 1) (L + 1 + 1 + 1) by omega) nleft)))) nDe
end
end Mine
end
section
theorem Mine.off_49o : True := by
  w_top off
  trivial
local macro_rules | `(tactic| walk_at "execs cons") => `(tactic| k_extra "own 32")
local macro_rules | `(tactic| walk_at "exec For Name Tuple cons nil") => `(tactic| ((rename Fr _ _ _ _ => lF'); (with_unfolding_all refine' For_invVF lF' ?k1 ?k2 ?_; (case k1 => exact rfl); (case k2 => exact rfl); k_whole)))
local macro_rules | `(tactic| walk_at "pyIter ref") => `(tactic| k_extra "own h")
local macro_rules | `(tactic| walk_at "exec Assign cons ListComp") => `(tactic| k_extra "own 33")
namespace Mine
/-- the body of the loop over the two words -/
noncomputable def wordStmts : List Stmt := match anewDef.1[4]? with
  | some (PySem.Stmt.For _ _ body _ _) => body
  | _ => []
section
variable {prog : Program} {w : World} {A : Around} {s : Shared} {mean : ExcName → Option Value} {mg mb : Str → Option Value} {H₀ g : Heap} {L : Nat} {Q : Flow → Shared → Prop} {E : Value → Shared → Prop} {S : St} {hl : List (Addr × Obj)} {V : List Cr} {ou : Option Int}
theorem anewW {bx bl cb b3 : Nat} {D Dr : Value} {ids : List Value} {nw : Int} {tn t0 : Tok} {l : List (Addr × Obj)} {d : Deed} (K : AnewCx w mean mg mb H₀ g A bx bl cb ids)
    (Z : Later prog w (PH H₀) g L S hl) (p : Pure S V ou) (hids : S.ids = ids) (sep : ∀ p ∈ l, p.1 ∉ S.mut) (hd : d.ok) (hw : d.wait 9) (hT : ∀ {h v}, Told h v (some (5, .bool true)) → d.told h v)
    (F : Fr g L s.heap (anewM bx bl nw tn (some (.ref b3)) (some D) (some Dr) (some (.str d.word t0)) none none none))
    (N : News g L s.heap (l ++ S.core w hl))
    (hQ : ∀ h' tk S' hl', Fr g L h' (anewM bx bl nw tn (some (.ref b3)) (some D) (some Dr) (some (.str d.word t0)) none none none) → News g L h' (l ++ S'.core w hl') → Later prog w (PH H₀) g L S' hl' → Pure S' (restV (d.act ou nw).1 V) (d.act ou nw).2 → (∀ p ∈ l, p.1 ∉ S'.mut) → S'.ids = ids → S'.k.rs = (restK (d.act ou nw).1 S.k.rs S.k.ss).1 → Q .next { s with heap := h', toks := tk }) :
    wpAny (model prog w) (A.deeper (anewE L)) (execs wordStmts (anewE L)) Q E s := by
  obtain ⟨B, SG, X, T, hA, hU, hh, gbl, hb1⟩ := K
  have CT : ∀ {h' : Heap} {k : Nat} {m : Str → Option Value} {env : Env}, k ≤ 6 → Fr g L h' m → Cx w mean mg mb H₀ (PH H₀) (A.deeper env) h' k := fun hk F => Cx.dp (n := 7) B SG (by omega) (by omega) hh (Nat.succ_le_succ hk) F
  have hH : (A.deeper (envOf "" default 0 0 .none)).handled = none := hh
  conv in wordStmts => whnf
  k_steps
  (with_reducible rename Fr _ _ _ _ => F)
  (with_reducible rename News _ _ _ _ => N)
  unfold Halt
  have A4 := Z.at (l' := _ :: l) F N
  refine' deed_k (d := d) (y := Str.ofString "box") (u := .ref bx) (l := _ :: l) F N Z p (sep_cons (A4.tupc_ne (N _ (.head _)).1 rfl) sep) (CT (by decide) F) (by rw [hids]; exact F.keep _ _ gbl) hd (hT (.yes (N _ (.head _)).1)) hw rfl (by decide) ?g
  case g =>
    clear F N Z A4 sep
    intro h1 t1 S1 hl1 F N Z p1 sep ids1 rs1 _
    replace N : News g L h1 (l ++ S1.core w hl1) := (List.forall_mem_cons.mp N).2
    k_steps
    exact hQ _ _ S1 hl1 (by with_reducible assumption) (by with_reducible assumption) Z p1 (List.forall_mem_cons.mp sep).2 (ids1.trans hids) rs1
theorem kept_all (h : staleV V = []) : keptV V = V := List.filter_eq_self.mpr fun c hc => by
  have := List.filter_eq_nil_iff.mp h c hc
  simpa using this
theorem mark_stale (V : List Cr) : staleV (markV V) = markV V := List.filter_eq_self.mpr fun c hc => by
  obtain ⟨d, _, rfl⟩ := List.mem_map.mp hc; rfl
theorem mark_kept (V : List Cr) : keptV (markV V) = [] := List.filter_eq_nil_iff.mpr fun c hc => by
  obtain ⟨d, _, rfl⟩ := List.mem_map.mp hc; exact Bool.false_ne_true
theorem mark_sort (h : staleV V = []) : (sortBy (·.1) (markV V)).map (·.1) = (sortBy (·.1) V).map (·.1) := by
  unfold markV
  rw [kept_all h, sortBy_map, List.map_map]; rfl
theorem Xs_i {Xs : List Row} (p : Pure S V ou) (hXs : Xs = sortBy (·.i) S.w0.xs) : Xs.map (·.i) = (sortBy (·.1) V).map (·.1) := by
  rw [hXs]
  have := goneR_core .clear S.w0.xs
  rw [p.c0] at this; exact this
theorem own_in {α : Type} {a x b c : List α} {p : α} (h : p ∈ a ++ ((x ++ b) ++ c)) : p ∈ (a ++ (b ++ c)) ++ x := by
  rcases List.mem_append.mp h with h | h
  · exact List.mem_append_left _ (List.mem_append_left _ h)
  rcases List.mem_append.mp h with h | h
  · rcases List.mem_append.mp h with h | h
    · exact List.mem_append_right _ h
    · exact List.mem_append_left _ (List.mem_append_right _ (List.mem_append_left _ h))
  · exact List.mem_append_left _ (List.mem_append_right _ (List.mem_append_right _ h))
theorem own_all {α : Type} {R : α → Prop} {a x b : List α} (h1 : ∀ q ∈ a ++ b, R q) (h2 : ∀ q ∈ x, R q) : ∀ q ∈ a ++ (x ++ b), R q := fun q hq => by
  rcases List.mem_append.mp hq with h | h
  · exact h1 q (List.mem_append_left _ h)
  rcases List.mem_append.mp h with h | h
  · exact h2 q h
  · exact h1 q (List.mem_append_right _ h)
theorem own_drop {α : Type} {R : α → Prop} {a x b : List α} (h : ∀ q ∈ a ++ (x ++ b), R q) : ∀ q ∈ a ++ b, R q := fun q hq => h q (by
  rcases List.mem_append.mp hq with h | h
  · exact List.mem_append_left _ h
  · exact List.mem_append_right _ (List.mem_append_right _ h))
theorem own_x {α : Type} {R : α → Prop} {a x b c : List α} (h : ∀ q ∈ a ++ ((x ++ b) ++ c), R q) : ∀ q ∈ x, R q := fun q hq => h q (List.mem_append_right _ (List.mem_append_left _ (List.mem_append_left _ hq)))
theorem own_ab {α : Type} {R : α → Prop} {a x b c : List α} (h : ∀ q ∈ a ++ ((x ++ b) ++ c), R q) : ∀ q ∈ a ++ b, R q := fun q hq => h q (by
  rcases List.mem_append.mp hq with h | h
  · exact List.mem_append_left _ h
  · exact List.mem_append_right _ (List.mem_append_left _ (List.mem_append_right _ h)))
structure Cy where
  S : St
  hl : List (Addr × Obj)
theorem leftR_nil (rs : List Row) : leftR rs [] = rs := List.filter_eq_self.mpr fun _ _ => rfl
noncomputable def leftX (Xs : List Row) (r : Int) : List Row := (Xs[r.toNat]?).toList
set_option linter.unusedVariables false in
inductive WordJ (prog : Program) (w : World) (H₀ g : Heap) (L : Addr) (S : St) (V : List Cr) (ou : Option Int) (ids : List Value) (bx bl b3 D Dr : Nat) (nw : Int) (tn : Tok) (l₀ : List (Addr × Obj)) : Nat → Cy → (Str → Option Value) → Prop where
  | mk {i : Nat} (S' : St) (hl' : List (Addr × Obj)) (wd : Option Value) (Z : Later prog w (PH H₀) g L S' hl') (p : Pure S' (if i = 0 then V else markV V) (if i = 0 then ou else if i = 1 then some (nw + 5) else some (nw + 9))) (sep : ∀ p ∈ l₀, p.1 ∉ S'.mut) (id : S'.ids = ids) (rs : S'.k.rs = S.k.rs) :
    WordJ prog w H₀ g L S V ou ids bx bl b3 D Dr nw tn l₀ i ⟨S', hl'⟩ (anewM bx bl nw tn (some (.ref b3)) (some (.ref D)) (some (.ref Dr)) wd none none none)
theorem anewC {bx bl cb b0 b3 D Dr : Nat} {ids : List Value} {nw r : Int} {tn tr : Tok} {ow ol os ord : Obj} {ys : List Value} {el : List (Addr × Obj)} {Xs Rs : List Row} (K : AnewCx w mean mg mb H₀ g A bx bl cb ids)
    (Z : Later prog w (PH H₀) g L S hl) (p : Pure S V ou) (hV : staleV V = []) (e0 : S.w0.b = b0) (e3 : S.k.b = b3) (hids : S.ids = ids) (dw : ow.data = .cell (some (.ref b0))) (ds : os.data = .cell (some (.int r tr))) (dl : ol.data = .cell none) (hr0 : 0 ≤ r)
    (RK : RowsK prog w H₀ g L el ys Xs Rs) (hXs : Xs = sortBy (·.i) S.w0.xs) (lX : Xs.length ≤ 4) (hord : RowsObj prog w ord (S.k.rs.map Row.ent)) (sep : ∀ p ∈ (D, lsA ys) :: (Dr, ord) :: (L + 1, ow) :: (L + 1 + 1 + 1, ol) :: (L + 1 + 1, os) :: el, p.1 ∉ S.mut) (nl : ∀ p ∈ (D, lsA ys) :: (Dr, ord) :: (L + 1, ow) :: (L + 1 + 1, os) :: el, p.1 ≠ L + 1 + 1 + 1)
    (F : Fr g L s.heap (anewM bx bl nw tn (some (.ref b3)) (some (.ref D)) (some (.ref Dr)) none none none none))
    (N : News g L s.heap ((D, lsA ys) :: (Dr, ord) :: (L + 1, ow) :: (L + 1 + 1 + 1, ol) :: (L + 1 + 1, os) :: (el ++ S.core w hl)))
    (hQ : ∀ h' tk S' hl' Dl ol' wd, Fr g L h' (anewM bx bl nw tn (some (.ref b3)) (some (.ref D)) (some (.ref Dr)) wd none none none) → News g L h' ((Dl, lsA (keysR (leftX Xs r))) :: (D, lsA ys) :: (Dr, ord) :: (L + 1, ow) :: (L + 1 + 1 + 1, ol') :: (el ++ S'.core w hl')) → Later prog w (PH H₀) g L S' hl' → Pure S' (markV V) (some (nw + 9)) → S'.ids = ids → S'.k.rs = S.k.rs → ol'.data = .cell (some (.ref Dl)) →
      (∀ p ∈ (Dl, lsA (keysR (leftX Xs r))) :: (D, lsA ys) :: (Dr, ord) :: (L + 1, ow) :: (L + 1 + 1 + 1, ol') :: el, p.1 ∉ S'.mut) → @Ne Nat Dl Dr →
      wpAny (model prog w) (A.deeper (anewE L)) (execs (anewDef.1.drop 7) (anewE L)) Q (fun _ _ => False) { s with heap := h', toks := tk }) :
    wpAny (model prog w) (A.deeper (anewE L)) (execs (anewDef.1.drop 4) (anewE L)) Q (fun _ _ => False) s := by
  have K₀ := K
  obtain ⟨B, SG, X, T, hA, hU, hh, gbl, hb1⟩ := K
  have CT : ∀ {h' : Heap} {k : Nat} {m : Str → Option Value} {env : Env}, k ≤ 6 → Fr g L h' m → Cx w mean mg mb H₀ (PH H₀) (A.deeper env) h' k := fun hk F => Cx.dp (n := 7) B SG (by omega) (by omega) hh (Nat.succ_le_succ hk) F
  have hH : (A.deeper (envOf "" default 0 0 .none)).handled = none := hh
  conv in (List.drop _ _) => whnf
  k_steps
  (with_reducible rename Fr _ _ _ _ => F)
  (with_reducible rename News _ _ _ _ => N)
  unfold Halt
  rename_i Dt ht l1
  clear l1
  have A4 := Z.at (l' := _ :: _ :: _ :: _ :: _ :: _ :: el) F N
  obtain ⟨ot, hotc, ⟨nt, t1, t2, hod⟩, N⟩ : ∃ ot : Obj, ot.cls = .type "tuple" ∧ (∃ n t1 t2, ot.data = .seq #[.str (Str.ofString "lost") t1, .str (Str.ofString "back") t2] n) ∧ News g L ht ((Dt, ot) :: (D, lsA ys) :: (Dr, ord) :: (L + 1, ow) :: (L + 1 + 1 + 1, ol) :: (L + 1 + 1, os) :: (el ++ S.core w hl)) := ⟨_, rfl, ⟨_, _, _, rfl⟩, N⟩
  refine' loop_tupleC (β := Cy) (vs := [.str (Str.ofString "lost") t1, .str (Str.ofString "back") t2]) hH ⟨ot, (N _ (.head _)).1, hotc, _, hod⟩ (N _ (.head _)).2.1 F (fun y => (Dt, ot) :: (D, lsA ys) :: (Dr, ord) :: (L + 1, ow) :: (L + 1 + 1 + 1, ol) :: (L + 1 + 1, os) :: (el ++ y.S.core w y.hl)) ⟨S, hl⟩ N
    (WordJ prog w H₀ g L S V ou ids bx bl b3 D Dr nw tn ((Dt, ot) :: (D, lsA ys) :: (Dr, ord) :: (L + 1, ow) :: (L + 1 + 1 + 1, ol) :: (L + 1 + 1, os) :: el)) ?j0 ?step ?rest
  case j0 => exact ⟨S, hl, none, Z, p, sep_cons (A4.tupc_ne (N _ (.head _)).1 hotc) sep, hids, rfl⟩
  case step =>
    rintro i v _ _ h tk own Q' ho hi hv ⟨Sy, hly, wd, Zy, py, sepy, idy, rsy⟩ F₁ N₁ hq
    simp only [anewM_word] at F₁
    have N₂ : News g L h ([(Dt, ot), (D, lsA ys), (Dr, ord), (L + 1, ow), (L + 1 + 1 + 1, ol), (L + 1 + 1, os)] ++ ((own ++ el) ++ Sy.core w hly)) := fun q hq => N₁ q (own_in hq)
    have A4y := Zy.at (l' := _ :: _ :: _ :: _ :: _ :: _ :: (own ++ el)) F₁ N₂
    have sepo : ∀ q ∈ own, q.1 ∉ Sy.mut := fun q hq => by
      rcases ho q hq with e | e
      · rw [e]; exact sepy _ (.head _)
      · exact A4y.soft_ne (N₁ q (List.mem_append_right _ hq)).1 (.inr (.inr (.inr e)))
    have sepA : ∀ q ∈ [(Dt, ot), (D, lsA ys), (Dr, ord), (L + 1, ow), (L + 1 + 1 + 1, ol), (L + 1 + 1, os)] ++ (own ++ el), q.1 ∉ Sy.mut := own_all sepy sepo
    have fin : ∀ (h' : Heap) (tk' : Nat) (S' : St) (hl' : List (Addr × Obj)) (wd : Option Value), Fr g L h' (anewM bx bl nw tn (some (.ref b3)) (some (.ref D)) (some (.ref Dr)) wd none none none) → News g L h' ([(Dt, ot), (D, lsA ys), (Dr, ord), (L + 1, ow), (L + 1 + 1 + 1, ol), (L + 1 + 1, os)] ++ ((own ++ el) ++ S'.core w hl')) → Later prog w (PH H₀) g L S' hl' → Pure S' (if i + 1 = 0 then V else markV V) (if i + 1 = 0 then ou else if i + 1 = 1 then some (nw + 5) else some (nw + 9)) → (∀ q ∈ [(Dt, ot), (D, lsA ys), (Dr, ord), (L + 1, ow), (L + 1 + 1 + 1, ol), (L + 1 + 1, os)] ++ (own ++ el), q.1 ∉ S'.mut) → S'.ids = ids → S'.k.rs = S.k.rs → Q' .next { s with heap := h', toks := tk' } := by
      intro h' tk' S' hl' wd F' N' Z' p' sep' ids' rs'
      have A' := Z'.at (l' := _ :: _ :: _ :: _ :: _ :: _ :: (own ++ el)) F' N'
      obtain ⟨hl2, N2, Z2, hc2, _⟩ := A'.recoverC F' Z'.1 (Z'.out (l := _ :: _ :: _ :: _ :: _ :: _ :: (own ++ el)) F' N')
      have cc := core_cls A' hc2 fun p hp => (N2 p hp).1
      refine hq h' tk' ⟨S', hl2⟩ _ F' (fun q hq' => ?_) (fun q hq' => ?_) ⟨S', hl2, wd, Z2, p', own_drop sep', ids', rs'⟩
      · rcases List.mem_append.mp hq' with m | m
        · rcases List.mem_append.mp (show q ∈ [_, _, _, _, _, _] ++ (el ++ S'.core w hl2) from m) with m | m
          · exact N' q (List.mem_append_left _ m)
          · rcases List.mem_append.mp m with m | m
            · exact N' q (List.mem_append_right _ (List.mem_append_left _ (List.mem_append_right _ m)))
            · exact N2 q m
        · exact N' q (List.mem_append_right _ (List.mem_append_left _ (List.mem_append_left _ m)))
      · rcases List.mem_append.mp (show q ∈ [_, _, _, _, _, _] ++ (el ++ S'.core w hl2) from hq') with m | m
        · exact .inr ⟨q.2, List.mem_append_left (el ++ Sy.core w hly) m⟩
        · rcases List.mem_append.mp m with m | m
          · exact .inr ⟨q.2, List.mem_append_right [_, _, _, _, _, _] (List.mem_append_left _ m)⟩
          · by_cases qd : q.1 = Dt
            · exact .inr ⟨ot, by rw [qd]; exact .head _⟩
            · refine .inl fun r hr e => ?_
              rcases ho r hr with x | x
              · exact qd (e.trans x)
              · have h1 := (N2 q m).1
                have h2 := (N' r (List.mem_append_right _ (List.mem_append_left _ (List.mem_append_left _ hr)))).1
                rw [e, h2] at h1
                have e3 : r.2 = q.2 := Option.some.inj h1
                exact (cc q m).2.2 (e3 ▸ x)
    have hi2 : i = 0 ∨ i = 1 := by have : i < 2 := hi; omega
    rcases hi2 with rfl | rfl
    · have hv' : Value.str (Str.ofString "lost") t1 = v := Option.some.inj hv
      subst hv'
      refine anewW (s := { s with heap := h, toks := tk }) (l := [(Dt, ot), (D, lsA ys), (Dr, ord), (L + 1, ow), (L + 1 + 1 + 1, ol), (L + 1 + 1, os)] ++ (own ++ el)) (d := .lost (some (5, .bool true))) K₀ Zy (show Pure Sy V ou from py) idy sepA (.inr ⟨_, .inr ⟨_, rfl⟩⟩) trivial (fun x => x) F₁ (by rw [List.append_assoc]; exact N₂) fun h' tk' S' hl' F' N' Z' p' sep' ids' rs' => ?_
      refine fin h' tk' S' hl' _ F' (by rw [List.append_assoc] at N'; exact N') Z' p' sep' ids' (rs'.trans ?_)
      show leftR Sy.k.rs Sy.k.ss = S.k.rs
      rw [ss_nil (show Pure Sy V ou from py) hV, leftR_nil, rsy]
    · have hv' : Value.str (Str.ofString "back") t2 = v := Option.some.inj hv
      subst hv'
      refine anewW (s := { s with heap := h, toks := tk }) (l := [(Dt, ot), (D, lsA ys), (Dr, ord), (L + 1, ow), (L + 1 + 1 + 1, ol), (L + 1 + 1, os)] ++ (own ++ el)) (d := .back (some (5, .bool true)) 9) K₀ Zy (show Pure Sy (markV V) (some (nw + 5)) from py) idy sepA (.inr ⟨_, .inr ⟨_, rfl⟩⟩) rfl (fun x => x) F₁ (by rw [List.append_assoc]; exact N₂) fun h' tk' S' hl' F' N' Z' p' sep' ids' rs' => ?_
      exact fin h' tk' S' hl' _ F' (by rw [List.append_assoc] at N'; exact N') Z' p' sep' ids' (rs'.trans rsy)
  case rest =>
    clear F N A4
    rintro h2 tk2 _ _ F N ⟨S2, hl2, wd, Z2, p2, sep2, ids2, rs2⟩
    replace p2 : Pure S2 (markV V) (some (nw + 9)) := p2
    obtain ⟨q0, q3⟩ := ids_eqs (ids2.trans hids.symm)
    replace e0 := q0.trans e0
    replace e3 := q3.trans e3
    replace sep2 := (List.forall_mem_cons.mp sep2).2
    replace F : Fr g L h2 _ := F
    replace N : News g L h2 ((D, lsA ys) :: (Dr, ord) :: (L + 1, ow) :: (L + 1 + 1 + 1, ol) :: (L + 1 + 1, os) :: (el ++ S2.core w hl2)) := (List.forall_mem_cons.mp N).2
    have A2 := Z2.at (l' := _ :: _ :: _ :: _ :: _ :: el) F N
    replace N := news_front (l := (D, lsA ys) :: (Dr, ord) :: (L + 1, ow) :: (L + 1 + 1 + 1, ol) :: (L + 1 + 1, os) :: el) N
    rw [e0, e3] at N
    clear q0 q3
    k_steps
    (with_reducible rename Fr _ _ _ _ => F)
    (with_reducible rename News _ _ _ _ => N)
    unfold Halt
    have bk0 : Book prog w (PH H₀) h2 b0 S2.w0.db S2.w0.r S2.w0.u S2.w0.xs := by have := A2.a0.bk; rw [e0] at this; exact this
    refine' fas_k F N (CT (by decide) F) bk0 ?f0
    case f0 =>
      clear F N
      intro h3 t3 q f z c1 c2 c3 K3 F N nq nf nz
      k_steps
      refine' comp_startT ?hclos ?hkind ?hnames ?hsrc ?hfold
      case hclos => exact rfl
      case hfold => intro _; rfl
      case hkind => exact rfl
      case hnames => decide
      k_steps
      (with_reducible rename Fr _ _ _ _ => F)
      (with_reducible rename News _ _ _ _ => N)
      have hps := (RK.at' _ _ F fun p hp => (N p (by
        iterate 16 refine .tail _ ?_
        exact List.mem_append_left _ hp)).1).2
      refine' comp_pairs (l := D) (vs := ys) (fun C D I i zs h => zs = keysR (Xs.take i)) ?J0 ?Jk hH F N ?hcell ?hkind ?hx ?hx2 ?hxx ⟨_, News.get (a := D) N (by k_mem), rfl, _, rfl⟩ ?sz hps ?body ?rest2
      case J0 => exact fun C D I h => rfl
      case Jk => exact fun C D I i ys h h' x _ => x
      case hcell => decide
      case hkind => exact rfl
      case hx => exact rfl
      case hx2 => exact rfl
      case hxx => decide
      case sz => rw [hps.1, List.length_map]; omega
      case body =>
        intro Cf Dc I' i pp zs s₃ m₃ E' K hp hi hm1 hm2 F₃ al frs hne hj hk
        refine turn_nil ?_
        obtain ⟨oD, oI, N₃⟩ := comp_led al frs hne
        rw [List.getElem?_map] at hp
        obtain ⟨x, hx, rfl⟩ := Option.map_eq_some_iff.mp hp
        dsimp only at hm1 hm2
        have hkx := hk (some (.ref x.k)) s₃.heap s₃.toks m₃ F₃ rfl rfl (by rw [hj, List.take_add_one, hx]; simp)
        clear F N
        k_steps
        exact hkx
      case rest2 =>
        clear F N
        intro Cc D4 I' zs h4 t4 F N hD4 k4 ez
        rw [List.length_map, List.take_length] at ez
        subst ez
        k_steps
        (with_reducible rename Fr _ _ _ _ => F)
        (with_reducible rename News _ _ _ _ => N)
        unfold Halt
        rename_i De _ _ Dn h5 _
        have A5 := Z2.at (l' := _ :: _ :: _ :: _ :: _ :: _ :: _ :: _ :: _ :: _ :: _ :: _ :: _ :: _ :: _ :: _ :: _ :: _ :: el) F N
        have k1 : KeysAre prog w h5 (keysR (freshR S2.w0.xs)) [] := by
          have := fresh_keys A5.a0 p2.c0
          rw [mark_kept] at this; exact this
        have k3 : KeysAre prog w h5 (keysR (staleR S2.w0.xs)) (Xs.map (·.i)) := by
          have := stale_keys A5.a0 p2.c0
          rw [mark_stale, mark_sort hV, ← Xs_i p hXs] at this; exact this
        have hxk := (RK.at' _ _ F fun p hp => (N p (by
          iterate 18 refine .tail _ ?_
          exact List.mem_append_left _ hp)).1).1
        have k4' : KeysAre prog w h5 (keysR Xs) (Xs.map (·.i)) := KeysAre.of_rows fun x hx => (hxk x hx).1
        refine' pair_ne (vf' := []) (News.get (a := q) N (by k_mem)) (News.get (a := Dn) N (by k_mem)) ⟨_, News.get (a := f) N (by k_mem), rfl, _, rfl⟩ ⟨_, News.get (a := De) N (by k_mem), rfl, _, rfl⟩ ⟨_, News.get (a := z) N (by k_mem), rfl, _, rfl⟩ ⟨_, News.get (a := D4) N (by k_mem), rfl, _, rfl⟩ k1 .nil k3 k4' ?hu ?ne
        case hu => simp only [Around.deeper_units]; k_extra "own a"
        case ne =>
          clear k1 k3 hxk k4'
          k_steps
          unfold Halt
          refine' alike_k F N (p2.inv A5) (CT (by decide) F) (by rw [ids2]; exact F.keep _ _ gbl) ?al
          case al =>
            clear F A5
            intro h6 t6 F N₀ K6
            replace N : News g L h6 ((D, lsA ys) :: (Dr, ord) :: (L + 1, ow) :: (L + 1 + 1 + 1, ol) :: (L + 1 + 1, os) :: (el ++ S2.core w hl2)) := fun p hp => N₀ p (by
              iterate 13 refine .tail _ ?_
              exact hp)
            clear N₀ nq nf nz K3 k4
            k_steps
            refine' comp_startT ?hclos2 ?hkind2 ?hnames2 ?hsrc2 ?hfold2
            case hclos2 => exact rfl
            case hfold2 => intro _; rfl
            case hkind2 => exact rfl
            case hnames2 => decide
            k_steps
            (with_reducible rename Fr _ _ _ _ => F)
            (with_reducible rename News _ _ _ _ => N)
            unfold Halt
            have hps6 := (RK.at' _ _ F fun p hp => (N p (by
              iterate 5 refine .tail _ ?_
              exact List.mem_append_left _ hp)).1).2
            have A6 := Z2.at (l' := _ :: _ :: _ :: _ :: _ :: el) F N
            have nS : h6.get? (L + 1 + 1) = some os := News.get N (by k_mem)
            have nO : h6.get? (L + 1 + 1 + 1) = some ol := News.get N (by k_mem)
            have nR : h6.get? Dr = some ord := News.get N (by k_mem)
            refine' comp_enum (l := D) (vs := ys) (fun i zs => zs = keysR (if r.toNat < i then leftX Xs r else [])) rfl hH F N ?ecell ?ekind ?ex0 ?ex ?ex2 ?exx ⟨_, News.get (a := D) N (by k_mem), rfl, _, rfl⟩ ?esz hps6 ?ebody ?erest
            case ecell => decide
            case ekind => exact rfl
            case ex0 => exact rfl
            case ex => exact rfl
            case ex2 => exact rfl
            case exx => decide
            case esz => rw [hps6.1, List.length_map]; omega
            case ebody =>
              intro Cf i pp tt zs s₃ m₃ E' K hp hi hm0 hm1 hm2 F₃ hj hk
              refine turn_one ?_
              rw [List.getElem?_map] at hp
              obtain ⟨x, hx, rfl⟩ := Option.map_eq_some_iff.mp hp
              dsimp only at hm1 hm2
              have N₃ : News h6 Cf s₃.heap [] := fun _ h => nomatch h
              clear F N
              by_cases qi : (i : Int) = r
              · have qb : ((i : Int) == r) = true := beq_iff_eq.mpr qi
                have hri : r.toNat = i := by rw [← qi]; rfl
                have hkx := fun tk' => hk (some (.ref x.k)) s₃.heap tk' (fun _ _ e => e) (by
                  rw [hj, if_neg (by omega), if_pos (by omega)]
                  show _ = keysR (Option.toList _)
                  rw [hri, hx]; rfl)
                k_steps
                exact hkx _
              · have qb : ((i : Int) == r) = false := beq_eq_false_iff_ne.mpr qi
                have hkx := fun tk' => hk none s₃.heap tk' (fun _ _ e => e) (by
                  rw [hj, Option.toList_none, List.append_nil]
                  by_cases q : r.toNat < i
                  · rw [if_pos q, if_pos (by omega)]
                  · rw [if_neg q, if_neg (by omega)])
                k_steps
                exact hkx _
            case erest =>
              clear F N
              intro Dl zs h7 t7 F N hDl k7 ez
              have ez' : zs = keysR (leftX Xs r) := by
                rw [ez, List.length_map]
                by_cases q : r.toNat < Xs.length
                · rw [if_pos q]
                · rw [if_neg q]
                  unfold leftX
                  rw [List.getElem?_eq_none (Nat.not_lt.mp q)]; rfl
              subst ez'
              have hDl' : h6.get? Dl = none := hDl
              k_steps
              unfold Halt
              have a1 := N _ (.head _)
              have a2 := N _ (.tail _ (.head _))
              have a3 := N _ (.tail _ (.tail _ (.head _)))
              have a4 := N _ (.tail _ (.tail _ (.tail _ (.head _))))
              have a5 := N _ (.tail _ (.tail _ (.tail _ (.tail _ (.head _)))))
              have a6 := N _ (.tail _ (.tail _ (.tail _ (.tail _ (.tail _ (.head _))))))
              replace N := all_drop (all_drop (all_drop (all_drop (all_drop (all_drop N)))))
              have nDlS : Dl ∉ S2.mut := fun q => by obtain ⟨o, e⟩ := A6.there _ q; rw [hDl'] at e; cases e
              have nDlO : Dl ≠ L + 1 + 1 + 1 := fun q => by rw [← q, hDl'] at nO; cases nO
              have nDlR : Dl ≠ Dr := fun q => by rw [← q, hDl'] at nR; cases nR
              refine' cell_store (c := L + 1 + 1 + 1) (oc := ol) (l := (Dl, lsA (keysR (leftX Xs r))) :: (D, lsA ys) :: (Dr, ord) :: (L + 1, ow) :: (L + 1 + 1, os) :: el) rfl rfl rfl F (all2 a5 (all2 a1 (all2 a2 (all2 a3 (all2 a4 (all2 a6 N)))))) Z2 dl (sep2 _ (.tail _ (.tail _ (.tail _ (.head _))))) (all2 nDlO nl) ?cstore
              case cstore =>
                clear F N a1 a2 a3 a4 a5 a6
                intro h8 ol' hl4 F N Z4 dleft k8
                k_steps
                unfold Halt
                have a5 := N _ (.head _)
                have a1 := N _ (.tail _ (.head _))
                have a2 := N _ (.tail _ (.tail _ (.head _)))
                have a3 := N _ (.tail _ (.tail _ (.tail _ (.head _))))
                have a4 := N _ (.tail _ (.tail _ (.tail _ (.tail _ (.head _)))))
                have c1 := sep2 _ (.head _)
                have c2 := sep2 _ (.tail _ (.head _))
                have c3 := sep2 _ (.tail _ (.tail _ (.head _)))
                have c4 := sep2 _ (.tail _ (.tail _ (.tail _ (.head _))))
                replace N := all_drop (all_drop (all_drop (all_drop (all_drop (all_drop N)))))
                have sepr := all_drop (all_drop (all_drop (all_drop (all_drop sep2))))
                exact hQ _ _ S2 hl4 Dl ol' wd F (all2 a1 (all2 a2 (all2 a3 (all2 a4 (all2 a5 N))))) Z4 p2 ids2 rs2 dleft (all2 nDlS (all2 c1 (all2 c2 (all2 c3 (all2 c4 sepr))))) nDlR
end
end Mine
end
section
theorem Mine.off_49p : True := by
  w_top off
  trivial
local macro_rules | `(tactic| walk_at "no such tree 49p 0") => `(tactic| skip)
local macro_rules | `(tactic| walk_at "execs cons") => `(tactic| k_extra "own 34")
local macro_rules | `(tactic| walk_at "pyIter ref") => `(tactic| k_extra "own h")
local macro_rules | `(tactic| walk_at "subscriptTail Name Slice ref ref") => `(tactic| k_extra "own h")
local macro_rules | `(tactic| walk_at "compareOp NotIn ref ref") => `(tactic| k_extra "own h")
namespace Mine
section
variable {prog : Program} {w : World} {A : Around} {s : Shared} {mean : ExcName → Option Value} {mg mb : Str → Option Value} {H₀ g : Heap} {L : Nat} {Q : Flow → Shared → Prop} {E : Value → Shared → Prop} {S : St} {hl : List (Addr × Obj)} {V : List Cr} {ou : Option Int}
/-- the body of the loop over the rows backwards -/
noncomputable def rowStmts : List Stmt := match anewDef.1[7]? with
  | some (PySem.Stmt.For _ _ body _ _) => body
  | _ => []
theorem anewT {bx bl cb b3 Dl : Nat} {D Dr wd : Option Value} {ids : List Value} {nw : Int} {tn : Tok} {l : List (Addr × Obj)} {ol : Obj} {lX : List Row} {x : Row} {c : Nat} (K : AnewCx w mean mg mb H₀ g A bx bl cb ids)
    (Z : Later prog w (PH H₀) g L S hl) (p : Pure S V ou) (hids : S.ids = ids) (sep : ∀ p ∈ l, p.1 ∉ S.mut) (mL : (Dl, W.listOf (keysR lX).toArray c) ∈ l) (mO : (L + 1 + 1 + 1, ol) ∈ l) (dl : ol.data = .cell (some (.ref Dl))) (h1 : lX.length ≤ 1) (hlk : ∀ y ∈ lX, KeyAt prog w s.heap (Pk y.i) y.k)
    (hx : x.i < 4) (hk : KeyAt prog w s.heap (Pk x.i) x.k) (ha : IsMed prog w s.heap x.a x.v) (pk : PH H₀ x.k) (pa : PH H₀ x.a)
    (F : Fr g L s.heap (anewM bx bl nw tn (some (.ref b3)) D Dr wd (some (.ref x.k)) (some (.ref x.a)) none)) (N : News g L s.heap (l ++ S.core w hl))
    (hQ : ∀ h' tk S' hl', Fr g L h' (anewM bx bl nw tn (some (.ref b3)) D Dr wd (some (.ref x.k)) (some (.ref x.a)) none) → News g L h' (l ++ S'.core w hl') → Later prog w (PH H₀) g L S' hl' → Pure S' (if (lX.any fun y => y.i == x.i) = true then V else putV V x.i x.v) ou → (∀ p ∈ l, p.1 ∉ S'.mut) → S'.ids = ids → ((findV V x.i).map (·.2.1) = some x.v → S'.k.rs = S.k.rs) → Q .next { s with heap := h', toks := tk }) :
    wpAny (model prog w) (A.deeper (anewE L)) (execs rowStmts (anewE L)) Q E s := by
  obtain ⟨B, SG, X, T, hA, hU, hh, gbl, hb1⟩ := K
  have CT : ∀ {h' : Heap} {k : Nat} {m : Str → Option Value} {env : Env}, k ≤ 6 → Fr g L h' m → Cx w mean mg mb H₀ (PH H₀) (A.deeper env) h' k := fun hk F => Cx.dp (n := 7) B SG (by omega) (by omega) hh (Nat.succ_le_succ hk) F
  have hH : (A.deeper (envOf "" default 0 0 .none)).handled = none := hh
  conv in rowStmts => whnf
  replace N : News g L s.heap ((L + 1 + 1 + 1, ol) :: (Dl, W.listOf (keysR lX).toArray c) :: (l ++ S.core w hl)) := all2 (N _ (List.mem_append_left _ mO)) (all2 (N _ (List.mem_append_left _ mL)) N)
  k_steps
  unfold Halt
  refine' notIn_lX h1 (N _ (.tail _ (.head _))).1 hlk hk (by simp only [Around.deeper_units]; k_extra "own a") ?ni
  case ni =>
    cases hb : (lX.any fun y => y.i == x.i) with
    | true =>
      rw [hb] at hQ
      k_steps
      exact hQ _ _ S hl F (List.forall_mem_cons.mp (List.forall_mem_cons.mp N).2).2 Z p sep hids fun _ => rfl
    | false =>
      rw [hb] at hQ
      k_steps
      unfold Halt
      replace N : News g L _ (l ++ S.core w hl) := (List.forall_mem_cons.mp (List.forall_mem_cons.mp N).2).2
      refine' told_k (i := x.i) (v := x.v) (y := Str.ofString "box") (u := .ref bx) F N Z p sep (CT (by decide) F) (by rw [hids]; exact F.keep _ _ gbl) hk hx ha pk pa rfl (by decide) ?tk
      case tk =>
        clear F N Z sep
        intro h1 t1 S1 hl1 F N Z p1 sep ids1 rs1 _
        k_steps
        exact hQ _ _ S1 hl1 F N Z p1 sep (ids1.trans hids) rs1
theorem anewD {bx bl cb b0 b3 D Dr Dl : Nat} {ids : List Value} {nw : Int} {tn : Tok} {ow ol ord : Obj} {ys : List Value} {el : List (Addr × Obj)} {Xs Rs lX : List Row} {wd : Option Value} (K : AnewCx w mean mg mb H₀ g A bx bl cb ids)
    (Z : Later prog w (PH H₀) g L S hl) (p : Pure S (markV V) ou) (hV : staleV V = []) (e0 : S.w0.b = b0) (e3 : S.k.b = b3) (hids : S.ids = ids) (dw : ow.data = .cell (some (.ref b0))) (dl : ol.data = .cell (some (.ref Dl)))
    (RK : RowsK prog w H₀ g L el ys Xs Rs) (hX4 : Xs.length ≤ 4) (hsm : ∀ x ∈ Xs, x.i < 4) (hnd : (V.map (·.1)).Nodup) (hXV : ∀ x ∈ Xs, ∃ c ∈ V, c.1 = x.i ∧ c.2.1 = x.v) (hVX : ∀ c ∈ V, ∃ x ∈ Xs, x.i = c.1) (hl1 : lX.length ≤ 1) (hlX : ∀ y ∈ lX, y ∈ Xs) (hrc : ord.cls = .type "dict")
    (sep : ∀ p ∈ (Dl, lsA (keysR lX)) :: (D, lsA ys) :: (Dr, ord) :: (L + 1, ow) :: (L + 1 + 1 + 1, ol) :: el, p.1 ∉ S.mut)
    (F : Fr g L s.heap (anewM bx bl nw tn (some (.ref b3)) (some (.ref D)) (some (.ref Dr)) wd none none none))
    (N : News g L s.heap ((Dl, lsA (keysR lX)) :: (D, lsA ys) :: (Dr, ord) :: (L + 1, ow) :: (L + 1 + 1 + 1, ol) :: (el ++ S.core w hl)))
    (hQ : ∀ h' tk S' hl' on at', Fr g L h' (anewM bx bl nw tn (some (.ref b3)) (some (.ref D)) (some (.ref Dr)) wd on at' none) → News g L h' ((Dl, lsA (keysR lX)) :: (D, lsA ys) :: (Dr, ord) :: (L + 1, ow) :: (L + 1 + 1 + 1, ol) :: (el ++ S'.core w hl')) → Later prog w (PH H₀) g L S' hl' → Pure S' (keptV (flagV V fun k => lX.any fun y => y.i == k)) none → (∀ p ∈ (Dl, lsA (keysR lX)) :: (D, lsA ys) :: (Dr, ord) :: (L + 1, ow) :: (L + 1 + 1 + 1, ol) :: el, p.1 ∉ S'.mut) → S'.ids = ids → S'.k.rs = S.k.rs.filter (fun x => !(lX.any fun y => y.i == x.i)) →
      wpAny (model prog w) (A.deeper (anewE L)) (execs (anewDef.1.drop 9) (anewE L)) Q (fun _ _ => False) { s with heap := h', toks := tk }) :
    wpAny (model prog w) (A.deeper (anewE L)) (execs (anewDef.1.drop 7) (anewE L)) Q (fun _ _ => False) s := by
  have K₀ := K
  obtain ⟨B, SG, X, T, hA, hU, hh, gbl, hb1⟩ := K
  have CT : ∀ {h' : Heap} {k : Nat} {m : Str → Option Value} {env : Env}, k ≤ 6 → Fr g L h' m → Cx w mean mg mb H₀ (PH H₀) (A.deeper env) h' k := fun hk F => Cx.dp (n := 7) B SG (by omega) (by omega) hh (Nat.succ_le_succ hk) F
  have hH : (A.deeper (envOf "" default 0 0 .none)).handled = none := hh
  conv in (List.drop _ _) => whnf
  k_steps
  refine' For_turns F ?fl
  case fl =>
    have hps0 := (RK.at' _ _ F fun p hp => (N p (.tail _ (.tail _ (.tail _ (.tail _ (.tail _ (List.mem_append_left _ hp))))))).1).2
    have lys : ys.length = Xs.length := by rw [hps0.1, List.length_map]
    k_steps
    unfold Halt
    refine' krv_lit (its := ys.toArray) (zs := ys.reverse) F N ⟨_, News.get (a := D) N (by k_mem), rfl, _, rfl⟩ ?k rfl ?h ?hs ?ht ?hz
    case k => exact IsPart.int _ _
    case hs => with_unfolding_all rfl
    case ht => kmk_pure
    case hz => rw [List.size_toArray, lys, sizeLine_eq]; omega
    case h =>
      have A1 := Z.at (l' := _ :: _ :: _ :: _ :: _ :: el) F N
      clear F N
      intro Dv h1 F N lv
      k_steps
      unfold Halt
      have sepv : Dv ∉ S.mut := fun q => by
        obtain ⟨o, _, mm⟩ := A1.inLed (w := w) hl _ q
        exact Nat.lt_irrefl _ (lv _ (.tail _ (.tail _ (.tail _ (.tail _ (.tail _ (List.mem_append_right _ mm)))))))
      refine' loop_pairs (β := Cy) (vs := ys.reverse) (ps := (Xs.map fun x => (Value.ref x.k, Value.ref x.a)).reverse) hH ⟨_, (N _ (.head _)).1, rfl, _, rfl⟩ (N _ (.head _)).2.1 rfl rfl rfl (by decide) F
        (fun y => (Dv, W.listOf ys.reverse.toArray 0) :: (Dl, lsA (keysR lX)) :: (D, lsA ys) :: (Dr, ord) :: (L + 1, ow) :: (L + 1 + 1 + 1, ol) :: (el ++ y.S.core w y.hl)) ⟨S, hl⟩ N
        (fun i y => Later prog w (PH H₀) g L y.S y.hl ∧ Pure y.S (flagV V (stAt Xs lX i)) ou ∧ (∀ p ∈ (Dv, W.listOf ys.reverse.toArray 0) :: (Dl, lsA (keysR lX)) :: (D, lsA ys) :: (Dr, ord) :: (L + 1, ow) :: (L + 1 + 1 + 1, ol) :: el, p.1 ∉ y.S.mut) ∧ y.S.ids = ids ∧ y.S.k.rs = S.k.rs) ?j0 ?hp ?step ?rest
      case j0 => exact ⟨Z, by rw [st_zero, ← flag_mark hV]; exact p, sep_cons sepv sep, hids, rfl⟩
      case hp =>
        intro h₁ y m₁ F₁ N₁
        exact ((RK.at' _ _ F₁ fun p hp => (N₁ p (.tail _ (.tail _ (.tail _ (.tail _ (.tail _ (.tail _ (List.mem_append_left _ hp)))))))).1).2).rev
      case step =>
        rintro i pp ⟨Sy, hly⟩ h₁ tk own Q' ho1 ho2 hi hpp ⟨Zy, py, sepy, idy, rsy⟩ F₁ N₁ hq
        dsimp only at Zy py sepy idy rsy
        rw [← List.map_reverse, List.getElem?_map] at hpp
        obtain ⟨x, hx, rfl⟩ := Option.map_eq_some_iff.mp hpp
        dsimp only at F₁
        simp only [anewM_one, anewM_attrs] at F₁
        have hxm : x ∈ Xs := List.mem_reverse.mp (List.mem_of_getElem? hx)
        have N₂ : News g L h₁ ([(Dv, W.listOf ys.reverse.toArray 0), (Dl, lsA (keysR lX)), (D, lsA ys), (Dr, ord), (L + 1, ow), (L + 1 + 1 + 1, ol)] ++ ((own ++ el) ++ Sy.core w hly)) := fun q hq => N₁ q (own_in hq)
        have A4y := Zy.at (l' := _ :: _ :: _ :: _ :: _ :: _ :: (own ++ el)) F₁ N₂
        have sepo : ∀ q ∈ own, q.1 ∉ Sy.mut := fun q hq => by
          rcases ho1 q hq with e | e
          · rw [e]; exact sepy _ (.head _)
          · exact A4y.soft_ne (N₁ q (List.mem_append_right _ hq)).1 (.inr (.inr (.inl e)))
        have sepA : ∀ q ∈ [(Dv, W.listOf ys.reverse.toArray 0), (Dl, lsA (keysR lX)), (D, lsA ys), (Dr, ord), (L + 1, ow), (L + 1 + 1 + 1, ol)] ++ (own ++ el), q.1 ∉ Sy.mut := own_all sepy sepo
        have hall := (RK.at' _ _ F₁ fun p hp => (N₂ p (List.mem_append_right _ (List.mem_append_left _ (List.mem_append_right _ hp)))).1).1
        obtain ⟨c, hc, ci, cv⟩ := hXV x hxm
        refine' anewT (l := [(Dv, W.listOf ys.reverse.toArray 0), (Dl, lsA (keysR lX)), (D, lsA ys), (Dr, ord), (L + 1, ow), (L + 1 + 1 + 1, ol)] ++ (own ++ el)) K₀ Zy py idy sepA (.tail _ (.head _)) (.tail _ (.tail _ (.tail _ (.tail _ (.tail _ (.head _)))))) dl hl1 (fun y hy => (hall y (hlX y hy)).1) (hsm x hxm) (hall x hxm).1 (hall x hxm).2 (RK.ph x hxm).1 (RK.ph x hxm).2 F₁ (by rw [List.append_assoc]; exact N₂) ?turn
        case turn =>
          intro h' tk' S' hl' F' N' Z' p' sep' ids' rs'
          rw [List.append_assoc] at N'
          have ep : (if (lX.any fun y => y.i == x.i) = true then flagV V (stAt Xs lX i) else putV (flagV V (stAt Xs lX i)) x.i x.v) = flagV V (stAt Xs lX (i + 1)) := by
            cases hb : (lX.any fun y => y.i == x.i) with
            | true => rw [if_pos rfl, st_in hx hb]
            | false => rw [if_neg Bool.false_ne_true, st_out hx hb, ← ci, ← cv, flag_put hnd hc]
          rw [ep] at p'
          have rs'' := rs' (by rw [← ci, ← cv]; exact flag_find hnd hc)
          have A' := Z'.at (l' := _ :: _ :: _ :: _ :: _ :: _ :: (own ++ el)) F' N'
          obtain ⟨hl2, N2, Z2, hc2, _⟩ := A'.recoverC F' Z'.1 (Z'.out (l := _ :: _ :: _ :: _ :: _ :: _ :: (own ++ el)) F' N')
          have cc := core_cls A' hc2 fun p hp => (N2 p hp).1
          have hlc : Value.type "list" ≠ Value.type "list_iterator" := by decide
          refine hq h' tk' ⟨S', hl2⟩ (some (.ref x.k)) (some (.ref x.a)) (fr_m F' fun z => by simp only [anewM_one, anewM_attrs]) (fun q hq' => ?_) (all2 (.inl hlc) (all2 (.inl hlc) (all2 (.inl hlc) (all2 (.inl (by rw [hrc]; decide)) (all2 (.inr ⟨_, dw⟩) (all2 (.inr ⟨_, dl⟩) fun q hq' => ?_)))))) ⟨Z2, p', own_drop sep', ids', rs''.trans rsy⟩
          · rcases List.mem_append.mp hq' with m | m
            · rcases List.mem_append.mp (show q ∈ [_, _, _, _, _, _] ++ (el ++ S'.core w hl2) from m) with m | m
              · exact N' q (List.mem_append_left _ m)
              · rcases List.mem_append.mp m with m | m
                · exact N' q (List.mem_append_right _ (List.mem_append_left _ (List.mem_append_right _ m)))
                · exact N2 q m
            · exact N' q (List.mem_append_right _ (List.mem_append_left _ (List.mem_append_left _ m)))
          · rcases List.mem_append.mp hq' with m | m
            · rcases RK.cls q m with e | e <;> rw [e] <;> exact .inl (by decide)
            · exact .inl (cc q m).2.1
      case rest =>
        clear F N
        rintro h2 tk2 pv pv₂ ⟨S2, hl2⟩ F N ⟨Z2, p2, sep2, ids2, rs2⟩
        dsimp only at Z2 p2 sep2 ids2 rs2
        rw [List.length_reverse, List.length_map, st_end hVX] at p2
        simp only [anewM_one, anewM_attrs] at F
        obtain ⟨q0, q3⟩ := ids_eqs (ids2.trans hids.symm)
        replace e0 := q0.trans e0
        replace e3 := q3.trans e3
        replace sep2 := (List.forall_mem_cons.mp sep2).2
        replace F : Fr g L h2 _ := F
        replace N : News g L h2 ((Dl, lsA (keysR lX)) :: (D, lsA ys) :: (Dr, ord) :: (L + 1, ow) :: (L + 1 + 1 + 1, ol) :: (el ++ S2.core w hl2)) := (List.forall_mem_cons.mp N).2
        have A2 := Z2.at (l' := _ :: _ :: _ :: _ :: _ :: el) F N
        replace N := news_front (l := (Dl, lsA (keysR lX)) :: (D, lsA ys) :: (Dr, ord) :: (L + 1, ow) :: (L + 1 + 1 + 1, ol) :: el) N
        rw [e0, e3] at N
        clear q0 q3
        k_steps
        (with_reducible rename Fr _ _ _ _ => F)
        (with_reducible rename News _ _ _ _ => N)
        unfold Halt
        have bk0 : Book prog w (PH H₀) h2 b0 S2.w0.db S2.w0.r S2.w0.u S2.w0.xs := by have := A2.a0.bk; rw [e0] at this; exact this
        refine' fas_k F N (CT (by decide) F) bk0 ?f0
        case f0 =>
          clear F N
          intro h3 t3 q f z c1 c2 c3 K3 F N nq nf nz
          k_steps
          unfold Halt
          have A3 := Z2.at (l' := _ :: _ :: _ :: _ :: _ :: _ :: _ :: _ :: _ :: _ :: _ :: _ :: _ :: _ :: _ :: el) F N
          have hall := (RK.at' _ _ F fun p hp => (N p (by
            iterate 15 refine .tail _ ?_
            exact List.mem_append_left _ hp)).1).1
          have k1 : KeysAre prog w h3 (keysR (staleR S2.w0.xs)) (lX.map (·.i)) := by
            have := stale_keys A3.a0 p2.c0
            rw [left_sort hnd hl1 (fun y hy => by obtain ⟨c, hc, e, _⟩ := hXV y (hlX y hy); exact e ▸ List.mem_map_of_mem (f := fun c : Cr => c.1) hc) fun y hy => hsm y (hlX y hy)] at this
            exact this
          have k2 : KeysAre prog w h3 (keysR lX) (lX.map (·.i)) := KeysAre.of_rows fun y hy => (hall y (hlX y hy)).1
          refine' keys_ne ⟨_, News.get (a := z) N (by k_mem), rfl, _, rfl⟩ ⟨_, News.get (a := Dl) N (by k_mem), rfl, _, rfl⟩ k1 k2 ?hu ?ne
          case hu => simp only [Around.deeper_units]; k_extra "own a"
          case ne =>
            clear k1 k2 hall A3 nq nf nz K3
            replace N : News g L h3 ((Dl, lsA (keysR lX)) :: (D, lsA ys) :: (Dr, ord) :: (L + 1, ow) :: (L + 1 + 1 + 1, ol) :: (el ++ S2.core w hl2)) := fun p hp => N p (by
              iterate 10 refine .tail _ ?_
              exact hp)
            k_steps
            unfold Halt
            refine' deed_k (d := .fin) (wt := 0) (y := Str.ofString "box") (u := .ref bx) (l := (Dl, lsA (keysR lX)) :: (D, lsA ys) :: (Dr, ord) :: (L + 1, ow) :: (L + 1 + 1 + 1, ol) :: el) F N Z2 p2 sep2 (CT (by decide) F) (by rw [ids2]; exact F.keep _ _ gbl) trivial rfl trivial rfl (by decide) ?dk
            case dk =>
              clear F N sep2
              intro h4 t4 S3 hl3 F N Z3 p3 sep3 ids3 rs3 _
              replace N : News g L h4 ((Dl, lsA (keysR lX)) :: (D, lsA ys) :: (Dr, ord) :: (L + 1, ow) :: (L + 1 + 1 + 1, ol) :: (el ++ S3.core w hl3)) := N
              k_steps
              unfold Halt
              exact hQ _ _ S3 hl3 _ _ F N Z3 p3 sep3 (ids3.trans ids2) (rs3.trans ((left_rs (p2.cr.trans (flag_iv V _)) p2.cs).trans (by rw [rs2])))
end
end Mine
end
section
theorem Mine.off_49q : True := by
  w_top off
  trivial
local macro_rules | `(tactic| walk_at "no such tree 49q 0") => `(tactic| skip)
local macro_rules | `(tactic| walk_at "no such tree 49q 1") => `(tactic| skip)
local macro_rules | `(tactic| walk_at "execs cons") => `(tactic| k_extra "own 35")
local macro_rules | `(tactic| walk_at "pyIter ref") => `(tactic| k_extra "own h")
local macro_rules | `(tactic| walk_at "compareOp NotIn ref ref") => `(tactic| k_extra "own h")
local macro_rules | `(tactic| walk_at "call builtin:dict.pop") => `(tactic| k_extra "own h")
namespace Mine
section
variable {prog : Program} {w : World} {A : Around} {s : Shared} {mean : ExcName → Option Value} {mg mb : Str → Option Value} {H₀ g : Heap} {L : Nat} {Q : Flow → Shared → Prop} {E : Value → Shared → Prop} {S : St} {hl : List (Addr × Obj)} {V : List Cr} {ou : Option Int}
theorem drop_one (rs : List Row) (x : Row) : dropR rs x.i = rs.filter fun y => !([x].any fun z => z.i == y.i) := by
  unfold dropR
  refine List.filter_congr fun y _ => ?_
  rw [List.any_cons, List.any_nil, Bool.or_false]
  congr 1
  by_cases q : y.i = x.i
  · rw [decide_eq_true q, q]; exact (beq_self_eq_true _).symm
  · rw [decide_eq_false q]; exact (beq_eq_false_iff_ne.mpr (Ne.symm q)).symm
theorem drop_nil (rs : List Row) : (rs.filter fun y => !(([] : List Row).any fun z => z.i == y.i)) = rs := List.filter_eq_self.mpr fun _ _ => rfl
/-- the loop over what was left out: routes.pop(one) -/
theorem anewP {bx bl cb b3 Dr Dl : Nat} {D wd on at' : Option Value} {ids : List Value} {nw : Int} {tn : Tok} {ol ord : Obj} {lX rs : List Row} {R : List (Addr × Obj)} {c : Nat} (K : AnewCx w mean mg mb H₀ g A bx bl cb ids)
    (hord : RowsObj prog w ord (rs.map Row.ent)) (hz : rs.length ≤ 4) (hkf : ∀ h m, Fr g L h m → News g L h R → (∀ x ∈ rs, KeyAt prog w h (Pk x.i) x.k) ∧ ∀ y ∈ lX, KeyAt prog w h (Pk y.i) y.k) (hnd : (rs.map (·.i)).Nodup) (h1 : lX.length ≤ 1) (hin : ∀ y ∈ lX, ∃ x ∈ rs, x.i = y.i) (lod : 1 < Dr) (dl : ol.data = .cell (some (.ref Dl)))
    (mL : (Dl, W.listOf (keysR lX).toArray c) ∈ R) (mO : (L + 1 + 1 + 1, ol) ∈ R) (nR : ∀ p ∈ R, p.1 ≠ Dr)
    (F : Fr g L s.heap (anewM bx bl nw tn (some (.ref b3)) D (some (.ref Dr)) wd on at' none)) (N : News g L s.heap ((Dr, ord) :: R))
    (hQ : ∀ h' tk ord' on', Fr g L h' (anewM bx bl nw tn (some (.ref b3)) D (some (.ref Dr)) wd on' at' none) → News g L h' ((Dr, ord') :: R) → RowsObj prog w ord' ((rs.filter fun y => !(lX.any fun z => z.i == y.i)).map Row.ent) → wpAny (model prog w) (A.deeper (anewE L)) (execs (anewDef.1.drop 10) (anewE L)) Q (fun _ _ => False) { s with heap := h', toks := tk }) :
    wpAny (model prog w) (A.deeper (anewE L)) (execs (anewDef.1.drop 9) (anewE L)) Q (fun _ _ => False) s := by
  obtain ⟨B, SG, X, T, hA, hU, hh, gbl, hb1⟩ := K
  have hH : (A.deeper (envOf "" default 0 0 .none)).handled = none := hh
  conv in (List.drop _ _) => whnf
  replace N : News g L s.heap ((L + 1 + 1 + 1, ol) :: (Dl, W.listOf (keysR lX).toArray c) :: (Dr, ord) :: R) := all2 (N _ (.tail _ mO)) (all2 (N _ (.tail _ mL)) N)
  k_steps
  (with_reducible rename Fr _ _ _ _ => F)
  unfold Halt
  replace N : News g L s.heap ((Dr, ord) :: R) := (List.forall_mem_cons.mp (List.forall_mem_cons.mp N).2).2
  have hl := N _ (.tail _ mL)
  rcases le_one h1 with rfl | ⟨x, rfl⟩
  · refine' loop_nil hH ⟨_, hl.1, rfl, _, rfl⟩ hl.2.1 F N ?q0
    case q0 =>
      intro h' tk pv F' N'
      simp only [anewM_one] at F'
      k_steps
      unfold Halt
      exact hQ _ _ ord _ F' N' (by rw [drop_nil]; exact hord)
  · refine' loop_one hH ⟨_, hl.1, rfl, _, rfl⟩ hl.2.1 F N (fun y => ∃ ord', y = (Dr, ord') :: R ∧ RowsObj prog w ord' ((dropR rs x.i).map Row.ent)) ?step ?q1
    case step =>
      intro h tk own Q' ho F₁ N₁ hq
      simp only [anewM_one] at F₁
      have nD := N _ (.head _)
      have no : ∀ p ∈ own, p.1 ≠ Dr := own_ne ho nD.1 (fun q => nR _ mL q.symm)
      have nR2 : ∀ p ∈ R ++ own, p.1 ≠ Dr := fun p hp => (List.mem_append.mp hp).elim (nR p) (no p)
      replace N₁ : News g L h ((Dr, ord) :: (R ++ own)) := N₁
      clear F N
      obtain ⟨hk1, hk2⟩ := hkf _ _ F₁ fun p hp => N₁ p (.tail _ (List.mem_append_left _ hp))
      obtain ⟨y, hy, hyx⟩ := hin x (.head _)
      have hp : atKey (rs.map Row.ent) (Pk x.i) = some (y.k, .ref y.l) := by rw [atKey_ent, ← hyx, findR_of hnd hy]; rfl
      k_steps
      unfold Halt
      refine' pop_TN (more := []) ?u F₁ N₁ (.head nR2) (low_of lod) hord ?ks (hk2 x (.head _)) ?z (.inr ⟨rfl, by rw [hp]; rfl⟩) (fun _ _ _ e => nomatch e) ?sm
      case u => show _ < 9900; simp only [Around.deeper_units]; k_extra "own a"
      case ks => intro z hz; obtain ⟨y, hy, rfl⟩ := List.mem_map.mp hz; exact hk1 y hy
      case z => rw [List.length_map]; omega
      case sm =>
        intro p h' o' t' _ F' N' r'
        rw [drop_ent] at r'
        k_steps
        refine hq _ _ ((Dr, o') :: R) (some (.ref x.k)) (fr_m F' fun z => by simp only [anewM_one]) N' (fun q hq' => ?_) ⟨o', rfl, r'⟩
        rcases List.mem_cons.mp hq' with rfl | m
        · exact .inr ⟨ord, .head _⟩
        · exact .inr ⟨q.2, .tail _ m⟩
    case q1 =>
      rintro h' tk pv _ F' N' ⟨ord', rfl, r'⟩
      simp only [anewM_one] at F'
      rw [drop_one] at r'
      k_steps
      unfold Halt
      exact hQ _ _ ord' _ F' N' r'
end
end Mine
end
section
theorem Mine.off_49r : True := by
  w_top off
  trivial
local macro_rules | `(tactic| walk_at "no such tree 49r 0") => `(tactic| skip)
local macro_rules | `(tactic| walk_at "compareOp NotIn ref ref") => `(tactic| k_extra "own h")
namespace Mine
section
variable {prog : Program} {w : World} {A : Around} {s : Shared} {mean : ExcName → Option Value} {mg mb : Str → Option Value} {H₀ g : Heap} {L : Nat} {Q : Flow → Shared → Prop} {E : Value → Shared → Prop} {S : St} {hl : List (Addr × Obj)} {V : List Cr} {ou : Option Int}
noncomputable abbrev Row.nl (x : Row) : Nat × Addr × Addr × Int := (x.i, x.k, x.a, x.v)
theorem nl_of {Ds Ys : List Row} (e : Ds.map Row.nl = Ys.map Row.nl) {d : Row} (hd : d ∈ Ds) : ∃ x ∈ Ys, x.nl = d.nl := by
  have : d.nl ∈ Ys.map Row.nl := e ▸ List.mem_map_of_mem hd
  obtain ⟨x, hx, q⟩ := List.mem_map.mp this
  exact ⟨x, hx, q⟩
theorem due_hit {Xs lX Ds : List Row} (hnd : (V.map (·.1)).Nodup) (hXV : ∀ x ∈ Xs, ∃ c ∈ V, c.1 = x.i ∧ c.2.1 = x.v) (hVX : ∀ c ∈ V, ∃ x ∈ Xs, x.i = c.1) (hD : Ds.map Row.nl = (Xs.filter fun x => !(lX.any fun y => y.i == x.i)).map Row.nl) {xs : List Row} (hc : xs.map Row.core = keptV (flagV V fun k => lX.any fun y => y.i == k)) {z : Row} (hz : z ∈ xs) : z.st = false ∧ ∃ d ∈ Ds, d.i = z.i ∧ d.v = z.v := by
  have h1 : z.core ∈ keptV (flagV V fun k => lX.any fun y => y.i == k) := hc ▸ List.mem_map_of_mem hz
  rw [flag_kept] at h1
  obtain ⟨c, hcm, e⟩ := List.mem_map.mp h1
  obtain ⟨hcV, hcf⟩ := List.mem_filter.mp hcm
  have e1 : c.1 = z.i := congrArg Prod.fst e
  have e2 : c.2.1 = z.v := congrArg (fun q : Cr => q.2.1) e
  have e3 : false = z.st := congrArg (fun q : Cr => q.2.2) e
  obtain ⟨x, hx, ex⟩ := hVX c hcV
  obtain ⟨c', hc', ec, ev⟩ := hXV x hx
  have ecc := nodup_fst hnd hc' hcV (ec.trans ex)
  subst ecc
  have hxf : x ∈ Xs.filter fun x => !(lX.any fun y => y.i == x.i) := List.mem_filter.mpr ⟨hx, by rw [ex]; exact hcf⟩
  have : x.nl ∈ Ds.map Row.nl := hD ▸ List.mem_map_of_mem hxf
  obtain ⟨d, hd, q⟩ := List.mem_map.mp this
  exact ⟨e3.symm, d, hd, (congrArg (fun q : Nat × Addr × Addr × Int => q.1) q).trans (ex.trans e1), (congrArg (fun q : Nat × Addr × Addr × Int => q.2.2.2) q).trans (ev.symm.trans e2)⟩
theorem due_len {Xs lX Ds : List Row} (hp : (Xs.map (·.i)).Perm (V.map (·.1))) (hD : Ds.map Row.nl = (Xs.filter fun x => !(lX.any fun y => y.i == x.i)).map Row.nl) {xs : List Row} (hc : xs.map Row.core = keptV (flagV V fun k => lX.any fun y => y.i == k)) : xs.length = Ds.length := by
  have h1 := congrArg List.length hc
  have h2 := congrArg List.length hD
  rw [flag_kept] at h1
  simp only [List.length_map] at h1 h2
  rw [h1, h2]
  have h3 := (hp.filter fun k => !(lX.any fun y => y.i == k)).length_eq
  rw [List.filter_map, List.filter_map, List.length_map, List.length_map] at h3
  exact h3.symm
theorem nl_i {Ds Ys : List Row} (e : Ds.map Row.nl = Ys.map Row.nl) : Ds.map (·.i) = Ys.map (·.i) := by
  have := congrArg (List.map fun q : Nat × Addr × Addr × Int => q.1) e
  rw [List.map_map, List.map_map] at this; exact this
theorem anewQ {bx bl cb b0 b3 D Dr Dl : Nat} {ids : List Value} {nw : Int} {tn : Tok} {ow ol ord : Obj} {ys : List Value} {el : List (Addr × Obj)} {Xs Rs lX : List Row} {wd on at' : Option Value} (K : AnewCx w mean mg mb H₀ g A bx bl cb ids)
    (Z : Later prog w (PH H₀) g L S hl) (p : Pure S (keptV (flagV V fun k => lX.any fun y => y.i == k)) none) (e0 : S.w0.b = b0) (e3 : S.k.b = b3) (hids : S.ids = ids) (dw : ow.data = .cell (some (.ref b0))) (dl : ol.data = .cell (some (.ref Dl)))
    (RK : RowsK prog w H₀ g L el ys Xs Rs) (hX4 : Xs.length ≤ 4) (hXn : (Xs.map (·.i)).Nodup) (hnd : (V.map (·.1)).Nodup) (hXV : ∀ x ∈ Xs, ∃ c ∈ V, c.1 = x.i ∧ c.2.1 = x.v) (hVX : ∀ c ∈ V, ∃ x ∈ Xs, x.i = c.1) (hXp : (Xs.map (·.i)).Perm (V.map (·.1))) (h1 : lX.length ≤ 1) (hlX : ∀ y ∈ lX, y ∈ Xs)
    (hord : RowsObj prog w ord (S.k.rs.map Row.ent)) (lod : 1 < Dr) (lbx : bx < L)
    (F : Fr g L s.heap (anewM bx bl nw tn (some (.ref b3)) (some (.ref D)) (some (.ref Dr)) wd on at' none))
    (N : News g L s.heap ((Dr, ord) :: (Dl, lsA (keysR lX)) :: (D, lsA ys) :: (L + 1, ow) :: (L + 1 + 1 + 1, ol) :: (el ++ S.core w hl)))
    (hQ : ∀ h' tk, (∀ b o, g.get? b = some o → h'.get? b = some o) → Q (.ret (.bool true)) { s with heap := h', toks := tk }) :
    wpAny (model prog w) (A.deeper (anewE L)) (execs (anewDef.1.drop 10) (anewE L)) Q (fun _ _ => False) s := by
  obtain ⟨B, SG, X, T, hA, hU, hh, gbl, hb1⟩ := K
  have CT : ∀ {h' : Heap} {k : Nat} {m : Str → Option Value} {env : Env}, k ≤ 6 → Fr g L h' m → Cx w mean mg mb H₀ (PH H₀) (A.deeper env) h' k := fun hk F => Cx.dp (n := 7) B SG (by omega) (by omega) hh (Nat.succ_le_succ hk) F
  have hH : (A.deeper (envOf "" default 0 0 .none)).handled = none := hh
  conv in (List.drop _ _) => whnf
  have A4 := Z.at (l' := _ :: _ :: _ :: _ :: _ :: el) F N
  replace N := news_front (l := (Dr, ord) :: (Dl, lsA (keysR lX)) :: (D, lsA ys) :: (L + 1, ow) :: (L + 1 + 1 + 1, ol) :: el) N
  rw [e0, e3] at N
  k_steps
  refine' comp_startT ?hclos ?hkind ?hnames ?hsrc ?hfold
  case hclos => exact rfl
  case hfold => intro _; rfl
  case hkind => exact rfl
  case hnames => decide
  k_steps
  (with_reducible rename Fr _ _ _ _ => F)
  (with_reducible rename News _ _ _ _ => N)
  have hel : ∀ p ∈ el, s.heap.get? p.1 = some p.2 := fun p hp => (N p (by
    iterate 12 refine .tail _ ?_
    exact List.mem_append_left _ hp)).1
  obtain ⟨hall, hps⟩ := RK.at' _ _ F hel
  have Xc := X.keeps F.keep
  have Tc := T.keeps F.keep
  have nO : s.heap.get? (L + 1 + 1 + 1) = some ol := News.get N (by k_mem)
  have nL : s.heap.get? Dl = some (lsA (keysR lX)) := News.get N (by k_mem)
  refine' comp_pairs (l := D) (vs := ys) (fun C D4 I i zs h => ∃ (tl : List (Addr × Obj)) (Ds : List Row), (∀ p ∈ tl, h.get? p.1 = some p.2 ∧ p.1 ≠ C ∧ p.1 ≠ D4 ∧ p.1 ≠ I ∧ s.heap.get? p.1 = none) ∧ Ds.map Row.nl = ((Xs.take i).filter fun x => !(lX.any fun y => y.i == x.i)).map Row.nl ∧ zs.length = Ds.length ∧ ∀ (j : Nat) (z : Value) (d : Row), zs[j]? = some z → Ds[j]? = some d → ∃ t n n', z = .ref t ∧ (t, ({ cls := .type "tuple", data := .seq #[.ref d.k, .ref d.l] n } : Obj)) ∈ tl ∧ (d.l, W.listOf #[.ref d.a, .bool false] n') ∈ tl)
    ?J0 ?Jk hH F N ?hcell ?hkind ?hx ?hx2 ?hxx ⟨_, News.get (a := D) N (by k_mem), rfl, _, rfl⟩ ?sz hps ?body ?rest
  case J0 => exact fun C D I h => ⟨[], [], (fun _ h => nomatch h), rfl, rfl, fun j z d e => by simp at e⟩
  case Jk =>
    intro C D I i zs h h' ⟨tl, Ds, f, r⟩ k
    exact ⟨tl, Ds, fun p hp => ⟨k _ _ (f p hp).2.1 (f p hp).2.2.1 (f p hp).2.2.2.1 (f p hp).1, (f p hp).2⟩, r⟩
  case hcell => decide
  case hkind => exact rfl
  case hx => exact rfl
  case hx2 => exact rfl
  case hxx => decide
  case sz => rw [hps.1, List.length_map]; omega
  case body =>
    intro Cf Dc I' i pp zs s₃ m₃ E' K hp hi hm1 hm2 F₃ al frs hne hj hk
    refine turn_one ?_
    obtain ⟨tl, Ds, ft, eD, lz, fz⟩ := hj
    obtain ⟨oD, oI, N₃⟩ := comp_led al frs hne
    rw [List.getElem?_map] at hp
    obtain ⟨x, hx, rfl⟩ := Option.map_eq_some_iff.mp hp
    dsimp only at hm1 hm2
    have hxm := List.mem_of_getElem? hx
    have N₄ : News s.heap Cf s₃.heap ((Dc, oD) :: (I', oI) :: tl) := fun p hp => by
      rcases List.mem_append.mp (show p ∈ [(Dc, oD), (I', oI)] ++ tl from hp) with hp | hp
      · exact N₃ p hp
      · exact ⟨(ft p hp).1, (ft p hp).2.1, (ft p hp).2.2.2.2⟩
    have e1D := (N₄ _ (.head _)).1
    have e1I := (N₄ _ (.tail _ (.head _))).1
    clear F N N₃
    k_steps
    unfold Halt
    refine' notIn_lX h1 (F₃.keep _ _ nL) (fun y hy => (hall y (hlX y hy)).1.keep fun o => F₃.keep _ o) ((hall x hxm).1.keep fun o => F₃.keep _ o) (by simp only [Around.deeper_units]; k_extra "own a") ?ni
    case ni =>
      have etake : (Xs.take (i + 1)) = Xs.take i ++ [x] := by rw [List.take_add_one, hx]; rfl
      cases hb : (lX.any fun y => y.i == x.i) with
      | true =>
        have hkx := fun tk' => hk none s₃.heap tk' m₃ F₃ rfl rfl ⟨tl, Ds, ft, by rw [etake, List.filter_append, List.filter_cons, hb]; simpa using eD, by rw [Option.toList_none, List.append_nil]; exact lz, by rw [Option.toList_none, List.append_nil]; exact fz⟩
        k_steps
        exact hkx _
      | false =>
        k_steps
        rename_i la _ l1a ta h₅ F₄ N₅ l1b
        have n1 := (N₅ _ (.head _)).1
        have nC1 := (N₅ _ (.head _)).2.1
        have nn1 := (N₅ _ (.head _)).2.2
        have n2 := (N₅ _ (.tail _ (.head _))).1
        have nC2 := (N₅ _ (.tail _ (.head _))).2.1
        have nn2 := (N₅ _ (.tail _ (.head _))).2.2
        have n3 := (N₅ _ (.tail _ (.tail _ (.head _)))).1
        have n4 := (N₅ _ (.tail _ (.tail _ (.tail _ (.head _))))).1
        have M4 := all_drop (all_drop (all_drop (all_drop N₅)))
        refine hk (some _) h₅ _ m₃ F₄ (n3.trans e1D.symm) (n4.trans e1I.symm) ⟨(ta, _) :: (la, _) :: tl, Ds ++ [{ x with l := la, st := false }], all2 ⟨n1, nC1, Ne.symm (Nat.ne_of_lt l1b.2.1), Ne.symm (Nat.ne_of_lt l1b.2.2.1), nn1⟩ (all2 ⟨n2, nC2, Ne.symm (Nat.ne_of_lt l1a.1), Ne.symm (Nat.ne_of_lt l1a.2.1), nn2⟩ fun p hp => ⟨(M4 p hp).1, (ft p hp).2⟩), ?_, ?_, fun j z d e1 e2 => ?_⟩
        · rw [etake, List.filter_append, List.map_append, List.map_append, eD]
          congr 1
          rw [List.filter_cons, hb]; rfl
        · rw [Option.toList_some, List.length_append, List.length_append, lz]; rfl
        · rw [Option.toList_some] at e1
          revert j z d
          refine ext2 lz (fun j z d e1 e2 => ?_) ?_
          · obtain ⟨t, n, n', e, m, m'⟩ := fz j z d e1 e2
            exact ⟨t, n, n', e, .tail _ (.tail _ m), .tail _ (.tail _ m')⟩
          · exact ⟨_, _, _, rfl, .head _, .tail _ (.head _)⟩
  case rest =>
    clear Xc Tc
    have F0 := F
    clear F N
    intro Cc D5 I' zs h2 t2 F N hD5 k2 ⟨tl, Ds, ft, eD, lz, fz⟩
    rw [List.length_map, List.take_length] at eD
    replace N : News g L h2 ((D5, lsA zs) :: (b0, _) :: (S.w0.db, _) :: (S.w0.r, _) :: (b3, _) :: (S.k.db, _) :: (S.k.rt, _) :: (S.k.sl, _) :: (Dr, ord) :: (Dl, lsA (keysR lX)) :: (D, lsA ys) :: (L + 1, ow) :: (L + 1 + 1 + 1, ol) :: ((tl ++ el) ++ S.core w hl)) := fun p hp => by
      rcases List.mem_append.mp (show p ∈ [_, _, _, _, _, _, _, _, _, _, _, _, _] ++ ((tl ++ el) ++ S.core w hl) from hp) with hp | hp
      · exact N p (List.mem_append_left (el ++ S.core w hl) hp)
      · rcases List.mem_append.mp hp with hp | hp
        · rcases List.mem_append.mp hp with hp | hp
          · exact ⟨(ft p hp).1, none_L F0 (ft p hp).2.2.2.2, none_base F0 (ft p hp).2.2.2.2⟩
          · exact N p (by
              iterate 13 refine .tail _ ?_
              exact List.mem_append_left _ hp)
        · exact N p (by
              iterate 13 refine .tail _ ?_
              exact List.mem_append_right _ hp)
    have hDi : Ds.map (·.i) = (Xs.filter fun x => !(lX.any fun y => y.i == x.i)).map (·.i) := nl_i eD
    have hDn : (Ds.map (·.i)).Nodup := by rw [hDi]; exact List.Nodup.sublist (List.Sublist.map _ List.filter_sublist) hXn
    have hD4 : Ds.length ≤ 4 := by
      have := congrArg List.length hDi
      simp only [List.length_map] at this
      have h2 := List.length_filter_le (fun x : Row => !(lX.any fun y => y.i == x.i)) Xs
      omega
    have hDx : ∀ d ∈ Ds, ∃ x ∈ Xs, x.nl = d.nl := fun d hd => by
      obtain ⟨x, hx, e⟩ := nl_of eD hd
      exact ⟨x, (List.mem_filter.mp hx).1, e⟩
    have hall2 := (RK.at' _ _ F fun p hp => (N p (by
      iterate 13 refine .tail _ ?_
      exact List.mem_append_left _ (List.mem_append_right _ hp))).1).1
    k_steps
    unfold Halt
    refine' dict_pairs (es := Ds.map fun d => (d.i, d.k, Value.ref d.l)) hH ?du F N ?d1 (N _ (.head _)).1 ?dz ?dn ?dv ?dp ?dr
    case du => show _ < 9900; simp only [Around.deeper_units]; k_extra "own a"
    case d1 => exact Nat.lt_trans (Nat.lt_trans hb1 lbx) F.ns.lt
    case dz => rw [List.length_map]; omega
    case dn => rw [List.map_map]; exact hDn
    case dv => rw [List.length_map]; exact lz
    case dp =>
      intro j v e e1 e2
      rw [List.getElem?_map] at e2
      obtain ⟨d, hd, rfl⟩ := Option.map_eq_some_iff.mp e2
      obtain ⟨t, n, n', e, m, m'⟩ := fz j v d e1 hd
      obtain ⟨x, hx, ex⟩ := hDx d (List.mem_of_getElem? hd)
      have e4 : x.i = d.i := congrArg (fun q : Nat × Addr × Addr × Int => q.1) ex
      have e5 : x.k = d.k := congrArg (fun q : Nat × Addr × Addr × Int => q.2.1) ex
      exact ⟨t, n, e, (ft _ m).1, by have := (hall2 x hx).1; rw [e4, e5] at this; exact this⟩
    case dr =>
      clear F N
      intro Dd od h3 t3 F N hod lodd nDd k3 neD
      rw [List.map_map] at hod
      replace hod : RowsObj prog w od (Ds.map Row.ent) := hod
      clear neD
      k_steps
      (with_reducible rename Fr _ _ _ _ => F)
      (with_reducible rename News _ _ _ _ => N)
      unfold Halt
      rename_i h5
      simp only [anewM_due] at F
      have A5 := Z.at (l' := _ :: _ :: _ :: _ :: _ :: _ :: _ :: _ :: _ :: _ :: _ :: _ :: _ :: _ :: (tl ++ el)) F N
      have hall5 := (RK.at' _ _ F fun p hp => (N p (by
        iterate 14 refine .tail _ ?_
        exact List.mem_append_left _ (List.mem_append_right _ hp))).1).1
      have ft5 : ∀ p ∈ tl, h5.get? p.1 = some p.2 := fun p hp => (N p (by
        iterate 14 refine .tail _ ?_
        exact List.mem_append_left _ (List.mem_append_left _ hp))).1
      refine' dict_eqT (xs := S.w0.xs.map Row.ent) (ys := Ds.map Row.ent) (low_of A5.a0.bk.p.2.2.2) (low_of lodd) (A5.a0.ro.dictOf A5.a0.r ?dk0) (hod.dictOf (N _ (.head _)).1 ?dk1) ?du1 ?dl1 ?dh1 ?dq1
      case dk0 => intro e he; obtain ⟨y, hy, rfl⟩ := List.mem_map.mp he; exact A5.a0.bk.keys y hy
      case dk1 =>
        intro e he
        obtain ⟨d, hd, rfl⟩ := List.mem_map.mp he
        obtain ⟨x, hx, ex⟩ := hDx d hd
        have e4 : x.i = d.i := congrArg (fun q : Nat × Addr × Addr × Int => q.1) ex
        have e5 : x.k = d.k := congrArg (fun q : Nat × Addr × Addr × Int => q.2.1) ex
        have := (hall5 x hx).1
        rw [e4, e5] at this; exact this
      case du1 => simp only [Around.deeper_units]; k_extra "own a"
      case dl1 => rw [List.length_map, List.length_map]; exact due_len hXp eD p.c0
      case dh1 =>
        intro e he
        obtain ⟨z, hz, rfl⟩ := List.mem_map.mp he
        obtain ⟨zst, d, hd, di, dv⟩ := due_hit hnd hXV hVX eD p.c0 hz
        obtain ⟨x, hx, ex⟩ := hDx d hd
        have e6 : x.a = d.a := congrArg (fun q : Nat × Addr × Addr × Int => q.2.2.1) ex
        have e7 : x.v = d.v := congrArg (fun q : Nat × Addr × Addr × Int => q.2.2.2) ex
        obtain ⟨j, hj⟩ := List.mem_iff_getElem?.mp hd
        have hjl : j < zs.length := by rw [lz]; exact (List.getElem?_eq_some_iff.mp hj).1
        obtain ⟨_, _, n', _, _, m'⟩ := fz j _ d (List.getElem?_eq_getElem hjl) hj
        refine ⟨(d.k, .ref d.l), ?_, ?_⟩
        · show atKey (Ds.map Row.ent) (Pk z.i) = _
          rw [atKey_ent, ← di, findR_of hDn hd]; rfl
        · show EqIn prog w _ _ (.ref z.l) (.ref d.l)
          refine EqIn.list (xs := #[.ref z.a, .bool z.st]) (ys := #[.ref d.a, .bool false]) ⟨_, A5.a0.bk.row z hz, rfl, _, rfl⟩ ⟨_, ft5 _ m', rfl, _, rfl⟩ rfl (by simp only [Around.deeper_units, Around.in1_units]; k_extra "own a") fun j h1 h2 => ?_
          have h1' : j < 2 := h1
          rcases lt_two h1' with rfl | rfl
          · show EqIn prog w _ _ (.ref z.a) (.ref d.a)
            refine EqIn.med (v := z.v) (low_of (A5.a0.bk.pl z hz).2.2.2) (e6 ▸ low_of (RK.ph x hx).2.2) (A5.a0.bk.med z hz) ?_ (by simp only [Around.deeper_units, Around.in1_units]; k_extra "own a")
            have := (hall5 x hx).2
            rw [e6, e7, dv] at this; exact this
          · show EqIn prog w _ _ (.bool z.st) (.bool false)
            rw [zst]
            exact EqIn.of (SeqAt.EqAt.same _)
      case dq1 =>
        clear ft5 hall5
        k_steps
        unfold Halt
        refine' dict_eqT (xs := S.k.rs.map Row.ent) (ys := S.k.rs.map Row.ent) (low_of A5.ak.kp.p.2.2.1.2) (low_of lod) (A5.ak.ro.dictOf A5.ak.r ?ek0) (hord.dictOf (News.get (a := Dr) N (by k_mem)) ?ek0) ?eu rfl ?eh ?eq
        case ek0 => intro e he; obtain ⟨y, hy, rfl⟩ := List.mem_map.mp he; exact A5.ak.kp.keys y hy
        case eu => simp only [Around.deeper_units]; k_extra "own a"
        case eh =>
          intro e he
          obtain ⟨y, hy, rfl⟩ := List.mem_map.mp he
          refine ⟨(y.k, .ref y.l), ?_, EqIn.refs fun n => absurd rfl n⟩
          show atKey (S.k.rs.map Row.ent) (Pk y.i) = _
          rw [atKey_ent, findR_of A5.ak.kp.nodup hy]; rfl
        case eq =>
          k_steps
          (with_reducible rename Fr _ _ _ _ => F)
          (with_reducible rename News _ _ _ _ => N)
          unfold Halt
          rename_i de h6 oe lode hde _ _ _ _
          have A6 := Z.at (l' := _ :: _ :: _ :: _ :: _ :: _ :: _ :: _ :: _ :: _ :: _ :: _ :: _ :: _ :: _ :: (tl ++ el)) F N
          have ssn : S.k.ss = [] := ss_nil p (List.filter_eq_nil_iff.mpr fun c hc => by
            have := (List.mem_filter.mp hc).2
            simpa using this)
          have soE : RowsObj prog w S.k.so [] := by have := A6.ak.so; rw [ssn] at this; exact this
          refine' dict_eqT (xs := []) (ys := []) (low_of A6.ak.kp.p.2.2.2.2) lode (soE.dictOf A6.ak.s fun _ h => nomatch h) ((rows_empty hde).dictOf (N _ (.head _)).1 fun _ h => nomatch h) ?gu rfl (fun _ h => nomatch h) ?gq
          case gu => simp only [Around.deeper_units]; k_extra "own a"
          case gq =>
            k_steps
            unfold Halt
            refine' alike_k F N (p.inv A6) (CT (by decide) F) (by rw [hids]; exact F.keep _ _ gbl) ?al
            case al =>
              clear F N A6
              intro h7 t7 F N K7
              k_steps
              exact hQ _ _ F.keep
end
end Mine
end
section
theorem Mine.off_49z : True := by
  w_top off
  trivial
local macro_rules | `(tactic| walk_at "no such tree 49z 0") => `(tactic| skip)
local macro_rules | `(tactic| walk_at "no such tree 49z 1") => `(tactic| skip)
local macro_rules | `(tactic| walk_at "execs cons") => `(tactic| k_extra "own 36")
namespace Mine
section
variable {prog : Program} {w : World} {A : Around} {s : Shared} {mean : ExcName → Option Value} {mg mb : Str → Option Value} {H₀ : Heap} {P : Addr → Prop} {R : Result → Shared → Prop}
theorem HardAt.no_rows {h : Heap} {a : Addr} {o : Obj} {xs : List (List Int × Addr × Value)} (x : HardAt prog w h a) (e : h.get? a = some o) (r : RowsObj prog w o xs) : False := by
  rcases x with ⟨o₁, vs, n, e1, hc, _⟩ | ⟨v', o₁, t, e1, y⟩
  · rw [e] at e1; cases e1
    rw [r.cls] at hc
    exact absurd hc (by decide)
  · rw [e] at e1; cases e1
    exact med_ne_rows y r
theorem anew_ct {bx bl sc cb cx c1 : Nat} {S : St} {V : List Cr} {ou : Option Int} {nw sp : Int} {tn t₀ : Tok} {vs : List Value} {ns : List Int} (C : Cx w mean mg mb H₀ (PH H₀) A s.heap 7) (I : Inv prog w (PH H₀) s.heap S V ou) (hV : staleV V = []) (hbl : s.heap.get? bl = some (W.listOf S.ids.toArray cb))
    (hbx : s.heap.get? bx = some (W.listOf #[.ref sc, .int sp t₀] cx)) (bh0 : H₀.get? bx = none) (hs : s.heap.get? sc = some (W.listOf vs.toArray c1)) (hv : IntsAre vs ns) (hbs : @Ne Nat bx sc) (hbb : @Ne Nat bx bl) (hb1 : 1 < bx) (h0 : 0 ≤ sp) (hsp : sp ≤ 900) (hz : vs.length ≤ 1000)
    (hR : ∀ h' t, H₀.StaysIn h' → R (.ok (.ret (.bool true))) { s with heap := h', toks := t }) :
    codeAny (model prog w) A (.call (.ref 198) ⟨[.ref bx, .ref bl, .int nw tn], []⟩) R s := by
  have A4 := I.four
  have hA := C.dep
  have hU := C.uni
  refine' enterC (mo := (bx, W.listOf #[.ref sc, .int sp t₀] cx) :: S.core w []) C.B.X C.B.T C.st ?m ?ho ?hcd ?room ?bind ?loc ?nd ?_ ?c1 ?c2 ?c3
  case ho => k_is
  case hcd => k_is
  case bind => exact BindsTo.of_eq rfl
  case loc => exact rfl
  case nd => decide +kernel
  case c1 => exact rfl
  case c2 => exact rfl
  case c3 => exact rfl
  case room => show _ < 1000; k_extra "own a"
  case m => exact all2 ⟨hbx, bh0⟩ A4.mo
  intro g L h₁ tk cells KG eL F N Y lL X T SG
  obtain ⟨ol, os, ow, hE, dl, ds, dw⟩ := PyProof.Rows.CellsAre.three Y
  subst hE
  clear Y
  simp only [List.cons_append, List.nil_append] at N
  (try dsimp only)
  have moS : ∀ a ∈ ((bx, W.listOf #[.ref sc, .int sp t₀] cx) :: S.core w []).map (·.1), a ∈ S.mut ∨ ∃ vs c, s.heap.get? a = some (W.listOf vs c) := fun a ha => by
    rcases List.mem_cons.mp ha with rfl | ha
    · exact .inr ⟨_, _, hbx⟩
    · exact .inl (core_mut ha)
  have Z : Later prog w (PH H₀) g L S [] := A4.start2 KG moS eL
  have gbl : g.get? bl = some (W.listOf S.ids.toArray cb) := KG _ _ hbl fun q => by
    rcases List.mem_cons.mp q with q | q
    · exact hbb q.symm
    · exact ids_ne A4 hbl (fun x st q => by cases q) (core_mut q)
  have CT : ∀ {h' : Heap} {k : Nat} {m : Str → Option Value} {env : Env}, k ≤ 6 → Fr g L h' m → Cx w mean mg mb H₀ (PH H₀) (A.deeper env) h' k := fun hk F => C.dt SG (Nat.succ_le_succ hk) F
  have hH : (A.deeper (envOf "" default 0 0 .none)).handled = none := C.hh
  have lS : ∀ a ∈ S.mut, a < L := fun a ha => by obtain ⟨o, e⟩ := A4.there a ha; rw [eL]; exact Heap.lt_size e
  have lbx : bx < L := lL _ (.head _)
  have p := I.pure
  clear lL moS
  k_steps
  (with_reducible rename Fr _ _ _ _ => F)
  (with_reducible rename News _ _ _ _ => N)
  have m1 := N _ (.head _)
  have m2 := N _ (.tail _ (.head _))
  have m3 := N _ (.tail _ (.tail _ (.head _)))
  have m4 := N _ (.tail _ (.tail _ (.tail _ (.head _))))
  have N1 := all_drop N
  have N2 := all_drop (all_drop N)
  have N3 := all_drop (all_drop (all_drop N))
  have N4 := all_drop (all_drop (all_drop (all_drop N)))
  have N' := news_put m4 (news_put m2 (news_put m3 N4))
  dsimp only at N'
  clear m1 m2 m3 m4 N1 N2 N3 N4 N
  unfold Halt
  refine' cell_store (l := [_, _, _]) (hl := []) (c := L + 1) rfl rfl rfl F N' Z dw (fun q => absurd (lS _ q) (Nat.not_lt.mpr (Nat.le_add_right L 1))) ?lc ?w0
  case lc => exact all2 (show @Ne Nat (L + 1 + 1 + 1) (L + 1) by omega) (all2 (show @Ne Nat (L + 1 + 1) (L + 1) by omega) (all1 (show @Ne Nat bx (L + 1) by omega)))
  case w0 =>
    clear F N' Z dw
    intro h1 ow' hl1 F N Z dw k1
    dsimp only [List.cons_append, List.nil_append] at N
    k_steps
    rename_i Dk1 hk1 F1 N1 l1a fr1 hd1 od1 F N lod1 hdd1 hff1 app1 l1b
    replace dl : ol.data = .cell none := dl
    replace ds : os.data = .cell none := ds
    have sepc : ∀ p ∈ [(L + 1, ow'), (L + 1 + 1 + 1, ol), (L + 1 + 1, os), (bx, W.listOf #[.ref sc, .int sp t₀] cx)], p.1 ∉ S.mut := all2 (fun q => absurd (lS _ q) (Nat.not_lt.mpr (show L ≤ L + 1 by omega))) (all2 (fun q => absurd (lS _ q) (Nat.not_lt.mpr (show L ≤ L + 1 + 1 + 1 by omega))) (all2 (fun q => absurd (lS _ q) (Nat.not_lt.mpr (show L ≤ L + 1 + 1 by omega))) (all1 (ids_ne A4 hbx fun x st q => by cases q))))
    unfold Halt
    have haa : IsMed prog w _ hk1.objs.size 5 := ⟨od1, _, (N _ (.head _)).1, hdd1⟩
    have A5 := Z.at (l' := (hk1.objs.size, od1) :: (Dk1, _) :: (L + 1, _) :: (L + 1 + 1 + 1, _) :: (L + 1 + 1, _) :: (bx, _) :: []) F N
    refine' told_k (i := 1) (v := 5) (y := Str.ofString "kept") (l := (hk1.objs.size, od1) :: (Dk1, _) :: (L + 1, _) :: (L + 1 + 1 + 1, _) :: (L + 1 + 1, _) :: (bx, _) :: []) F N Z p (sep_cons (A5.hard_ne haa.hard) (sep_cons (A5.tupc_ne (N _ (.tail _ (.head _))).1 rfl) sepc)) (CT (by decide) F) (F.keep _ _ gbl) (key_of (i := 1) (N _ (.tail _ (.head _))).1) (by decide) haa (h0_new SG hb1 N (.tail _ (.head _)) l1a.2.2.2.1) (h0_new SG hb1 N (.head _) (Nat.lt_trans l1a.2.2.2.1 l1b.1)) rfl (by decide) ?t1
    case t1 =>
      clear F N Z A5 haa sepc F1 N1 fr1 hdd1 hff1 app1 lod1
      intro h2 tk2 S1 hl2 F N Z p1 sep1 ids1 x1 x2
      clear x1 x2
      replace N : News g L h2 ((L + 1, _) :: (L + 1 + 1 + 1, _) :: (L + 1 + 1, _) :: (bx, _) :: S1.core w hl2) := (List.forall_mem_cons.mp (List.forall_mem_cons.mp N).2).2
      replace sep1 := (List.forall_mem_cons.mp (List.forall_mem_cons.mp sep1).2).2
      (try dsimp only [List.cons_append, List.nil_append] at N)
      k_steps
      rename_i Dk2 hk2 F2 N2 l2a fr2 hd2 od2 F N lod2 hdd2 hff2 app2 l2b
      unfold Halt
      have haa : IsMed prog w _ hk2.objs.size 6 := ⟨od2, _, (N _ (.head _)).1, hdd2⟩
      have A5 := Z.at (l' := (hk2.objs.size, od2) :: (Dk2, _) :: (L + 1, _) :: (L + 1 + 1 + 1, _) :: (L + 1 + 1, _) :: (bx, _) :: []) F N
      refine' told_k (i := 3) (v := 6) (y := Str.ofString "kept") (l := (hk2.objs.size, od2) :: (Dk2, _) :: (L + 1, _) :: (L + 1 + 1 + 1, _) :: (L + 1 + 1, _) :: (bx, _) :: []) F N Z p1 (sep_cons (A5.hard_ne haa.hard) (sep_cons (A5.tupc_ne (N _ (.tail _ (.head _))).1 rfl) sep1)) (CT (by decide) F) (by rw [ids1]; exact F.keep _ _ gbl) (key_of (i := 3) (N _ (.tail _ (.head _))).1) (by decide) haa (h0_new SG hb1 N (.tail _ (.head _)) l2a.2.2.2.1) (h0_new SG hb1 N (.head _) (Nat.lt_trans l2a.2.2.2.1 l2b.1)) rfl (by decide) ?t2
      case t2 =>
        clear F N Z A5 haa sep1 F2 N2 fr2 hdd2 hff2 app2 lod2
        intro h3 tk3 S2 hl3 F N Z p2 sep2 ids2 x1 x2
        clear x1 x2
        replace ids2 := ids2.trans ids1
        replace N : News g L h3 ((L + 1, _) :: (L + 1 + 1 + 1, _) :: (L + 1 + 1, _) :: (bx, _) :: S2.core w hl3) := (List.forall_mem_cons.mp (List.forall_mem_cons.mp N).2).2
        replace sep2 := (List.forall_mem_cons.mp (List.forall_mem_cons.mp sep2).2).2
        have hV2 : staleV (putV (putV V 1 5) 3 6) = [] := staleV_put (staleV_put hV 1 5) 3 6
        generalize putV (putV V 1 5) 3 6 = V2 at p2 hV2
        obtain ⟨e0, e3⟩ := ids_eqs ids2
        clear l2a l2b l1b l1a p1 ids1 S1 p
        k_steps
        (with_reducible rename Fr _ _ _ _ => F)
        (with_reducible rename News _ _ _ _ => N)
        unfold Halt
        replace F := fr_m (m' := anewM bx bl nw tn (some (.ref S.k.b)) none none none none none none) F fun y => ?fm
        case fm => exact anewM_0 y
        have A6 := Z.at (l' := _ :: _ :: _ :: _ :: []) F N
        have sm := A6.a0.bk.small
        have len := A6.a0.bk.len
        have hnd := (p2.inv A6).nodup
        have hxn := A6.a0.bk.nodup
        have AK : AnewCx w mean mg mb H₀ g A bx bl cb S.ids := ⟨C.B, SG, X, T, hA, hU, C.hh, gbl, hb1⟩
        have hsg : g.get? sc = some (W.listOf vs.toArray c1) := KG _ _ hs fun q => by
          rcases List.mem_cons.mp q with q | q
          · exact hbs q.symm
          · exact ids_ne A4 hs (ints_no_row hv) (core_mut q)
        clear A6
        refine' anewB AK Z p2 hV2 e0 e3 ids2 dw ds dl sep2 hsg hv hbs h0 hsp hz lbx F N ?sB
        case sB =>
          clear F N Z sep2 ds
          intro h4 t4 hl4 D Dr ys ord el os' r tr F N Z RK hord lor ds hr0 hr1 sep nl nDe
          obtain ⟨Xs, hXs⟩ : ∃ Xs, Xs = sortBy (·.i) S2.w0.xs := ⟨_, rfl⟩
          rw [← hXs] at RK
          have pX : Xs.Perm S2.w0.xs := hXs ▸ sortBy_perm sm
          have lX4 : Xs.length ≤ 4 := by rw [pX.length_eq]; exact len
          have hsm : ∀ x ∈ Xs, x.i < 4 := fun x hx => sm x (pX.mem_iff.mp hx)
          have hXp : (Xs.map (·.i)).Perm (V2.map (·.1)) := by
            have := pX.map (·.i)
            rw [map_i S2.w0.xs, p2.c0] at this; exact this
          have hXn : (Xs.map (·.i)).Nodup := (pX.map _).nodup_iff.mpr hxn
          have hXV : ∀ x ∈ Xs, ∃ c ∈ V2, c.1 = x.i ∧ c.2.1 = x.v := fun x hx => ⟨x.core, p2.c0 ▸ List.mem_map_of_mem (pX.mem_iff.mp hx), rfl, rfl⟩
          have hVX : ∀ c ∈ V2, ∃ x ∈ Xs, x.i = c.1 := fun c hc => by
            rw [← p2.c0] at hc
            obtain ⟨x, hx, rfl⟩ := List.mem_map.mp hc
            exact ⟨x, pX.mem_iff.mpr hx, rfl⟩
          have hlX : ∀ y ∈ leftX Xs r, y ∈ Xs := fun y hy => by
            unfold leftX at hy
            rw [Option.mem_toList] at hy
            exact List.mem_of_getElem? hy
          have hl1 : (leftX Xs r).length ≤ 1 := by
            unfold leftX
            cases Xs[r.toNat]? <;> simp
          refine' anewC AK Z p2 hV2 e0 e3 ids2 dw ds dl hr0 RK hXs lX4 hord sep nl F N ?sC
          case sC =>
            clear F N Z sep nl ds dl
            intro h5 t5 S3 hl5 Dl ol' wd F N Z p3 ids3 rs3 dl sep nDlR
            obtain ⟨e0', e3'⟩ := ids_eqs ids3
            refine' anewD AK Z p3 hV2 e0' e3' ids3 dw dl RK lX4 hsm hnd hXV hVX hl1 hlX hord.cls sep F N ?sD
            case sD =>
              clear F N Z sep
              intro h6 t6 S4 hl6 on at' F N Z p4 sep ids4 rs4
              have A7 := Z.at (l' := _ :: _ :: _ :: _ :: _ :: el) F N
              obtain ⟨hl7, N7, Z7, _, hh7, _⟩ := A7.recoverC F Z.1 (Z.out (l := _ :: _ :: _ :: _ :: _ :: el) F N)
              have a1 := N _ (.head _)
              have a2 := N _ (.tail _ (.head _))
              have a3 := N _ (.tail _ (.tail _ (.head _)))
              have a4 := N _ (.tail _ (.tail _ (.tail _ (.head _))))
              have a5 := N _ (.tail _ (.tail _ (.tail _ (.tail _ (.head _)))))
              have d1 := nDe _ (.head _)
              have d2 := nDe _ (.tail _ (.head _))
              have d3 := nDe _ (.tail _ (.tail _ (.head _)))
              replace N := all_drop (all_drop (all_drop (all_drop (all_drop N))))
              replace nDe := all_drop (all_drop (all_drop nDe))
              have sepDr : Dr ∉ S4.mut := sep (Dr, ord) (.tail _ (.tail _ (.head _)))
              have NR : News g L h6 ((Dr, ord) :: ((Dl, lsA (keysR (leftX Xs r))) :: (D, lsA ys) :: (L + 1, ow') :: (L + 1 + 1 + 1, ol') :: (el ++ S4.core w hl7))) := all2 a3 (all2 a1 (all2 a2 (all2 a4 (all2 a5 fun p hp => (List.mem_append.mp hp).elim (fun m => N p (List.mem_append_left _ m)) (N7 p)))))
              have nR : ∀ p ∈ (Dl, lsA (keysR (leftX Xs r))) :: (D, lsA ys) :: (L + 1, ow') :: (L + 1 + 1 + 1, ol') :: (el ++ S4.core w hl7), p.1 ≠ Dr := all2 nDlR (all2 d1 (all2 d2 (all2 d3 fun p hp q => by
                rcases List.mem_append.mp hp with m | m
                · exact nDe p m q
                · rcases core_mem m with x | x
                  · exact sepDr (q ▸ x)
                  · have := hh7 p x
                    have e := a3.1
                    rw [← q, this.2] at e
                    have e' : p.2 = ord := Option.some.inj e
                    exact (A7.hards _ this.1).no_rows this.2 (xs := S2.k.rs.map Row.ent) (by rw [e']; exact hord))))
              refine' anewP AK hord (by rw [← List.length_map (f := Row.iv), p2.cr, List.length_map, ← p2.c0, List.length_map]; exact len) (fun h m F' N' => ?kf) ?nd hl1 ?hin lor dl (.head _) (.tail _ (.tail _ (.tail _ (.head _)))) nR F NR ?sE
              case kf =>
                have he : ∀ p ∈ el, h.get? p.1 = some p.2 := fun p hp => (N' p (.tail _ (.tail _ (.tail _ (.tail _ (List.mem_append_left _ hp)))))).1
                exact ⟨RK.rk h m F' he, fun y hy => ((RK.at' h m F' he).1 y (hlX y hy)).1⟩
              case nd => rw [map_fst_iv, p2.cr, ← map_fst_civ]; exact hnd
              case hin =>
                intro y hy
                have h1 : y.i ∈ V2.map (·.1) := hXp.mem_iff.mp (List.mem_map_of_mem (hlX y hy))
                rw [map_fst_civ, ← p2.cr, ← map_fst_iv] at h1
                obtain ⟨x, hx, e⟩ := List.mem_map.mp h1
                exact ⟨x, hx, e⟩
              case sE =>
                clear F N NR nR a1 a2 a3 a4 a5 A7 hh7
                intro h7 t7 ord' on' F N hord'
                obtain ⟨e0'', e3''⟩ := ids_eqs ids4
                refine anewQ AK Z7 p4 e0'' e3'' ids4 dw dl RK lX4 hXn hnd hXV hVX hXp hl1 hlX (by rw [rs4, rs3]; exact hord') lor lbx F N fun h' t' kp => ?_
                exact hR _ _ fun b o e => kp b o (SG b o e)
end
end Mine
end
end
section
theorem Mine.off_50 : True := by
  w_top off
  trivial
local macro_rules | `(tactic| walk_at "no such tree 50 0") => `(tactic| skip)
local macro_rules | `(tactic| walk_at "no such tree 50 1") => `(tactic| skip)
local macro_rules | `(tactic| walk_at "no such tree 50 2") => `(tactic| skip)
local macro_rules | `(tactic| walk_at "no such tree 50 3") => `(tactic| skip)
local macro_rules | `(tactic| walk_at "pyIter ref") => `(tactic| k_extra "own h")
local macro_rules | `(tactic| walk_at "exec For Name Tuple cons nil") => `(tactic| ((rename Fr _ _ _ _ => lF'); (with_unfolding_all refine' For_invVF lF' ?k1 ?k2 ?_; (case k1 => exact rfl); (case k2 => exact rfl); k_whole)))
local macro_rules | `(tactic| walk_at "exec For Name Call cons nil") => `(tactic| ((rename Fr _ _ _ _ => lF'); (with_unfolding_all refine' For_invVF lF' ?k1 ?k2 ?_; (case k1 => exact rfl); (case k2 => exact rfl); k_whole)))
namespace Mine
/-- the body of the first loop of the law -/
noncomputable def prefStmts : List Stmt := match lawDef.1[2]? with
  | some (PySem.Stmt.For _ _ body _ _) => body
  | _ => []
section
variable {prog : Program} {w : World} {A : Around} {s : Shared} {mean : ExcName → Option Value} {mg mb : Str → Option Value} {H₀ g : Heap} {L : Nat} {Q : Flow → Shared → Prop} {E : Value → Shared → Prop} {S : St} {hl : List (Addr × Obj)} {V : List Cr} {ou : Option Int}
theorem lawM_prefix {m₀ : Str → Option Value} {bx bl : Addr} {tr ir fm : Option Value} {up : Bool} {tv nw : Value} {x : Option Value} {z : Str} : (if z = Str.ofString "prefix" then x else lawM m₀ bx bl tr ir up tv fm nw z) = lawM (fun z => if z = Str.ofString "prefix" then x else m₀ z) bx bl tr ir up tv fm nw z := by
  by_cases q : z = Str.ofString "prefix"
  · subst q; rfl
  · rw [if_neg q]; unfold lawM; simp only [if_neg q]
theorem lawP {bx bl cb fa i k : Nat} {cdv : Value} {m₀ : Str → Option Value} {ids : List Value} {nw tv : Value} {fm : Option Value} {up : Bool} {obx : Obj} {l : List (Addr × Obj)} (B : Bs w mean mg mb H₀) (SG : H₀.StaysIn g) (X : (hd.heap_39 w.params).In g) (T : Top hd.view_39 (looseW hd.view_39 []) mean mg mb g)
    (hA : A.depth + 10 ≤ 900) (hU : A.units + 100 ≤ 9000) (hh : A.handled = none) (hbx : 1 < bx)
    (Z : Later prog w (PH H₀) g L S hl) (p : Pure S V ou) (hids : S.ids = ids) (sep : ∀ p ∈ l, p.1 ∉ S.mut) (mB : (bx, obx) ∈ l) (mL : (bl, W.listOf ids.toArray cb) ∈ l) (hkf : ∀ h m, Fr g L h m → News g L h l → KeyAt prog w h (Pk i) k) (hi : i < 4) (pk : PH H₀ k)
    (F : Fr g L s.heap (lawM (fun z => if z = Str.ofString "prefix" then some (.ref k) else m₀ z) bx bl none none up tv fm nw)) (N : News g L s.heap (l ++ S.core w hl))
    (hQ : ∀ h' tk S' hl', Fr g L h' (lawM (fun z => if z = Str.ofString "prefix" then some (.ref k) else m₀ z) bx bl none none up tv fm nw) → News g L h' (l ++ S'.core w hl') → Later prog w (PH H₀) g L S' hl' → Pure S' (putV V i 0) ou → (∀ p ∈ l, p.1 ∉ S'.mut) → S'.ids = ids → Q .next { s with heap := h', toks := tk }) :
    wpAny (model prog w) (A.deeper (envOf (Str.ofString "law") lawDef.2 L fa cdv)) (execs prefStmts (envOf (Str.ofString "law") lawDef.2 L fa cdv)) Q E s := by
  have CT : ∀ {h' : Heap} {k : Nat} {m : Str → Option Value} {env : Env}, k ≤ 9 → Fr g L h' m → Cx w mean mg mb H₀ (PH H₀) (A.deeper env) h' k := fun hk F => Cx.dp (n := 10) B SG (Nat.le_trans hA (by decide)) (Nat.le_trans hU (by decide)) hh (Nat.succ_le_succ hk) F
  have hH : (A.deeper (envOf "" default 0 0 .none)).handled = none := hh
  conv in prefStmts => whnf
  replace N : News g L s.heap ((bx, obx) :: (l ++ S.core w hl)) := all2 (N _ (List.mem_append_left _ mB)) N
  k_steps
  rename_i fr1 h1 od F N lod hdd hff app l1
  unfold Halt
  have haa : IsMed prog w h1 s.heap.objs.size 0 := ⟨od, _, (N _ (.head _)).1, hdd⟩
  have A5 := Z.at (l' := (s.heap.objs.size, od) :: (bx, obx) :: l) F N
  refine' told_k (i := i) (v := 0) (y := Str.ofString "box") (u := .ref bx) (l := (s.heap.objs.size, od) :: (bx, obx) :: l) F N Z p (sep_cons (A5.hard_ne haa.hard) (sep_cons (sep _ mB) sep)) (CT (by decide) F) (by rw [hids]; exact (N _ (.tail _ (.tail _ (List.mem_append_left _ mL)))).1) (hkf _ _ F fun p hp => N p (.tail _ (.tail _ (List.mem_append_left _ hp)))) hi haa pk (h0_new SG hbx N (.head _) l1.1) rfl (by decide) ?tk
  case tk =>
    clear F N Z A5 haa sep
    intro h2 t2 S1 hl1 F N Z p1 sep ids1 _ _
    k_steps
    exact hQ _ _ S1 hl1 F (List.forall_mem_cons.mp (List.forall_mem_cons.mp N).2).2 Z p1 (List.forall_mem_cons.mp (List.forall_mem_cons.mp sep).2).2 (ids1.trans hids)
/-- the whole's rows after i of the first prefixes are told -/
noncomputable def Vp : Nat → List Cr
  | 0 => []
  | i + 1 => putV (Vp i) i 0
noncomputable abbrev lawE (L fa : Addr) (cdv : Value) : Env := envOf (Str.ofString "law") lawDef.2 L fa cdv
inductive LawJ (prog : Program) (w : World) (H₀ g : Heap) (L : Addr) (l₀ : List (Addr × Obj)) (ids : List Value) (bx bl : Addr) (tv nw : Value) : Nat → Cy → (Str → Option Value) → Prop where
  | mk {i : Nat} (S : St) (hl : List (Addr × Obj)) (m' : Str → Option Value) (Z : Later prog w (PH H₀) g L S hl) (p : Pure S (Vp i) none) (sep : ∀ p ∈ l₀, p.1 ∉ S.mut) (id : S.ids = ids) : LawJ prog w H₀ g L l₀ ids bx bl tv nw i ⟨S, hl⟩ (lawM m' bx bl none none true tv none nw)
theorem key3 {i : Nat} {v : Value} {ka kb kc : Addr} {Q : Nat → Addr → Prop} (h : i < 3) (hv : [Value.ref ka, .ref kb, .ref kc][i]? = some v) (q0 : Q 0 ka) (q1 : Q 1 kb) (q2 : Q 2 kc) : ∃ k, v = .ref k ∧ Q i k := by
  rcases lt_three h with rfl | rfl | rfl
  · exact ⟨ka, (Option.some.inj hv).symm, q0⟩
  · exact ⟨kb, (Option.some.inj hv).symm, q1⟩
  · exact ⟨kc, (Option.some.inj hv).symm, q2⟩
inductive LawL (prog : Program) (w : World) (g h : Heap) (L : Addr) (S : St) (hl : List (Addr × Obj)) (ka kb kc Dt : Addr) (eb el es eq : Addr × Obj) (q : Obj) : Prop where
  | mk (oa ob oc ot : Obj) (N : News g L h ((Dt, ot) :: (kc, oc) :: (kb, ob) :: (ka, oa) :: eb :: el :: es :: eq :: S.core w hl)) (sep : ∀ p ∈ [(Dt, ot), (kc, oc), (kb, ob), (ka, oa), eb, el, es, eq], p.1 ∉ S.mut)
    (ga : ∀ h : Heap, h.get? ka = some oa → KeyAt prog w h (Pk 0) ka) (gb : ∀ h : Heap, h.get? kb = some ob → KeyAt prog w h (Pk 1) kb) (gc : ∀ h : Heap, h.get? kc = some oc → KeyAt prog w h (Pk 2) kc) (ht : ot.cls = .type "tuple") (hd : ∃ n, ot.data = .seq #[.ref ka, .ref kb, .ref kc] n) : LawL prog w g h L S hl ka kb kc Dt eb el es eq q
theorem law_rest {bx bl sc tv cx cb c1 nt fa : Nat} {cdv : Value} {m₀ : Str → Option Value} {vs : List Value} {ns : List Int} {ids : List Value} {t tn t₁ : Tok} (B : Bs w mean mg mb H₀) (SG : H₀.StaysIn g) (X : (hd.heap_39 w.params).In g) (T : Top hd.view_39 (looseW hd.view_39 []) mean mg mb g)
    (hA : A.depth + 10 ≤ 890) (hU : A.units + 100 ≤ 8900) (hh : A.handled = none) (hv : IntsAre vs ns) (hz : vs.length ≤ 1000) (hbx : 1 < bx) (d1 : @Ne Nat bx bl) (d2 : @Ne Nat bx sc)
    (Z : Later prog w (PH H₀) g L S hl) (p : Pure S [] none) (hids : S.ids = ids) (sep : ∀ p ∈ [(bx, W.listOf #[.ref sc, .int 0 t] cx), (bl, W.listOf ids.toArray cb), (sc, W.listOf vs.toArray c1), (tv, ({ cls := .type "tuple", data := .seq #[.bool false, .int 4 t₁, .bool true] nt } : Obj))], p.1 ∉ S.mut)
    (F : Fr g L s.heap (lawM m₀ bx bl none none true (.ref tv) none (.int 0 tn)))
    (N : News g L s.heap ((bx, W.listOf #[.ref sc, .int 0 t] cx) :: (bl, W.listOf ids.toArray cb) :: (sc, W.listOf vs.toArray c1) :: (tv, { cls := .type "tuple", data := .seq #[.bool false, .int 4 t₁, .bool true] nt }) :: S.core w hl))
    (hQ : ∀ h' tk, H₀.StaysIn h' → Q (.ret (.bool true)) { s with heap := h', toks := tk }) :
    wpAny (model prog w) (A.deeper (lawE L fa cdv)) (execs (lawDef.1.drop 2) (lawE L fa cdv)) Q (fun _ _ => False) s := by
  have CT : ∀ {h' : Heap} {k : Nat} {m : Str → Option Value} {env : Env}, k ≤ 9 → Fr g L h' m → Cx w mean mg mb H₀ (PH H₀) (A.deeper env) h' k := fun hk F => Cx.dp (n := 10) B SG (Nat.le_trans hA (by decide)) (Nat.le_trans hU (by decide)) hh (Nat.succ_le_succ hk) F
  have hH : (A.deeper (envOf "" default 0 0 .none)).handled = none := hh
  conv in (List.drop _ _) => whnf
  k_steps
  rename_i ka _ la kb _ lb kc _ lc Dt ht F N lt
  unfold Halt
  have A4 := Z.at (l' := _ :: _ :: _ :: _ :: _ :: _ :: _ :: _ :: []) F N
  have pka : PH H₀ ka := h0_new SG hbx N (.tail _ (.tail _ (.tail _ (.head _)))) la.1
  have pkb : PH H₀ kb := h0_new SG hbx N (.tail _ (.tail _ (.head _))) lb.2.1
  have pkc : PH H₀ kc := h0_new SG hbx N (.tail _ (.head _)) lc.2.2.1
  have s1 : Dt ∉ S.mut := A4.tupc_ne (N _ (.head _)).1 rfl
  have s2 : kc ∉ S.mut := A4.tupc_ne (N _ (.tail _ (.head _))).1 rfl
  have s3 : kb ∉ S.mut := A4.tupc_ne (N _ (.tail _ (.tail _ (.head _)))).1 rfl
  have s4 : ka ∉ S.mut := A4.tupc_ne (N _ (.tail _ (.tail _ (.tail _ (.head _))))).1 rfl
  obtain ⟨oq, hoq⟩ : ∃ oq : Obj, oq = { cls := .type "tuple", data := .seq #[.bool false, .int 4 t₁, .bool true] nt } := ⟨_, rfl⟩
  rw [← hoq] at N sep
  have LL : LawL prog w g ht L S hl ka kb kc Dt (bx, W.listOf #[.ref sc, .int 0 t] cx) (bl, W.listOf ids.toArray cb) (sc, W.listOf vs.toArray c1) (tv, oq) oq := ⟨_, _, _, _, N, sep_cons s1 (sep_cons s2 (sep_cons s3 (sep_cons s4 sep))), fun h e => key_of (i := 0) e, fun h e => key_of (i := 1) e, fun h e => key_of (i := 2) e, rfl, ⟨_, rfl⟩⟩
  clear N
  obtain ⟨oa, ob, oc, ot, N, sep0, ga, gb, gc, hotc, hod⟩ := LL
  obtain ⟨l₀, hl₀⟩ : ∃ l₀ : List (Addr × Obj), l₀ = [(Dt, ot), (kc, oc), (kb, ob), (ka, oa), (bx, W.listOf #[.ref sc, .int 0 t] cx), (bl, W.listOf ids.toArray cb), (sc, W.listOf vs.toArray c1), (tv, oq)] := ⟨_, rfl⟩
  have mB₀ : (bx, W.listOf #[.ref sc, .int 0 t] cx) ∈ l₀ := hl₀ ▸ .tail _ (.tail _ (.tail _ (.tail _ (.head _))))
  have mL₀ : (bl, W.listOf ids.toArray cb) ∈ l₀ := hl₀ ▸ .tail _ (.tail _ (.tail _ (.tail _ (.tail _ (.head _)))))
  have hN := N _ (.head _)
  replace N : News g L ht (l₀ ++ S.core w hl) := hl₀ ▸ N
  rw [← hl₀] at sep0
  refine' loop_tupleC (β := Cy) (vs := [.ref ka, .ref kb, .ref kc]) hH ⟨ot, hN.1, hotc, hod⟩ hN.2.1 F (fun y => l₀ ++ y.S.core w y.hl) ⟨S, hl⟩ N
    (LawJ prog w H₀ g L l₀ ids bx bl (.ref tv) (.int 0 tn)) ?j0 ?step ?rest
  case j0 => exact ⟨S, hl, m₀, Z, p, sep0, hids⟩
  case step =>
    rintro i v _ _ h tk own Q' ho hi hv' ⟨Sy, hly, m', Zy, py, sepy, idy⟩ F₁ N₁ hq
    simp only [lawM_prefix] at F₁
    have N₂ : News g L h (l₀ ++ ((own ++ []) ++ Sy.core w hly)) := fun q hq => N₁ q (own_in (b := []) hq)
    rw [← List.append_assoc] at N₂
    have A4y := Zy.at F₁ N₂
    have sepo : ∀ q ∈ own, q.1 ∉ Sy.mut := fun q hq => by
      rcases ho q hq with e | e
      · rw [e]; exact sepy (Dt, ot) (hl₀ ▸ .head _)
      · exact A4y.soft_ne (N₁ q (List.mem_append_right _ hq)).1 (.inr (.inr (.inr e)))
    have sepA : ∀ q ∈ l₀ ++ (own ++ []), q.1 ∉ Sy.mut := own_all (by rw [List.append_nil]; exact sepy) sepo
    have tl : ∀ {p : Addr × Obj} {h : Heap}, p ∈ l₀ → News g L h (l₀ ++ (own ++ [])) → h.get? p.1 = some p.2 := fun m N => (N _ (List.mem_append_left _ m)).1
    obtain ⟨k, rfl, pk, hkf⟩ := key3 (Q := fun i k => PH H₀ k ∧ ∀ h m, Fr g L h m → News g L h (l₀ ++ (own ++ [])) → KeyAt prog w h (Pk i) k) hi hv'
      ⟨pka, fun h m _ N => ga h (tl (p := (ka, oa)) (by rw [hl₀]; exact .tail _ (.tail _ (.tail _ (.head _)))) N)⟩ ⟨pkb, fun h m _ N => gb h (tl (p := (kb, ob)) (by rw [hl₀]; exact .tail _ (.tail _ (.head _))) N)⟩ ⟨pkc, fun h m _ N => gc h (tl (p := (kc, oc)) (by rw [hl₀]; exact .tail _ (.head _)) N)⟩
    refine lawP (s := { s with heap := h, toks := tk }) (l := l₀ ++ (own ++ [])) B SG X T (by omega) (by omega) hh hbx Zy py idy sepA (List.mem_append_left _ mB₀) (List.mem_append_left _ mL₀) hkf (Nat.lt_succ_of_lt hi) pk F₁ N₂ fun h' tk' S' hl' F' N' Z' p' sep' ids' => ?_
    have A' := Z'.at F' N'
    obtain ⟨hl2, N2, Z2, hc2, _⟩ := A'.recoverC F' Z'.1 (Z'.out F' N')
    have cc := core_cls A' hc2 fun p hp => (N2 p hp).1
    refine hq h' tk' ⟨S', hl2⟩ _ F' (fun q hq' => ?_) (fun q hq' => ?_) ⟨S', hl2, _, Z2, p', fun q m => sep' q (List.mem_append_left _ m), ids'⟩
    · rcases List.mem_append.mp hq' with m | m
      · rcases List.mem_append.mp m with m | m
        · exact N' q (List.mem_append_left _ (List.mem_append_left _ m))
        · exact N2 q m
      · exact N' q (List.mem_append_left _ (List.mem_append_right _ (List.mem_append_left _ m)))
    · rcases List.mem_append.mp hq' with m | m
      · exact .inr ⟨q.2, List.mem_append_left _ m⟩
      · by_cases qd : q.1 = Dt
        · exact .inr ⟨ot, List.mem_append_left _ (by rw [hl₀, qd]; exact .head _)⟩
        · refine .inl fun r hr e => ?_
          rcases ho r hr with x | x
          · exact qd (e.trans x)
          · have h1 := (N2 q m).1
            have h2 := (N' r (List.mem_append_left _ (List.mem_append_right _ (List.mem_append_left _ hr)))).1
            rw [e, h2] at h1
            have e3 : r.2 = q.2 := Option.some.inj h1
            exact (cc q m).2.2 (e3 ▸ x)
  case rest =>
    clear F N A4 sep0
    rintro h2 tk2 _ _ F N ⟨S2, hl2, m', Z2, p2, sep2, ids2⟩
    replace F : Fr g L h2 _ := F
    replace N : News g L h2 ((bx, W.listOf #[.ref sc, .int 0 t] cx) :: (bl, W.listOf S2.ids.toArray cb) :: (sc, W.listOf vs.toArray c1) :: ([] ++ ([(tv, oq)] ++ S2.core w hl2))) := by
      have N' : News g L h2 (l₀ ++ S2.core w hl2) := N
      rw [hl₀] at N'
      rw [ids2]
      exact (List.forall_mem_cons.mp (List.forall_mem_cons.mp (List.forall_mem_cons.mp (List.forall_mem_cons.mp N').2).2).2).2
    clear ga gb gc hod hotc mB₀ mL₀ hN sep2 s1 s2 s3 s4 la lb lc lt pka pkb pkc
    dsimp only [List.nil_append, List.cons_append] at N
    k_steps
    (with_reducible rename Fr _ _ _ _ => F)
    (with_reducible rename News _ _ _ _ => N)
    unfold Halt
    (with_reducible rename IsRange _ _ _ _ _ _ _ _ => hrg)
    refine' loop_rangeC (β := Ty) (n := 10) hH hrg (by decide) F (fun y => Ty.led w bx bl sc cx cb c1 vs [] y) ⟨S2, hl2, Vp 3, none, 0, t, 0, tn, .ref tv, some (4, .bool true), [(tv, oq)], true, none, none, none⟩ N
      (fun i y m => (TyOk prog w H₀ g L i y ∧ m = y.M m' bx bl) ∧ y.S.ids = ids) ?k0 ?kstep ?krest
    case k0 => exact ⟨⟨⟨Z2, p2, .inr ⟨_, .inr ⟨_, rfl⟩⟩, by rw [hoq]; exact .yes (.head _), all1 (by rw [hoq]), Int.le_refl _, Int.le_refl _⟩, rfl⟩, ids2⟩
    case kstep =>
      intro i v y m₁ h tk own Q' ho hi hv' hJ F₁ N₁ hq
      exact turn_step B SG X T (by omega) (by omega) hh hv hz hbx d1 d2 hi ho hJ.1 F₁ N₁ fun h' tk' y' m'' F' N' hin hJ' => hq h' tk' y' m'' F' N' hin ⟨hJ'.1, hJ'.2.trans hJ.2⟩
    case krest =>
      clear F N hrg Z2 p2
      rintro h3 tk3 m'' y F N ⟨⟨O, rfl⟩, idy⟩
      have hF' : ∀ (b : Addr) (o : Obj), g.get? b = some o → h3.get? b = some o := F.keep
      obtain ⟨Sy, hly, Vy, ouy, spy, ty, nowy, tny, tvy, tdy, ly, upy, try', iry, fmy⟩ := y
      obtain ⟨Zy, py, htd, told, tup, sp0, sp1⟩ := O
      dsimp only [Ty.M, Ty.led] at F N told tup sp0 sp1 py Zy htd idy
      replace F : Fr g L h3 _ := F
      replace N : News g L h3 ((bx, W.listOf #[.ref sc, .int spy ty] cx) :: (bl, W.listOf Sy.ids.toArray cb) :: (sc, W.listOf vs.toArray c1) :: (ly ++ Sy.core w hly)) := N
      (rename Fr _ _ h2 _ => Fx)
      clear Fx
      (rename News _ _ h2 _ => Nx)
      clear Nx
      have A4 := Zy.at (l' := _ :: _ :: _ :: ly) F N
      have sepy := law_sep A4 hv (fun p hp => .inl (tup p hp)) rfl fun p hp => (N p (pre3 hp)).1
      k_steps
      (with_reducible rename Fr _ _ _ _ => F)
      (with_reducible rename News _ _ _ _ => N)
      unfold Halt
      refine' deed_k (d := .fin) (wt := 0) (y := Str.ofString "box") (u := .ref bx) (l := (bx, _) :: (bl, _) :: (sc, _) :: ly) F N Zy py sepy (CT (by decide) F) (N _ (.tail _ (.head _))).1 trivial rfl trivial rfl (by decide) ?dk
      case dk =>
        clear F N Zy A4 sepy
        intro h4 tk4 S3 hl3 F N Z3 p3 sep3 ids3 _ _
        rw [← ids3] at N
        k_steps
        (with_reducible rename Fr _ _ _ _ => F)
        (with_reducible rename News _ _ _ _ => N)
        unfold Halt
        replace N : News g L h4 ((bx, W.listOf #[.ref sc, .int spy ty] cx) :: (bl, W.listOf S3.ids.toArray cb) :: (sc, W.listOf vs.toArray c1) :: (ly ++ S3.core w hl3)) := N
        have A5 := Z3.at (l' := _ :: _ :: _ :: ly) F N
        refine wpAny_call (anew_ct (CT (by decide) F) (p3.inv A5) (List.filter_eq_nil_iff.mpr fun c hc => ?st) (N _ (.tail _ (.head _))).1 (N _ (.head _)).1 ?b0 (N _ (.tail _ (.tail _ (.head _)))).1 hv d2 d1 hbx sp0 (by omega) hz fun h' t' sg => ?fin)
        case st =>
          have := (List.mem_filter.mp hc).2
          simpa using this
        case b0 =>
          cases q : H₀.get? bx with
          | none => rfl
          | some o => have := SG _ _ q; rw [(N _ (.head _)).2.2] at this; cases this
        case fin => exact hQ _ _ sg
end
end Mine
end
section
theorem Mine.off_50b : True := by
  w_top off
  trivial
local macro_rules | `(tactic| walk_at "no such tree 50b 0") => `(tactic| skip)
local macro_rules | `(tactic| walk_at "no such tree 50b 1") => `(tactic| skip)
local macro_rules | `(tactic| walk_at "no such tree 50b 2") => `(tactic| skip)
local macro_rules | `(tactic| walk_at "no such tree 50b 3") => `(tactic| skip)
local macro_rules | `(tactic| walk_at "no such tree 50b 4") => `(tactic| skip)
local macro_rules | `(tactic| walk_at "no such tree 50b 5") => `(tactic| skip)
local macro_rules | `(tactic| walk_at "call ref") => `(tactic| k_extra "own 43")
local macro_rules | `(tactic| walk_at "execs cons") => `(tactic| k_extra "own 37")
namespace Mine
theorem lawM_books {m : Str → Option Value} {bx bl : Addr} {up : Bool} {tv nw : Value} (h1 : m (Str.ofString "turn") = none) (h2 : m (Str.ofString "is_right") = none) (h3 : m (Str.ofString "is_up") = some (.bool up)) (h4 : m (Str.ofString "told") = some tv) (h5 : m (Str.ofString "form") = none) (h6 : m (Str.ofString "now") = some nw) (h8 : m (Str.ofString "box") = some (.ref bx)) (y : Str) : (if y = Str.ofString "books" then some (.ref bl) else m y) = lawM m bx bl none none up tv none nw y := by
  unfold lawM
  by_cases q7 : y = Str.ofString "books"
  · subst q7; rfl
  rw [if_neg q7]
  by_cases q1 : y = Str.ofString "turn"
  · subst q1; rw [if_pos rfl]; exact h1
  by_cases q2 : y = Str.ofString "is_right"
  · subst q2; rw [if_neg q1, if_pos rfl]; exact h2
  by_cases q3 : y = Str.ofString "is_up"
  · subst q3; rw [if_neg q1, if_neg q2, if_pos rfl]; exact h3
  by_cases q4 : y = Str.ofString "told"
  · subst q4; rw [if_neg q1, if_neg q2, if_neg q3, if_pos rfl]; exact h4
  by_cases q5 : y = Str.ofString "form"
  · subst q5; rw [if_neg q1, if_neg q2, if_neg q3, if_neg q4, if_pos rfl]; exact h5
  by_cases q6 : y = Str.ofString "now"
  · subst q6; rw [if_neg q1, if_neg q2, if_neg q3, if_neg q4, if_neg q5, if_pos rfl]; exact h6
  by_cases q8 : y = Str.ofString "box"
  · subst q8; rw [if_neg q1, if_neg q2, if_neg q3, if_neg q4, if_neg q5, if_neg q6, if_neg q7, if_pos rfl]; exact h8
  rw [if_neg q1, if_neg q2, if_neg q3, if_neg q4, if_neg q5, if_neg q6, if_neg q7, if_neg q8]
section
variable {prog : Program} {w : World} {A : Around} {s : Shared} {mean : ExcName → Option Value} {mg mb : Str → Option Value} {g : Heap} {L : Nat} {Q : Flow → Shared → Prop}
theorem hard_two {h : Heap} {a : Addr} {x y z u v r : Value} {c c' : Nat} (e : h.get? a = some (W.listOf #[x, y] c)) (e' : h.get? a = some (W.listOf #[z, u, v, r] c')) : False := by
  rw [e] at e'
  exact absurd (show 2 = 4 from congrArg (fun o : Option Obj => match o with | some { data := .seq a _, .. } => a.size | _ => 0) e') (by decide)
theorem pre_app {p : Addr × Obj} {l X : List (Addr × Obj)} (hp : p ∈ l) : p ∈ l ++ X := List.mem_append_left _ hp
/-- the law behind its first statement -/
theorem law_rest0 {bx sc tv cx c1 nt fa : Nat} {cdv : Value} {m : Str → Option Value} {vs : List Value} {ns : List Int} {t tn t₁ : Tok} (B : Bs w mean mg mb g) (X : (hd.heap_39 w.params).In g) (T : Top hd.view_39 (looseW hd.view_39 []) mean mg mb g)
    (hA : A.depth + 10 ≤ 890) (hU : A.units + 100 ≤ 8900) (hh : A.handled = none) (hv : IntsAre vs ns) (hz : vs.length ≤ 1000) (hbx : 1 < bx) (dd : @Ne Nat bx sc)
    (m1 : m (Str.ofString "turn") = none) (m2 : m (Str.ofString "is_right") = none) (m3 : m (Str.ofString "is_up") = some (.bool true)) (m4 : m (Str.ofString "told") = some (.ref tv)) (m5 : m (Str.ofString "form") = none) (m6 : m (Str.ofString "now") = some (.int 0 tn)) (m8 : m (Str.ofString "box") = some (.ref bx))
    (F : Fr g L s.heap m) (N : News g L s.heap [(bx, W.listOf #[.ref sc, .int 0 t] cx), (sc, W.listOf vs.toArray c1), (tv, { cls := .type "tuple", data := .seq #[.bool false, .int 4 t₁, .bool true] nt })])
    (hQ : ∀ h' tk, g.StaysIn h' → Q (.ret (.bool true)) { s with heap := h', toks := tk }) :
    wpAny (model prog w) (A.deeper (lawE L fa cdv)) (execs (lawDef.1.drop 1) (lawE L fa cdv)) Q (fun _ _ => False) s := by
  have hA3 : (A.deeper (lawE L fa cdv)).depth + 3 ≤ 900 := by simp only [depth_deeper]; omega
  have hU3 : (A.deeper (lawE L fa cdv)).units + 30 ≤ 9000 := by simp only [Around.deeper_units]; omega
  conv in (List.drop _ _) => whnf
  k_steps
  unfold Halt
  refine' new_bk X T hA3 hU3 F N ?g0
  case g0 =>
    clear F N
    intro h1 k1 b0 d0 r0 o0 s0 s1 n0 F N x0 a0 a1 a2
    k_steps
    unfold Halt
    refine' new_bk X T hA3 hU3 F N ?g1
    case g1 =>
      clear F N
      intro h2 k2 b1 d1 r1 o1 s2 s3 n1 F N x1 a3 a4 a5
      k_steps
      unfold Halt
      refine' new_bk X T hA3 hU3 F N ?g2
      case g2 =>
        clear F N
        intro h3 k3 b2 d2 r2 o2 s4 s5 n2 F N x2 a6 a7 a8
        k_steps
        unfold Halt
        refine' new_ak X T hA3 hU3 F N ?g3
        case g3 =>
          clear F N
          intro h4 k4 b3 d3 rt sl ro so s6 s7 s8 s9 n3 F N x3 x4 a9 aa ab ac
          k_steps
          (with_reducible rename Fr _ _ _ _ => F)
          (with_reducible rename News _ _ _ _ => N)
          unfold Halt
          obtain ⟨S, A4, p0, ids, hmut, out⟩ := law_start (H₀ := g) N (.head _) (by k_mem) (by k_mem) (by k_mem) (by k_mem) (by k_mem) (by k_mem) (by k_mem) (by k_mem) (by k_mem) (by k_mem) (by k_mem) (by k_mem) (by k_mem) x0 x1 x2 x3 x4
            (Nat.lt_trans hbx (a0 _ (.head _))) a1 a2 (a3 _ (.head _)) a4 a5 (a6 _ (.head _)) a7 a8 (a9 _ (.head _)) aa ab ac
          obtain ⟨hl, NC, Z⟩ := A4.recover F (A4.meds_neL (y := Str.ofString "books") F (if_pos rfl) (by decide)) out
          have NN := news_put (N (bx, _) (by k_mem)) (news_put (N _ (.head _)) (news_put (N (sc, _) (by k_mem)) (news_put (N (tv, _) (by k_mem)) NC)))
          have dd1 : @Ne Nat bx _ := fun q => hard_two (q ▸ (N (bx, _) (by k_mem)).1) (N _ (.head _)).1
          exact law_rest B (fun b o e => e) X T hA hU hh hv hz hbx dd1 dd Z p0 ids (law_sep A4 hv (all1 (.inl rfl)) rfl fun p hp => (NN p (pre_app hp)).1) (fr_m F fun y => lawM_books m1 m2 m3 m4 m5 m6 m8 y) NN hQ
end
end Mine
end
section
theorem Mine.off_51 : True := by
  w_top off
  trivial
local macro_rules | `(tactic| k_qdec) => `(tactic| decide +kernel)
local macro_rules | `(tactic| k_in) => `(tactic| first | (with_reducible assumption) | exact Frag.In.keeps (by k_asm) (Fr.keep (by k_asm)))
local macro_rules | `(tactic| walk_at "execs cons") => `(tactic| k_extra "own 46")
namespace Mine
theorem law_holds : PySem.Challenge.rw_sj0176_01.Holds := hd (by
  k_go0
  all_goals try k_fold
  k_steps
  (with_reducible rename Top _ _ _ _ _ (Shared.heap _) => T0)
  (with_reducible rename Frag.In _ (Shared.heap _) => X0)
  (with_reducible rename Fr _ _ _ _ => F)
  (with_reducible rename News _ _ _ _ => N)
  have BB : Bs _ _ _ _ _ := ⟨X0, T0⟩
  unfold Halt
  refine' wpAny_mono (Q := _) (E := fun _ _ => False) ?main (fun _ _ q => q) (fun _ _ e => e.elim)
  case main =>
    show wpAny _ (callerA.deeper (lawE _ _ _)) (execs (lawDef.1.drop 1) (lawE _ _ _)) _ _ _
    refine' law_rest0 BB X0 T0 ?hA ?hU ?hh ?hv ?hz ?hbx ?d2 rfl rfl rfl rfl rfl rfl rfl F (all2 (N _ (by k_mem)) (all2 (N _ (by k_mem)) (all1 (N _ (by k_mem))))) ?hQ
    case hA => first | decide | (simp only [depth_caller]; omega) | exact Nat.le_of_ble_eq_true rfl
    case hU => first | decide | exact Nat.le_of_ble_eq_true rfl
    case hh => rfl
    case hv => with_reducible assumption
    case hz =>
      (with_reducible rename IntsAre _ (List.take _ _) => hIv)
      rw [hIv.length, List.length_take]
      exact Nat.le_trans (Nat.min_le_left _ _) (by decide)
    case hbx => omega
    case d2 => (show @Ne Nat _ _; omega)
    case hQ =>
      intro h' tk sg
      refine ⟨.inl ⟨.bool true, .bool true, [], rfl, raisesW_false ?_, .bool true, ?_, unshared_nil⟩, sg, rfl, by assumption⟩
      (· wrow_none_raised)
      (· kc_post))
end Mine
end
theorem PySem.Challenge.cw_sj0176_01_holds : PySem.Challenge.rw_sj0176_01.Holds :=
  Mine.law_holds
