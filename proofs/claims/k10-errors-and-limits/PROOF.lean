import PyProof.Rows.All
import Wide.All
import OpenK.AllK
import Wide.FinOn
import HandS.ForMost
import HandS.Defaults
import KE.KExcIs
import HandS.Exc
import HandS.ExcInit
import HandS.ExcOwn
import HandS.ExcValue
import HandS.IsInst
import PyProof.ReprRoads
import PyProof.ReprLen
import HandS.HeadHook1
import HandS.HeadHook2
import HandS.HeadHook3
import HandS.HeadHook4
import HandS.ClsMeth
import PyProof.ExcBaseAll.ValueError
import PyProof.ExcBaseAll.RuntimeError
import PyProof.ExcBaseAll.LookupError
import PyProof.ExcBaseAll.IndexError
import HandS.Style
import HandS.Flow
import HandS.Codes
import HandS.Walk
import HandS.Head0
import HandS.Head1
import HandS.Head2
import KE.KStateDown
import Lean
import PySem.Challenge.RW_weakcuts_k10_errors_and_limits
set_option Elab.async false
set_option linter.all false
set_option maxRecDepth 100000
set_option maxHeartbeats 4000000
/-! places of the defs in the row -/
namespace Wk
open PySem PySem.Spec PyProof.Rows L2
def topS (i : Nat) : Stmt := PySem.Challenge.pw_weakcuts_k10_errors_and_limits.main.body.getD i (.Pass ⟨0, 0, 0, 0⟩)
abbrev s__wall : Stmt := topS 0
abbrev s_InvalidVertex_init : Stmt := inClass (topS 2) 0
abbrev s_InvalidEdge_init : Stmt := inClass (topS 3) 0
abbrev s_Disconnected_init : Stmt := inClass (topS 4) 0
abbrev s_InvalidText_init : Stmt := inClass (topS 5) 0
abbrev s_InvalidEdit_init : Stmt := inClass (topS 6) 0
abbrev s_InvalidFloor_init : Stmt := inClass (topS 7) 0
abbrev s_TooWeak_init : Stmt := inClass (topS 8) 0
abbrev s_UnknownVertex_init : Stmt := inClass (topS 9) 0
abbrev s_UnknownEdge_init : Stmt := inClass (topS 10) 0
abbrev s_OutOfRange_init : Stmt := inClass (topS 11) 0
abbrev s_InvalidIncrease_init : Stmt := inClass (topS 12) 0
abbrev s_NotWeakest_init : Stmt := inClass (topS 13) 0
abbrev s_NotLone_init : Stmt := inClass (topS 14) 0
abbrev s_SameVertex_init : Stmt := inClass (topS 15) 0
abbrev s_InvalidFlow_init : Stmt := inClass (topS 16) 0
abbrev s_is_between : Stmt := topS 21
abbrev s_is_name : Stmt := topS 22
abbrev s_is_tuple_of : Stmt := topS 23
abbrev s_side_of : Stmt := topS 25
abbrev s_last_two : Stmt := topS 26
abbrev s_merge_rows : Stmt := topS 27
abbrev s_least_cut : Stmt := topS 28
abbrev s_strength_of : Stmt := topS 29
abbrev s_Graph_init : Stmt := inClass (topS 31) 2
abbrev s_Graph_eq : Stmt := inClass (topS 31) 3
abbrev s_Graph_len : Stmt := inClass (topS 31) 4
abbrev s_Graph_vertices : Stmt := inClass (topS 31) 5
abbrev s_Graph_edges : Stmt := inClass (topS 31) 6
abbrev s_Graph_weight : Stmt := inClass (topS 31) 7
abbrev s_Graph_neighbours : Stmt := inClass (topS 31) 8
abbrev s_Graph_check_vertex : Stmt := inClass (topS 31) 9
abbrev s_can_join : Stmt := topS 32
abbrev s_sorted_rows : Stmt := topS 33
abbrev s_reached : Stmt := topS 34
abbrev s_check_connected : Stmt := topS 35
abbrev s_format_graph : Stmt := topS 37
abbrev s_Network_init : Stmt := inClass (topS 39) 0
abbrev s_Network_ring : Stmt := inClass (topS 39) 1
abbrev s_Network_complete : Stmt := inClass (topS 39) 2
abbrev s_Network_star : Stmt := inClass (topS 39) 3
abbrev s_Network_parse : Stmt := inClass (topS 39) 4
abbrev s_Network_text : Stmt := inClass (topS 39) 5
abbrev s_Network_root : Stmt := inClass (topS 39) 6
abbrev s_Network_strength : Stmt := inClass (topS 39) 7
abbrev s_Network_depth : Stmt := inClass (topS 39) 8
abbrev s_Network_weakest_count : Stmt := inClass (topS 39) 9
abbrev s_Network_cores : Stmt := inClass (topS 39) 10
abbrev s_Network_check_strength : Stmt := inClass (topS 39) 11
abbrev s_Network_accept : Stmt := inClass (topS 39) 12
abbrev s_Network_set_root : Stmt := inClass (topS 39) 13
abbrev s_Network_set_weight : Stmt := inClass (topS 39) 14
abbrev s_Network_add_vertex : Stmt := inClass (topS 39) 15
abbrev s_Network_remove_vertex : Stmt := inClass (topS 39) 16
abbrev s_Network_merge : Stmt := inClass (topS 39) 17
abbrev s_Network_history : Stmt := inClass (topS 39) 18
abbrev s_Network_attempt : Stmt := inClass (topS 39) 19
abbrev s_Network_explore : Stmt := inClass (topS 39) 20
abbrev s_L_pen : Stmt := topS 41
abbrev s_L_draw : Stmt := topS 42
abbrev s_L_pick : Stmt := topS 43
abbrev s_L_errors : Stmt := topS 44
abbrev s_L_kinds : Stmt := topS 45
abbrev s_L_bases : Stmt := topS 46
abbrev s_L_due_bases : Stmt := topS 47
abbrev s_L_fields : Stmt := topS 48
abbrev s_law : Stmt := topS 49
/-- a def without defaults, as the row has it -/
abbrev FnP (K : PySem.W.Frag) (x qual : Str) (st : Stmt) (f : Addr) (fd : FuncData) : Prop := FunD K x qual (defArgs st) (defBody st) (defScope st) [] [] f fd
end Wk
namespace WkX
open PySem PySem.W PySem.Calls PyProof.Rows PySem.HandSPX Builtin
/-- what is asked of the list of classes behind an own exception class -/
structure Tail (B : String) (bm : List Value) : Prop where
  b : bm.contains (.type B) = true
  a : bm.contains (.type "AttributeError") = false
  n : bm.contains (.type "NameError") = false
section
variable {prog : Program} {w : World} {A : Around} {E : Value → Shared → Prop} {R : Result → Shared → Prop} {hp : Heap} {gn : Array GenState} {dr : Drawn} {tk : Nat} {os : OsState}
variable {nm qn : Str} {C N : Addr} {bs bm bmB : List Value} {hdc : Bool} {sn : List Str} {sub : List Value} {ab : Bool} {col : Option Bool} {dd : Option Addr} {k0 k1 k2 k3 k5 : Option Value} {B newId initId : String}
theorem check_new {M : Model} (F : ExcBaseFacts B newId initId bmB) (T : Tail B bm) {us : List Value} {kw : List (Str × Value)} {Q : Unit → Shared → Prop} (hC : hp.get? C = some (excClassObj nm qn C N bs bm hdc sn sub ab col dd k0 k1 k2 k3 k5 newId))
    (hq : Q () ⟨hp, gn, dr, tk, os⟩) : wpAny M A (checkBuiltinCall newId ⟨.ref C :: us, kw⟩) Q E ⟨hp, gn, dr, tk, os⟩ := by
  have c1 : (Value.ref C :: bm).contains (.type B) = true := by rw [List.contains_cons, T.b, Bool.or_true]
  have c2 := F.noStar
  simp only [checkBuiltinCall, F.newKind, F.newSplit, F.newRow]
  repeat (first | refine wpAny_loadPart_at hC ?_ | (refine wpAny_isSubtype_exc hC ?_; rw [c1]) | refine wpAny_staticBase_exc hC ?_ | refine wpAny_madeBy_exc hC ?_ | simp only [bne_self_eq_false, Bool.false_eq_true, if_false] | wp_step)
  exact hq
theorem new_ {us : List Value} {kw : List (Str × Value)} (F : ExcBaseFacts B newId initId bmB) (T : Tail B bm) (hC : hp.get? C = some (excClassObj nm qn C N bs bm hdc sn sub ab col dd k0 k1 k2 k3 k5 newId))
    (hq : R (.ok (.ret (.ref (hp.objs.size + 1)))) ⟨(hp.push (kdv_tup us)).push (excO C hp.objs.size), gn, dr, tk, os⟩) (hl : us.length ≤ sizeLine) :
    codeAny (model prog w) A (.builtin newId ⟨.ref C :: us, kw⟩) R ⟨hp, gn, dr, tk, os⟩ := by
  have c0 := F.ends
  have c1 : (Value.ref C :: bm).contains (.type B) = true := by rw [List.contains_cons, T.b, Bool.or_true]
  have c2 : (Value.ref C :: bm).contains (.type "AttributeError") = false := by rw [List.contains_cons, T.a]; rfl
  have c3 : (Value.ref C :: bm).contains (.type "NameError") = false := by rw [List.contains_cons, T.n]; rfl
  refine codeAny_builtinAt F.entry ?_
  unfold Builtin.«BaseException.__new__»
  refine PySem.wpAt_bind ?_
  show PySem.wpAt _ _ _ (stack >>= _) _ _ _
  refine PySem.wpAt_bind (PySem.wpAt_stack fun p below => PySem.wpAt_of_wpAny ?_)
  wp_walk
  refine PySem.wpAt_of_wpAny ?_
  rw [F.owner]
  repeat (first | with_reducible refine wpAny_madeHere_exc F.canon hC ?_ | with_reducible refine wpAny_loadPart_at hC ?_ | (with_reducible refine wpAny_isSubtype_exc hC ?_; first | rw [c1] | rw [c2] | rw [c3]) | wp_step)
  show R _ _
  rw [Heap.size_push]
  exact hq
theorem tcall {us : List Value} {kw : List (Str × Value)} {fI : Addr} {Q : Fin → Shared → Prop} (F : ExcBaseFacts B newId initId bmB) (T : Tail B bm) (hC : hp.get? C = some (excClassObj nm qn C N bs bm hdc sn sub ab col dd k0 k1 k2 k3 k5 newId))
    (hi : Looks (model prog w) hp (typeLookup (.ref C) "__init__") (some (.ref fI))) (hb : ∀ x, Looks (model prog w) hp (bindSpecial (.ref fI) x) (.ref fI, [x])) (hl : us.length ≤ sizeLine)
    (hq : codeAny (model prog w) A (.call (.ref fI) ⟨.ref (hp.objs.size + 1) :: us, kw⟩)
      (fun r s' => match r with | .ok (.ret v) => v = .none ∧ Q (.done (.ret (.ref (hp.objs.size + 1)))) s' | .ok _ => False | .error e => E e s') ⟨(hp.push (kdv_tup us)).push (excO C hp.objs.size), gn, dr, tk, os⟩) :
    wpAny (model prog w) A (Builtin.«type.__call__» ⟨.ref C :: us, kw⟩) Q E ⟨hp, gn, dr, tk, os⟩ := by
  repeat (first | with_reducible refine wpAny_loadPart_at hC ?_ | with_reducible refine wpAny_madeBy_exc hC ?_ | wp_step)
  refine codeAny_call_builtin_code (Code.quiet_builtin _ F.quiet) (check_new F T hC ?_)
  refine new_ F T hC ?_ hl
  show wpAny _ _ _ _ _ _
  have k : ∀ b o, hp.get? b = some o → ((hp.push (kdv_tup us)).push (excO C hp.objs.size)).get? b = some o := fun b o e => Heap.get?_push_of_some _ (Heap.get?_push_of_some _ e)
  have hC' := k _ _ hC
  have hg : ((hp.push (kdv_tup us)).push (excO C hp.objs.size)).get? (hp.objs.size + 1) = some (excO C hp.objs.size) := by heap_get
  have hcC : (Value.ref C :: bm).contains (.ref C) = true := by simp
  have i1 := hi.keeps k
  have b1 := (hb (.ref (hp.objs.size + 1))).keeps k
  unfold isInstance
  repeat (first | with_reducible refine wpAny_loadPart_at hg ?_ | (with_reducible refine wpAny_isSubtype_exc hC' ?_; rw [hcC]) | wp_step)
  show wpAny _ _ (typeLookup (.ref C) _) _ _ _
  refine i1.at ?_
  refine wpAny_holding (wpAny_bind (b1.at ?_))
  refine wpAny_bind (wpAny_call (codeAny_mono hq fun r s' z => ?_))
  rcases r with e | (v | _ | _ | _) <;> first | exact z | exact z.elim | skip
  obtain ⟨rfl, z⟩ := z
  first
    | exact wpAny_pure (wpAny_pure z)
    | (wp_walk; exact z)
theorem check_tc {M : Model} {us : List Value} {kw : List (Str × Value)} {Q : Unit → Shared → Prop} (hC : hp.get? C = some (excClassObj nm qn C N bs bm hdc sn sub ab col dd k0 k1 k2 k3 k5 newId)) (hq : Q () ⟨hp, gn, dr, tk, os⟩) :
    wpAny M A (checkBuiltinCall "type.__call__" ⟨.ref C :: us, kw⟩) Q E ⟨hp, gn, dr, tk, os⟩ := by
  have c3 := tc_sub
  have hT : (⟨hp, gn, dr, tk, os⟩ : Shared).TypeIs (.ref C) "type" := ⟨_, hC, rfl⟩
  simp only [checkBuiltinCall, tc_kind, tc_split]
  repeat (any_goals (first | assumption | with_reducible refine wpAny_loadPart_at hC ?_ | with_reducible refine wpAny_onRaise ?_ | with_reducible refine wpAny_map ?_ | wp_step))
theorem call_ {us : List Value} {kw : List (Str × Value)} {fI : Addr} (F : ExcBaseFacts B newId initId bmB) (T : Tail B bm) (hC : hp.get? C = some (excClassObj nm qn C N bs bm hdc sn sub ab col dd k0 k1 k2 k3 k5 newId))
    (hi : Looks (model prog w) hp (typeLookup (.ref C) "__init__") (some (.ref fI))) (hb : ∀ x, Looks (model prog w) hp (bindSpecial (.ref fI) x) (.ref fI, [x])) (hl : us.length ≤ sizeLine)
    (hq : codeAny (model prog w) (A.under (.builtin "type.__call__" ⟨.ref C :: us, kw⟩)) (.call (.ref fI) ⟨.ref (hp.objs.size + 1) :: us, kw⟩) (InitBack (hp.objs.size + 1) R) ⟨(hp.push (kdv_tup us)).push (excO C hp.objs.size), gn, dr, tk, os⟩) :
    codeAny (model prog w) A (.call (.ref C) ⟨us, kw⟩) R ⟨hp, gn, dr, tk, os⟩ := by
  have c1 := tc_lookup
  have c2 := tc_bind (.ref C)
  have hTy : (⟨hp, gn, dr, tk, os⟩ : Shared).TypeIs (.ref C) "type" := ⟨_, hC, rfl⟩
  refine codeAny_of_tree ?_
  show wpAny _ _ (callAny (.ref C) _) _ _ _
  repeat (any_goals (first | assumption | with_reducible refine wpAny_loadPart_at hC ?_ | wp_step))
  refine ⟨rfl, ?_⟩
  refine codeAny_call_builtin_at (Code.quiet_builtin _ (by decide +kernel)) entry_typeCall (check_tc hC (tcall F T hC hi hb hl ?_))
  refine codeAny_mono hq fun r s' z => ?_
  rcases r with e | (v | _ | _ | _) <;> exact z
end
/-! ### self.f = v on a fresh exception -/
section
variable {prog : Program} {w : World} {A : Around} {R : Result → Shared → Prop} {hp : Heap} {gn : Array GenState} {dr : Drawn} {tk : Nat} {os : OsState}
theorem osa_ {K : Frag} {f : Str} {tf : Tok} {v : Value} {x C : Addr} {fv : Array Value} {cd : ClassData} (KX : K.In hp) (hx : hp.get? x = some { cls := .ref C, data := .fields fv }) (hcd : clsIn K C = some cd)
    (hp1 : refuseLoop (.ref x) "__setattr__" cd.mro = pure ()) (hp2 : cd.mro.contains (.type "object") = true) (hp3 : cd.mro.isEmpty = false) (hh : cd.hasDict = true) (ha : findIn K (.ref C) f = some none)
    (hq : ∀ h' tk' dx, (∀ b o, b ≠ x → hp.get? b = some o → h'.get? b = some o) → hp.objs.size ≤ dx → dx ≠ x → h'.get? x = some { cls := .ref C, dict := some dx, data := .fields fv } →
      h'.Ns1 dx (fun y => if y = f then some v else none) → R (.ok (.ret .none)) ⟨h', gn, dr, tk', os⟩) :
    codeAny (model prog w) A (.call (.builtin "object.__setattr__") ⟨[.ref x, .str f tf, v], []⟩) R ⟨hp, gn, dr, tk, os⟩ := by
  have J : InstAt hp x { cls := .ref C, data := .fields fv } C none := ⟨hx, rfl, rfl, trivial⟩
  have SO := F.store_object
  have xs : x ≠ hp.objs.size := Nat.ne_of_lt (Heap.lt_size hx)
  have sb : Looks (model prog w) hp (isInstance (.ref x) (.type "object")) true := J.type.andThen (looks_mroIn KX (by unfold mroIn; rw [hcd, Option.bind_some, if_neg (by rw [hp3]; decide), hp2]))
  refine codeAny_call_builtin SO.slot.plain SO.entry (@check_slot (model prog w) _ _ ⟨hp, gn, dr, tk, os⟩ "object.__setattr__" "object" "__setattr__" (.ref x) [.str f tf, v] [] _ SO.kind SO.split sb (SO.args (.ref x) (.str f tf) v) ?_)
  have l1 : Looks (model prog w) hp (mroOf (.ref C)) cd.mro := (looks_clsIn KX hcd).andThen .now
  have l2 : Looks (model prog w) hp (Builtin.ObjectAttr.storeTaker? none) none := .now
  have l3 : Looks (model prog w) hp (classData C) cd := looks_clsIn KX hcd
  rw [osa_eq, refuse_eq]
  refine wpAny_bind (wpAny_bind (J.type.at (wpAny_bind (l1.at ?_))))
  rw [hp1]
  refine wpAny_pure (wpAny_bind (J.type.at (wpAny_bind ((looks_findIn KX ha).at (wpAny_bind (l2.at ?_))))))
  show wpAny _ _ (Builtin.ObjectAttr.storeInOwnDict (.ref x) (.ref C) (.str f tf) f v false) _ _ _
  obtain ⟨nm, bs, mro, ns, qn, hd, sn, sb, ab, col, del⟩ := cd
  dsimp only at hh
  subst hh
  unfold Builtin.ObjectAttr.storeInOwnDict Builtin.ObjectAttr.ownDictForStores
  repeat (first | with_reducible refine store_in_new ?_ ?_ | with_reducible refine wpAny_loadPart_at hx ?_ | with_reducible refine l3.at ?_ | wp_step)
  · exact ⟨_, #[], _, (Heap.get?_update_ne _ _ _ _ xs.symm).trans (Heap.get?_push_at rfl rfl), rfl, fun e he => absurd he (by simp), fun _ => rfl⟩
  · intro h' tk' n' sm
    have hx1 : (hp.push { cls := .type "dict", data := .dict #[] }).get? x = some { cls := .ref C, data := .fields fv } := Heap.get?_push_of_some _ hx
    refine hq h' tk' hp.objs.size (fun b o hb ho => ?_) (Nat.le_refl _) xs.symm ?_ n'
    · exact (sm.2 b (Nat.ne_of_lt (Heap.lt_size ho))).trans ((Heap.get?_update_ne _ _ _ _ hb).trans (Heap.get?_push_of_some _ ho))
    · exact (sm.2 x xs).trans (Heap.get?_update_self _ hx1 rfl)
end
/-! ### an own error class of one field: class x(B): def __init__(self, f): self.f = f -/
def iA (f : Str) (p1 p2 : Pos) : Arguments := { posonlyargs := [], args := [{ arg := "self", annotation := none, pos := p1 }, { arg := f, annotation := none, pos := p2 }], vararg := none, kwonlyargs := [], kw_defaults := [], kwarg := none, defaults := [] }
def iB (f : Str) (q1 q2 q3 q4 : Pos) : List Stmt := [.Assign [.Attribute (.Name "self" q1) f q2] (.Name f q3) q4]
def iS (f : Str) : Scope := { kind := .function, names := [(PySem.Str.ofString "self", .local), (f, .local)], isGenerator := false, isCoroutine := false, more := [] }
/-- what is asked of a field's name; shown for each by computation -/
structure FieldOk (f : Str) : Prop where
  b1 : ∀ (qual : Str) (p1 p2 q1 q2 q3 q4 : Pos) (kV doc pm : Value) (an : Option Addr) (cdv ct e v : Value), bindArgs (fnOf "__init__" qual (iA f p1 p2) (iB f q1 q2 q3 q4) (iS f) .none kV doc pm an cdv ct) ⟨[e, v], []⟩ = pure [(("self" : Str), e), (f, v)]
  b2 : ∀ (qual : Str) (p1 p2 q1 q2 q3 q4 : Pos) (kV doc pm : Value) (an : Option Addr) (cdv ct e v : Value), bindArgs (fnOf "__init__" qual (iA f p1 p2) (iB f q1 q2 q3 q4) (iS f) .none kV doc pm an cdv ct) ⟨[e], [(f, v)]⟩ = pure [(("self" : Str), e), (f, v)]
  l1 : (iS f).names.lookup f = some .local
  l2 : ∀ (e v : Value) (k : Str → Option NameKind), k "self" = some .local → k f = some .local → bindL k [(("self" : Str), e), (f, v)] (fun _ => none) f = some v
  l3 : ∀ (e v : Value) (k : Str → Option NameKind), k "self" = some .local → k f = some .local → bindL k [(("self" : Str), e), (f, v)] (fun _ => none) "self" = some e
  dbg : (f == ("__debug__" : Str)) = false
theorem field_of {f : Str} (h : f ≠ "self")
    (b1 : ∀ (qual : Str) (p1 p2 q1 q2 q3 q4 : Pos) (kV doc pm : Value) (an : Option Addr) (cdv ct e v : Value), bindArgs (fnOf "__init__" qual (iA f p1 p2) (iB f q1 q2 q3 q4) (iS f) .none kV doc pm an cdv ct) ⟨[e, v], []⟩ = pure [(("self" : Str), e), (f, v)])
    (b2 : ∀ (qual : Str) (p1 p2 q1 q2 q3 q4 : Pos) (kV doc pm : Value) (an : Option Addr) (cdv ct e v : Value), bindArgs (fnOf "__init__" qual (iA f p1 p2) (iB f q1 q2 q3 q4) (iS f) .none kV doc pm an cdv ct) ⟨[e], [(f, v)]⟩ = pure [(("self" : Str), e), (f, v)])
    (l1 : (iS f).names.lookup f = some .local) (d : (f == ("__debug__" : Str)) = false) : FieldOk f := by
  refine ⟨b1, b2, l1, fun e v k h1 h2 => ?_, fun e v k h1 h2 => ?_, d⟩
  · unfold bindL bindL bindL
    rw [if_pos h1, if_pos h2]
    exact if_pos rfl
  · unfold bindL bindL bindL
    rw [if_pos h1, if_pos h2]
    show (if ("self" : Str) = f then some v else if ("self" : Str) = "self" then some e else none) = some e
    rw [if_neg (Ne.symm h), if_pos rfl]
theorem f_value : FieldOk "value" := field_of (by decide +kernel) (fun _ _ _ _ _ _ _ _ _ _ _ _ _ _ _ => rfl) (fun _ _ _ _ _ _ _ _ _ _ _ _ _ _ _ => rfl) rfl rfl
theorem f_side : FieldOk "side" := field_of (by decide +kernel) (fun _ _ _ _ _ _ _ _ _ _ _ _ _ _ _ => rfl) (fun _ _ _ _ _ _ _ _ _ _ _ _ _ _ _ => rfl) rfl rfl
theorem f_line : FieldOk "line" := field_of (by decide +kernel) (fun _ _ _ _ _ _ _ _ _ _ _ _ _ _ _ => rfl) (fun _ _ _ _ _ _ _ _ _ _ _ _ _ _ _ => rfl) rfl rfl
theorem f_index : FieldOk "index" := field_of (by decide +kernel) (fun _ _ _ _ _ _ _ _ _ _ _ _ _ _ _ => rfl) (fun _ _ _ _ _ _ _ _ _ _ _ _ _ _ _ => rfl) rfl rfl
theorem f_found : FieldOk "found" := field_of (by decide +kernel) (fun _ _ _ _ _ _ _ _ _ _ _ _ _ _ _ => rfl) (fun _ _ _ _ _ _ _ _ _ _ _ _ _ _ _ => rfl) rfl rfl
structure ExcT (K : Frag) (mg : Str → Option Value) (x f : Str) (C fI : Addr) : Prop where
  gC : mg x = some (.ref C)
  cls : ∃ (B newId initId : String) (bm bmB : List Value), (∃ nm q N bs sn sub ab col dd k0 k1 k2 k3 k5, K.lookup C = some (excClassObj nm q C N bs bm true sn sub ab col dd k0 k1 k2 k3 k5 newId)) ∧
    ExcBaseFacts B newId initId bmB ∧ Tail B bm ∧ (∀ self, refuseLoop self "__setattr__" bm = pure ()) ∧ bm.contains (.type "object") = true
  sa : findIn K (.ref C) "__setattr__" = some (some (.builtin "object.__setattr__"))
  ga : findIn K (.ref C) "__getattribute__" = some (some (.builtin "BaseException.__getattribute__"))
  gg : findIn K (.ref C) "__getattr__" = some none
  noN : findIn K (.ref C) f = some none
  iC : findIn K (.ref C) "__init__" = some (some (.ref fI))
  tC : typeIn K (.ref fI) = some (.type "function")
  kC : keepIn K (.ref C) = true
  exC : subIn K (.ref C) (.type "BaseException") = some true
  tyC : typeIn K (.ref C) = some (.type "type")
  hdC : hasDictIn K C = true
  icl : (clsIn K C).isSome = true
  iha : findIn K (.ref C) "__class__" = some (some (.builtin "object.__class__"))
  ihn : specialIn K (.builtin "object.__class__") "__get__" = some (some (.builtin "getset_descriptor.__get__"))
  itk : takesIn K (.builtin "object.__class__") = some true
  ihm : mroIn K C (.type "object") = some true
  fok : FieldOk f
  fn : ∃ (qual : Str) (oc : Value) (od : Option Addr) (kV doc pm : Value) (an : Option Addr) (cdv ct : Value) (osl : Array (Option Value)) (p1 p2 q1 q2 q3 q4 : Pos),
    K.lookup fI = some ⟨oc, od, .func (fnOf "__init__" qual (iA f p1 p2) (iB f q1 q2 q3 q4) (iS f) .none kV doc pm an cdv ct), osl⟩ ∧ codeIn K cdv qual = true
/-- an exception that was made: its dict holds f -/
structure Made (f : Str) (h h' : Heap) (e C d : Addr) (v : Value) : Prop where
  keep : ∀ b o, h.get? b = some o → h'.get? b = some o
  new : h.objs.size ≤ e
  obj : ∃ t1 : Addr, h'.get? e = some { cls := .ref C, dict := some d, data := .fields #[.ref t1, .none, .none, .none, .bool false, .none] }
  dbig : h.objs.size ≤ d
  dne : d ≠ e
  ns : h'.Ns1 d (fun y => if y = f then some v else none)
section
variable {prog : Program} {w : World} {A : Around} {E : Value → Shared → Prop} {R : Result → Shared → Prop} {s : Shared} {K : Frag} {mg : Str → Option Value} {x f : Str} {C fI : Addr}
theorem ld_ {M : Model} {name : Str} {scope : Scope} {L a : Addr} {cd : Value} {m : Str → Option Value} {y : Str} {pos : Pos} {v : Value} {Q : Value → Shared → Prop} (hn : s.heap.Ns L m) (hv : m y = some v) (h : Q v s)
    (hk : scope.kind = .function) (hl : (envOfC name scope L a cd).kindOf y = some .local) (hd : (y == ("__debug__" : Str)) = false) :
    wpAny M A (eval (.Name y pos) (envOfC name scope L a cd)) Q E s := wpAny_Name (wpAny_loadName_local hk hl hn hv h) hd
/-- __init__ on a fresh exception, by either kind of call -/
theorem init_ (T : ExcT K mg x f C fI) {e t0 : Addr} {v : Value} {args : Args} (ha : args = ⟨[.ref e, v], []⟩ ∨ args = ⟨[.ref e], [(f, v)]⟩) (KX : K.In s.heap) (hlim : s.heap.NoLimit) (hx : s.heap.get? e = some (excO C t0)) (hroom : A.depth < recursionLimit)
    (hq : ∀ h' tk dx, (∀ b o, b ≠ e → s.heap.get? b = some o → h'.get? b = some o) → s.heap.objs.size ≤ dx → dx ≠ e → h'.get? e = some { cls := .ref C, dict := some dx, data := .fields #[.ref t0, .none, .none, .none, .bool false, .none] } →
      h'.Ns1 dx (fun y => if y = f then some v else none) → R (.ok (.ret .none)) { s with heap := h', toks := tk }) :
    codeAny (model prog w) A (.call (.ref fI) args) R s := by
  obtain ⟨qual, oc, od, kV, doc, pm, an, cdv, ct, osl, p1, p2, q1, q2, q3, q4, ho, hcd⟩ := T.fn
  obtain ⟨B, newId, initId, bm, bmB, ⟨nm, q, N, bs, sn, sub, ab, col, dd, k0, k1, k2, k3, k5, hC⟩, _, _, hps, hob⟩ := T.cls
  have hcl : clsIn K C = some { name := nm, bases := bs, mro := .ref C :: bm, ns := N, qualname := q, hasDict := true, slotNames := sn, subclasses := sub, abstract := ab, collection := col, hasDel := false } := by unfold clsIn; rw [hC] <;> rfl
  have hbd : BindsTo s (fnOf "__init__" qual (iA f p1 p2) (iB f q1 q2 q3 q4) (iS f) .none kV doc pm an cdv ct) args [("self", .ref e), (f, v)] := by
    rcases ha with rfl | rfl
    · exact BindsTo.of_eq (T.fok.b1 ..)
    · exact BindsTo.of_eq (T.fok.b2 ..)
  refine Att.call_fn (binds := [("self", .ref e), (f, v)]) KX hlim ho hcd hroom hbd ?_ (fun s₁ IC => ?_) rfl rfl rfl
  · show ((((iS f).names.lookup ("self" : Str)) == some NameKind.local || ((iS f).names.lookup ("self" : Str)) == some NameKind.cell) && ((((iS f).names.lookup f) == some NameKind.local || ((iS f).names.lookup f) == some NameKind.cell) && true)) = true
    rw [T.fok.l1]
    rfl
  obtain ⟨h₁, tk₁, rfl⟩ := IC.toInCall.same
  have k : ∀ b o, s.heap.get? b = some o → h₁.get? b = some o := IC.toInCall.keep
  have hn := IC.toInCall.ns
  have X₁ : K.In h₁ := KX.keeps k
  have hx₁ := k _ _ hx
  have kf : (envOfC qual (iS f) s.heap.objs.size fI cdv).kindOf f = some .local := T.fok.l1
  have ks : (envOfC qual (iS f) s.heap.objs.size fI cdv).kindOf "self" = some .local := rfl
  show wpAny _ _ (execs _ _) _ _ _
  refine wpAny_execs_cons (plainObj_wpAny_Assign_Attribute ?_)
  refine ld_ (v := v) hn (T.fok.l2 _ _ _ ks kf) (ld_ (v := .ref e) hn (T.fok.l3 _ _ _ ks kf) ?_ rfl ks (by decide)) rfl kf T.fok.dbg
  refine set_plain X₁ (ox := excO C t0) (od := none) ⟨hx₁, rfl, rfl, trivial⟩ T.sa ?_
  refine osa_ X₁ hx₁ hcl (by rw [refuseLoop_ref]; exact hps _) (by rw [List.contains_cons, hob, Bool.or_true]) rfl rfl T.noN (fun h₃ tk₃ dx k₃ dn dne hx₃ hn₃ => ?_)
  show wpAny _ _ (execs _ _) _ _ _
  have z : s.heap.objs.size < h₁.objs.size := hn.lt
  exact wpAny_execs_nil (hq h₃ tk₃ dx (fun b o hb e => k₃ b o hb (k b o e)) (Nat.le_of_lt (Nat.lt_of_lt_of_le z dn)) dne hx₃ hn₃)
/-- C(v), C(f=v): a new exception -/
theorem made_ (T : ExcT K mg x f C fI) {v : Value} {args : Args} (ha : args = ⟨[v], []⟩ ∨ args = ⟨[], [(f, v)]⟩) (KX : K.In s.heap) (hlim : s.heap.NoLimit) (hroom : A.depth + 1 < recursionLimit)
    (hq : ∀ h' tk e d, Made f s.heap h' e C d v → R (.ok (.ret (.ref e))) { s with heap := h', toks := tk }) : codeAny (model prog w) A (.call (.ref C) args) R s := by
  obtain ⟨B, newId, initId, bm, bmB, ⟨nm, q, N, bs, sn, sub, ab, col, dd, k0, k1, k2, k3, k5, hC⟩, hF, hT, _, _⟩ := T.cls
  obtain ⟨us, kw⟩ := args
  obtain ⟨hp, gn, dr, tk, os⟩ := s
  have hl : us.length ≤ sizeLine := by
    rw [sizeLine_eq]
    rcases ha with e | e
    · cases e
      exact (by decide : 1 ≤ 16777216)
    · cases e
      exact Nat.zero_le _
  have k : ∀ b o, hp.get? b = some o → ((hp.push (kdv_tup us)).push (excO C hp.objs.size)).get? b = some o := fun b o e => Heap.get?_push_of_some _ (Heap.get?_push_of_some _ e)
  have hg : ((hp.push (kdv_tup us)).push (excO C hp.objs.size)).get? (hp.objs.size + 1) = some (excO C hp.objs.size) := by heap_get
  refine call_ hF hT (KX _ _ hC) (looks_findIn KX T.iC) (fun self => bind_fn KX self T.tC) hl ?_
  refine init_ (s := ⟨(hp.push (kdv_tup us)).push (excO C hp.objs.size), gn, dr, tk, os⟩) (v := v) T ?_ (KX.keeps k) (hlim.keeps k) hg ?_ fun h' tk' dx k' dn dne hx hns => ?_
  · rcases ha with e | e
    · cases e
      exact .inl rfl
    · cases e
      exact .inr rfl
  · show A.depth + 1 < recursionLimit
    exact hroom
  · have old : ∀ b o, hp.get? b = some o → h'.get? b = some o := fun b o e => k' b o (Nat.ne_of_lt (Nat.lt_succ_of_lt (Heap.lt_size e))) (k b o e)
    have z : hp.objs.size + 1 + 1 ≤ dx := by
      first
        | (simpa only [Heap.size_push] using dn)
        | exact dn
    exact ⟨rfl, hq h' tk' (hp.objs.size + 1) dx ⟨old, Nat.le_succ _, ⟨_, hx⟩, Nat.le_trans (Nat.le_trans (Nat.le_succ _) (Nat.le_succ _)) z, dne, hns⟩⟩
end
end WkX
namespace WkX
open PySem PySem.Spec PyProof.Rows L2
theorem relO_one {f : Str} {v : V} {u : Value} (r : RelV v u) (g : Str) : RelO (List.lookup g [(f, v)]) (if g = f then some u else none) := relO_put (fs := []) (mA := fun _ => none) r (fun _ => True.intro) g
section
variable {X : Cx} {x f : Str} {C fI : Addr}
/-- the state behind a new exception that is held -/
theorem held_ {pins : List (Addr × Obj)} {σ : L2.St} {H1 : Hp} {hp h' : Heap} {gn : Array GenState} {dr : Drawn} {tk tk' : Nat} {os : OsState} {e d : Addr} {v : V} {u : Value} (I1 : Inv X pins σ H1 ⟨hp, gn, dr, tk, os⟩) (rv : RelV v u) (M : Made f hp h' e C d u) :
    Inv X pins σ (upd (upd H1 d (exd d [(f, v)])) e (exo e C (some d))) ⟨h', gn, dr, tk', os⟩ := by
  obtain ⟨t1, hoe⟩ := M.obj
  have hns := M.ns
  obtain ⟨G, g1, g2⟩ := restrict h' fun b => decide (b ≠ e)
  have gk : ∀ b, b ≠ e → G.get? b = h'.get? b := fun b hb => g1 b (decide_eq_true hb)
  have ge : G.get? e = none := g2 e (by simp)
  have old : ∀ b o, hp.get? b = some o → G.get? b = some o := fun b o q => (gk b (Nat.ne_of_lt (Nat.lt_of_lt_of_le (Heap.lt_size q) M.new))).trans (M.keep b o q)
  have ob : ObjOk X.prog X.w (upd H1 d (exd d [(f, v)])) G d (exd d [(f, v)]) := exd_ok (hns.at (fun o q => (gk d M.dne).trans q)) fun g => relO_one rv g
  have J : Inv X pins σ (upd H1 d (exd d [(f, v)])) ⟨G, gn, dr, tk', os⟩ := I1.laid (t' := tk') old M.dbig ob
  have ne : upd H1 d (exd d [(f, v)]) e = none := by
    rw [upd_ne (Ne.symm M.dne)]
    exact I1.hok.fresh M.new
  exact J.laidN (t' := tk') (h' := h') (fun b o q => by
    by_cases hb : b = e
    · have q' : G.get? b = some o := q
      rw [hb, ge] at q'
      cases q'
    · exact (gk b hb).symm.trans q) ge ne (exo_ok hoe)
/-- x(e), x(f=e) as a value -/
def tMkE (C : Addr) (f : Str) (ta : TA) : TE := fun σ H Q => ta σ H fun vs H1 => ∃ v, vs = [v] ∧ ∀ a d, H1 a = none → H1 d = none → d ≠ a → Q (.ref a) (upd (upd H1 d (exd d [(f, v)])) a (exo a C (some d)))
theorem pe_mkE {a : Expr} {ta : TA} {p pos : Pos} {k : Nat} (T : ExcT X.K X.mg x f C fI) (hr : Room k X.A) (ha : PA X [a] ta) (hg : Gl X x := by rfl) (hdb : (x == ("__debug__" : Str)) = false := by decide)
    (he : starEach (a :: []) X.env = (false, eval a X.env) :: starEach [] X.env := by rfl) (hpl : (backTo pos (starEach [] X.env)).any (·.1) = false := by rfl) :
    PE X (.Call (.Name x p) [a] [] pos) (tMkE C f ta) := by
  refine ⟨fun pins s σ H Q I h => ?_⟩
  refine wpAny_Call_Name_kw (ld_glob I hg T.gC ?_ hdb)
  refine PySem.W.callWith_K (h₀ := X.base) I.ok.mod.kin T.kC (thn (ha.run pos pins s σ H _ I h) fun us s1 hh => ?_) he hpl
  obtain ⟨vs, H1, I1, r1, v, ev, q1⟩ := hh
  subst ev
  refine ⟨I1.kIn, ?_⟩
  cases r1 with
  | cons rv rn =>
    rename_i v' us'
    cases rn
    show wpAny _ _ (call (.ref C) [v']) _ _ _
    have hlim := I1.nolimit
    obtain ⟨hp, gn, dr, tk, os⟩ := s1
    refine wpAny_call (made_ (v := v') T (.inl rfl) I1.kIn hlim (by have := hr.dp; omega) fun h' tk' e d M => ?_)
    exact ⟨.ref e, _, held_ I1 rv M, rfl, q1 e d (I1.hok.fresh M.new) (I1.hok.fresh M.dbig) M.dne⟩
theorem pe_mkK {kws : List Keyword} {tk : TA} {p pos : Pos} {k : Nat} (T : ExcT X.K X.mg x f C fI) (hr : Room k X.A) (hkw : PK X kws tk) (hall : (backToKw pos (keywordEach kws X.env)).all (·.1.isSome) = true := by rfl) (hks : (backToKw pos (keywordEach kws X.env)).filterMap (·.1) = [f] := by rfl)
    (hg : Gl X x := by rfl) (hdb : (x == ("__debug__" : Str)) = false := by decide) (hpl : ((backTo pos (starEach [] X.env)).any (·.1) || (backToKw pos (keywordEach kws X.env)).any (·.1.isNone)) = false := by rfl) :
    PE X (.Call (.Name x p) [] kws pos) (tMkE C f tk) := by
  refine ⟨fun pins s σ H Q I h => ?_⟩
  refine wpAny_Call_Name_kw (ld_glob I hg T.gC ?_ hdb)
  refine PySem.W.callWith_KW0 (h₀ := X.base) I.ok.mod.kin T.kC hall (thn (hkw.run pos pins s σ H _ I h) fun us s1 hh => ?_) hpl
  obtain ⟨vs, H1, I1, r1, v, ev, q1⟩ := hh
  subst ev
  refine ⟨I1.kIn, ?_⟩
  rw [hks]
  cases r1 with
  | cons rv rn =>
    rename_i v' us'
    cases rn
    show wpAny _ _ (call (.ref C) [] [(f, v')]) _ _ _
    have hlim := I1.nolimit
    obtain ⟨hp, gn, dr, tk, os⟩ := s1
    refine wpAny_call (made_ (v := v') T (.inr rfl) I1.kIn hlim (by have := hr.dp; omega) fun h' tk' e d M => ?_)
    exact ⟨.ref e, _, held_ I1 rv M, rfl, q1 e d (I1.hok.fresh M.new) (I1.hok.fresh M.dbig) M.dne⟩
/-- e.f of a held exception -/
def tExF (C : Addr) (f : Str) (te : TE) : TE := fun σ H Q => te σ H fun y H1 => ∃ (a d : Addr) (fs : List (Str × V)) (v : V), y = .ref a ∧ H1 a = some (exo a C (some d)) ∧ H1 d = some (exd d fs) ∧ fs.lookup f = some v ∧ Q v H1
theorem pe_exF {e : Expr} {te : TE} {pos : Pos} (T : ExcT X.K X.mg x f C fI) (he : PE X e te) (hb : attributeBase e f X.env (eval e X.env) = eval e X.env := by rfl) : PE X (.Attribute e f pos) (tExF C f te) := by
  refine ⟨fun pins s σ H Q I h => ?_⟩
  refine attr_of hb (thn (he.run pins s σ H _ I h) fun u s1 hh => ?_)
  obtain ⟨y, H1, I1, ry, a, d, fs, v, ey, ea, ed, hl, q⟩ := hh
  subst ey
  obtain rfl : u = Value.ref a := ry
  obtain ⟨t1, ha⟩ := exo_at I1.hok ea
  obtain ⟨mA, hns, hr⟩ := exd_at I1.hok ed
  obtain ⟨od, ho, hlk⟩ := lookIn_ns hns
  obtain ⟨u, hu, ru⟩ := RelO.some_of (v := v) (o := mA f) (by rw [← hl]; exact hr f)
  have J : PySem.W.InstAt s1.heap a _ C (some od) := ⟨ha, rfl, rfl, ho⟩
  exact HandSPX.exc_get I1.kIn J T.ga T.gg T.exC (PySem.W.findObj_own T.hdC T.noN rfl (by rw [hlk, hu])) (handed_of ru) ⟨v, H1, I1.tok _, ru, q⟩
/-- isinstance(e, c) of a held exception -/
def rIsE (K : PySem.W.Frag) (mg : Str → Option Value) : List V → Hp → VK → Prop := fun xs H Q => ∃ (a d C fI : Addr) (x f : Str) (fs : List (Str × V)) (c : V) (u : Value) (b : Bool), xs = [.ref a, c] ∧ ExcT K mg x f C fI ∧ H a = some (exo a C (some d)) ∧ H d = some (exd d fs) ∧ ClsV c u ∧ PySem.W.kitOne K (.ref C) u = some b ∧ Q (.bl b) H
theorem call_isE : CallR X (.builtin "isinstance") (rIsE X.K X.mg) := by
  intro pins s σ H xs us Q I r h
  obtain ⟨a, d, C, fI, x, f, fs, c, u, b, rfl, T, ea, ed, k, e, q⟩ := h
  obtain ⟨u1, u2, rfl, r1, r2⟩ := vals2 r
  have e2 := k.eq r2
  subst e2
  obtain rfl : u1 = Value.ref a := r1
  obtain ⟨t1, ha⟩ := exo_at I.hok ea
  obtain ⟨mA, hns, hr⟩ := exd_at I.hok ed
  obtain ⟨od, ho, hlk⟩ := lookIn_ns hns
  have J : PySem.W.InstAt s.heap a _ C (some od) := ⟨ha, rfl, rfl, ho⟩
  exact PySem.W.kia_one (PySem.W.kitx_exc T.icl T.ga T.gg T.exC T.iha T.ihn T.itk T.ihm) I.kIn J e (fun z => nomatch z) fun tk => ⟨.bl b, H, I.tok tk, rfl, q⟩
end
end WkX
namespace WkG
open PySem PySem.Spec PyProof.Rows L2
/-! ### data at any depth, dicts among it -/
def keyD : Key → PyData
  | .inl i => .int i
  | .inr x => .str x
mutual
inductive Dx (K : PySem.W.Frag) (H : Hp) : V → PyData → Prop
  | non : Dx K H .non .none
  | bl (b : Bool) : Dx K H (.bl b) (.bool b)
  | int (i : Int) : Dx K H (.int i) (.int i)
  | str (x : Str) : Dx K H (.str x) (.str x)
  | lst {a : Addr} {xs : List V} {ds : List PyData} : SqL K H a xs → DxAll K H xs ds → Dx K H (.ref a) (.list ds)
  | tup {a : Addr} {xs : List V} {ds : List PyData} : SqT K H a xs → DxAll K H xs ds → Dx K H (.ref a) (.tuple ds)
  | dK {a : Addr} {kvs : List (Key × V)} {ks vs : List PyData} {es : List (PyData × PyData)} : Rd H a (.dK kvs) → DxAll K H (kvs.map (·.2)) vs → ks = kvs.map (fun p => keyD p.1) → es.map (·.1) = ks → es.map (·.2) = vs → Dx K H (.ref a) (.dict es)
inductive DxAll (K : PySem.W.Frag) (H : Hp) : List V → List PyData → Prop
  | nil : DxAll K H [] []
  | cons {v : V} {vs : List V} {d : PyData} {ds : List PyData} : Dx K H v d → DxAll K H vs ds → DxAll K H (v :: vs) (d :: ds)
end
theorem keyD_reads {h : Heap} {k : Key} {v : Value} (e : keyIs k v = true) : Reads h v (keyD k) [] := by
  rcases keyIs_shape e with ⟨i, t, rfl, rfl⟩ | ⟨x, t, rfl, rfl⟩
  · exact .int i t
  · exact .str x t
theorem pairs_reads {P : Program} {w : World} {h : Heap} : ∀ {es : List DictEntry} {vs : List (Key × Value)}, Pairs (mixKind P w) es vs → ReadsAll h (es.map (·.key)) (vs.map fun p => keyD p.1) [] ∧ es.map (·.val) = vs.map (·.2)
  | [], [], _ => ⟨.nil, rfl⟩
  | e :: es, kv :: vs, h => by
    cases h with
    | cons h1 h2 h3 =>
      obtain ⟨r1, r2⟩ := pairs_reads h3
      refine ⟨.cons (as := []) (bs := []) (keyD_reads h1) r1, ?_⟩
      rw [List.map_cons, List.map_cons, r2, h2]
theorem kv_keys {kvs : List (Key × V)} {vs : List (Key × Value)} (h : KV kvs vs) : kvs.map (fun p => keyD p.1) = vs.map (fun p => keyD p.1) ∧ Vals (kvs.map (·.2)) (vs.map (·.2)) := by
  induction h with
  | nil => exact ⟨rfl, .nil⟩
  | cons r t ih =>
    refine ⟨?_, .cons r.2 ih.2⟩
    rw [List.map_cons, List.map_cons, ih.1, r.1]
/-- sys.modules stands in the written part -/
def Sm (K : PySem.W.Frag) : Prop := ∃ o, K.lookup sysModules = some o ∧ o.cls = .type "dict"
section
variable {X : Cx} {pins : List (Addr × Obj)} {σ : L2.St} {H : Hp} {s : Shared}
theorem sm_none (I : Inv X pins σ H s) (S : Sm X.K) : H sysModules = none := by
  obtain ⟨o, e, _⟩ := S
  exact (I.bs _ _ (I.ok.mod.kin _ _ e)).2
theorem sm_list (I : Inv X pins σ H s) (S : Sm X.K) {a : Addr} {xs : List V} (h : SqL X.K H a xs) : sysModules ≠ a := by
  intro z
  subst z
  rcases h with (h | ⟨o, h⟩) | ⟨o, its, n, hk, hc, _⟩
  · rw [sm_none I S] at h
    cases h
  · rw [sm_none I S] at h
    cases h
  · obtain ⟨o', e, c⟩ := S
    rw [e] at hk
    cases hk
    rw [c] at hc
    exact absurd (Value.type.inj hc) (by decide)
mutual
theorem Dx.reads (I : Inv X pins σ H s) (S : Sm X.K) : ∀ (d : PyData) (v : V) (u : Value), Dx X.K H v d → RelV v u → ∃ as, Reads s.heap u d as ∧ sysModules ∉ as
  | .none, _, _, h, r => by
    cases h
    cases r
    exact ⟨_, Reads.none, by simp⟩
  | .bool b, _, _, h, r => by
    cases h
    cases r
    exact ⟨_, Reads.bool b, by simp⟩
  | .int i, _, _, h, r => by
    cases h
    obtain ⟨t, rfl⟩ := r
    exact ⟨_, Reads.int i t, by simp⟩
  | .str x, _, _, h, r => by
    cases h
    obtain ⟨t, rfl⟩ := r
    exact ⟨_, Reads.str x t, by simp⟩
  | .list ds, _, _, h, r => by
    cases h with
    | lst hs ha =>
      cases r
      obtain ⟨its, rv, ⟨o, n, ho, hc, _, hd⟩, _⟩ := I.list hs
      obtain ⟨as, hr, hn⟩ := Dx.readsAll I S ds _ its ha rv
      refine ⟨_, Reads.list ho hc hd hr, fun z => ?_⟩
      rcases List.mem_cons.mp z with z | z
      · exact sm_list I S hs z
      · exact hn z
  | .tuple ds, _, _, h, r => by
    cases h with
    | tup hs ha =>
      cases r
      obtain ⟨its, rv, ⟨o, ho, hc, n, hd⟩, _⟩ := I.tuple hs
      obtain ⟨as, hr, hn⟩ := Dx.readsAll I S ds _ its ha rv
      exact ⟨_, Reads.tuple ho hc hd hr, hn⟩
  | .dict es, _, _, h, r => by
    cases h with
    | dK hs ha e1 e2 e3 =>
      cases r
      obtain ⟨z, y, vs, rel, o, ens, ep, ho, hx, hd, _, hp, _⟩ := hs.ok I.hok
      obtain ⟨k1, k2⟩ := kv_keys rel
      obtain ⟨p1, p2⟩ := pairs_reads (h := s.heap) hp
      have hz : es.map (·.2) = es.map (·.2) := rfl
      obtain ⟨bs, hr, hn⟩ := Dx.readsKv I S es _ _ (e3 ▸ ha) k2
      rw [← p2] at hr
      rw [← k1, ← e1, ← e2] at p1
      refine ⟨_, Reads.dict ho hx.1 hd p1 hr, fun q => ?_⟩
      rcases List.mem_cons.mp q with q | q
      · rw [← q] at y
        exact absurd y (by decide)
      · exact hn (by simpa using q)
theorem Dx.readsAll (I : Inv X pins σ H s) (S : Sm X.K) : ∀ (ds : List PyData) (vs : List V) (us : List Value), DxAll X.K H vs ds → Vals vs us → ∃ as, ReadsAll s.heap us ds as ∧ sysModules ∉ as
  | [], _, _, h, r => by
    cases h
    cases r
    exact ⟨_, ReadsAll.nil, by simp⟩
  | d :: ds, _, _, h, r => by
    cases h with
    | cons h1 h2 =>
      cases r with
      | cons r1 r2 =>
        obtain ⟨as, q1, n1⟩ := Dx.reads I S d _ _ h1 r1
        obtain ⟨bs, q2, n2⟩ := Dx.readsAll I S ds _ _ h2 r2
        exact ⟨_, ReadsAll.cons q1 q2, fun z => (List.mem_append.mp z).elim n1 n2⟩
theorem Dx.readsKv (I : Inv X pins σ H s) (S : Sm X.K) : ∀ (es : List (PyData × PyData)) (vs : List V) (us : List Value), DxAll X.K H vs (es.map (·.2)) → Vals vs us → ∃ as, ReadsAll s.heap us (es.map (·.2)) as ∧ sysModules ∉ as
  | [], _, _, h, r => by
    cases h
    cases r
    exact ⟨_, ReadsAll.nil, by simp⟩
  | (k, d) :: es, _, _, h, r => by
    cases h with
    | cons h1 h2 =>
      cases r with
      | cons r1 r2 =>
        obtain ⟨as, q1, n1⟩ := Dx.reads I S d _ _ h1 r1
        obtain ⟨bs, q2, n2⟩ := Dx.readsKv I S es _ _ h2 r2
        exact ⟨_, ReadsAll.cons q1 q2, fun z => (List.mem_append.mp z).elim n1 n2⟩
end
end
theorem seqT_same {K : PySem.W.Frag} {H H' : Hp} {a : Addr} {xs : List V} (e : Same H H') (h : SqT K H a xs) : SqT K H' a xs := by
  rcases h with (h | ⟨o, h⟩) | h
  · exact .inl (.inl (e _ _ h))
  · exact .inl (.inr ⟨o, e _ _ h⟩)
  · exact .inr h
theorem rd_same {H H' : Hp} {a : Addr} {u : HO} (e : Same H H') (h : Rd H a u) : Rd H' a u := by
  rcases h with h | ⟨o, h⟩
  · exact .inl (e _ _ h)
  · exact .inr ⟨o, e _ _ h⟩
mutual
theorem Dx.same {K : PySem.W.Frag} {H H' : Hp} (e : Same H H') : ∀ {d : PyData} {v : V}, Dx K H v d → Dx K H' v d
  | _, _, .non => .non
  | _, _, .bl b => .bl b
  | _, _, .int i => .int i
  | _, _, .str x => .str x
  | _, _, .lst h1 h2 => .lst (e.seq h1) (DxAll.same e h2)
  | _, _, .tup h1 h2 => .tup (seqT_same e h1) (DxAll.same e h2)
  | _, _, .dK h1 h2 e1 e2 e3 => .dK (rd_same e h1) (DxAll.same e h2) e1 e2 e3
theorem DxAll.same {K : PySem.W.Frag} {H H' : Hp} (e : Same H H') : ∀ {ds : List PyData} {vs : List V}, DxAll K H vs ds → DxAll K H' vs ds
  | _, _, .nil => .nil
  | _, _, .cons h1 h2 => .cons (Dx.same e h1) (DxAll.same e h2)
end
theorem DxAll.rep {K : PySem.W.Frag} {H : Hp} {v : V} {d : PyData} (h : Dx K H v d) : ∀ n : Nat, DxAll K H (List.replicate n v) (List.replicate n d)
  | 0 => .nil
  | n + 1 => .cons h (DxAll.rep h n)
/-- data that may be written: its numbers are short, it is not too large -/
structure Fits (d : PyData) (w : Nat) : Prop where
  show_ : d.showable = true
  dep : d.depth ≤ 10
  lv : d.leavesShort 100 = true
  wt : d.weight ≤ w
theorem Fits.len {d : PyData} {w : Nat} (h : Fits d w) (hw : w ≤ 150000) : d.shown.length ≤ sizeLine := by
  have e := PyData.shown_le 100 (by decide) d h.lv
  have e2 := h.wt
  rw [sizeLine_eq]
  have e3 : (100 + 2) * d.weight ≤ (100 + 2) * 150000 := Nat.mul_le_mul_left _ (by omega)
  omega
theorem rep_facts {d : PyData} (hs : d.showable = true) (hl : d.leavesShort 100 = true) : ∀ n : Nat, PyData.showableAll (List.replicate n d) = true ∧ PyData.leavesShortAll 100 (List.replicate n d) = true ∧ PyData.depthAll (List.replicate n d) ≤ d.depth ∧ PyData.weightAll (List.replicate n d) = n * (d.weight + 1)
  | 0 => ⟨rfl, rfl, Nat.zero_le _, by simp [PyData.weightAll]⟩
  | n + 1 => by
    obtain ⟨h1, h2, h3, h4⟩ := rep_facts hs hl n
    refine ⟨?_, ?_, ?_, ?_⟩
    · show (d.showable && PyData.showableAll (List.replicate n d)) = true
      rw [hs, h1]
      rfl
    · show (d.leavesShort 100 && PyData.leavesShortAll 100 (List.replicate n d)) = true
      rw [hl, h2]
      rfl
    · show max d.depth (PyData.depthAll (List.replicate n d)) ≤ d.depth
      omega
    · show d.weight + 1 + PyData.weightAll (List.replicate n d) = (n + 1) * (d.weight + 1)
      rw [h4, Nat.add_mul]
      omega
theorem Fits.rep {d : PyData} {w : Nat} (h : Fits d w) (hd : d.depth ≤ 9) (n : Nat) : Fits (.list (List.replicate n d)) (n * (w + 1)) := by
  obtain ⟨h1, h2, h3, h4⟩ := rep_facts h.show_ h.lv n
  refine ⟨h1, ?_, h2, ?_⟩
  · show PyData.depthAll (List.replicate n d) + 1 ≤ 10
    omega
  · show PyData.weightAll (List.replicate n d) ≤ _
    rw [h4]
    exact Nat.mul_le_mul_left _ (Nat.succ_le_succ h.wt)
theorem fits_int {i : Int} (h : i.natAbs < 10 ^ 40) : Fits (.int i) 200 := by
  have l2 : i.natAbs.log2 < 200 := by
    by_cases e : i.natAbs = 0
    · rw [e]
      decide
    · exact (Nat.log2_lt e).mpr (Nat.lt_trans h (by decide))
  refine ⟨?_, Nat.zero_le _, ?_, ?_⟩
  · show decide (i.natAbs.log2 < 1920) = true
    exact decide_eq_true (by omega)
  · show decide ((PyData.shown (.int i)).length ≤ 100) = true
    refine decide_eq_true ?_
    have e := int_text_length_le10 (k := 40) (by decide) h
    show (Str.ofString (toString i)).length ≤ 100
    rw [PySem.ofString_length]
    omega
  · show (if i == 0 then 0 else i.natAbs.log2 + 1) ≤ 200
    split <;> omega
/-! ### repr(x) where nothing is being written -/
def rRepr (K : PySem.W.Frag) : List V → Hp → VK → Prop := fun xs H Q => ∃ (x : V) (d : PyData), xs = [x] ∧ Dx K H x d ∧ d.showable = true ∧ d.depth ≤ 60 ∧ d.shown.length ≤ sizeLine ∧ Q (.str d.shown) H
section
variable {X : Cx}
theorem call_repr (hG : X.A.guards = some []) (S : Sm X.K) (hu : X.A.units + 64 < cLine) : CallR X (.builtin "repr") (rRepr X.K) := by
  intro pins s σ H xs us Q I r h
  obtain ⟨x, d, rfl, hd, hs, hp, hz, q⟩ := h
  obtain ⟨u, rfl, ru⟩ := vals1 r
  obtain ⟨as, rd, hn⟩ := Dx.reads I S d x u hd ru
  have big : ∀ a, u = .ref a → wpAny (model X.prog X.w) X.A (call (.builtin "repr") [u]) (EP X pins σ Q) X.xe s := fun a e => by
    subst e
    exact repr_of_reads' rd hs (fun _ => hn) hG (by omega) (fun _ _ e => e) (fun h' v tk hk => ⟨.str _, H, I.kept hk, ⟨_, rfl⟩, q⟩) hz
  cases rd with
  | none => exact PySem.P.repr_of_none ⟨.str _, H, I.tok _, ⟨_, rfl⟩, q⟩
  | bool b => exact PySem.P.repr_of_bool ⟨.str _, H, I.tok _, ⟨_, rfl⟩, q⟩
  | int i t => exact PySem.P.repr_of_int (of_decide_eq_true hs) ⟨.str _, H, I.tok _, ⟨_, rfl⟩, q⟩
  | str y t => exact PySem.P.repr_of_str ⟨.str _, H, I.tok _, ⟨_, rfl⟩, q⟩ hz
  | list _ _ _ _ => exact big _ rfl
  | tuple _ _ _ _ => exact big _ rfl
  | dict _ _ _ _ _ => exact big _ rfl
end
/-! ### a list beside [] -/
section
variable {X : Cx}
def rNilE (K : PySem.W.Frag) : R2 := fun x y H Q => ∃ a b xs, x = .ref a ∧ y = .ref b ∧ SqL K H a xs ∧ SqL K H b [] ∧ Q (.bl xs.isEmpty) H
def rNilN (K : PySem.W.Frag) : R2 := fun x y H Q => ∃ a b xs, x = .ref a ∧ y = .ref b ∧ SqL K H a xs ∧ SqL K H b [] ∧ Q (.bl (!xs.isEmpty)) H
theorem op_eqNil (hu : X.A.units + 64 < cLine) : OpR X (compareOp .Eq) (rNilE X.K) := by
  intro pins s σ H x y v u Q I rx ry h
  obtain ⟨a, b, xs, rfl, rfl, ha, hb, q⟩ := h
  obtain rfl : v = Value.ref a := rx
  obtain rfl : u = Value.ref b := ry
  obtain ⟨is, r1, ⟨o1, n1, g1, c1, _, d1⟩, _⟩ := I.list ha
  obtain ⟨js, r2, ⟨o2, n2, g2, c2, _, d2⟩, _⟩ := I.list hb
  cases r2
  cases r1 with
  | nil => exact SeqAt.eq_listAt (e := fun _ => true) ⟨o1, g1, c1, n1, d1⟩ ⟨o2, g2, c2, n2, d2⟩ rfl (by omega) (fun j h1 _ => absurd h1 (by simp)) ⟨.bl true, H, I, rfl, q⟩
  | cons r t => exact SeqAt.eq_list_lengthsAt ⟨o1, g1, c1, n1, d1⟩ ⟨o2, g2, c2, n2, d2⟩ (by simp) (by omega) ⟨.bl false, H, I, rfl, q⟩
theorem op_neNil (hu : X.A.units + 64 < cLine) : OpR X (compareOp .NotEq) (rNilN X.K) := by
  intro pins s σ H x y v u Q I rx ry h
  obtain ⟨a, b, xs, rfl, rfl, ha, hb, q⟩ := h
  obtain rfl : v = Value.ref a := rx
  obtain rfl : u = Value.ref b := ry
  obtain ⟨is, r1, ⟨o1, n1, g1, c1, _, d1⟩, _⟩ := I.list ha
  obtain ⟨js, r2, ⟨o2, n2, g2, c2, _, d2⟩, _⟩ := I.list hb
  cases r2
  cases r1 with
  | nil => exact SeqAt.RcNeAt.lists (e := fun _ => true) ⟨o1, g1, c1, n1, d1⟩ ⟨o2, g2, c2, n2, d2⟩ rfl (by omega) (fun j h1 _ => absurd h1 (by simp)) X.prog X.w _ _ ⟨.bl false, H, I, rfl, q⟩
  | cons r t => exact SeqAt.RcNeAt.lists_lengths ⟨o1, g1, c1, n1, d1⟩ ⟨o2, g2, c2, n2, d2⟩ (by simp) (by omega) X.prog X.w _ _ ⟨.bl true, H, I, rfl, q⟩
end
/-! ### defs that are called where nothing is being written -/
structure FnG (P : Program) (w : World) (K : PySem.W.Frag) (mg : Str → Option Value) (base : Heap) (CX : CXT) (k : Nat) (f : Addr) (fd : FuncData) (ps : List Str) (sp : Sp) : Prop where
  len : ∀ vs H Q E, sp vs H Q E → vs.length = ps.length
  run : ∀ (A : Around) (outer : List Env) (s : Shared) (H : Hp) (args : Args) (us : List Value) (vs : List V) (Q : VK) (E : XK), A.guards = some [] → Room k A → Env0 P w K mg base A outer s H → BindsTo s fd args (ps.zip us) → Vals vs us → sp vs H Q E →
    codeAny (model P w) A (.call (.ref f) args) (CR CX outer P w H s Q E) s
section
variable {P : Program} {w : World} {K : PySem.W.Frag} {mg : Str → Option Value} {base : Heap} {CX : CXT} {k : Nat} {f : Addr} {fd : FuncData} {ps : List Str} {sp : Sp}
theorem FnG.of (F : FnOk P w K mg base CX k f fd ps sp) : FnG P w K mg base CX k f fd ps sp := ⟨F.len, fun A outer s H args us vs Q E _ hr he hb hv hs => F.run A outer s H args us vs Q E hr he hb hv hs⟩
theorem FnG.mono {j : Nat} (F : FnG P w K mg base CX j f fd ps sp) (h : j ≤ k) : FnG P w K mg base CX k f fd ps sp := ⟨F.len, fun A outer s H args us vs Q E hg hr => F.run A outer s H args us vs Q E hg (hr.mono h)⟩
theorem deep_guards {A : Around} {env : Env} (h : A.guards = some []) : (A.deeper env).guards = some [] := h
/-- the rule of a def, by its body -/
theorem okG {x qual : Str} {params : Arguments} {body : List Stmt} {scope : Scope} {dvs : List V} {kws : List (Str × V)} {N : List Str} (F : FunD K x qual params body scope dvs kws f fd) (S : FnScope N ps scope) (len : ∀ vs H Q E, sp vs H Q E → vs.length = ps.length)
    (hbody : ∀ (cdv : Value) (A : Around) (outer : List Env) (s : Shared) (H : Hp) (vs : List V) (Q : VK) (E : XK), (A.deeper (envOfC qual scope s.heap.objs.size f cdv)).guards = some [] → Room k (A.deeper (envOfC qual scope s.heap.objs.size f cdv)) → sp vs H Q E →
      ∃ t, PSs (cxOf CX P w K mg base N qual scope f cdv A outer s H E) body t ∧ t { nx := fun _ H' => Q .non H', rt := Q } (start N vs) H) : FnG P w K mg base CX (k + 1) f fd ps sp := by
  obtain ⟨oc, od, dV, kV, doc, pm, an, cdv, ct, osl, rfl, lk, hcd, _, _⟩ := F.ex
  refine ⟨len, fun A outer s H args us vs Q E hg hr e0 hb rel hsp => ?_⟩
  have kx : K.In s.heap := e0.mod.kin.keeps fun b o e => (e0.bs b o e).1
  have nl : s.heap.NoLimit := e0.mod.nolimit.keeps fun b o e => (e0.bs b o e).1
  have kinds : ∀ y ∈ ps.zip us, scope.names.lookup y.1 = some .local ∨ (scope.names.lookup y.1 = some .cell ∧ ((cellsFrom (s.heap.objs.size + 1) scope.names []).lookup y.1).isSome = true) := fun y hy => by
    rcases S.par y.1 (List.of_mem_zip (a := y.1) (b := y.2) hy).1 with q | q
    · exact .inl q
    · exact .inr ⟨q, PySem.W.cellsFrom_some _ _ _ (.inl q)⟩
  refine codeAny_call_function hr.depth (kx _ _ lk) rfl S.co S.gen rfl (PySem.W.codeRec_of kx hcd) (hb _ _ _ _ ?_)
  refine wpAny_newFunctionEnv_cells S.kind kinds fun env he s1 inc => ?_
  subst he
  refine ⟨nl.keeps inc.toInCall.keep, codeAny_func ?_⟩
  obtain ⟨t, ht, hq⟩ := hbody cdv A outer s H vs Q E (deep_guards hg) (hr.deeper _) hsp
  have J : Inv (cxOf CX P w K mg base N qual scope f cdv A outer s H E) [] (start N vs) H s1 := inv_start S hr.hd e0 (len _ _ _ _ hsp) rel inc
  refine wpAny_mono (ht.run [] s1 (start N vs) H _ J hq) (fun fl s' hs => ?_) fun e s' hs => hs
  cases fl with
  | ret u =>
    obtain ⟨v, σ', H', J2, rv, q⟩ := hs
    exact ⟨v, H', J2.os, J2.bare, J2.base, J2.hok, rv, q⟩
  | next =>
    obtain ⟨σ', H', J2, q⟩ := hs
    exact ⟨V.non, H', J2.os, J2.bare, J2.base, J2.hok, rfl, q⟩
  | brk =>
    obtain ⟨_, _, _, q⟩ := hs
    exact False.elim q
  | cont =>
    obtain ⟨_, _, _, q⟩ := hs
    exact False.elim q
end
section
variable {X : Cx} {CX : CXT} {k : Nat} {f : Addr} {fd : FuncData} {ps : List Str} {sp : Sp} {dvs : List V} {ds : List Value} {E : XK} {x : Str} {p pos : Pos} {e : Expr} {es : List Expr} {t : TA}
/-- f(e, ..) -/
theorem pe_callG (F : FnG X.prog X.w X.K X.mg X.base CX k f fd ps sp) (hG : X.A.guards = some []) (hr : Room k X.A) (hg : Gl X x) (hm : X.mg x = some (.ref f)) (hk : PySem.W.keepIn X.K (.ref f) = true) (hb : Binds X.K fd ps ds) (hd : Vals dvs ds) (hx : Passes CX X E)
    (ha : PA X (e :: es) t) (hdb : (x == ("__debug__" : Str)) = false := by decide) (he : starEach (e :: es) X.env = (false, eval e X.env) :: starEach es X.env := by rfl) (hpl : (backTo pos (starEach es X.env)).any (·.1) = false := by rfl) :
    PE X (.Call (.Name x p) (e :: es) [] pos) (tCall sp dvs E t) := by
  refine ⟨fun pins s σ H Q I h => ?_⟩
  refine wpAny_Call_Name_kw (ld_glob I hg hm ?_ hdb)
  refine PySem.W.callWith_K (h₀ := X.base) I.ok.mod.kin hk (thn (ha.run pos pins s σ H _ I h) fun us s1 ⟨vs, H1, I1, r, q⟩ => ⟨I1.kIn, ?_⟩) he hpl
  have r2 : Vals (vs ++ dvs) (us ++ ds) := r.append hd
  have hl : (us ++ ds).length = ps.length := by rw [← r2.length]; exact F.len _ _ _ _ q
  refine wpAny_call (codeAny_mono (F.run X.A X.stack s1 H1 ⟨us, []⟩ (us ++ ds) (vs ++ dvs) Q E hG hr I1.env0 (hb s1 us I1.kIn hl) r2 q) fun r' s' hq => ?_)
  cases r' with
  | error er => exact hx pins σ H1 s1 er s' I1 hq
  | ok fl =>
    cases fl with
    | ret u => exact I1.after hq
    | next => exact False.elim hq
    | brk => exact False.elim hq
    | cont => exact False.elim hq
end
/-! ### the end -/
section
variable {P : Program} {w : World} {K : PySem.W.Frag} {mg mb : Str → Option Value} {CX : CXT} {k : Nat} {fa a : Addr} {fd : FuncData} {x : Str} {sp : Sp} {s₁ : Shared} {vs : List Value} {ns : List Int}
theorem law_G (KX : K.In s₁.heap) (hns : s₁.heap.Ns mainGlobals mg) (hb : s₁.heap.Ns builtinsNs mb) (hbb : ∀ x : Str, x ≠ "__name__" → mb x = bootBuiltins x) (hlim : s₁.heap.NoLimit) (hgen : s₁.gens = #[])
    (ha : s₁.heap.get? a = some { cls := .type "list", data := .seq vs.toArray }) (hi : IntsAre vs ns) (hl : ns.length ≤ sizeLine) (hr : Room k callerA)
    (F : ∀ base : Heap, K.In base → base.Ns mainGlobals mg → FnG P w K mg base CX k fa fd [x] sp) (hbind : ∀ (s : Shared) (u : Value), BindsTo s fd ⟨[u], []⟩ [(x, u)])
    (hsp : ∀ H : Hp, Only H → SqL K H a (ns.map V.int) → sp [.ref a] H (fun v _ => v = .bl true) fun _ _ _ => False)
    (hCX : ∀ H e s', CX [] H s₁ (fun _ _ _ => False) e s' → False) :
    codeAny (model P w) callerA (.call (.ref fa) ⟨[.ref a], []⟩) (fun r s' => r = .ok (.ret (.bool true)) ∧ OldK s₁.heap s'.heap ∧ s'.os = s₁.os ∧ AllBare s'.gens) s₁ := by
  have rv := vals_ints hi
  have lv := hi.length
  have go : ∀ H : Hp, Only H → SqL K H a (ns.map V.int) → HOk P w H s₁.heap → (∀ b, H b ≠ none → b = a) → (H a ≠ none → K.lookup a = none) →
      codeAny (model P w) callerA (.call (.ref fa) ⟨[.ref a], []⟩) (fun r s' => r = .ok (.ret (.bool true)) ∧ OldK s₁.heap s'.heap ∧ s'.os = s₁.os ∧ AllBare s'.gens) s₁ := by
    intro H hO hS ok one hK
    have dic : ∀ {b : Addr} {o : Obj} {es : Array DictEntry} {ep : Nat}, s₁.heap.get? b = some o → o.data = .dict es ep → H b = none := fun {b o es ep} e d => by
      cases q : H b with
      | none => rfl
      | some u =>
        have e' : b = a := one b (by rw [q]; simp)
        subst e'
        rw [ha] at e
        cases e
        exact nomatch (show Data.seq vs.toArray _ = Data.dict es ep from d)
    have nk : ∀ {b : Addr} {m : Str → Option Value}, s₁.heap.Ns b m → (hidT s₁.heap H).Ns b m := fun {b m} ⟨o, es, ep, e, d, r⟩ => ⟨o, es, ep, hidT_get e (dic e d), d, r⟩
    have kb : K.In (hidT s₁.heap H) := fun b o e => hidT_get (KX b o e) (by
      cases q : H b with
      | none => rfl
      | some u =>
        have e' : b = a := one b (by rw [q]; simp)
        subst e'
        rw [hK (by rw [q]; simp)] at e
        cases e)
    have md : Mod K mg (hidT s₁.heap H) := ⟨kb, nk hns, ⟨mb, nk hb, hbb⟩, let ⟨mc, h1, h2⟩ := hlim; ⟨mc, nk h1, h2⟩⟩
    have e0 : Env0 P w K mg (hidT s₁.heap H) callerA [] s₁ H := ⟨rfl, md, fun b o e => of_hidT e, Nat.le_of_eq (hidT_size _ _), trivial, fun b z => absurd (show b ∈ ([] : List Addr) from z) (by simp), ok, .of_eq hgen⟩
    refine codeAny_mono ((F _ kb (nk hns)).run callerA [] s₁ H ⟨[.ref a], []⟩ [.ref a] [.ref a] _ _ rfl hr e0 (hbind s₁ (.ref a)) (.cons rfl .nil) (hsp H hO hS)) fun r s' h => ?_
    cases r with
    | error e => exact (hCX H e s' h).elim
    | ok fl =>
      cases fl with
      | next => exact False.elim h
      | brk => exact False.elim h
      | cont => exact False.elim h
      | ret u =>
        obtain ⟨v, H', os, bare, un, ok', r', q⟩ := h
        have q' : v = .bl true := q
        subst q'
        obtain rfl : u = Value.bool true := r'
        refine ⟨rfl, OldK.of_keep fun b o e => ?_, os, bare⟩
        cases q : H b with
        | none => exact un.keep b o e q (fun z => absurd (show b ∈ ([] : List Addr) from z) (by simp)) (by simp)
        | some u =>
          rcases hO b with z | ⟨ob, xs, z⟩
          · rw [q] at z
            cases z
          · have z2 := un.frzs b ob _ z
            obtain ⟨e1, _⟩ := ok b _ z
            obtain ⟨e2, _⟩ := ok' b _ z2
            rw [e] at e1
            cases e1
            exact e2
  cases hk : K.lookup a with
  | some o =>
    have e := KX a o hk
    rw [ha] at e
    cases e
    refine go (fun _ => none) (fun _ => .inl rfl) (.inr ⟨_, vs.toArray, _, hk, rfl, rfl, rfl, by rw [List.size_toArray, lv]; exact hl, by simpa using rv⟩) (fun b u z => nomatch (show (none : Option HO) = some u from z)) (fun b z => absurd rfl z) fun z => absurd rfl z
  | none =>
    refine go (fun b => if b = a then some (.frz { cls := .type "list", data := .seq vs.toArray } (.lst (ns.map V.int))) else none) (fun b => ?_) (.inl (.inr ⟨{ cls := .type "list", data := .seq vs.toArray }, if_pos rfl⟩)) (fun b u z => ?_) (fun b z => ?_) fun _ => hk
    · by_cases hb : b = a
      · exact .inr ⟨_, _, if_pos hb⟩
      · exact .inl (if_neg hb)
    · by_cases hb : b = a
      · have z' := (if_pos hb).symm.trans z
        cases z'
        subst hb
        exact ⟨ha, by rw [List.length_map]; exact hl, vs, _, rv, ha⟩
      · have z' := (if_neg hb).symm.trans z
        cases z'
    · by_cases hb : b = a
      · exact hb
      · exact absurd (if_neg hb) z
end
theorem walk_G {l : PySem.W.OpenLaw} {n k : Nat} {q : Program} {loose : List Str} {XP : (Str → Option Value) → Heap → Prop} {YP : World → Heap → Prop} {d : DefRec} {CX : World → CXT} {x : Str}
    (hn : l.most = some n) (hn2 : n ≤ sizeLine) (hdf : d.params.defaults = []) (hr : Room k callerA)
    (F : ∀ (w : World) (mg : Str → Option Value) (fa : Addr) (h : Heap), YP w h → h.Ns mainGlobals mg → mg d.name = some (.ref fa) →
      ∃ (K : PySem.W.Frag) (fd : FuncData) (sp : Sp), K.In h ∧ (∀ (s : Shared) (u : Value), BindsTo s fd ⟨[u], []⟩ [(x, u)]) ∧
        (∀ (H : Hp) (a : Addr) (ns : List Int), ns.length ≤ n → Only H → SqL K H a (ns.map V.int) → sp [.ref a] H (fun v _ => v = .bl true) fun _ _ _ => False) ∧
        ∀ base : Heap, K.In base → base.Ns mainGlobals mg → FnG l.prog w K mg base (CX w) k fa fd [x] sp)
    (hCX : ∀ (w : World) (H : Hp) (s : Shared) (e : Value) (s' : Shared), CX w [] H s (fun _ _ _ => False) e s' → False) :
    PySem.W.WalkO q loose XP YP l.row.toRowW d [] (fun f vs => PySem.call f vs) := by
  refine Att.attach_call hn hdf fun w s₀ s₁ mg mb fa o pm cd doc a vs ns G Y ho hd hcd hmg hobj hints hlen hg => ?_
  obtain ⟨K, fd, sp, KX, hb, hsp, hF⟩ := F w mg fa _ Y G.T.g hmg
  exact law_G KX G.T.g G.T.b G.T.builtins G.T.nolimit hg hobj hints (Nat.le_trans hlen hn2) hr hF hb (fun H hO hS => hsp H a ns hlen hO hS) fun H e s' => hCX w H s₁ e s'
/-! ### the head's facts -/
def asW (g : Addr → Option Obj) (n : Nat) : List Addr := sysModules :: cStatics :: He.asD g n
abbrev AlW : Type := He.AlD × Bool
def obsW (n : Nat) (fa : List He.Fa) (fn : List He.DefD) (ex : PySem.W.Frag → Bool) (g : Addr → Option Obj) : AlW := (He.obsD fa fn (He.frG g (asW g n)), ex (He.frG g (asW g n)))
def hookW (n : Nat) (fa : List He.Fa) (fn : List He.DefD) (ex : PySem.W.Frag → Bool) : PySem.W.Hook where
  α := AlW
  obs := fun s => obsW n fa fn ex s.heap.get?
  val := fun _ => (He.valD fn, true)
  says := fun _ h => ∃ K : PySem.W.Frag, K.In h ∧ He.SaysD fa fn K ∧ ex K = true
  of := fun _ _ e => ⟨_, He.frG_in, congrArg (fun z : AlW => z.1) e, congrArg (fun z : AlW => z.2) e⟩
  keeps := fun _ _ _ ⟨K, hK, c, d⟩ k => ⟨K, PySem.W.Frag.In.keeps hK k, c, d⟩
theorem obsW_eq {n : Nat} {fa : List He.Fa} {fn : List He.DefD} {ex : PySem.W.Frag → Bool} {g : Addr → Option Obj} {s : Shared} (h : ∀ a, g a = s.heap.get? a) : obsW n fa fn ex g = (hookW n fa fn ex).obs s := by
  have e : g = s.heap.get? := funext h
  subst e
  rfl
def smB (K : PySem.W.Frag) : Bool := match K.lookup sysModules with
  | some ⟨.type c, _, _, _⟩ => c == "dict"
  | _ => false
theorem smB_ok {K : PySem.W.Frag} (h : smB K = true) : Sm K := by
  unfold smB at h
  split at h
  · rename_i c d dt sl e
    exact ⟨_, e, by rw [eq_of_beq h]⟩
  · cases h
end WkG
namespace WkX
open PySem PySem.W PySem.Calls PyProof.Rows
/-! ### facts of an error class, read off the head -/
def clsB (K : Frag) (C : Addr) (bm : List Value) (newId : String) : Bool := match K.lookup C with
  | some ⟨.type t, _, .cls cd, sl⟩ => t == "type" && (decide (cd.mro = .ref C :: bm) && (cd.hasDict && (!cd.hasDel && match sl.toList with
    | [_, _, _, _, some (.builtin n), _] => n == newId
    | _ => false)))
  | _ => false
theorem clsB_ok {K : Frag} {C : Addr} {bm : List Value} {newId : String} (h : clsB K C bm newId = true) : ∃ nm q N bs sn sub ab col dd k0 k1 k2 k3 k5, K.lookup C = some (excClassObj nm q C N bs bm true sn sub ab col dd k0 k1 k2 k3 k5 newId) := by
  unfold clsB at h
  split at h
  · rename_i t dd cd sl e
    obtain ⟨h1, h⟩ := He.ba h
    obtain ⟨h2, h⟩ := He.ba h
    obtain ⟨h3, h⟩ := He.ba h
    obtain ⟨h4, h5⟩ := He.ba h
    clear h
    split at h5
    · rename_i k0 k1 k2 k3 n k5 hs
      obtain ⟨nm, bs, mro, ns, qn, hd, sn, sub, ab, col, del⟩ := cd
      have e1 := eq_of_beq h1
      have e2 : mro = .ref C :: bm := of_decide_eq_true h2
      have e3 : hd = true := h3
      have e4 : del = false := by
        have z : (!del) = true := h4
        cases del
        · rfl
        · cases z
      have e5 := eq_of_beq h5
      have e6 : sl = #[k0, k1, k2, k3, some (.builtin n), k5] := by
        obtain ⟨l⟩ := sl
        simp only at hs
        rw [hs]
      subst e1 e2 e3 e4 e5 e6
      exact ⟨_, _, _, _, _, _, _, _, _, _, _, _, _, _, e⟩
    · cases h5
  · cases h
def excB (K : Frag) (x f : Str) (bm : List Value) (newId : String) : Bool :=
  clsB K (He.ga K x) bm newId && (He.eqO (findIn K (.ref (He.ga K x)) "__setattr__") (some (some (.builtin "object.__setattr__"))) && (He.eqO (findIn K (.ref (He.ga K x)) "__getattribute__") (some (some (.builtin "BaseException.__getattribute__"))) &&
  (He.eqO (findIn K (.ref (He.ga K x)) "__getattr__") (some none) && (He.eqO (findIn K (.ref (He.ga K x)) f) (some none) && (He.eqO (findIn K (.ref (He.ga K x)) "__init__") (some (some (.ref (He.ma K (He.ga K x) "__init__")))) &&
  (decide (typeIn K (.ref (He.ma K (He.ga K x) "__init__")) = some (.type "function")) && (keepIn K (.ref (He.ga K x)) && (decide (subIn K (.ref (He.ga K x)) (.type "BaseException") = some true) && (decide (typeIn K (.ref (He.ga K x)) = some (.type "type")) &&
  (hasDictIn K (He.ga K x) && ((clsIn K (He.ga K x)).isSome && (He.eqO (findIn K (.ref (He.ga K x)) "__class__") (some (some (.builtin "object.__class__"))) && (He.eqO (specialIn K (.builtin "object.__class__") "__get__") (some (some (.builtin "getset_descriptor.__get__"))) &&
  (decide (takesIn K (.builtin "object.__class__") = some true) && decide (mroIn K (He.ga K x) (.type "object") = some true)))))))))))))))
theorem excT_mk {K : Frag} {mg : Str → Option Value} {x f : Str} {bm bmB : List Value} {B newId initId : String} (g : mg x = some (.ref (He.ga K x))) (h : excB K x f bm newId = true) (hF : ExcBaseFacts B newId initId bmB) (hT : Tail B bm)
    (hp : ∀ self, refuseLoop self "__setattr__" bm = pure ()) (ho : bm.contains (.type "object") = true) (fok : FieldOk f)
    (fn : ∃ (qual : Str) (oc : Value) (od : Option Addr) (kV doc pm : Value) (an : Option Addr) (cdv ct : Value) (osl : Array (Option Value)) (p1 p2 q1 q2 q3 q4 : Pos),
      K.lookup (He.ma K (He.ga K x) "__init__") = some ⟨oc, od, .func (fnOf "__init__" qual (iA f p1 p2) (iB f q1 q2 q3 q4) (iS f) .none kV doc pm an cdv ct), osl⟩ ∧ codeIn K cdv qual = true) :
    ExcT K mg x f (He.ga K x) (He.ma K (He.ga K x) "__init__") := by
  obtain ⟨a1, h⟩ := He.ba h
  obtain ⟨a2, h⟩ := He.ba h
  obtain ⟨a3, h⟩ := He.ba h
  obtain ⟨a4, h⟩ := He.ba h
  obtain ⟨a5, h⟩ := He.ba h
  obtain ⟨a6, h⟩ := He.ba h
  obtain ⟨a7, h⟩ := He.ba h
  obtain ⟨a8, h⟩ := He.ba h
  obtain ⟨a9, h⟩ := He.ba h
  obtain ⟨a10, h⟩ := He.ba h
  obtain ⟨a11, h⟩ := He.ba h
  obtain ⟨a12, h⟩ := He.ba h
  obtain ⟨a13, h⟩ := He.ba h
  obtain ⟨a14, h⟩ := He.ba h
  obtain ⟨a15, a16⟩ := He.ba h
  exact ⟨g, ⟨B, newId, initId, bm, bmB, clsB_ok a1, hF, hT, hp, ho⟩, He.eqO_ok a2, He.eqO_ok a3, He.eqO_ok a4, He.eqO_ok a5, He.eqO_ok a6, of_decide_eq_true a7, a8, of_decide_eq_true a9, of_decide_eq_true a10, a11, a12, He.eqO_ok a13, He.eqO_ok a14, of_decide_eq_true a15, of_decide_eq_true a16, fok, fn⟩
/-! ### the built-in classes that errors stand over -/
def bV : List Value := [.type "ValueError", .type "Exception", .type "BaseException", .type "object"]
def bR : List Value := [.type "RuntimeError", .type "Exception", .type "BaseException", .type "object"]
def bL : List Value := [.type "LookupError", .type "Exception", .type "BaseException", .type "object"]
def bI : List Value := [.type "IndexError", .type "LookupError", .type "Exception", .type "BaseException", .type "object"]
def bK : List Value := [.type "KeyError", .type "LookupError", .type "Exception", .type "BaseException", .type "object"]
theorem tV : Tail "ValueError" bV := ⟨by decide +kernel, by decide +kernel, by decide +kernel⟩
theorem tR : Tail "RuntimeError" bR := ⟨by decide +kernel, by decide +kernel, by decide +kernel⟩
theorem tL : Tail "LookupError" bL := ⟨by decide +kernel, by decide +kernel, by decide +kernel⟩
theorem tI : Tail "IndexError" bI := ⟨by decide +kernel, by decide +kernel, by decide +kernel⟩
theorem tK : Tail "LookupError" bK := ⟨by decide +kernel, by decide +kernel, by decide +kernel⟩
theorem pV (self : Value) : refuseLoop self "__setattr__" bV = pure () := by kernel_rfl
theorem pR (self : Value) : refuseLoop self "__setattr__" bR = pure () := by kernel_rfl
theorem pL (self : Value) : refuseLoop self "__setattr__" bL = pure () := by kernel_rfl
theorem pI (self : Value) : refuseLoop self "__setattr__" bI = pure () := by kernel_rfl
theorem pK (self : Value) : refuseLoop self "__setattr__" bK = pure () := by kernel_rfl
theorem oV : bV.contains (.type "object") = true := by decide +kernel
theorem oR : bR.contains (.type "object") = true := by decide +kernel
theorem oL : bL.contains (.type "object") = true := by decide +kernel
theorem oI : bI.contains (.type "object") = true := by decide +kernel
theorem oK : bK.contains (.type "object") = true := by decide +kernel
/-! ### a class's constant that is an int -/
def cvB (K : Frag) (C : Addr) (f : Str) (i : Int) : Bool := match findCls K (.ref C) (.type "type") f with
  | some (.val (.int j _)) => decide (j = i)
  | _ => false
theorem cvB_ok {K : Frag} {C : Addr} {f : Str} {i : Int} (h : cvB K C f i = true) : ∃ u, ClX.CVal K C (.type "type") f (.int i) u := by
  unfold cvB at h
  split at h
  · rename_i j t e
    have ej : j = i := of_decide_eq_true h
    subst ej
    exact ⟨_, e, t, rfl⟩
  · cases h
def crB (K : Frag) (C : Addr) : Bool := readsIn K C (.type "type") && He.eqO (specialIn K (.ref C) "__getattribute__") (some (some (.builtin "type.__getattribute__")))
theorem crB_ok {K : Frag} {C : Addr} (h : crB K C = true) : ClX.CRead K C (.type "type") := by
  obtain ⟨h1, h2⟩ := He.ba h
  exact ⟨h1, He.eqO_ok h2⟩
end WkX
namespace Wk
open PySem PySem.Spec PyProof.Rows L2
/-! ### heaps -/
/-- all that was tracked, but p, is as it was -/
def But (p : Addr) (H H' : Hp) : Prop := ∀ b o, H b = some o → b ≠ p → H' b = some o
theorem But.refl (p : Addr) (H : Hp) : But p H H := fun _ _ e _ => e
theorem But.trans {p : Addr} {H H1 H2 : Hp} (a : But p H H1) (b : But p H1 H2) : But p H H2 := fun c o e h => b c o (a c o e h) h
theorem But.of_same {p : Addr} {H H1 : Hp} (a : Same H H1) : But p H H1 := fun c o e _ => a c o e
theorem same_upd {H : Hp} {a : Addr} {o : HO} (h : H a = none) : Same H (upd H a o) := fun b u e => by
  rw [upd_ne (ne_of_none e h)]
  exact e
theorem But.upd {p : Addr} {H H1 : Hp} {o : HO} (a : But p H H1) : But p H (L2.upd H1 p o) := fun c u e h => by
  rw [upd_ne h]
  exact a c u e h
theorem But.put {p q : Addr} {H H1 : Hp} {o : HO} (a : But p H H1) (h : H q = none) : But p H (L2.upd H1 q o) := fun c u e hc => by
  rw [upd_ne (ne_of_none e h)]
  exact a c u e hc
/-- a new object: what is known of the heap behind it -/
theorem new_eq {H G : Hp} {p : Addr} {o : HO} (n : H p = none) (h : upd H p o = G) : Same H G ∧ G p = some o := by
  subst h
  exact ⟨same_upd n, upd_same⟩
/-- a comprehension's turn without a test -/
theorem tYes_if {σ : L2.St} {H : Hp} {A B : Hp → Prop} (h : A H) : tYes σ H fun b H3 => if b = true then A H3 else B H3 := by
  show if true = true then A H else B H
  exact iteT h
/-! ### the pen -/
def penL (cs : Addr) (t r : Int) : List (Key × V) := [(Sum.inr "cells", .ref cs), (Sum.inr "turn", .int t), (Sum.inr "rest", .int r)]
def penO (cs : Addr) (t r : Int) : HO := .dK (penL cs t r)
/-- a pen at p, its cells at cs; it was turned at most N times -/
structure Pen (H : Hp) (p cs : Addr) (N : Nat) : Prop where
  pen : ∃ t r : Int, H p = some (penO cs t r) ∧ 0 ≤ t ∧ t ≤ (N : Int) ∧ 0 ≤ r
  cells : ∃ ns : List Int, H cs = some (.lst (ns.map V.int)) ∧ ns.length ≤ 63
theorem Pen.ne {H : Hp} {p cs : Addr} {N : Nat} (P : Pen H p cs N) : cs ≠ p := by
  obtain ⟨⟨t, r, h1, _⟩, ns, h2, _⟩ := P
  exact ne_of h2 h1 (by intro z; cases z)
theorem Pen.mono {H : Hp} {p cs : Addr} {N M : Nat} (P : Pen H p cs N) (h : N ≤ M) : Pen H p cs M := by
  obtain ⟨⟨t, r, h1, h2, h3, h4⟩, hc⟩ := P
  exact ⟨⟨t, r, h1, h2, by omega, h4⟩, hc⟩
theorem Pen.same {H H' : Hp} {p cs : Addr} {N : Nat} (P : Pen H p cs N) (s : Same H H') : Pen H' p cs N := by
  obtain ⟨⟨t, r, h1, h2⟩, ns, h3, h4⟩ := P
  exact ⟨⟨t, r, s _ _ h1, h2⟩, ns, s _ _ h3, h4⟩
/-- an object that is no part of the pen is changed or laid -/
theorem Pen.put {H : Hp} {p cs q : Addr} {N : Nat} {o : HO} (P : Pen H p cs N) (h1 : q ≠ p) (h2 : q ≠ cs) : Pen (upd H q o) p cs N := by
  obtain ⟨⟨t, r, a1, a2⟩, ns, a3, a4⟩ := P
  exact ⟨⟨t, r, by rw [upd_ne (Ne.symm h1)]; exact a1, a2⟩, ns, by rw [upd_ne (Ne.symm h2)]; exact a3, a4⟩
theorem Pen.new {H : Hp} {p cs q : Addr} {N : Nat} {o : HO} (P : Pen H p cs N) (h : H q = none) : Pen (upd H q o) p cs N := P.same (same_upd h)
/-- what was free ahead is no part of the pen -/
theorem Pen.free {H : Hp} {p cs q : Addr} {N : Nat} (P : Pen H p cs N) (h : H q = none) : q ≠ p ∧ q ≠ cs := by
  obtain ⟨⟨t, r, a1, a2⟩, ns, a3, a4⟩ := P
  exact ⟨Ne.symm (ne_of_none a1 h), Ne.symm (ne_of_none a3 h)⟩
theorem pen_turn (cs : Addr) (t r u : Int) : putK (penL cs t r) (Sum.inr "turn" : Key) (.int u) = penL cs u r := by
  unfold penL putK
  rfl
theorem pen_rest (cs : Addr) (t r u : Int) : putK (penL cs t r) (Sum.inr "rest" : Key) (.int u) = penL cs t u := by
  unfold penL putK
  rfl
theorem pen_g1 (cs : Addr) (t r : Int) : valV (penL cs t r) (Sum.inr "cells" : Key) = some (.ref cs) := by rfl
theorem pen_g2 (cs : Addr) (t r : Int) : valV (penL cs t r) (Sum.inr "turn" : Key) = some (.int t) := by rfl
theorem pen_g3 (cs : Addr) (t r : Int) : valV (penL cs t r) (Sum.inr "rest" : Key) = some (.int r) := by rfl
/-- pen['turn'] .. -/
theorem get_cells {H : Hp} {p cs : Addr} {t r : Int} (h : H p = some (penO cs t r)) : DGet H p (.str "cells") (some (.ref cs)) := by
  have e := DGet.k (k := Sum.inr "cells") h
  rw [pen_g1] at e
  exact e
theorem get_turn {H : Hp} {p cs : Addr} {t r : Int} (h : H p = some (penO cs t r)) : DGet H p (.str "turn") (some (.int t)) := by
  have e := DGet.k (k := Sum.inr "turn") h
  rw [pen_g2] at e
  exact e
theorem get_rest {H : Hp} {p cs : Addr} {t r : Int} (h : H p = some (penO cs t r)) : DGet H p (.str "rest") (some (.int r)) := by
  have e := DGet.k (k := Sum.inr "rest") h
  rw [pen_g3] at e
  exact e
theorem put_turn {H : Hp} {p cs : Addr} {t r u : Int} (h : H p = some (penO cs t r)) : DPut H p (.str "turn") (.int u) (upd H p (penO cs u r)) := by
  have e := DPut.k (k := Sum.inr "turn") (v := .int u) h (by show 3 < sizeLine; decide)
  rw [pen_turn] at e
  exact e
theorem put_rest {H : Hp} {p cs : Addr} {t r u : Int} (h : H p = some (penO cs t r)) : DPut H p (.str "rest") (.int u) (upd H p (penO cs t u)) := by
  have e := DPut.k (k := Sum.inr "rest") (v := .int u) h (by show 3 < sizeLine; decide)
  rw [pen_rest] at e
  exact e

/-! ### names of built-ins that the module leaves as they are -/
structure Bi (mg : Str → Option Value) : Prop where
  n_abs : mg "abs" = none
  n_all : mg "all" = none
  n_any : mg "any" = none
  n_bool : mg "bool" = none
  n_dict : mg "dict" = none
  n_enumerate : mg "enumerate" = none
  n_int : mg "int" = none
  n_isinstance : mg "isinstance" = none
  n_len : mg "len" = none
  n_list : mg "list" = none
  n_max : mg "max" = none
  n_min : mg "min" = none
  n_range : mg "range" = none
  n_repr : mg "repr" = none
  n_set : mg "set" = none
  n_sorted : mg "sorted" = none
  n_str : mg "str" = none
  n_sum : mg "sum" = none
  n_tuple : mg "tuple" = none
  n_zip : mg "zip" = none
  n_reversed : mg "reversed" = none
  n_super : mg "super" = none
  n_ValueError : mg "ValueError" = none
  n_LookupError : mg "LookupError" = none
  n_KeyError : mg "KeyError" = none
  n_IndexError : mg "IndexError" = none
  n_ArithmeticError : mg "ArithmeticError" = none
  n_OverflowError : mg "OverflowError" = none
  n_ZeroDivisionError : mg "ZeroDivisionError" = none
  n_RuntimeError : mg "RuntimeError" = none
  n_TypeError : mg "TypeError" = none
theorem cut_map {α : Type} (f : α → V) (ns : List α) (lo hi : Option Int) : ∃ ms : List α, cutV (ns.map f) lo hi = ms.map f ∧ ms.length ≤ ns.length := by
  refine ⟨(ns.drop (HT.sIx (ns.map f).length 0 lo)).take (HT.sIx (ns.map f).length (ns.map f).length hi - HT.sIx (ns.map f).length 0 lo), ?_, ?_⟩
  · unfold cutV
    rw [List.map_take, List.map_drop]
  · rw [List.length_take, List.length_drop]
    omega
/-! ### a def of the text, and how it is called -/
def Def (K : PySem.W.Frag) (mg : Str → Option Value) (x : Str) (st : Stmt) : Prop := ∃ f fd, FnP K x x st f fd ∧ mg x = some (.ref f)
/-- what a caller takes of a def -/
def Callee (P : Program) (w : World) (K : PySem.W.Frag) (mg : Str → Option Value) (base : Heap) (CX : CXT) (k : Nat) (x : Str) (ps : List Str) (sp : Sp) : Prop :=
  ∃ f fd, FnOk P w K mg base CX k f fd ps sp ∧ mg x = some (.ref f) ∧ PySem.W.keepIn K (.ref f) = true ∧ Binds K fd ps []
section
variable {X : Cx} {CX : CXT} {k : Nat} {ps : List Str} {sp : Sp} {E : XK} {x : Str} {p pos : Pos} {e : Expr} {es : List Expr} {t : TA}
theorem pe_c (C : Callee X.prog X.w X.K X.mg X.base CX k x ps sp) (hr : Room k X.A) (hx : Passes CX X E) (ha : PA X (e :: es) t) (hg : Gl X x := by rfl) (hdb : (x == ("__debug__" : Str)) = false := by decide)
    (he : starEach (e :: es) X.env = (false, eval e X.env) :: starEach es X.env := by rfl) (hpl : (backTo pos (starEach es X.env)).any (·.1) = false := by rfl) : PE X (.Call (.Name x p) (e :: es) [] pos) (tCall sp [] E t) := by
  obtain ⟨f, fd, F, g, kp, b⟩ := C
  exact pe_call F hr hg g kp b .nil hx ha hdb he hpl
theorem pe_c0 (C : Callee X.prog X.w X.K X.mg X.base CX k x ps sp) (hr : Room k X.A) (hx : Passes CX X E) (hg : Gl X x := by rfl) (hdb : (x == ("__debug__" : Str)) = false := by decide) : PE X (.Call (.Name x p) [] [] pos) (tCall sp [] E tNil) := by
  obtain ⟨f, fd, F, g, kp, b⟩ := C
  exact pe_call0 F hr hg g kp b .nil hx hdb
end
section
variable {P : Program} {w : World} {K : PySem.W.Frag} {mg : Str → Option Value} {base : Heap}
theorem fm {x m : Int} (h : 1 ≤ m) : 0 ≤ x.fmod m ∧ x.fmod m < m := by
  rw [Int.fmod_eq_emod_of_nonneg x (by omega)]
  exact ⟨Int.emod_nonneg x (by omega), Int.emod_lt_of_pos x (by omega)⟩
theorem fq {x m : Int} (h : 1 ≤ m) (hx : 0 ≤ x) : 0 ≤ x.fdiv m := by
  rw [Int.fdiv_eq_ediv_of_nonneg x (by omega)]
  exact Int.ediv_nonneg hx (by omega)
theorem at_ints {ns : List Int} {i : Int} (h0 : 0 ≤ i) (h1 : i < (ns.length : Int)) : ∃ c, atI (ns.map V.int) i = some (.int c) := by
  have hj : i.toNat < ns.length := by omega
  refine ⟨ns[i.toNat], at_of (j := i.toNat) (by omega) ?_⟩
  rw [List.getElem?_map, List.getElem?_eq_getElem hj]
  rfl
theorem at_primes {i : Int} (h : 0 ≤ i ∧ i < 5) : ∃ p : Int, atI [.int 2147483647, .int 2147483629, .int 2147483587, .int 2147483579, .int 2147483563] i = some (V.int p) ∧ 2147483563 ≤ p ∧ p ≤ 2147483647 := by
  have e : i = 0 ∨ i = 1 ∨ i = 2 ∨ i = 3 ∨ i = 4 := by omega
  rcases e with rfl | rfl | rfl | rfl | rfl
  · exact ⟨_, rfl, by decide, by decide⟩
  · exact ⟨_, rfl, by decide, by decide⟩
  · exact ⟨_, rfl, by decide, by decide⟩
  · exact ⟨_, rfl, by decide, by decide⟩
  · exact ⟨_, rfl, by decide, by decide⟩
theorem absI (c : Int) : 0 ≤ (if c < 0 then -c else c) := by
  split <;> omega
/-! ### _law_pen -/
def spPen (K : PySem.W.Frag) : Sp := fun vs H Q _ => ∃ (a : Addr) (ns : List Int), vs = [.ref a] ∧ SqL K H a (ns.map V.int) ∧ ns.length ≤ 63 ∧ ∀ p cs H', H p = none → H cs = none → Same H H' → Pen H' p cs 0 → Q (.ref p) H'
theorem sc_pen : FnScope ["_law_script"] ["_law_script"] (defScope s_L_pen) := ⟨rfl, rfl, rfl, by decide +kernel, rfl, by decide +kernel, by decide +kernel⟩
theorem c_pen (D : Def K mg "_law_pen" s_L_pen) (B : Bi mg) : Callee P w K mg base CX0 1 "_law_pen" ["_law_script"] (spPen K) := by
  obtain ⟨f, fd, F, g⟩ := D
  refine ⟨f, fd, F.ok sc_pen (fun vs H Q E h => ?_) (fun cdv A outer s H vs Q E hr h => ⟨_, PSs.nox (pss_one (ps_ret (pe_disp (pps_cons pe_str (pe_callTy call_list_of (by rfl) B.n_list (by decide +kernel) (pa_cons (pe_slice sl_list (pv 0) po_none (po_some pe_int)) pa_nil)) (pps_cons pe_str pe_int (pps_cons pe_str pe_int pps_nil))) (by rfl) (by rfl) (fun z => by cases z) (by decide)))), ?_⟩), g, F.kp, F.bindsN (fun _ _ _ _ _ _ us hl => match us, hl with | [_], _ => rfl)⟩
  · obtain ⟨a, ns, rfl, _⟩ := h
    rfl
  · obtain ⟨a, ns, rfl, hS, hl, k⟩ := h
    intro p np
    have s1 : Same H (upd H p (.dK [])) := same_upd np
    refine ⟨_, rfl, _, rfl, a, _, rfl, s1.seq hS, fun q nq => ?_⟩
    refine ⟨q, _, rfl, .inl (SqL.of upd_same), fun cs ncs => ?_⟩
    obtain ⟨ms, em, hm⟩ := cut_map V.int ns none (some 63)
    have nqp : q ≠ p := fun z => by
      rw [z, upd_same] at nq
      cases nq
    have ncp : cs ≠ p := fun z => by
      rw [z, upd_ne (Ne.symm nqp), upd_same] at ncs
      cases ncs
    have ncq : cs ≠ q := fun z => by
      rw [z, upd_same] at ncs
      cases ncs
    refine ⟨?_, [(Sum.inr "cells", .ref cs), (Sum.inr "turn", .int 0), (Sum.inr "rest", .int 0)], rfl, (by show 3 ≤ 15; decide), ?_⟩
    · rw [upd_ne (Ne.symm ncp), upd_ne (Ne.symm nqp), upd_same]
    · have n1 : H cs = none := by
        rw [upd_ne ncq, upd_ne ncp] at ncs
        exact ncs
      have n2 : H q = none := by
        rw [upd_ne nqp] at nq
        exact nq
      refine k p cs _ np n1 (fun b o e => ?_) ⟨⟨0, 0, upd_same, by omega, by omega, by omega⟩, ms, ?_, by omega⟩
      · rw [upd_ne (ne_of_none e np), upd_ne (ne_of_none e n1), upd_ne (ne_of_none e n2), upd_ne (ne_of_none e np)]
        exact e
      · rw [upd_ne ncp, upd_same, em]
/-! ### _law_draw -/
def spDraw : Sp := fun vs H Q _ => ∃ (p cs : Addr) (m : Int) (N : Nat), vs = [.ref p, .int m] ∧ 1 ≤ m ∧ m < 1073741824 ∧ Pen H p cs N ∧ N < 2 ^ 60 ∧
  ∀ i H', 0 ≤ i → i < m → But p H H' → Pen H' p cs (N + 1) → Q (.int i) H'
theorem sc_draw : FnScope ["_law_pen_here", "_law_many", "_law_digit", "_law_turn", "_law_cell", "_law_primes", "_law_prime", "_law_drawn"] ["_law_pen_here", "_law_many"] (defScope s_L_draw) := ⟨rfl, rfl, rfl, by decide +kernel, rfl, by decide +kernel, by decide +kernel⟩
theorem c_draw (D : Def K mg "_law_draw" s_L_draw) (B : Bi mg) : Callee P w K mg base CX0 1 "_law_draw" ["_law_pen_here", "_law_many"] spDraw := by
  obtain ⟨f, fd, F, g⟩ := D
  refine ⟨f, fd, F.ok sc_draw (fun vs H Q E h => ?_) (fun cdv A outer s H vs Q E hr h => ?_), g, F.kp, F.bindsN (fun _ _ _ _ _ _ us hl => match us, hl with | [_, _], _ => rfl)⟩
  · obtain ⟨p, cs, m, N, rfl, _⟩ := h
    rfl
  · have hu := hu_of hr
    have nd := sc_draw.nd
    refine ⟨_, PSs.nox (pss_cons (ps_if (pt_cmpR op_gt (pe_dget hu (pv 0) pe_str (fun _ _ => rfl)) pe_int (nomark _))
      (pss_cons (ps_set (i := 2) nd rfl (Or.inl rfl) (pe_op op_modN (pe_dget hu (pv 0) pe_str (fun _ _ => rfl)) (pv 1)))
      (pss_cons (ps_dput hu (pv 0) pe_str (pe_op op_fdivN (pe_dget hu (pv 0) pe_str (fun _ _ => rfl)) (pv 1)) rfl)
      (pss_one (ps_ret (pv 2))))) pss_nil)
      (pss_cons (ps_set (i := 3) nd rfl (Or.inl rfl) (pe_dget hu (pv 0) pe_str (fun _ _ => rfl)))
      (pss_cons (ps_dput hu (pv 0) pe_str (pe_op op_add (pv 3) pe_int) rfl)
      (pss_cons (ps_set (i := 4) nd rfl (Or.inl rfl) (pe_op op_add (pe_op op_mul pe_int (pv 3)) pe_int))
      (C8.pss_cut (ps_if (pt_cmpR (WkG.op_neNil hr.units) (pe_dget hu (pv 0) pe_str (fun _ _ => rfl)) (pe_lst pa_nil) (nomark _))
      (pss_one (ps_set (i := 4) nd rfl (Or.inl rfl) (pe_ix ix_list (pe_dget hu (pv 0) pe_str (fun _ _ => rfl)) (pe_op op_modN (pv 3) (pe_callB call_len_seq (by rfl) B.n_len (by decide +kernel) (pa_cons (pe_dget hu (pv 0) pe_str (fun _ _ => rfl)) pa_nil))) (fun _ _ => rfl)))) pss_nil)
      (C8.pss_cut (ps_if (PW.pt (pw_and (pt_cmpR op_lt (pv 3) (pe_callB call_len_seq (by rfl) B.n_len (by decide +kernel) (pa_cons (pe_dget hu (pv 0) pe_str (fun _ _ => rfl)) pa_nil)) (nomark _)) (pw_and1 (pt_cmpR op_ge (pe_callB call_abs (by rfl) B.n_abs (by decide +kernel) (pa_cons (pv 4) pa_nil)) (pe_op op_pow pe_int pe_int) (nomark _)))))
      (pss_cons (ps_dput hu (pv 0) pe_str (pe_op op_fdivN (pe_op op_sub (pe_callB call_abs (by rfl) B.n_abs (by decide +kernel) (pa_cons (pv 4) pa_nil)) (pe_op op_pow pe_int pe_int)) (pv 1)) rfl)
      (pss_one (ps_ret (pe_op op_modN (pe_op op_sub (pe_callB call_abs (by rfl) B.n_abs (by decide +kernel) (pa_cons (pv 4) pa_nil)) (pe_op op_pow pe_int pe_int)) (pv 1))))) pss_nil)
      (pss_cons (ps_set (i := 5) nd rfl (Or.inl rfl) (pe_lst (pa_cons pe_int (pa_cons pe_int (pa_cons pe_int (pa_cons pe_int (pa_cons pe_int pa_nil)))))))
      (pss_cons (ps_set (i := 6) nd rfl (Or.inl rfl) (pe_ix ix_list (pv 5) (pe_op op_modN (pv 3) pe_int) (fun _ _ => rfl)))
      (pss_cons (ps_set (i := 7) nd rfl (Or.inl rfl) (pe_op op_modN (pe_op op_add (pe_op op_add (pe_op op_mul (pe_op op_modN (pv 4) (pv 6)) pe_int) (pe_op op_mul (pe_op op_mul pe_int (pv 3)) (pv 3))) pe_int) (pv 6)))
      (pss_cons (ps_set (i := 7) nd rfl (Or.inl rfl) (pe_op op_modN (pe_op op_mul (pv 7) (pe_op op_add (pv 7) pe_int)) (pe_ix ix_list (pv 5) (pe_op op_modN (pe_op op_add (pv 3) pe_int) pe_int) (fun _ _ => rfl))))
      (pss_one (ps_ret (pe_op op_modN (pe_op op_fdivN (pe_op op_modN (pe_op op_mul (pv 7) (pv 7)) pe_int) pe_int) (pv 1)))))))))))))), ?_⟩
    obtain ⟨p, cs, m, N, rfl, m1, m2, hP, hN, k⟩ := h
    obtain ⟨⟨t, r, hp, t0, tN, r0⟩, ns, hc, hl⟩ := id hP
    refine ⟨_, rfl, p, _, rfl, get_rest hp, _, _, rfl, rfl, _, rfl, ?_⟩
    refine ite2 (fun h0 => ?_) (fun h0 => ?_)
    · refine ⟨_, rfl, p, _, rfl, get_rest hp, _, rfl, _, _, rfl, rfl, ?_, ?_⟩
      · omega
      refine ⟨_, rfl, p, _, rfl, get_rest hp, _, rfl, _, _, rfl, rfl, ⟨by omega, by omega⟩, _, rfl, p, _, rfl, put_rest hp, _, rfl, ?_⟩
      obtain ⟨f1, f2⟩ := fm (x := r) m1
      refine k _ _ f1 f2 ((But.refl p H).upd) ⟨⟨t, _, upd_same, t0, by omega, fq m1 r0⟩, ns, ?_, hl⟩
      rw [upd_ne hP.ne]
      exact hc
    · refine ⟨_, rfl, p, _, rfl, get_turn hp, _, rfl, _, _, rfl, rfl, _, rfl, p, _, rfl, put_turn hp, ?_⟩
      have hp1 : upd H p (penO cs (t + 1) r) p = some (penO cs (t + 1) r) := upd_same
      have hc1 : upd H p (penO cs (t + 1) r) cs = some (.lst (ns.map V.int)) := by
        rw [upd_ne hP.ne]
        exact hc
      have b1 : But p H (upd H p (penO cs (t + 1) r)) := (But.refl p H).upd
      generalize upd H p (penO cs (t + 1) r) = H1 at hp1 hc1 b1
      refine ⟨_, rfl, _, _, rfl, rfl, .inl ⟨by omega, by omega⟩, _, _, rfl, rfl, ?_⟩
      refine ⟨fun σ H2 => ∃ c : Int, σ = [some (.ref p), some (.int m), none, some (.int t), some (.int c), none, none, none] ∧ But p H H2 ∧ H2 p = some (penO cs (t + 1) r) ∧ H2 cs = some (.lst (ns.map V.int)), ?_, ?_⟩
      · refine ⟨_, rfl, p, _, rfl, get_cells hp1, (by decide), fun l nl => ?_⟩
        have hp2 : upd H1 l (.lst []) p = some (penO cs (t + 1) r) := (same_upd nl) _ _ hp1
        have hc2 : upd H1 l (.lst []) cs = some (.lst (ns.map V.int)) := (same_upd nl) _ _ hc1
        have b2 : But p H (upd H1 l (.lst [])) := b1.trans (But.of_same (same_upd nl))
        have hl2 : upd H1 l (.lst []) l = some (.lst []) := upd_same
        generalize upd H1 l (.lst []) = H2 at hp2 hc2 b2 hl2
        refine ⟨cs, l, _, rfl, rfl, SqL.of hc2, SqL.of hl2, _, rfl, ?_⟩
        refine ite2 (fun he => ?_) (fun he => ?_)
        · have nl0 : ns ≠ [] := fun z => by
            subst z
            cases he
          have n0 : 1 ≤ (ns.length : Int) := by
            have := List.length_pos_iff.mpr nl0
            omega
          obtain ⟨f1, f2⟩ := fm (x := t) n0
          obtain ⟨c, hcc⟩ := at_ints f1 f2
          refine ⟨_, rfl, p, _, rfl, get_cells hp2, _, rfl, _, rfl, p, _, rfl, get_cells hp2, cs, _, rfl, .inl (SqL.of hc2), _, _, rfl, rfl, ?_, cs, _, _, .int c, rfl, rfl, SqL.of hc2, ?_, ?_⟩
          · rw [List.length_map]
            omega
          · rw [List.length_map]
            exact hcc
          · exact ⟨c, rfl, b2, hp2, hc2⟩
        · exact ⟨_, rfl, b2, hp2, hc2⟩
      · rintro σ H2 ⟨c, rfl, b2, hp2, hc2⟩
        refine ⟨fun σ H3 => σ = [some (.ref p), some (.int m), none, some (.int t), some (.int c), none, none, none] ∧ H3 = H2, ?_, ?_⟩
        · refine ⟨_, rfl, _, rfl, p, _, rfl, get_cells hp2, cs, _, rfl, .inl (SqL.of hc2), _, _, rfl, rfl, _, rfl, ?_⟩
          refine ite2 (fun _ => ?_) (fun _ => iteF ⟨rfl, rfl⟩)
          refine ⟨_, rfl, _, rfl, _, _, rfl, rfl, ?_, _, _, rfl, rfl, _, rfl, ?_⟩
          · exact ⟨by decide, by decide, by decide⟩
          refine ite2 (fun hb => ?_) (fun _ => ⟨rfl, rfl⟩)
          have hb' : (10 : Int) ^ 18 ≤ (if c < 0 then -c else c) := of_decide_eq_true hb
          refine ⟨_, rfl, _, rfl, _, _, rfl, rfl, ⟨by decide, by decide, by decide⟩, _, _, rfl, rfl, _, rfl, _, _, rfl, rfl, ⟨by omega, by omega⟩, _, rfl, p, _, rfl, put_rest hp2, ?_⟩
          refine ⟨_, rfl, _, rfl, _, _, rfl, rfl, ⟨by decide, by decide, by decide⟩, _, _, rfl, rfl, _, rfl, _, _, rfl, rfl, by omega, ?_⟩
          obtain ⟨f1, f2⟩ := fm (x := (if c < 0 then -c else c) - 10 ^ 18) m1
          refine k _ _ f1 f2 b2.upd ⟨⟨t + 1, _, upd_same, by omega, by omega, fq m1 (by show (0 : Int) ≤ (if c < 0 then -c else c) - 10 ^ 18; omega)⟩, ns, ?_, hl⟩
          rw [upd_ne hP.ne]
          exact hc2
        · rintro σ H3 ⟨rfl, rfl⟩
          refine ⟨by decide, fun l nl => ?_⟩
          have hp3 : upd H3 l (.lst [.int 2147483647, .int 2147483629, .int 2147483587, .int 2147483579, .int 2147483563]) p = some (penO cs (t + 1) r) := (same_upd nl) _ _ hp2
          have hc3 : upd H3 l (.lst [.int 2147483647, .int 2147483629, .int 2147483587, .int 2147483579, .int 2147483563]) cs = some (.lst (ns.map V.int)) := (same_upd nl) _ _ hc2
          have b3 : But p H (upd H3 l (.lst [.int 2147483647, .int 2147483629, .int 2147483587, .int 2147483579, .int 2147483563])) := b2.trans (But.of_same (same_upd nl))
          have hl3 : upd H3 l (.lst [.int 2147483647, .int 2147483629, .int 2147483587, .int 2147483579, .int 2147483563]) l = some (.lst [.int 2147483647, .int 2147483629, .int 2147483587, .int 2147483579, .int 2147483563]) := upd_same
          obtain ⟨p1, a1, g1, g2⟩ := at_primes (fm (x := t) (m := 5) (by decide))
          obtain ⟨p2, a2, g3, g4⟩ := at_primes (fm (x := t + 3) (m := 5) (by decide))
          refine ⟨_, rfl, _, rfl, _, _, rfl, rfl, (by show (5 : Int) ≠ 0; decide), l, _, _, .int p1, rfl, rfl, SqL.of hl3, a1, ?_⟩
          obtain ⟨e1, e2⟩ := fm (x := c) (m := p1) (by omega)
          have n60 : (N : Int) < 2 ^ 60 := by omega
          refine ⟨_, rfl, _, rfl, _, _, rfl, rfl, by omega, _, _, rfl, rfl, .inl ⟨by omega, by omega⟩, _, rfl, _, _, rfl, rfl, .inl ⟨by decide, by decide⟩, _, rfl, _, _, rfl, rfl, .inr ⟨by omega, by omega⟩, _, _, rfl, rfl, _, _, rfl, rfl, _, rfl, _, _, rfl, rfl, by omega, ?_⟩
          obtain ⟨e3, e4⟩ := fm (x := c.fmod p1 * 69621 + 40692 * t * t + 17) (m := p1) (by omega)
          refine ⟨_, rfl, _, rfl, _, _, rfl, rfl, _, _, rfl, rfl, .inl ⟨by omega, by omega⟩, _, rfl, _, rfl, _, _, rfl, rfl, _, _, rfl, rfl, (by show (5 : Int) ≠ 0; decide), l, _, _, .int p2, rfl, rfl, SqL.of hl3, a2, _, _, rfl, rfl, by omega, ?_⟩
          obtain ⟨e5, e6⟩ := fm (x := (c.fmod p1 * 69621 + 40692 * t * t + 17).fmod p1 * ((c.fmod p1 * 69621 + 40692 * t * t + 17).fmod p1 + 48271)) (m := p2) (by omega)
          refine ⟨_, rfl, _, rfl, _, _, rfl, rfl, .inl ⟨by omega, by omega⟩, _, _, rfl, rfl, (by show (2147483549 : Int) ≠ 0; decide), _, _, rfl, rfl, ⟨by decide, by decide⟩, _, rfl, _, _, rfl, rfl, by omega, ?_⟩
          obtain ⟨e7, e8⟩ := fm (x := _) m1
          exact k _ _ e7 e8 b3 ⟨⟨t + 1, r, hp3, by omega, by omega, r0⟩, ns, hc3, hl⟩
/-! ### _law_pick -/
theorem seq_but {K : PySem.W.Frag} {H H' : Hp} {p l cs : Addr} {N : Nat} {xs : List V} (h : SqL K H l xs) (P : Pen H p cs N) (b : But p H H') : SqL K H' l xs := by
  obtain ⟨⟨t, r, hp, _⟩, _⟩ := P
  rcases h with (h | ⟨o, h⟩) | h
  · exact .inl (.inl (b _ _ h (ne_of h hp (by intro z; cases z))))
  · exact .inl (.inr ⟨o, b _ _ h (ne_of h hp (by intro z; cases z))⟩)
  · exact .inr h
theorem tup_but {K : PySem.W.Frag} {H H' : Hp} {p l cs : Addr} {N : Nat} {xs : List V} (h : SqT K H l xs) (P : Pen H p cs N) (b : But p H H') : SqT K H' l xs := by
  obtain ⟨⟨t, r, hp, _⟩, _⟩ := P
  rcases h with (h | ⟨o, h⟩) | h
  · exact .inl (.inl (b _ _ h (ne_of h hp (by intro z; cases z))))
  · exact .inl (.inr ⟨o, b _ _ h (ne_of h hp (by intro z; cases z))⟩)
  · exact .inr h
theorem at_list {xs : List V} {i : Int} (h0 : 0 ≤ i) (h1 : i < (xs.length : Int)) : ∃ v, v ∈ xs ∧ atI xs i = some v := by
  have hj : i.toNat < xs.length := by omega
  exact ⟨xs[i.toNat], List.getElem_mem hj, at_of (j := i.toNat) (by omega) (List.getElem?_eq_getElem hj)⟩
theorem at_nat {α : Type} {xs : List α} {i : Int} (h0 : 0 ≤ i) (hj : i.toNat < xs.length) : atI xs i = some xs[i.toNat] := by
  have e : i = ((i.toNat : Nat) : Int) := by omega
  have q := atI_nat (xs := xs) (List.getElem?_eq_getElem hj)
  rw [← e] at q
  exact q
/-- of a list: one of its items; of a text: one of its signs -/
def spPick (K : PySem.W.Frag) : Sp := fun vs H Q _ => ∃ (p cs : Addr) (N : Nat), Pen H p cs N ∧ N < 2 ^ 60 ∧
  ((∃ (l : Addr) (xs : List V), vs = [.ref p, .ref l] ∧ (SqL K H l xs ∨ SqT K H l xs) ∧ xs ≠ [] ∧ xs.length < 1073741824 ∧ ∀ x H', x ∈ xs → But p H H' → Pen H' p cs (N + 1) → Q x H') ∨
   ∃ z : Str, vs = [.ref p, .str z] ∧ 0 < z.length ∧ z.length < 1000000 ∧ ∀ c H', c ∈ z.cps.toList → But p H H' → Pen H' p cs (N + 1) → Q (.str ⟨#[c]⟩) H')
theorem sc_pick : FnScope ["_law_pen_here", "_law_some"] ["_law_pen_here", "_law_some"] (defScope s_L_pick) := ⟨rfl, rfl, rfl, by decide +kernel, rfl, by decide +kernel, by decide +kernel⟩
theorem c_pick (D : Def K mg "_law_pick" s_L_pick) (B : Bi mg) (CD : Callee P w K mg base CX0 1 "_law_draw" ["_law_pen_here", "_law_many"] spDraw) : Callee P w K mg base CX0 2 "_law_pick" ["_law_pen_here", "_law_some"] (spPick K) := by
  obtain ⟨f, fd, F, g⟩ := D
  refine ⟨f, fd, F.ok sc_pick (fun vs H Q E h => ?_) (fun cdv A outer s H vs Q E hr h => ?_), g, F.kp, F.bindsN (fun _ _ _ _ _ _ us hl => match us, hl with | [_, _], _ => rfl)⟩
  · obtain ⟨p, cs, N, _, _, ⟨l, xs, rfl, _⟩ | ⟨z, rfl, _⟩⟩ := h
    · rfl
    · rfl
  · have hu := hu_of hr
    have nd := sc_pick.nd
    have hr1 : Room 1 _ := hr
    refine ⟨_, PSs.nox (pss_one (ps_ret (pe_ix ix_seq (pv 1) (pe_c CD hr1 pass0 (pa_cons (pv 0) (pa_cons (pe_callB call_len (by rfl) B.n_len boot_len (pa_cons (pv 1) pa_nil)) pa_nil))) (fun _ _ => rfl)))), ?_⟩
    obtain ⟨p, cs, N, hP, hN, ⟨l, xs, rfl, hS, hne, hlen, k⟩ | ⟨z, rfl, z0, z1, k⟩⟩ := h
    · have pos := List.length_pos_iff.mpr hne
      refine ⟨_, rfl, _, rfl, _, rfl, _, xs.length, rfl, ?_, p, cs, _, N, rfl, by omega, by omega, hP, hN, fun i H' i0 i1 b P' => ?_⟩
      · rcases hS with h | h
        · exact .inl ⟨_, h, rfl⟩
        · exact .inr ⟨_, h, rfl⟩
      obtain ⟨v, hv, ha⟩ := at_list i0 i1
      rcases hS with h | h
      · exact .inl ⟨l, _, _, v, rfl, rfl, seq_but h hP b, ha, k v H' hv b P'⟩
      · exact .inr (.inl ⟨l, _, _, v, rfl, rfl, tup_but h hP b, ha, k v H' hv b P'⟩)
    · have lz : z.length ≤ sizeLine := Nat.le_trans (Nat.le_of_lt z1) (by decide)
      have ec : z.cps.toList.length = z.length := by
        show z.cps.toList.length = z.cps.size
        simp
      refine ⟨_, rfl, _, rfl, _, rfl, _, z.length, rfl, ⟨lz, rfl⟩, p, cs, _, N, rfl, by omega, by omega, hP, hN, fun i H' i0 i1 b P' => ?_⟩
      have hj : i.toNat < z.cps.toList.length := by omega
      exact .inr (.inr ⟨z, i, z.cps.toList[i.toNat], rfl, rfl, lz, at_nat i0 hj, k _ H' (List.getElem_mem hj) b P'⟩)
end
end Wk
namespace Wk
open PySem PySem.Spec PyProof.Rows L2
/-! ### the error classes -/
abbrev cA (K : PySem.W.Frag) (x : Str) : Addr := He.ga K x
abbrev cI (K : PySem.W.Frag) (x : Str) : Addr := He.ma K (He.ga K x) "__init__"
structure ErrT (K : PySem.W.Frag) (mg : Str → Option Value) : Prop where
  t_InvalidVertex : WkX.ExcT K mg "InvalidVertex" "value" (cA K "InvalidVertex") (cI K "InvalidVertex")
  t_InvalidEdge : WkX.ExcT K mg "InvalidEdge" "value" (cA K "InvalidEdge") (cI K "InvalidEdge")
  t_Disconnected : WkX.ExcT K mg "Disconnected" "side" (cA K "Disconnected") (cI K "Disconnected")
  t_InvalidText : WkX.ExcT K mg "InvalidText" "line" (cA K "InvalidText") (cI K "InvalidText")
  t_InvalidEdit : WkX.ExcT K mg "InvalidEdit" "index" (cA K "InvalidEdit") (cI K "InvalidEdit")
  t_InvalidFloor : WkX.ExcT K mg "InvalidFloor" "value" (cA K "InvalidFloor") (cI K "InvalidFloor")
  t_TooWeak : WkX.ExcT K mg "TooWeak" "found" (cA K "TooWeak") (cI K "TooWeak")
  t_InvalidIncrease : WkX.ExcT K mg "InvalidIncrease" "value" (cA K "InvalidIncrease") (cI K "InvalidIncrease")
  t_SameVertex : WkX.ExcT K mg "SameVertex" "value" (cA K "SameVertex") (cI K "SameVertex")
  t_InvalidFlow : WkX.ExcT K mg "InvalidFlow" "value" (cA K "InvalidFlow") (cI K "InvalidFlow")
  t_UnknownVertex : WkX.ExcT K mg "UnknownVertex" "value" (cA K "UnknownVertex") (cI K "UnknownVertex")
  t_UnknownEdge : WkX.ExcT K mg "UnknownEdge" "value" (cA K "UnknownEdge") (cI K "UnknownEdge")
  t_OutOfRange : WkX.ExcT K mg "OutOfRange" "value" (cA K "OutOfRange") (cI K "OutOfRange")
  t_NotWeakest : WkX.ExcT K mg "NotWeakest" "value" (cA K "NotWeakest") (cI K "NotWeakest")
  t_NotLone : WkX.ExcT K mg "NotLone" "value" (cA K "NotLone") (cI K "NotLone")
/-- an error of the class at C that holds v -/
def IsErr (H : Hp) (v : V) (a C : Addr) (f : Str) : Prop := ∃ d, H a = some (exo a C (some d)) ∧ H d = some (exd d [(f, v)])
theorem IsErr.same {H H' : Hp} {v : V} {a C : Addr} {f : Str} (h : IsErr H v a C f) (s : Same H H') : IsErr H' v a C f := by
  obtain ⟨d, h1, h2⟩ := h
  exact ⟨d, s _ _ h1, s _ _ h2⟩
def errN : List (Str × Str) := [("InvalidVertex", "value"), ("InvalidEdge", "value"), ("Disconnected", "side"), ("InvalidText", "line"), ("InvalidEdit", "index"), ("InvalidFloor", "value"), ("TooWeak", "found"), ("InvalidIncrease", "value"), ("SameVertex", "value"), ("InvalidFlow", "value"), ("UnknownVertex", "value"), ("UnknownEdge", "value"), ("OutOfRange", "value"), ("NotWeakest", "value"), ("NotLone", "value")]
/-- the errors at as, in the order of errN -/
def Errs (K : PySem.W.Frag) (H : Hp) (v : V) : List Addr → List (Str × Str) → Prop
  | [], [] => True
  | a :: as, e :: es => IsErr H v a (cA K e.1) e.2 ∧ Errs K H v as es
  | _, _ => False
theorem Errs.same {K : PySem.W.Frag} {H H' : Hp} {v : V} (s : Same H H') : ∀ {as : List Addr} {es : List (Str × Str)}, Errs K H v as es → Errs K H' v as es
  | [], [], _ => trivial
  | [], _ :: _, h => h.elim
  | _ :: _, [], h => h.elim
  | _ :: _, _ :: _, h => ⟨h.1.same s, Errs.same s h.2⟩
theorem Errs.snoc {K : PySem.W.Frag} {H : Hp} {v : V} {a : Addr} {e : Str × Str} (h2 : IsErr H v a (cA K e.1) e.2) : ∀ {as : List Addr} {es : List (Str × Str)}, Errs K H v as es → Errs K H v (as ++ [a]) (es ++ [e])
  | [], [], _ => ⟨h2, trivial⟩
  | [], _ :: _, h => h.elim
  | _ :: _, [], h => h.elim
  | _ :: _, _ :: _, h => ⟨h.1, Errs.snoc h2 h.2⟩
theorem mk_facts {H : Hp} {C a d : Addr} {f : Str} {v : V} (na : H a = none) (nd : H d = none) (hne : d ≠ a) : Same H (upd (upd H d (exd d [(f, v)])) a (exo a C (some d))) ∧ IsErr (upd (upd H d (exd d [(f, v)])) a (exo a C (some d))) v a C f := by
  refine ⟨fun b o e => ?_, d, upd_same, ?_⟩
  · rw [upd_ne (ne_of_none e na), upd_ne (ne_of_none e nd)]
    exact e
  · rw [upd_ne hne, upd_same]
/-- the built-in classes that are asked -/
def baseN : List String := ["ValueError", "LookupError", "KeyError", "IndexError", "ArithmeticError", "OverflowError", "ZeroDivisionError", "RuntimeError", "TypeError"]
/-- the built-in classes above each error -/
def above (x : Str) : List String :=
  if x = "TooWeak" then ["RuntimeError"] else if x = "UnknownVertex" ∨ x = "UnknownEdge" then ["LookupError", "KeyError"] else if x = "OutOfRange" then ["LookupError", "IndexError"] else if x = "NotWeakest" ∨ x = "NotLone" then ["LookupError"] else ["ValueError"]
structure IsT (K : PySem.W.Frag) : Prop where
  own : ∀ e ∈ errN, ∀ y ∈ errN, PySem.W.kitOne K (.ref (cA K e.1)) (.ref (cA K y.1)) = some (decide (e.1 = y.1))
  blt : ∀ e ∈ errN, ∀ T ∈ baseN, PySem.W.kitOne K (.ref (cA K e.1)) (.type T) = some ((above e.1).contains T)
theorem err_t {K : PySem.W.Frag} {mg : Str → Option Value} (ET : ErrT K mg) {e : Str × Str} (h : e ∈ errN) : WkX.ExcT K mg e.1 e.2 (cA K e.1) (cI K e.1) := by
  unfold errN at h
  simp only [List.mem_cons, List.not_mem_nil, or_false] at h
  rcases h with rfl | rfl | rfl | rfl | rfl | rfl | rfl | rfl | rfl | rfl | rfl | rfl | rfl | rfl | rfl
  · exact ET.t_InvalidVertex
  · exact ET.t_InvalidEdge
  · exact ET.t_Disconnected
  · exact ET.t_InvalidText
  · exact ET.t_InvalidEdit
  · exact ET.t_InvalidFloor
  · exact ET.t_TooWeak
  · exact ET.t_InvalidIncrease
  · exact ET.t_SameVertex
  · exact ET.t_InvalidFlow
  · exact ET.t_UnknownVertex
  · exact ET.t_UnknownEdge
  · exact ET.t_OutOfRange
  · exact ET.t_NotWeakest
  · exact ET.t_NotLone
theorem Errs.get {K : PySem.W.Frag} {H : Hp} {v : V} : ∀ {as : List Addr} {es : List (Str × Str)} {i : Nat} {e : Str × Str}, Errs K H v as es → es[i]? = some e → ∃ a, as[i]? = some a ∧ IsErr H v a (cA K e.1) e.2
  | [], [], _, _, _, h => by simp at h
  | [], _ :: _, _, _, h, _ => h.elim
  | _ :: _, [], _, _, h, _ => h.elim
  | a :: _, e :: _, 0, _, h, q => by
    simp at q
    subst q
    exact ⟨a, rfl, h.1⟩
  | _ :: _, _ :: _, i + 1, _, h, q => by
    obtain ⟨a, h1, h2⟩ := Errs.get (i := i) h.2 (by simpa using q)
    exact ⟨a, by simpa using h1, h2⟩
theorem Errs.len {K : PySem.W.Frag} {H : Hp} {v : V} : ∀ {as : List Addr} {es : List (Str × Str)}, Errs K H v as es → as.length = es.length
  | [], [], _ => rfl
  | [], _ :: _, h => h.elim
  | _ :: _, [], h => h.elim
  | _ :: _, _ :: _, h => congrArg Nat.succ (Errs.len h.2)
theorem at_ref {as : List Addr} {k : Nat} {a : Addr} (h : as[k]? = some a) : atI (as.map V.ref) (k : Int) = some (.ref a) := at_of (j := k) rfl (by rw [List.getElem?_map, h]; rfl)
end Wk
namespace Wk
open PySem PySem.Spec PyProof.Rows L2
section
variable {P : Program} {w : World} {K : PySem.W.Frag} {mg : Str → Option Value} {base : Heap}
def spErrors (K : PySem.W.Frag) : Sp := fun vs H Q _ => ∃ (v : V) (b : Bool), vs = [v, .bl b] ∧ ∀ l as H', Same H H' → H' l = some (.lst (as.map V.ref)) → Errs K H' v as errN → Q (.ref l) H'
theorem sc_errors : FnScope ["_law_a", "_law_by_names", "_law_some"] ["_law_a", "_law_by_names"] (defScope s_L_errors) := ⟨rfl, rfl, rfl, by decide +kernel, rfl, by decide +kernel, by decide +kernel⟩
theorem c_errors (D : Def K mg "_law_errors" s_L_errors) (B : Bi mg) (ET : ErrT K mg) : Callee P w K mg base CX0 2 "_law_errors" ["_law_a", "_law_by_names"] (spErrors K) := by
  obtain ⟨f, fd, F, g⟩ := D
  refine ⟨f, fd, F.ok sc_errors (fun vs H Q E h => ?_) (fun cdv A outer s H vs Q E hr h => ?_), g, F.kp, F.bindsN (fun _ _ _ _ _ _ us hl => match us, hl with | [_, _], _ => rfl)⟩
  · obtain ⟨v, b, rfl, _⟩ := h
    rfl
  · have hu := hu_of hr
    have nd := sc_errors.nd
    refine ⟨_, PSs.nox (pss_cons (ps_if (pt_val (pv 1))
      (pss_cons (ps_set (i := 2) nd rfl (Or.inl rfl) (pe_lst (pa_cons (WkX.pe_mkK ET.t_InvalidVertex hr (pk_cons (pv 0) pk_nil)) (pa_cons (WkX.pe_mkK ET.t_InvalidEdge hr (pk_cons (pv 0) pk_nil)) (pa_cons (WkX.pe_mkK ET.t_Disconnected hr (pk_cons (pv 0) pk_nil)) (pa_cons (WkX.pe_mkK ET.t_InvalidText hr (pk_cons (pv 0) pk_nil)) pa_nil))))))
      (pss_cons (ps_set (i := 2) nd rfl (Or.inl rfl) (pe_op op_cat (pv 2) (pe_lst (pa_cons (WkX.pe_mkK ET.t_InvalidEdit hr (pk_cons (pv 0) pk_nil)) (pa_cons (WkX.pe_mkK ET.t_InvalidFloor hr (pk_cons (pv 0) pk_nil)) (pa_cons (WkX.pe_mkK ET.t_TooWeak hr (pk_cons (pv 0) pk_nil)) pa_nil))))))
      (pss_cons (ps_set (i := 2) nd rfl (Or.inl rfl) (pe_op op_cat (pv 2) (pe_lst (pa_cons (WkX.pe_mkK ET.t_InvalidIncrease hr (pk_cons (pv 0) pk_nil)) (pa_cons (WkX.pe_mkK ET.t_SameVertex hr (pk_cons (pv 0) pk_nil)) pa_nil)))))
      (pss_cons (ps_set (i := 2) nd rfl (Or.inl rfl) (pe_op op_cat (pv 2) (pe_lst (pa_cons (WkX.pe_mkK ET.t_InvalidFlow hr (pk_cons (pv 0) pk_nil)) (pa_cons (WkX.pe_mkK ET.t_UnknownVertex hr (pk_cons (pv 0) pk_nil)) (pa_cons (WkX.pe_mkK ET.t_UnknownEdge hr (pk_cons (pv 0) pk_nil)) (pa_cons (WkX.pe_mkK ET.t_OutOfRange hr (pk_cons (pv 0) pk_nil)) pa_nil)))))))
      (pss_one (ps_ret (pe_op op_cat (pv 2) (pe_lst (pa_cons (WkX.pe_mkK ET.t_NotWeakest hr (pk_cons (pv 0) pk_nil)) (pa_cons (WkX.pe_mkK ET.t_NotLone hr (pk_cons (pv 0) pk_nil)) pa_nil)))))))))) pss_nil)
      (pss_cons (ps_set (i := 2) nd rfl (Or.inl rfl) (pe_lst (pa_cons (WkX.pe_mkE ET.t_InvalidVertex hr (pa_cons (pv 0) pa_nil)) (pa_cons (WkX.pe_mkE ET.t_InvalidEdge hr (pa_cons (pv 0) pa_nil)) (pa_cons (WkX.pe_mkE ET.t_Disconnected hr (pa_cons (pv 0) pa_nil)) (pa_cons (WkX.pe_mkE ET.t_InvalidText hr (pa_cons (pv 0) pa_nil)) (pa_cons (WkX.pe_mkE ET.t_InvalidEdit hr (pa_cons (pv 0) pa_nil)) (pa_cons (WkX.pe_mkE ET.t_InvalidFloor hr (pa_cons (pv 0) pa_nil)) pa_nil))))))))
      (pss_cons (ps_set (i := 2) nd rfl (Or.inl rfl) (pe_op op_cat (pv 2) (pe_lst (pa_cons (WkX.pe_mkE ET.t_TooWeak hr (pa_cons (pv 0) pa_nil)) (pa_cons (WkX.pe_mkE ET.t_InvalidIncrease hr (pa_cons (pv 0) pa_nil)) (pa_cons (WkX.pe_mkE ET.t_SameVertex hr (pa_cons (pv 0) pa_nil)) (pa_cons (WkX.pe_mkE ET.t_InvalidFlow hr (pa_cons (pv 0) pa_nil)) (pa_cons (WkX.pe_mkE ET.t_UnknownVertex hr (pa_cons (pv 0) pa_nil)) (pa_cons (WkX.pe_mkE ET.t_UnknownEdge hr (pa_cons (pv 0) pa_nil)) pa_nil)))))))))
      (pss_one (ps_ret (pe_op op_cat (pv 2) (pe_lst (pa_cons (WkX.pe_mkE ET.t_OutOfRange hr (pa_cons (pv 0) pa_nil)) (pa_cons (WkX.pe_mkE ET.t_NotWeakest hr (pa_cons (pv 0) pa_nil)) (pa_cons (WkX.pe_mkE ET.t_NotLone hr (pa_cons (pv 0) pa_nil)) pa_nil)))))))))), ?_⟩
    obtain ⟨v, b, rfl, k⟩ := h
    refine ⟨_, rfl, b, rfl, ?_⟩
    refine ite2 (fun _ => ?_) (fun _ => ?_)
    · have E0 : Errs K H v [] [] := trivial
      have S0 : Same H H := Same.refl H
      refine ⟨_, rfl, _, rfl, fun a1 d1 na nd hne => ?_⟩
      obtain ⟨s1, e1⟩ := mk_facts (f := "value") (v := v) (C := cA K "InvalidVertex") na nd hne
      generalize upd (upd H d1 (exd d1 [(("value" : Str), v)])) a1 (exo a1 (cA K "InvalidVertex") (some d1)) = H1 at s1 e1 ⊢
      have E1 := (E0.same s1).snoc (e := ("InvalidVertex", "value")) e1
      have S1 := S0.trans s1
      refine ⟨_, rfl, _, rfl, fun a2 d2 na nd hne => ?_⟩
      obtain ⟨s2, e2⟩ := mk_facts (f := "value") (v := v) (C := cA K "InvalidEdge") na nd hne
      generalize upd (upd H1 d2 (exd d2 [(("value" : Str), v)])) a2 (exo a2 (cA K "InvalidEdge") (some d2)) = H2 at s2 e2 ⊢
      have E2 := (E1.same s2).snoc (e := ("InvalidEdge", "value")) e2
      have S2 := S1.trans s2
      refine ⟨_, rfl, _, rfl, fun a3 d3 na nd hne => ?_⟩
      obtain ⟨s3, e3⟩ := mk_facts (f := "side") (v := v) (C := cA K "Disconnected") na nd hne
      generalize upd (upd H2 d3 (exd d3 [(("side" : Str), v)])) a3 (exo a3 (cA K "Disconnected") (some d3)) = H3 at s3 e3 ⊢
      have E3 := (E2.same s3).snoc (e := ("Disconnected", "side")) e3
      have S3 := S2.trans s3
      refine ⟨_, rfl, _, rfl, fun a4 d4 na nd hne => ?_⟩
      obtain ⟨s4, e4⟩ := mk_facts (f := "line") (v := v) (C := cA K "InvalidText") na nd hne
      generalize upd (upd H3 d4 (exd d4 [(("line" : Str), v)])) a4 (exo a4 (cA K "InvalidText") (some d4)) = H4 at s4 e4 ⊢
      have E4 := (E3.same s4).snoc (e := ("InvalidText", "line")) e4
      have S4 := S3.trans s4
      refine ⟨(by show 4 ≤ sizeLine; decide), fun m nm => ?_⟩
      have t4 : Same H4 (upd H4 m (.lst [V.ref a1, V.ref a2, V.ref a3, V.ref a4])) := same_upd nm
      have L4 : upd H4 m (.lst [V.ref a1, V.ref a2, V.ref a3, V.ref a4]) m = some (.lst [V.ref a1, V.ref a2, V.ref a3, V.ref a4]) := upd_same
      generalize upd H4 m (.lst [V.ref a1, V.ref a2, V.ref a3, V.ref a4]) = H104 at t4 L4 ⊢
      have E4 := E4.same t4
      have S4 := S4.trans t4
      refine ⟨_, rfl, ?_⟩
      refine ⟨_, rfl, _, rfl, fun a5 d5 na nd hne => ?_⟩
      obtain ⟨s5, e5⟩ := mk_facts (f := "index") (v := v) (C := cA K "InvalidEdit") na nd hne
      generalize upd (upd H104 d5 (exd d5 [(("index" : Str), v)])) a5 (exo a5 (cA K "InvalidEdit") (some d5)) = H5 at s5 e5 ⊢
      have E5 := (E4.same s5).snoc (e := ("InvalidEdit", "index")) e5
      have S5 := S4.trans s5
      have L5 := s5 _ _ L4
      refine ⟨_, rfl, _, rfl, fun a6 d6 na nd hne => ?_⟩
      obtain ⟨s6, e6⟩ := mk_facts (f := "value") (v := v) (C := cA K "InvalidFloor") na nd hne
      generalize upd (upd H5 d6 (exd d6 [(("value" : Str), v)])) a6 (exo a6 (cA K "InvalidFloor") (some d6)) = H6 at s6 e6 ⊢
      have E6 := (E5.same s6).snoc (e := ("InvalidFloor", "value")) e6
      have S6 := S5.trans s6
      have L6 := s6 _ _ L5
      refine ⟨_, rfl, _, rfl, fun a7 d7 na nd hne => ?_⟩
      obtain ⟨s7, e7⟩ := mk_facts (f := "found") (v := v) (C := cA K "TooWeak") na nd hne
      generalize upd (upd H6 d7 (exd d7 [(("found" : Str), v)])) a7 (exo a7 (cA K "TooWeak") (some d7)) = H7 at s7 e7 ⊢
      have E7 := (E6.same s7).snoc (e := ("TooWeak", "found")) e7
      have S7 := S6.trans s7
      have L7 := s7 _ _ L6
      refine ⟨(by show 3 ≤ sizeLine; decide), fun m nm => ?_⟩
      have t7 : Same H7 (upd H7 m (.lst [V.ref a5, V.ref a6, V.ref a7])) := same_upd nm
      have M : upd H7 m (.lst [V.ref a5, V.ref a6, V.ref a7]) m = some (.lst [V.ref a5, V.ref a6, V.ref a7]) := upd_same
      have L7 := t7 _ _ L7
      generalize upd H7 m (.lst [V.ref a5, V.ref a6, V.ref a7]) = H107 at t7 M L7 ⊢
      refine ⟨_, m, _, _, rfl, rfl, L7, M, (by show 7 ≤ sizeLine; decide), fun q nq => ?_⟩
      have u7 : Same H107 (upd H107 q (.lst ([V.ref a1, V.ref a2, V.ref a3, V.ref a4] ++ [V.ref a5, V.ref a6, V.ref a7]))) := same_upd nq
      have L7 : upd H107 q (.lst ([V.ref a1, V.ref a2, V.ref a3, V.ref a4] ++ [V.ref a5, V.ref a6, V.ref a7])) q = some (.lst ([V.ref a1, V.ref a2, V.ref a3, V.ref a4] ++ [V.ref a5, V.ref a6, V.ref a7])) := upd_same
      generalize upd H107 q (.lst ([V.ref a1, V.ref a2, V.ref a3, V.ref a4] ++ [V.ref a5, V.ref a6, V.ref a7])) = H207 at u7 L7 ⊢
      have E7 := (E7.same t7).same u7
      have S7 := (S7.trans t7).trans u7
      refine ⟨_, rfl, ?_⟩
      refine ⟨_, rfl, _, rfl, fun a8 d8 na nd hne => ?_⟩
      obtain ⟨s8, e8⟩ := mk_facts (f := "value") (v := v) (C := cA K "InvalidIncrease") na nd hne
      generalize upd (upd H207 d8 (exd d8 [(("value" : Str), v)])) a8 (exo a8 (cA K "InvalidIncrease") (some d8)) = H8 at s8 e8 ⊢
      have E8 := (E7.same s8).snoc (e := ("InvalidIncrease", "value")) e8
      have S8 := S7.trans s8
      have L8 := s8 _ _ L7
      refine ⟨_, rfl, _, rfl, fun a9 d9 na nd hne => ?_⟩
      obtain ⟨s9, e9⟩ := mk_facts (f := "value") (v := v) (C := cA K "SameVertex") na nd hne
      generalize upd (upd H8 d9 (exd d9 [(("value" : Str), v)])) a9 (exo a9 (cA K "SameVertex") (some d9)) = H9 at s9 e9 ⊢
      have E9 := (E8.same s9).snoc (e := ("SameVertex", "value")) e9
      have S9 := S8.trans s9
      have L9 := s9 _ _ L8
      refine ⟨(by show 2 ≤ sizeLine; decide), fun m nm => ?_⟩
      have t9 : Same H9 (upd H9 m (.lst [V.ref a8, V.ref a9])) := same_upd nm
      have M : upd H9 m (.lst [V.ref a8, V.ref a9]) m = some (.lst [V.ref a8, V.ref a9]) := upd_same
      have L9 := t9 _ _ L9
      generalize upd H9 m (.lst [V.ref a8, V.ref a9]) = H109 at t9 M L9 ⊢
      refine ⟨_, m, _, _, rfl, rfl, L9, M, (by show 9 ≤ sizeLine; decide), fun q nq => ?_⟩
      have u9 : Same H109 (upd H109 q (.lst (([V.ref a1, V.ref a2, V.ref a3, V.ref a4] ++ [V.ref a5, V.ref a6, V.ref a7]) ++ [V.ref a8, V.ref a9]))) := same_upd nq
      have L9 : upd H109 q (.lst (([V.ref a1, V.ref a2, V.ref a3, V.ref a4] ++ [V.ref a5, V.ref a6, V.ref a7]) ++ [V.ref a8, V.ref a9])) q = some (.lst (([V.ref a1, V.ref a2, V.ref a3, V.ref a4] ++ [V.ref a5, V.ref a6, V.ref a7]) ++ [V.ref a8, V.ref a9])) := upd_same
      generalize upd H109 q (.lst (([V.ref a1, V.ref a2, V.ref a3, V.ref a4] ++ [V.ref a5, V.ref a6, V.ref a7]) ++ [V.ref a8, V.ref a9])) = H209 at u9 L9 ⊢
      have E9 := (E9.same t9).same u9
      have S9 := (S9.trans t9).trans u9
      refine ⟨_, rfl, ?_⟩
      refine ⟨_, rfl, _, rfl, fun a10 d10 na nd hne => ?_⟩
      obtain ⟨s10, e10⟩ := mk_facts (f := "value") (v := v) (C := cA K "InvalidFlow") na nd hne
      generalize upd (upd H209 d10 (exd d10 [(("value" : Str), v)])) a10 (exo a10 (cA K "InvalidFlow") (some d10)) = H10 at s10 e10 ⊢
      have E10 := (E9.same s10).snoc (e := ("InvalidFlow", "value")) e10
      have S10 := S9.trans s10
      have L10 := s10 _ _ L9
      refine ⟨_, rfl, _, rfl, fun a11 d11 na nd hne => ?_⟩
      obtain ⟨s11, e11⟩ := mk_facts (f := "value") (v := v) (C := cA K "UnknownVertex") na nd hne
      generalize upd (upd H10 d11 (exd d11 [(("value" : Str), v)])) a11 (exo a11 (cA K "UnknownVertex") (some d11)) = H11 at s11 e11 ⊢
      have E11 := (E10.same s11).snoc (e := ("UnknownVertex", "value")) e11
      have S11 := S10.trans s11
      have L11 := s11 _ _ L10
      refine ⟨_, rfl, _, rfl, fun a12 d12 na nd hne => ?_⟩
      obtain ⟨s12, e12⟩ := mk_facts (f := "value") (v := v) (C := cA K "UnknownEdge") na nd hne
      generalize upd (upd H11 d12 (exd d12 [(("value" : Str), v)])) a12 (exo a12 (cA K "UnknownEdge") (some d12)) = H12 at s12 e12 ⊢
      have E12 := (E11.same s12).snoc (e := ("UnknownEdge", "value")) e12
      have S12 := S11.trans s12
      have L12 := s12 _ _ L11
      refine ⟨_, rfl, _, rfl, fun a13 d13 na nd hne => ?_⟩
      obtain ⟨s13, e13⟩ := mk_facts (f := "value") (v := v) (C := cA K "OutOfRange") na nd hne
      generalize upd (upd H12 d13 (exd d13 [(("value" : Str), v)])) a13 (exo a13 (cA K "OutOfRange") (some d13)) = H13 at s13 e13 ⊢
      have E13 := (E12.same s13).snoc (e := ("OutOfRange", "value")) e13
      have S13 := S12.trans s13
      have L13 := s13 _ _ L12
      refine ⟨(by show 4 ≤ sizeLine; decide), fun m nm => ?_⟩
      have t13 : Same H13 (upd H13 m (.lst [V.ref a10, V.ref a11, V.ref a12, V.ref a13])) := same_upd nm
      have M : upd H13 m (.lst [V.ref a10, V.ref a11, V.ref a12, V.ref a13]) m = some (.lst [V.ref a10, V.ref a11, V.ref a12, V.ref a13]) := upd_same
      have L13 := t13 _ _ L13
      generalize upd H13 m (.lst [V.ref a10, V.ref a11, V.ref a12, V.ref a13]) = H113 at t13 M L13 ⊢
      refine ⟨_, m, _, _, rfl, rfl, L13, M, (by show 13 ≤ sizeLine; decide), fun q nq => ?_⟩
      have u13 : Same H113 (upd H113 q (.lst ((([V.ref a1, V.ref a2, V.ref a3, V.ref a4] ++ [V.ref a5, V.ref a6, V.ref a7]) ++ [V.ref a8, V.ref a9]) ++ [V.ref a10, V.ref a11, V.ref a12, V.ref a13]))) := same_upd nq
      have L13 : upd H113 q (.lst ((([V.ref a1, V.ref a2, V.ref a3, V.ref a4] ++ [V.ref a5, V.ref a6, V.ref a7]) ++ [V.ref a8, V.ref a9]) ++ [V.ref a10, V.ref a11, V.ref a12, V.ref a13])) q = some (.lst ((([V.ref a1, V.ref a2, V.ref a3, V.ref a4] ++ [V.ref a5, V.ref a6, V.ref a7]) ++ [V.ref a8, V.ref a9]) ++ [V.ref a10, V.ref a11, V.ref a12, V.ref a13])) := upd_same
      generalize upd H113 q (.lst ((([V.ref a1, V.ref a2, V.ref a3, V.ref a4] ++ [V.ref a5, V.ref a6, V.ref a7]) ++ [V.ref a8, V.ref a9]) ++ [V.ref a10, V.ref a11, V.ref a12, V.ref a13])) = H213 at u13 L13 ⊢
      have E13 := (E13.same t13).same u13
      have S13 := (S13.trans t13).trans u13
      refine ⟨_, rfl, ?_⟩
      refine ⟨_, rfl, _, rfl, fun a14 d14 na nd hne => ?_⟩
      obtain ⟨s14, e14⟩ := mk_facts (f := "value") (v := v) (C := cA K "NotWeakest") na nd hne
      generalize upd (upd H213 d14 (exd d14 [(("value" : Str), v)])) a14 (exo a14 (cA K "NotWeakest") (some d14)) = H14 at s14 e14 ⊢
      have E14 := (E13.same s14).snoc (e := ("NotWeakest", "value")) e14
      have S14 := S13.trans s14
      have L14 := s14 _ _ L13
      refine ⟨_, rfl, _, rfl, fun a15 d15 na nd hne => ?_⟩
      obtain ⟨s15, e15⟩ := mk_facts (f := "value") (v := v) (C := cA K "NotLone") na nd hne
      generalize upd (upd H14 d15 (exd d15 [(("value" : Str), v)])) a15 (exo a15 (cA K "NotLone") (some d15)) = H15 at s15 e15 ⊢
      have E15 := (E14.same s15).snoc (e := ("NotLone", "value")) e15
      have S15 := S14.trans s15
      have L15 := s15 _ _ L14
      refine ⟨(by show 2 ≤ sizeLine; decide), fun m nm => ?_⟩
      have t15 : Same H15 (upd H15 m (.lst [V.ref a14, V.ref a15])) := same_upd nm
      have M : upd H15 m (.lst [V.ref a14, V.ref a15]) m = some (.lst [V.ref a14, V.ref a15]) := upd_same
      have L15 := t15 _ _ L15
      generalize upd H15 m (.lst [V.ref a14, V.ref a15]) = H115 at t15 M L15 ⊢
      refine ⟨_, m, _, _, rfl, rfl, L15, M, (by show 15 ≤ sizeLine; decide), fun q nq => ?_⟩
      have u15 : Same H115 (upd H115 q (.lst (((([V.ref a1, V.ref a2, V.ref a3, V.ref a4] ++ [V.ref a5, V.ref a6, V.ref a7]) ++ [V.ref a8, V.ref a9]) ++ [V.ref a10, V.ref a11, V.ref a12, V.ref a13]) ++ [V.ref a14, V.ref a15]))) := same_upd nq
      have L15 : upd H115 q (.lst (((([V.ref a1, V.ref a2, V.ref a3, V.ref a4] ++ [V.ref a5, V.ref a6, V.ref a7]) ++ [V.ref a8, V.ref a9]) ++ [V.ref a10, V.ref a11, V.ref a12, V.ref a13]) ++ [V.ref a14, V.ref a15])) q = some (.lst (((([V.ref a1, V.ref a2, V.ref a3, V.ref a4] ++ [V.ref a5, V.ref a6, V.ref a7]) ++ [V.ref a8, V.ref a9]) ++ [V.ref a10, V.ref a11, V.ref a12, V.ref a13]) ++ [V.ref a14, V.ref a15])) := upd_same
      generalize upd H115 q (.lst (((([V.ref a1, V.ref a2, V.ref a3, V.ref a4] ++ [V.ref a5, V.ref a6, V.ref a7]) ++ [V.ref a8, V.ref a9]) ++ [V.ref a10, V.ref a11, V.ref a12, V.ref a13]) ++ [V.ref a14, V.ref a15])) = H215 at u15 L15 ⊢
      have E15 := (E15.same t15).same u15
      have S15 := (S15.trans t15).trans u15
      exact k q [a1, a2, a3, a4, a5, a6, a7, a8, a9, a10, a11, a12, a13, a14, a15] _ S15 L15 E15
    · have E0 : Errs K H v [] [] := trivial
      have S0 : Same H H := Same.refl H
      refine ⟨_, rfl, _, rfl, fun a1 d1 na nd hne => ?_⟩
      obtain ⟨s1, e1⟩ := mk_facts (f := "value") (v := v) (C := cA K "InvalidVertex") na nd hne
      generalize upd (upd H d1 (exd d1 [(("value" : Str), v)])) a1 (exo a1 (cA K "InvalidVertex") (some d1)) = H1 at s1 e1 ⊢
      have E1 := (E0.same s1).snoc (e := ("InvalidVertex", "value")) e1
      have S1 := S0.trans s1
      refine ⟨_, rfl, _, rfl, fun a2 d2 na nd hne => ?_⟩
      obtain ⟨s2, e2⟩ := mk_facts (f := "value") (v := v) (C := cA K "InvalidEdge") na nd hne
      generalize upd (upd H1 d2 (exd d2 [(("value" : Str), v)])) a2 (exo a2 (cA K "InvalidEdge") (some d2)) = H2 at s2 e2 ⊢
      have E2 := (E1.same s2).snoc (e := ("InvalidEdge", "value")) e2
      have S2 := S1.trans s2
      refine ⟨_, rfl, _, rfl, fun a3 d3 na nd hne => ?_⟩
      obtain ⟨s3, e3⟩ := mk_facts (f := "side") (v := v) (C := cA K "Disconnected") na nd hne
      generalize upd (upd H2 d3 (exd d3 [(("side" : Str), v)])) a3 (exo a3 (cA K "Disconnected") (some d3)) = H3 at s3 e3 ⊢
      have E3 := (E2.same s3).snoc (e := ("Disconnected", "side")) e3
      have S3 := S2.trans s3
      refine ⟨_, rfl, _, rfl, fun a4 d4 na nd hne => ?_⟩
      obtain ⟨s4, e4⟩ := mk_facts (f := "line") (v := v) (C := cA K "InvalidText") na nd hne
      generalize upd (upd H3 d4 (exd d4 [(("line" : Str), v)])) a4 (exo a4 (cA K "InvalidText") (some d4)) = H4 at s4 e4 ⊢
      have E4 := (E3.same s4).snoc (e := ("InvalidText", "line")) e4
      have S4 := S3.trans s4
      refine ⟨_, rfl, _, rfl, fun a5 d5 na nd hne => ?_⟩
      obtain ⟨s5, e5⟩ := mk_facts (f := "index") (v := v) (C := cA K "InvalidEdit") na nd hne
      generalize upd (upd H4 d5 (exd d5 [(("index" : Str), v)])) a5 (exo a5 (cA K "InvalidEdit") (some d5)) = H5 at s5 e5 ⊢
      have E5 := (E4.same s5).snoc (e := ("InvalidEdit", "index")) e5
      have S5 := S4.trans s5
      refine ⟨_, rfl, _, rfl, fun a6 d6 na nd hne => ?_⟩
      obtain ⟨s6, e6⟩ := mk_facts (f := "value") (v := v) (C := cA K "InvalidFloor") na nd hne
      generalize upd (upd H5 d6 (exd d6 [(("value" : Str), v)])) a6 (exo a6 (cA K "InvalidFloor") (some d6)) = H6 at s6 e6 ⊢
      have E6 := (E5.same s6).snoc (e := ("InvalidFloor", "value")) e6
      have S6 := S5.trans s6
      refine ⟨(by show 6 ≤ sizeLine; decide), fun m nm => ?_⟩
      have t6 : Same H6 (upd H6 m (.lst [V.ref a1, V.ref a2, V.ref a3, V.ref a4, V.ref a5, V.ref a6])) := same_upd nm
      have L6 : upd H6 m (.lst [V.ref a1, V.ref a2, V.ref a3, V.ref a4, V.ref a5, V.ref a6]) m = some (.lst [V.ref a1, V.ref a2, V.ref a3, V.ref a4, V.ref a5, V.ref a6]) := upd_same
      generalize upd H6 m (.lst [V.ref a1, V.ref a2, V.ref a3, V.ref a4, V.ref a5, V.ref a6]) = H106 at t6 L6 ⊢
      have E6 := E6.same t6
      have S6 := S6.trans t6
      refine ⟨_, rfl, ?_⟩
      refine ⟨_, rfl, _, rfl, fun a7 d7 na nd hne => ?_⟩
      obtain ⟨s7, e7⟩ := mk_facts (f := "found") (v := v) (C := cA K "TooWeak") na nd hne
      generalize upd (upd H106 d7 (exd d7 [(("found" : Str), v)])) a7 (exo a7 (cA K "TooWeak") (some d7)) = H7 at s7 e7 ⊢
      have E7 := (E6.same s7).snoc (e := ("TooWeak", "found")) e7
      have S7 := S6.trans s7
      have L7 := s7 _ _ L6
      refine ⟨_, rfl, _, rfl, fun a8 d8 na nd hne => ?_⟩
      obtain ⟨s8, e8⟩ := mk_facts (f := "value") (v := v) (C := cA K "InvalidIncrease") na nd hne
      generalize upd (upd H7 d8 (exd d8 [(("value" : Str), v)])) a8 (exo a8 (cA K "InvalidIncrease") (some d8)) = H8 at s8 e8 ⊢
      have E8 := (E7.same s8).snoc (e := ("InvalidIncrease", "value")) e8
      have S8 := S7.trans s8
      have L8 := s8 _ _ L7
      refine ⟨_, rfl, _, rfl, fun a9 d9 na nd hne => ?_⟩
      obtain ⟨s9, e9⟩ := mk_facts (f := "value") (v := v) (C := cA K "SameVertex") na nd hne
      generalize upd (upd H8 d9 (exd d9 [(("value" : Str), v)])) a9 (exo a9 (cA K "SameVertex") (some d9)) = H9 at s9 e9 ⊢
      have E9 := (E8.same s9).snoc (e := ("SameVertex", "value")) e9
      have S9 := S8.trans s9
      have L9 := s9 _ _ L8
      refine ⟨_, rfl, _, rfl, fun a10 d10 na nd hne => ?_⟩
      obtain ⟨s10, e10⟩ := mk_facts (f := "value") (v := v) (C := cA K "InvalidFlow") na nd hne
      generalize upd (upd H9 d10 (exd d10 [(("value" : Str), v)])) a10 (exo a10 (cA K "InvalidFlow") (some d10)) = H10 at s10 e10 ⊢
      have E10 := (E9.same s10).snoc (e := ("InvalidFlow", "value")) e10
      have S10 := S9.trans s10
      have L10 := s10 _ _ L9
      refine ⟨_, rfl, _, rfl, fun a11 d11 na nd hne => ?_⟩
      obtain ⟨s11, e11⟩ := mk_facts (f := "value") (v := v) (C := cA K "UnknownVertex") na nd hne
      generalize upd (upd H10 d11 (exd d11 [(("value" : Str), v)])) a11 (exo a11 (cA K "UnknownVertex") (some d11)) = H11 at s11 e11 ⊢
      have E11 := (E10.same s11).snoc (e := ("UnknownVertex", "value")) e11
      have S11 := S10.trans s11
      have L11 := s11 _ _ L10
      refine ⟨_, rfl, _, rfl, fun a12 d12 na nd hne => ?_⟩
      obtain ⟨s12, e12⟩ := mk_facts (f := "value") (v := v) (C := cA K "UnknownEdge") na nd hne
      generalize upd (upd H11 d12 (exd d12 [(("value" : Str), v)])) a12 (exo a12 (cA K "UnknownEdge") (some d12)) = H12 at s12 e12 ⊢
      have E12 := (E11.same s12).snoc (e := ("UnknownEdge", "value")) e12
      have S12 := S11.trans s12
      have L12 := s12 _ _ L11
      refine ⟨(by show 6 ≤ sizeLine; decide), fun m nm => ?_⟩
      have t12 : Same H12 (upd H12 m (.lst [V.ref a7, V.ref a8, V.ref a9, V.ref a10, V.ref a11, V.ref a12])) := same_upd nm
      have M : upd H12 m (.lst [V.ref a7, V.ref a8, V.ref a9, V.ref a10, V.ref a11, V.ref a12]) m = some (.lst [V.ref a7, V.ref a8, V.ref a9, V.ref a10, V.ref a11, V.ref a12]) := upd_same
      have L12 := t12 _ _ L12
      generalize upd H12 m (.lst [V.ref a7, V.ref a8, V.ref a9, V.ref a10, V.ref a11, V.ref a12]) = H112 at t12 M L12 ⊢
      refine ⟨_, m, _, _, rfl, rfl, L12, M, (by show 12 ≤ sizeLine; decide), fun q nq => ?_⟩
      have u12 : Same H112 (upd H112 q (.lst ([V.ref a1, V.ref a2, V.ref a3, V.ref a4, V.ref a5, V.ref a6] ++ [V.ref a7, V.ref a8, V.ref a9, V.ref a10, V.ref a11, V.ref a12]))) := same_upd nq
      have L12 : upd H112 q (.lst ([V.ref a1, V.ref a2, V.ref a3, V.ref a4, V.ref a5, V.ref a6] ++ [V.ref a7, V.ref a8, V.ref a9, V.ref a10, V.ref a11, V.ref a12])) q = some (.lst ([V.ref a1, V.ref a2, V.ref a3, V.ref a4, V.ref a5, V.ref a6] ++ [V.ref a7, V.ref a8, V.ref a9, V.ref a10, V.ref a11, V.ref a12])) := upd_same
      generalize upd H112 q (.lst ([V.ref a1, V.ref a2, V.ref a3, V.ref a4, V.ref a5, V.ref a6] ++ [V.ref a7, V.ref a8, V.ref a9, V.ref a10, V.ref a11, V.ref a12])) = H212 at u12 L12 ⊢
      have E12 := (E12.same t12).same u12
      have S12 := (S12.trans t12).trans u12
      refine ⟨_, rfl, ?_⟩
      refine ⟨_, rfl, _, rfl, fun a13 d13 na nd hne => ?_⟩
      obtain ⟨s13, e13⟩ := mk_facts (f := "value") (v := v) (C := cA K "OutOfRange") na nd hne
      generalize upd (upd H212 d13 (exd d13 [(("value" : Str), v)])) a13 (exo a13 (cA K "OutOfRange") (some d13)) = H13 at s13 e13 ⊢
      have E13 := (E12.same s13).snoc (e := ("OutOfRange", "value")) e13
      have S13 := S12.trans s13
      have L13 := s13 _ _ L12
      refine ⟨_, rfl, _, rfl, fun a14 d14 na nd hne => ?_⟩
      obtain ⟨s14, e14⟩ := mk_facts (f := "value") (v := v) (C := cA K "NotWeakest") na nd hne
      generalize upd (upd H13 d14 (exd d14 [(("value" : Str), v)])) a14 (exo a14 (cA K "NotWeakest") (some d14)) = H14 at s14 e14 ⊢
      have E14 := (E13.same s14).snoc (e := ("NotWeakest", "value")) e14
      have S14 := S13.trans s14
      have L14 := s14 _ _ L13
      refine ⟨_, rfl, _, rfl, fun a15 d15 na nd hne => ?_⟩
      obtain ⟨s15, e15⟩ := mk_facts (f := "value") (v := v) (C := cA K "NotLone") na nd hne
      generalize upd (upd H14 d15 (exd d15 [(("value" : Str), v)])) a15 (exo a15 (cA K "NotLone") (some d15)) = H15 at s15 e15 ⊢
      have E15 := (E14.same s15).snoc (e := ("NotLone", "value")) e15
      have S15 := S14.trans s15
      have L15 := s15 _ _ L14
      refine ⟨(by show 3 ≤ sizeLine; decide), fun m nm => ?_⟩
      have t15 : Same H15 (upd H15 m (.lst [V.ref a13, V.ref a14, V.ref a15])) := same_upd nm
      have M : upd H15 m (.lst [V.ref a13, V.ref a14, V.ref a15]) m = some (.lst [V.ref a13, V.ref a14, V.ref a15]) := upd_same
      have L15 := t15 _ _ L15
      generalize upd H15 m (.lst [V.ref a13, V.ref a14, V.ref a15]) = H115 at t15 M L15 ⊢
      refine ⟨_, m, _, _, rfl, rfl, L15, M, (by show 15 ≤ sizeLine; decide), fun q nq => ?_⟩
      have u15 : Same H115 (upd H115 q (.lst (([V.ref a1, V.ref a2, V.ref a3, V.ref a4, V.ref a5, V.ref a6] ++ [V.ref a7, V.ref a8, V.ref a9, V.ref a10, V.ref a11, V.ref a12]) ++ [V.ref a13, V.ref a14, V.ref a15]))) := same_upd nq
      have L15 : upd H115 q (.lst (([V.ref a1, V.ref a2, V.ref a3, V.ref a4, V.ref a5, V.ref a6] ++ [V.ref a7, V.ref a8, V.ref a9, V.ref a10, V.ref a11, V.ref a12]) ++ [V.ref a13, V.ref a14, V.ref a15])) q = some (.lst (([V.ref a1, V.ref a2, V.ref a3, V.ref a4, V.ref a5, V.ref a6] ++ [V.ref a7, V.ref a8, V.ref a9, V.ref a10, V.ref a11, V.ref a12]) ++ [V.ref a13, V.ref a14, V.ref a15])) := upd_same
      generalize upd H115 q (.lst (([V.ref a1, V.ref a2, V.ref a3, V.ref a4, V.ref a5, V.ref a6] ++ [V.ref a7, V.ref a8, V.ref a9, V.ref a10, V.ref a11, V.ref a12]) ++ [V.ref a13, V.ref a14, V.ref a15])) = H215 at u15 L15 ⊢
      have E15 := (E15.same t15).same u15
      have S15 := (S15.trans t15).trans u15
      exact k q [a1, a2, a3, a4, a5, a6, a7, a8, a9, a10, a11, a12, a13, a14, a15] _ S15 L15 E15
end
end Wk
namespace Wk
open PySem PySem.Spec PyProof.Rows L2
section
variable {P : Program} {w : World} {K : PySem.W.Frag} {mg : Str → Option Value} {base : Heap}
/-- isinstance of an error, by all the classes -/
def spKinds (K : PySem.W.Frag) : Sp := fun vs H Q _ => ∃ (a : Addr) (v : V) (e : Str × Str), vs = [.ref a] ∧ e ∈ errN ∧ IsErr H v a (cA K e.1) e.2 ∧ ∀ l H', Same H H' → H' l = some (.lst (errN.map fun y => V.bl (decide (e.1 = y.1)))) → Q (.ref l) H'
theorem sc_kinds : FnScope ["_law_e", "_law_some"] ["_law_e"] (defScope s_L_kinds) := ⟨rfl, rfl, rfl, by decide +kernel, rfl, by decide +kernel, by decide +kernel⟩
theorem c_kinds (D : Def K mg "_law_kinds" s_L_kinds) (B : Bi mg) (ET : ErrT K mg) (IT : IsT K) : Callee P w K mg base CX0 1 "_law_kinds" ["_law_e"] (spKinds K) := by
  obtain ⟨f, fd, F, g⟩ := D
  refine ⟨f, fd, F.ok sc_kinds (fun vs H Q E h => ?_) (fun cdv A outer s H vs Q E hr h => ?_), g, F.kp, F.bindsN (fun _ _ _ _ _ _ us hl => match us, hl with | [_], _ => rfl)⟩
  · obtain ⟨a, v, e, rfl, _⟩ := h
    rfl
  · have hu := hu_of hr
    have nd := sc_kinds.nd
    refine ⟨_, PSs.nox (pss_cons (ps_set (i := 1) nd rfl (Or.inl rfl) (pe_lst (pa_cons (pe_callB WkX.call_isE (by rfl) B.n_isinstance (by decide +kernel) (pa_cons (pv 0) (pa_cons (pe_glob (v := .ref _) (by rfl) ET.t_InvalidVertex.gC rfl) pa_nil))) (pa_cons (pe_callB WkX.call_isE (by rfl) B.n_isinstance (by decide +kernel) (pa_cons (pv 0) (pa_cons (pe_glob (v := .ref _) (by rfl) ET.t_InvalidEdge.gC rfl) pa_nil))) (pa_cons (pe_callB WkX.call_isE (by rfl) B.n_isinstance (by decide +kernel) (pa_cons (pv 0) (pa_cons (pe_glob (v := .ref _) (by rfl) ET.t_Disconnected.gC rfl) pa_nil))) pa_nil)))))
      (pss_cons (ps_set (i := 1) nd rfl (Or.inl rfl) (pe_op op_cat (pv 1) (pe_lst (pa_cons (pe_callB WkX.call_isE (by rfl) B.n_isinstance (by decide +kernel) (pa_cons (pv 0) (pa_cons (pe_glob (v := .ref _) (by rfl) ET.t_InvalidText.gC rfl) pa_nil))) (pa_cons (pe_callB WkX.call_isE (by rfl) B.n_isinstance (by decide +kernel) (pa_cons (pv 0) (pa_cons (pe_glob (v := .ref _) (by rfl) ET.t_InvalidEdit.gC rfl) pa_nil))) (pa_cons (pe_callB WkX.call_isE (by rfl) B.n_isinstance (by decide +kernel) (pa_cons (pv 0) (pa_cons (pe_glob (v := .ref _) (by rfl) ET.t_InvalidFloor.gC rfl) pa_nil))) pa_nil))))))
      (pss_cons (ps_set (i := 1) nd rfl (Or.inl rfl) (pe_op op_cat (pv 1) (pe_lst (pa_cons (pe_callB WkX.call_isE (by rfl) B.n_isinstance (by decide +kernel) (pa_cons (pv 0) (pa_cons (pe_glob (v := .ref _) (by rfl) ET.t_TooWeak.gC rfl) pa_nil))) (pa_cons (pe_callB WkX.call_isE (by rfl) B.n_isinstance (by decide +kernel) (pa_cons (pv 0) (pa_cons (pe_glob (v := .ref _) (by rfl) ET.t_InvalidIncrease.gC rfl) pa_nil))) (pa_cons (pe_callB WkX.call_isE (by rfl) B.n_isinstance (by decide +kernel) (pa_cons (pv 0) (pa_cons (pe_glob (v := .ref _) (by rfl) ET.t_SameVertex.gC rfl) pa_nil))) pa_nil))))))
      (pss_cons (ps_set (i := 1) nd rfl (Or.inl rfl) (pe_op op_cat (pv 1) (pe_lst (pa_cons (pe_callB WkX.call_isE (by rfl) B.n_isinstance (by decide +kernel) (pa_cons (pv 0) (pa_cons (pe_glob (v := .ref _) (by rfl) ET.t_InvalidFlow.gC rfl) pa_nil))) (pa_cons (pe_callB WkX.call_isE (by rfl) B.n_isinstance (by decide +kernel) (pa_cons (pv 0) (pa_cons (pe_glob (v := .ref _) (by rfl) ET.t_UnknownVertex.gC rfl) pa_nil))) (pa_cons (pe_callB WkX.call_isE (by rfl) B.n_isinstance (by decide +kernel) (pa_cons (pv 0) (pa_cons (pe_glob (v := .ref _) (by rfl) ET.t_UnknownEdge.gC rfl) pa_nil))) pa_nil))))))
      (pss_one (ps_ret (pe_op op_cat (pv 1) (pe_lst (pa_cons (pe_callB WkX.call_isE (by rfl) B.n_isinstance (by decide +kernel) (pa_cons (pv 0) (pa_cons (pe_glob (v := .ref _) (by rfl) ET.t_OutOfRange.gC rfl) pa_nil))) (pa_cons (pe_callB WkX.call_isE (by rfl) B.n_isinstance (by decide +kernel) (pa_cons (pv 0) (pa_cons (pe_glob (v := .ref _) (by rfl) ET.t_NotWeakest.gC rfl) pa_nil))) (pa_cons (pe_callB WkX.call_isE (by rfl) B.n_isinstance (by decide +kernel) (pa_cons (pv 0) (pa_cons (pe_glob (v := .ref _) (by rfl) ET.t_NotLone.gC rfl) pa_nil))) pa_nil))))))))))), ?_⟩
    obtain ⟨a, v, e, rfl, he, ⟨d, ha, hd⟩, k⟩ := h
    have ET0 := err_t ET he
    have S0 : Same H H := Same.refl H
    refine ⟨_, rfl, a, d, _, _, _, _, _, _, _, decide (e.1 = "InvalidVertex"), rfl, ET0, S0 _ _ ha, S0 _ _ hd, .own _, IT.own e he ("InvalidVertex", "value") (by decide +kernel), ?_⟩
    refine ⟨_, rfl, a, d, _, _, _, _, _, _, _, decide (e.1 = "InvalidEdge"), rfl, ET0, S0 _ _ ha, S0 _ _ hd, .own _, IT.own e he ("InvalidEdge", "value") (by decide +kernel), ?_⟩
    refine ⟨_, rfl, a, d, _, _, _, _, _, _, _, decide (e.1 = "Disconnected"), rfl, ET0, S0 _ _ ha, S0 _ _ hd, .own _, IT.own e he ("Disconnected", "side") (by decide +kernel), ?_⟩
    refine ⟨(by show 3 ≤ sizeLine; decide), fun m nm => ?_⟩
    have t1 : Same H (upd H m (.lst [V.bl (decide (e.1 = "InvalidVertex")), V.bl (decide (e.1 = "InvalidEdge")), V.bl (decide (e.1 = "Disconnected"))])) := same_upd nm
    have L1 : upd H m (.lst [V.bl (decide (e.1 = "InvalidVertex")), V.bl (decide (e.1 = "InvalidEdge")), V.bl (decide (e.1 = "Disconnected"))]) m = some (.lst [V.bl (decide (e.1 = "InvalidVertex")), V.bl (decide (e.1 = "InvalidEdge")), V.bl (decide (e.1 = "Disconnected"))]) := upd_same
    generalize upd H m (.lst [V.bl (decide (e.1 = "InvalidVertex")), V.bl (decide (e.1 = "InvalidEdge")), V.bl (decide (e.1 = "Disconnected"))]) = H101 at t1 L1 ⊢
    have S1 := S0.trans t1
    refine ⟨_, rfl, ?_⟩
    refine ⟨_, rfl, a, d, _, _, _, _, _, _, _, decide (e.1 = "InvalidText"), rfl, ET0, S1 _ _ ha, S1 _ _ hd, .own _, IT.own e he ("InvalidText", "line") (by decide +kernel), ?_⟩
    refine ⟨_, rfl, a, d, _, _, _, _, _, _, _, decide (e.1 = "InvalidEdit"), rfl, ET0, S1 _ _ ha, S1 _ _ hd, .own _, IT.own e he ("InvalidEdit", "index") (by decide +kernel), ?_⟩
    refine ⟨_, rfl, a, d, _, _, _, _, _, _, _, decide (e.1 = "InvalidFloor"), rfl, ET0, S1 _ _ ha, S1 _ _ hd, .own _, IT.own e he ("InvalidFloor", "value") (by decide +kernel), ?_⟩
    refine ⟨(by show 3 ≤ sizeLine; decide), fun m nm => ?_⟩
    have t2 : Same H101 (upd H101 m (.lst [V.bl (decide (e.1 = "InvalidText")), V.bl (decide (e.1 = "InvalidEdit")), V.bl (decide (e.1 = "InvalidFloor"))])) := same_upd nm
    have M : upd H101 m (.lst [V.bl (decide (e.1 = "InvalidText")), V.bl (decide (e.1 = "InvalidEdit")), V.bl (decide (e.1 = "InvalidFloor"))]) m = some (.lst [V.bl (decide (e.1 = "InvalidText")), V.bl (decide (e.1 = "InvalidEdit")), V.bl (decide (e.1 = "InvalidFloor"))]) := upd_same
    have L2 := t2 _ _ L1
    generalize upd H101 m (.lst [V.bl (decide (e.1 = "InvalidText")), V.bl (decide (e.1 = "InvalidEdit")), V.bl (decide (e.1 = "InvalidFloor"))]) = H102 at t2 M L2 ⊢
    refine ⟨_, m, _, _, rfl, rfl, L2, M, (by show 6 ≤ sizeLine; decide), fun q nq => ?_⟩
    have u2 : Same H102 (upd H102 q (.lst ([V.bl (decide (e.1 = "InvalidVertex")), V.bl (decide (e.1 = "InvalidEdge")), V.bl (decide (e.1 = "Disconnected"))] ++ [V.bl (decide (e.1 = "InvalidText")), V.bl (decide (e.1 = "InvalidEdit")), V.bl (decide (e.1 = "InvalidFloor"))]))) := same_upd nq
    have L2 : upd H102 q (.lst ([V.bl (decide (e.1 = "InvalidVertex")), V.bl (decide (e.1 = "InvalidEdge")), V.bl (decide (e.1 = "Disconnected"))] ++ [V.bl (decide (e.1 = "InvalidText")), V.bl (decide (e.1 = "InvalidEdit")), V.bl (decide (e.1 = "InvalidFloor"))])) q = some (.lst ([V.bl (decide (e.1 = "InvalidVertex")), V.bl (decide (e.1 = "InvalidEdge")), V.bl (decide (e.1 = "Disconnected"))] ++ [V.bl (decide (e.1 = "InvalidText")), V.bl (decide (e.1 = "InvalidEdit")), V.bl (decide (e.1 = "InvalidFloor"))])) := upd_same
    generalize upd H102 q (.lst ([V.bl (decide (e.1 = "InvalidVertex")), V.bl (decide (e.1 = "InvalidEdge")), V.bl (decide (e.1 = "Disconnected"))] ++ [V.bl (decide (e.1 = "InvalidText")), V.bl (decide (e.1 = "InvalidEdit")), V.bl (decide (e.1 = "InvalidFloor"))])) = H202 at u2 L2 ⊢
    have S2 := (S1.trans t2).trans u2
    refine ⟨_, rfl, ?_⟩
    refine ⟨_, rfl, a, d, _, _, _, _, _, _, _, decide (e.1 = "TooWeak"), rfl, ET0, S2 _ _ ha, S2 _ _ hd, .own _, IT.own e he ("TooWeak", "found") (by decide +kernel), ?_⟩
    refine ⟨_, rfl, a, d, _, _, _, _, _, _, _, decide (e.1 = "InvalidIncrease"), rfl, ET0, S2 _ _ ha, S2 _ _ hd, .own _, IT.own e he ("InvalidIncrease", "value") (by decide +kernel), ?_⟩
    refine ⟨_, rfl, a, d, _, _, _, _, _, _, _, decide (e.1 = "SameVertex"), rfl, ET0, S2 _ _ ha, S2 _ _ hd, .own _, IT.own e he ("SameVertex", "value") (by decide +kernel), ?_⟩
    refine ⟨(by show 3 ≤ sizeLine; decide), fun m nm => ?_⟩
    have t3 : Same H202 (upd H202 m (.lst [V.bl (decide (e.1 = "TooWeak")), V.bl (decide (e.1 = "InvalidIncrease")), V.bl (decide (e.1 = "SameVertex"))])) := same_upd nm
    have M : upd H202 m (.lst [V.bl (decide (e.1 = "TooWeak")), V.bl (decide (e.1 = "InvalidIncrease")), V.bl (decide (e.1 = "SameVertex"))]) m = some (.lst [V.bl (decide (e.1 = "TooWeak")), V.bl (decide (e.1 = "InvalidIncrease")), V.bl (decide (e.1 = "SameVertex"))]) := upd_same
    have L3 := t3 _ _ L2
    generalize upd H202 m (.lst [V.bl (decide (e.1 = "TooWeak")), V.bl (decide (e.1 = "InvalidIncrease")), V.bl (decide (e.1 = "SameVertex"))]) = H103 at t3 M L3 ⊢
    refine ⟨_, m, _, _, rfl, rfl, L3, M, (by show 9 ≤ sizeLine; decide), fun q nq => ?_⟩
    have u3 : Same H103 (upd H103 q (.lst (([V.bl (decide (e.1 = "InvalidVertex")), V.bl (decide (e.1 = "InvalidEdge")), V.bl (decide (e.1 = "Disconnected"))] ++ [V.bl (decide (e.1 = "InvalidText")), V.bl (decide (e.1 = "InvalidEdit")), V.bl (decide (e.1 = "InvalidFloor"))]) ++ [V.bl (decide (e.1 = "TooWeak")), V.bl (decide (e.1 = "InvalidIncrease")), V.bl (decide (e.1 = "SameVertex"))]))) := same_upd nq
    have L3 : upd H103 q (.lst (([V.bl (decide (e.1 = "InvalidVertex")), V.bl (decide (e.1 = "InvalidEdge")), V.bl (decide (e.1 = "Disconnected"))] ++ [V.bl (decide (e.1 = "InvalidText")), V.bl (decide (e.1 = "InvalidEdit")), V.bl (decide (e.1 = "InvalidFloor"))]) ++ [V.bl (decide (e.1 = "TooWeak")), V.bl (decide (e.1 = "InvalidIncrease")), V.bl (decide (e.1 = "SameVertex"))])) q = some (.lst (([V.bl (decide (e.1 = "InvalidVertex")), V.bl (decide (e.1 = "InvalidEdge")), V.bl (decide (e.1 = "Disconnected"))] ++ [V.bl (decide (e.1 = "InvalidText")), V.bl (decide (e.1 = "InvalidEdit")), V.bl (decide (e.1 = "InvalidFloor"))]) ++ [V.bl (decide (e.1 = "TooWeak")), V.bl (decide (e.1 = "InvalidIncrease")), V.bl (decide (e.1 = "SameVertex"))])) := upd_same
    generalize upd H103 q (.lst (([V.bl (decide (e.1 = "InvalidVertex")), V.bl (decide (e.1 = "InvalidEdge")), V.bl (decide (e.1 = "Disconnected"))] ++ [V.bl (decide (e.1 = "InvalidText")), V.bl (decide (e.1 = "InvalidEdit")), V.bl (decide (e.1 = "InvalidFloor"))]) ++ [V.bl (decide (e.1 = "TooWeak")), V.bl (decide (e.1 = "InvalidIncrease")), V.bl (decide (e.1 = "SameVertex"))])) = H203 at u3 L3 ⊢
    have S3 := (S2.trans t3).trans u3
    refine ⟨_, rfl, ?_⟩
    refine ⟨_, rfl, a, d, _, _, _, _, _, _, _, decide (e.1 = "InvalidFlow"), rfl, ET0, S3 _ _ ha, S3 _ _ hd, .own _, IT.own e he ("InvalidFlow", "value") (by decide +kernel), ?_⟩
    refine ⟨_, rfl, a, d, _, _, _, _, _, _, _, decide (e.1 = "UnknownVertex"), rfl, ET0, S3 _ _ ha, S3 _ _ hd, .own _, IT.own e he ("UnknownVertex", "value") (by decide +kernel), ?_⟩
    refine ⟨_, rfl, a, d, _, _, _, _, _, _, _, decide (e.1 = "UnknownEdge"), rfl, ET0, S3 _ _ ha, S3 _ _ hd, .own _, IT.own e he ("UnknownEdge", "value") (by decide +kernel), ?_⟩
    refine ⟨(by show 3 ≤ sizeLine; decide), fun m nm => ?_⟩
    have t4 : Same H203 (upd H203 m (.lst [V.bl (decide (e.1 = "InvalidFlow")), V.bl (decide (e.1 = "UnknownVertex")), V.bl (decide (e.1 = "UnknownEdge"))])) := same_upd nm
    have M : upd H203 m (.lst [V.bl (decide (e.1 = "InvalidFlow")), V.bl (decide (e.1 = "UnknownVertex")), V.bl (decide (e.1 = "UnknownEdge"))]) m = some (.lst [V.bl (decide (e.1 = "InvalidFlow")), V.bl (decide (e.1 = "UnknownVertex")), V.bl (decide (e.1 = "UnknownEdge"))]) := upd_same
    have L4 := t4 _ _ L3
    generalize upd H203 m (.lst [V.bl (decide (e.1 = "InvalidFlow")), V.bl (decide (e.1 = "UnknownVertex")), V.bl (decide (e.1 = "UnknownEdge"))]) = H104 at t4 M L4 ⊢
    refine ⟨_, m, _, _, rfl, rfl, L4, M, (by show 12 ≤ sizeLine; decide), fun q nq => ?_⟩
    have u4 : Same H104 (upd H104 q (.lst ((([V.bl (decide (e.1 = "InvalidVertex")), V.bl (decide (e.1 = "InvalidEdge")), V.bl (decide (e.1 = "Disconnected"))] ++ [V.bl (decide (e.1 = "InvalidText")), V.bl (decide (e.1 = "InvalidEdit")), V.bl (decide (e.1 = "InvalidFloor"))]) ++ [V.bl (decide (e.1 = "TooWeak")), V.bl (decide (e.1 = "InvalidIncrease")), V.bl (decide (e.1 = "SameVertex"))]) ++ [V.bl (decide (e.1 = "InvalidFlow")), V.bl (decide (e.1 = "UnknownVertex")), V.bl (decide (e.1 = "UnknownEdge"))]))) := same_upd nq
    have L4 : upd H104 q (.lst ((([V.bl (decide (e.1 = "InvalidVertex")), V.bl (decide (e.1 = "InvalidEdge")), V.bl (decide (e.1 = "Disconnected"))] ++ [V.bl (decide (e.1 = "InvalidText")), V.bl (decide (e.1 = "InvalidEdit")), V.bl (decide (e.1 = "InvalidFloor"))]) ++ [V.bl (decide (e.1 = "TooWeak")), V.bl (decide (e.1 = "InvalidIncrease")), V.bl (decide (e.1 = "SameVertex"))]) ++ [V.bl (decide (e.1 = "InvalidFlow")), V.bl (decide (e.1 = "UnknownVertex")), V.bl (decide (e.1 = "UnknownEdge"))])) q = some (.lst ((([V.bl (decide (e.1 = "InvalidVertex")), V.bl (decide (e.1 = "InvalidEdge")), V.bl (decide (e.1 = "Disconnected"))] ++ [V.bl (decide (e.1 = "InvalidText")), V.bl (decide (e.1 = "InvalidEdit")), V.bl (decide (e.1 = "InvalidFloor"))]) ++ [V.bl (decide (e.1 = "TooWeak")), V.bl (decide (e.1 = "InvalidIncrease")), V.bl (decide (e.1 = "SameVertex"))]) ++ [V.bl (decide (e.1 = "InvalidFlow")), V.bl (decide (e.1 = "UnknownVertex")), V.bl (decide (e.1 = "UnknownEdge"))])) := upd_same
    generalize upd H104 q (.lst ((([V.bl (decide (e.1 = "InvalidVertex")), V.bl (decide (e.1 = "InvalidEdge")), V.bl (decide (e.1 = "Disconnected"))] ++ [V.bl (decide (e.1 = "InvalidText")), V.bl (decide (e.1 = "InvalidEdit")), V.bl (decide (e.1 = "InvalidFloor"))]) ++ [V.bl (decide (e.1 = "TooWeak")), V.bl (decide (e.1 = "InvalidIncrease")), V.bl (decide (e.1 = "SameVertex"))]) ++ [V.bl (decide (e.1 = "InvalidFlow")), V.bl (decide (e.1 = "UnknownVertex")), V.bl (decide (e.1 = "UnknownEdge"))])) = H204 at u4 L4 ⊢
    have S4 := (S3.trans t4).trans u4
    refine ⟨_, rfl, ?_⟩
    refine ⟨_, rfl, a, d, _, _, _, _, _, _, _, decide (e.1 = "OutOfRange"), rfl, ET0, S4 _ _ ha, S4 _ _ hd, .own _, IT.own e he ("OutOfRange", "value") (by decide +kernel), ?_⟩
    refine ⟨_, rfl, a, d, _, _, _, _, _, _, _, decide (e.1 = "NotWeakest"), rfl, ET0, S4 _ _ ha, S4 _ _ hd, .own _, IT.own e he ("NotWeakest", "value") (by decide +kernel), ?_⟩
    refine ⟨_, rfl, a, d, _, _, _, _, _, _, _, decide (e.1 = "NotLone"), rfl, ET0, S4 _ _ ha, S4 _ _ hd, .own _, IT.own e he ("NotLone", "value") (by decide +kernel), ?_⟩
    refine ⟨(by show 3 ≤ sizeLine; decide), fun m nm => ?_⟩
    have t5 : Same H204 (upd H204 m (.lst [V.bl (decide (e.1 = "OutOfRange")), V.bl (decide (e.1 = "NotWeakest")), V.bl (decide (e.1 = "NotLone"))])) := same_upd nm
    have M : upd H204 m (.lst [V.bl (decide (e.1 = "OutOfRange")), V.bl (decide (e.1 = "NotWeakest")), V.bl (decide (e.1 = "NotLone"))]) m = some (.lst [V.bl (decide (e.1 = "OutOfRange")), V.bl (decide (e.1 = "NotWeakest")), V.bl (decide (e.1 = "NotLone"))]) := upd_same
    have L5 := t5 _ _ L4
    generalize upd H204 m (.lst [V.bl (decide (e.1 = "OutOfRange")), V.bl (decide (e.1 = "NotWeakest")), V.bl (decide (e.1 = "NotLone"))]) = H105 at t5 M L5 ⊢
    refine ⟨_, m, _, _, rfl, rfl, L5, M, (by show 15 ≤ sizeLine; decide), fun q nq => ?_⟩
    have u5 : Same H105 (upd H105 q (.lst (((([V.bl (decide (e.1 = "InvalidVertex")), V.bl (decide (e.1 = "InvalidEdge")), V.bl (decide (e.1 = "Disconnected"))] ++ [V.bl (decide (e.1 = "InvalidText")), V.bl (decide (e.1 = "InvalidEdit")), V.bl (decide (e.1 = "InvalidFloor"))]) ++ [V.bl (decide (e.1 = "TooWeak")), V.bl (decide (e.1 = "InvalidIncrease")), V.bl (decide (e.1 = "SameVertex"))]) ++ [V.bl (decide (e.1 = "InvalidFlow")), V.bl (decide (e.1 = "UnknownVertex")), V.bl (decide (e.1 = "UnknownEdge"))]) ++ [V.bl (decide (e.1 = "OutOfRange")), V.bl (decide (e.1 = "NotWeakest")), V.bl (decide (e.1 = "NotLone"))]))) := same_upd nq
    have L5 : upd H105 q (.lst (((([V.bl (decide (e.1 = "InvalidVertex")), V.bl (decide (e.1 = "InvalidEdge")), V.bl (decide (e.1 = "Disconnected"))] ++ [V.bl (decide (e.1 = "InvalidText")), V.bl (decide (e.1 = "InvalidEdit")), V.bl (decide (e.1 = "InvalidFloor"))]) ++ [V.bl (decide (e.1 = "TooWeak")), V.bl (decide (e.1 = "InvalidIncrease")), V.bl (decide (e.1 = "SameVertex"))]) ++ [V.bl (decide (e.1 = "InvalidFlow")), V.bl (decide (e.1 = "UnknownVertex")), V.bl (decide (e.1 = "UnknownEdge"))]) ++ [V.bl (decide (e.1 = "OutOfRange")), V.bl (decide (e.1 = "NotWeakest")), V.bl (decide (e.1 = "NotLone"))])) q = some (.lst (((([V.bl (decide (e.1 = "InvalidVertex")), V.bl (decide (e.1 = "InvalidEdge")), V.bl (decide (e.1 = "Disconnected"))] ++ [V.bl (decide (e.1 = "InvalidText")), V.bl (decide (e.1 = "InvalidEdit")), V.bl (decide (e.1 = "InvalidFloor"))]) ++ [V.bl (decide (e.1 = "TooWeak")), V.bl (decide (e.1 = "InvalidIncrease")), V.bl (decide (e.1 = "SameVertex"))]) ++ [V.bl (decide (e.1 = "InvalidFlow")), V.bl (decide (e.1 = "UnknownVertex")), V.bl (decide (e.1 = "UnknownEdge"))]) ++ [V.bl (decide (e.1 = "OutOfRange")), V.bl (decide (e.1 = "NotWeakest")), V.bl (decide (e.1 = "NotLone"))])) := upd_same
    generalize upd H105 q (.lst (((([V.bl (decide (e.1 = "InvalidVertex")), V.bl (decide (e.1 = "InvalidEdge")), V.bl (decide (e.1 = "Disconnected"))] ++ [V.bl (decide (e.1 = "InvalidText")), V.bl (decide (e.1 = "InvalidEdit")), V.bl (decide (e.1 = "InvalidFloor"))]) ++ [V.bl (decide (e.1 = "TooWeak")), V.bl (decide (e.1 = "InvalidIncrease")), V.bl (decide (e.1 = "SameVertex"))]) ++ [V.bl (decide (e.1 = "InvalidFlow")), V.bl (decide (e.1 = "UnknownVertex")), V.bl (decide (e.1 = "UnknownEdge"))]) ++ [V.bl (decide (e.1 = "OutOfRange")), V.bl (decide (e.1 = "NotWeakest")), V.bl (decide (e.1 = "NotLone"))])) = H205 at u5 L5 ⊢
    have S5 := (S4.trans t5).trans u5
    exact k q _ S5 L5
/-- isinstance of an error, by all the classes -/
def spBases (K : PySem.W.Frag) : Sp := fun vs H Q _ => ∃ (a : Addr) (v : V) (e : Str × Str), vs = [.ref a] ∧ e ∈ errN ∧ IsErr H v a (cA K e.1) e.2 ∧ ∀ l H', Same H H' → H' l = some (.lst (baseN.map fun T => V.bl ((above e.1).contains T))) → Q (.ref l) H'
theorem sc_bases : FnScope ["_law_e", "_law_some"] ["_law_e"] (defScope s_L_bases) := ⟨rfl, rfl, rfl, by decide +kernel, rfl, by decide +kernel, by decide +kernel⟩
theorem c_bases (D : Def K mg "_law_bases" s_L_bases) (B : Bi mg) (ET : ErrT K mg) (IT : IsT K) : Callee P w K mg base CX0 1 "_law_bases" ["_law_e"] (spBases K) := by
  obtain ⟨f, fd, F, g⟩ := D
  refine ⟨f, fd, F.ok sc_bases (fun vs H Q E h => ?_) (fun cdv A outer s H vs Q E hr h => ?_), g, F.kp, F.bindsN (fun _ _ _ _ _ _ us hl => match us, hl with | [_], _ => rfl)⟩
  · obtain ⟨a, v, e, rfl, _⟩ := h
    rfl
  · have hu := hu_of hr
    have nd := sc_bases.nd
    refine ⟨_, PSs.nox (pss_cons (ps_set (i := 1) nd rfl (Or.inl rfl) (pe_lst (pa_cons (pe_callB WkX.call_isE (by rfl) B.n_isinstance (by decide +kernel) (pa_cons (pv 0) (pa_cons (pe_bltn (v := .ty "ValueError") (by rfl) B.n_ValueError (by decide +kernel) rfl) pa_nil))) (pa_cons (pe_callB WkX.call_isE (by rfl) B.n_isinstance (by decide +kernel) (pa_cons (pv 0) (pa_cons (pe_bltn (v := .ty "LookupError") (by rfl) B.n_LookupError (by decide +kernel) rfl) pa_nil))) (pa_cons (pe_callB WkX.call_isE (by rfl) B.n_isinstance (by decide +kernel) (pa_cons (pv 0) (pa_cons (pe_bltn (v := .ty "KeyError") (by rfl) B.n_KeyError (by decide +kernel) rfl) pa_nil))) (pa_cons (pe_callB WkX.call_isE (by rfl) B.n_isinstance (by decide +kernel) (pa_cons (pv 0) (pa_cons (pe_bltn (v := .ty "IndexError") (by rfl) B.n_IndexError (by decide +kernel) rfl) pa_nil))) pa_nil))))))
      (pss_cons (ps_set (i := 1) nd rfl (Or.inl rfl) (pe_op op_cat (pv 1) (pe_lst (pa_cons (pe_callB WkX.call_isE (by rfl) B.n_isinstance (by decide +kernel) (pa_cons (pv 0) (pa_cons (pe_bltn (v := .ty "ArithmeticError") (by rfl) B.n_ArithmeticError (by decide +kernel) rfl) pa_nil))) (pa_cons (pe_callB WkX.call_isE (by rfl) B.n_isinstance (by decide +kernel) (pa_cons (pv 0) (pa_cons (pe_bltn (v := .ty "OverflowError") (by rfl) B.n_OverflowError (by decide +kernel) rfl) pa_nil))) (pa_cons (pe_callB WkX.call_isE (by rfl) B.n_isinstance (by decide +kernel) (pa_cons (pv 0) (pa_cons (pe_bltn (v := .ty "ZeroDivisionError") (by rfl) B.n_ZeroDivisionError (by decide +kernel) rfl) pa_nil))) pa_nil))))))
      (pss_one (ps_ret (pe_op op_cat (pv 1) (pe_lst (pa_cons (pe_callB WkX.call_isE (by rfl) B.n_isinstance (by decide +kernel) (pa_cons (pv 0) (pa_cons (pe_bltn (v := .ty "RuntimeError") (by rfl) B.n_RuntimeError (by decide +kernel) rfl) pa_nil))) (pa_cons (pe_callB WkX.call_isE (by rfl) B.n_isinstance (by decide +kernel) (pa_cons (pv 0) (pa_cons (pe_bltn (v := .ty "TypeError") (by rfl) B.n_TypeError (by decide +kernel) rfl) pa_nil))) pa_nil)))))))), ?_⟩
    obtain ⟨a, v, e, rfl, he, ⟨d, ha, hd⟩, k⟩ := h
    have ET0 := err_t ET he
    have S0 : Same H H := Same.refl H
    refine ⟨_, rfl, a, d, _, _, _, _, _, _, _, (above e.1).contains "ValueError", rfl, ET0, S0 _ _ ha, S0 _ _ hd, .ty "ValueError", IT.blt e he "ValueError" (by decide +kernel), ?_⟩
    refine ⟨_, rfl, a, d, _, _, _, _, _, _, _, (above e.1).contains "LookupError", rfl, ET0, S0 _ _ ha, S0 _ _ hd, .ty "LookupError", IT.blt e he "LookupError" (by decide +kernel), ?_⟩
    refine ⟨_, rfl, a, d, _, _, _, _, _, _, _, (above e.1).contains "KeyError", rfl, ET0, S0 _ _ ha, S0 _ _ hd, .ty "KeyError", IT.blt e he "KeyError" (by decide +kernel), ?_⟩
    refine ⟨_, rfl, a, d, _, _, _, _, _, _, _, (above e.1).contains "IndexError", rfl, ET0, S0 _ _ ha, S0 _ _ hd, .ty "IndexError", IT.blt e he "IndexError" (by decide +kernel), ?_⟩
    refine ⟨(by show 4 ≤ sizeLine; decide), fun m nm => ?_⟩
    have t1 : Same H (upd H m (.lst [V.bl ((above e.1).contains "ValueError"), V.bl ((above e.1).contains "LookupError"), V.bl ((above e.1).contains "KeyError"), V.bl ((above e.1).contains "IndexError")])) := same_upd nm
    have L1 : upd H m (.lst [V.bl ((above e.1).contains "ValueError"), V.bl ((above e.1).contains "LookupError"), V.bl ((above e.1).contains "KeyError"), V.bl ((above e.1).contains "IndexError")]) m = some (.lst [V.bl ((above e.1).contains "ValueError"), V.bl ((above e.1).contains "LookupError"), V.bl ((above e.1).contains "KeyError"), V.bl ((above e.1).contains "IndexError")]) := upd_same
    generalize upd H m (.lst [V.bl ((above e.1).contains "ValueError"), V.bl ((above e.1).contains "LookupError"), V.bl ((above e.1).contains "KeyError"), V.bl ((above e.1).contains "IndexError")]) = H101 at t1 L1 ⊢
    have S1 := S0.trans t1
    refine ⟨_, rfl, ?_⟩
    refine ⟨_, rfl, a, d, _, _, _, _, _, _, _, (above e.1).contains "ArithmeticError", rfl, ET0, S1 _ _ ha, S1 _ _ hd, .ty "ArithmeticError", IT.blt e he "ArithmeticError" (by decide +kernel), ?_⟩
    refine ⟨_, rfl, a, d, _, _, _, _, _, _, _, (above e.1).contains "OverflowError", rfl, ET0, S1 _ _ ha, S1 _ _ hd, .ty "OverflowError", IT.blt e he "OverflowError" (by decide +kernel), ?_⟩
    refine ⟨_, rfl, a, d, _, _, _, _, _, _, _, (above e.1).contains "ZeroDivisionError", rfl, ET0, S1 _ _ ha, S1 _ _ hd, .ty "ZeroDivisionError", IT.blt e he "ZeroDivisionError" (by decide +kernel), ?_⟩
    refine ⟨(by show 3 ≤ sizeLine; decide), fun m nm => ?_⟩
    have t2 : Same H101 (upd H101 m (.lst [V.bl ((above e.1).contains "ArithmeticError"), V.bl ((above e.1).contains "OverflowError"), V.bl ((above e.1).contains "ZeroDivisionError")])) := same_upd nm
    have M : upd H101 m (.lst [V.bl ((above e.1).contains "ArithmeticError"), V.bl ((above e.1).contains "OverflowError"), V.bl ((above e.1).contains "ZeroDivisionError")]) m = some (.lst [V.bl ((above e.1).contains "ArithmeticError"), V.bl ((above e.1).contains "OverflowError"), V.bl ((above e.1).contains "ZeroDivisionError")]) := upd_same
    have L2 := t2 _ _ L1
    generalize upd H101 m (.lst [V.bl ((above e.1).contains "ArithmeticError"), V.bl ((above e.1).contains "OverflowError"), V.bl ((above e.1).contains "ZeroDivisionError")]) = H102 at t2 M L2 ⊢
    refine ⟨_, m, _, _, rfl, rfl, L2, M, (by show 7 ≤ sizeLine; decide), fun q nq => ?_⟩
    have u2 : Same H102 (upd H102 q (.lst ([V.bl ((above e.1).contains "ValueError"), V.bl ((above e.1).contains "LookupError"), V.bl ((above e.1).contains "KeyError"), V.bl ((above e.1).contains "IndexError")] ++ [V.bl ((above e.1).contains "ArithmeticError"), V.bl ((above e.1).contains "OverflowError"), V.bl ((above e.1).contains "ZeroDivisionError")]))) := same_upd nq
    have L2 : upd H102 q (.lst ([V.bl ((above e.1).contains "ValueError"), V.bl ((above e.1).contains "LookupError"), V.bl ((above e.1).contains "KeyError"), V.bl ((above e.1).contains "IndexError")] ++ [V.bl ((above e.1).contains "ArithmeticError"), V.bl ((above e.1).contains "OverflowError"), V.bl ((above e.1).contains "ZeroDivisionError")])) q = some (.lst ([V.bl ((above e.1).contains "ValueError"), V.bl ((above e.1).contains "LookupError"), V.bl ((above e.1).contains "KeyError"), V.bl ((above e.1).contains "IndexError")] ++ [V.bl ((above e.1).contains "ArithmeticError"), V.bl ((above e.1).contains "OverflowError"), V.bl ((above e.1).contains "ZeroDivisionError")])) := upd_same
    generalize upd H102 q (.lst ([V.bl ((above e.1).contains "ValueError"), V.bl ((above e.1).contains "LookupError"), V.bl ((above e.1).contains "KeyError"), V.bl ((above e.1).contains "IndexError")] ++ [V.bl ((above e.1).contains "ArithmeticError"), V.bl ((above e.1).contains "OverflowError"), V.bl ((above e.1).contains "ZeroDivisionError")])) = H202 at u2 L2 ⊢
    have S2 := (S1.trans t2).trans u2
    refine ⟨_, rfl, ?_⟩
    refine ⟨_, rfl, a, d, _, _, _, _, _, _, _, (above e.1).contains "RuntimeError", rfl, ET0, S2 _ _ ha, S2 _ _ hd, .ty "RuntimeError", IT.blt e he "RuntimeError" (by decide +kernel), ?_⟩
    refine ⟨_, rfl, a, d, _, _, _, _, _, _, _, (above e.1).contains "TypeError", rfl, ET0, S2 _ _ ha, S2 _ _ hd, .ty "TypeError", IT.blt e he "TypeError" (by decide +kernel), ?_⟩
    refine ⟨(by show 2 ≤ sizeLine; decide), fun m nm => ?_⟩
    have t3 : Same H202 (upd H202 m (.lst [V.bl ((above e.1).contains "RuntimeError"), V.bl ((above e.1).contains "TypeError")])) := same_upd nm
    have M : upd H202 m (.lst [V.bl ((above e.1).contains "RuntimeError"), V.bl ((above e.1).contains "TypeError")]) m = some (.lst [V.bl ((above e.1).contains "RuntimeError"), V.bl ((above e.1).contains "TypeError")]) := upd_same
    have L3 := t3 _ _ L2
    generalize upd H202 m (.lst [V.bl ((above e.1).contains "RuntimeError"), V.bl ((above e.1).contains "TypeError")]) = H103 at t3 M L3 ⊢
    refine ⟨_, m, _, _, rfl, rfl, L3, M, (by show 9 ≤ sizeLine; decide), fun q nq => ?_⟩
    have u3 : Same H103 (upd H103 q (.lst (([V.bl ((above e.1).contains "ValueError"), V.bl ((above e.1).contains "LookupError"), V.bl ((above e.1).contains "KeyError"), V.bl ((above e.1).contains "IndexError")] ++ [V.bl ((above e.1).contains "ArithmeticError"), V.bl ((above e.1).contains "OverflowError"), V.bl ((above e.1).contains "ZeroDivisionError")]) ++ [V.bl ((above e.1).contains "RuntimeError"), V.bl ((above e.1).contains "TypeError")]))) := same_upd nq
    have L3 : upd H103 q (.lst (([V.bl ((above e.1).contains "ValueError"), V.bl ((above e.1).contains "LookupError"), V.bl ((above e.1).contains "KeyError"), V.bl ((above e.1).contains "IndexError")] ++ [V.bl ((above e.1).contains "ArithmeticError"), V.bl ((above e.1).contains "OverflowError"), V.bl ((above e.1).contains "ZeroDivisionError")]) ++ [V.bl ((above e.1).contains "RuntimeError"), V.bl ((above e.1).contains "TypeError")])) q = some (.lst (([V.bl ((above e.1).contains "ValueError"), V.bl ((above e.1).contains "LookupError"), V.bl ((above e.1).contains "KeyError"), V.bl ((above e.1).contains "IndexError")] ++ [V.bl ((above e.1).contains "ArithmeticError"), V.bl ((above e.1).contains "OverflowError"), V.bl ((above e.1).contains "ZeroDivisionError")]) ++ [V.bl ((above e.1).contains "RuntimeError"), V.bl ((above e.1).contains "TypeError")])) := upd_same
    generalize upd H103 q (.lst (([V.bl ((above e.1).contains "ValueError"), V.bl ((above e.1).contains "LookupError"), V.bl ((above e.1).contains "KeyError"), V.bl ((above e.1).contains "IndexError")] ++ [V.bl ((above e.1).contains "ArithmeticError"), V.bl ((above e.1).contains "OverflowError"), V.bl ((above e.1).contains "ZeroDivisionError")]) ++ [V.bl ((above e.1).contains "RuntimeError"), V.bl ((above e.1).contains "TypeError")])) = H203 at u3 L3 ⊢
    have S3 := (S2.trans t3).trans u3
    exact k q _ S3 L3
end
end Wk
namespace Wk
open PySem PySem.Spec PyProof.Rows L2
section
variable {P : Program} {w : World} {K : PySem.W.Frag} {mg : Str → Option Value} {base : Heap}
def dueN : List Str := ["V", "V", "V", "V", "V", "V", "R", "V", "V", "V", "LK", "LK", "LI", "L", "L"]
def dueS : Str := "VLKIAOZRT"
/-- which of the letters stand in y -/
def dueRow (y : Str) : List V := dueS.cps.toList.map fun c => V.bl (decide (c ∈ y.cps.toList))
/-- the lists at ls hold rows, none of them stands at D -/
def Rows {α : Type} (row : α → List V) (D : Addr) (H : Hp) : List Addr → List α → Prop
  | [], [] => True
  | l :: ls, y :: ys => (l ≠ D ∧ H l = some (.lst (row y))) ∧ Rows row D H ls ys
  | _, _ => False
theorem Rows.but {α : Type} {row : α → List V} {D : Addr} {H H' : Hp} (b : But D H H') : ∀ {ls : List Addr} {ys : List α}, Rows row D H ls ys → Rows row D H' ls ys
  | [], [], _ => trivial
  | [], _ :: _, h => h.elim
  | _ :: _, [], h => h.elim
  | _ :: _, _ :: _, h => ⟨⟨h.1.1, b _ _ h.1.2 h.1.1⟩, Rows.but b h.2⟩
theorem Rows.snoc {α : Type} {row : α → List V} {D : Addr} {H : Hp} {l : Addr} {y : α} (hl : l ≠ D) (h : H l = some (.lst (row y))) : ∀ {ls : List Addr} {ys : List α}, Rows row D H ls ys → Rows row D H (ls ++ [l]) (ys ++ [y])
  | [], [], _ => ⟨⟨hl, h⟩, trivial⟩
  | [], _ :: _, q => q.elim
  | _ :: _, [], q => q.elim
  | _ :: _, _ :: _, q => ⟨q.1, Rows.snoc hl h q.2⟩
theorem Rows.len {α : Type} {row : α → List V} {D : Addr} {H : Hp} : ∀ {ls : List Addr} {ys : List α}, Rows row D H ls ys → ls.length = ys.length
  | [], [], _ => rfl
  | [], _ :: _, q => q.elim
  | _ :: _, [], q => q.elim
  | _ :: _, _ :: _, q => congrArg Nat.succ (Rows.len q.2)
theorem take_snoc {α : Type} {l : List α} {i : Nat} {x : α} (h : l[i]? = some x) : l.take (i + 1) = l.take i ++ [x] := by
  rw [List.take_add_one, h]
  rfl
def spDue : Sp := fun vs H Q _ => vs = [] ∧ ∀ (l : Addr) (ls : List Addr) H', Same H H' → H' l = some (.lst (ls.map V.ref)) → Rows dueRow l H' ls dueN → Q (.ref l) H'
theorem sc_due : FnScope ["_law_under", "_law_letter", "_law_one"] [] (defScope s_L_due_bases) := ⟨rfl, rfl, rfl, by decide +kernel, rfl, by decide +kernel, by decide +kernel⟩
theorem c_due (D : Def K mg "_law_due_bases" s_L_due_bases) (B : Bi mg) : Callee P w K mg base CX0 1 "_law_due_bases" [] spDue := by
  obtain ⟨f, fd, F, g⟩ := D
  refine ⟨f, fd, F.ok sc_due (fun vs H Q E h => ?_) (fun cdv A outer s H vs Q E hr h => ?_), g, F.kp, F.bindsN (fun _ _ _ _ _ _ us hl => match us, hl with | [], _ => rfl)⟩
  · obtain ⟨rfl, _⟩ := h
    rfl
  · have hu := hu_of hr
    have nd := sc_due.nd
    refine ⟨_, PSs.nox (pss_cons (ps_set (i := 0) nd rfl (Or.inl rfl) (pe_op op_cat (pe_op op_cat (pe_op op_cat (pe_op op_rep (pe_lst (pa_cons pe_str pa_nil)) pe_int) (pe_lst (pa_cons pe_str pa_nil))) (pe_op op_rep (pe_lst (pa_cons pe_str pa_nil)) pe_int)) (pe_lst (pa_cons pe_str (pa_cons pe_str (pa_cons pe_str (pa_cons pe_str (pa_cons pe_str pa_nil))))))))
      (pss_one (ps_ret (pe_lc (own := [("_law_one", 2)]) (by rfl) nd (pi_list (pv 0)) (blkOk_by (by kernel_rfl)) (fun _ _ _ _ _ => (pg_name (i := 2) nd rfl (Or.inr rfl))) (fun _ _ _ _ _ => pts_nil) (fun _ _ _ _ _ => (pe_lc (own := [("_law_letter", 1)]) (by rfl) nd (pi_str pe_str) (blkOk_by (by kernel_rfl)) (fun _ _ _ _ _ => (pg_name (i := 1) nd rfl (Or.inl rfl))) (fun _ _ _ _ _ => pts_nil) (fun _ _ _ _ _ => (pe_cmpR op_in_sign (pv 1) (pv 2) (by rfl))))))))), ?_⟩
    obtain ⟨rfl, k⟩ := h
    refine ⟨by decide, fun p1 n1 => ?_⟩
    generalize gg1 : upd _ p1 _ = G1; obtain ⟨s1, L1⟩ := new_eq n1 gg1; clear gg1
    refine ⟨p1, _, _, rfl, rfl, L1, by decide, by decide, (by show 1 * 6 ≤ sizeLine; decide), fun p2 n2 => ?_⟩
    generalize gg2 : upd _ p2 _ = G2; obtain ⟨s2, L2⟩ := new_eq n2 gg2; clear gg2
    refine ⟨by decide, fun p3 n3 => ?_⟩
    generalize gg3 : upd _ p3 _ = G3; obtain ⟨s3, L3⟩ := new_eq n3 gg3; clear gg3
    refine ⟨p2, p3, _, _, rfl, rfl, s3 _ _ L2, L3, by decide, fun p4 n4 => ?_⟩
    generalize gg4 : upd _ p4 _ = G4; obtain ⟨s4, L4⟩ := new_eq n4 gg4; clear gg4
    refine ⟨by decide, fun p5 n5 => ?_⟩
    generalize gg5 : upd _ p5 _ = G5; obtain ⟨s5, L5⟩ := new_eq n5 gg5; clear gg5
    refine ⟨p5, _, _, rfl, rfl, L5, by decide, by decide, (by show 1 * 3 ≤ sizeLine; decide), fun p6 n6 => ?_⟩
    generalize gg6 : upd _ p6 _ = G6; obtain ⟨s6, L6⟩ := new_eq n6 gg6; clear gg6
    refine ⟨p4, p6, _, _, rfl, rfl, s6 _ _ (s5 _ _ L4), L6, by decide, fun p7 n7 => ?_⟩
    generalize gg7 : upd _ p7 _ = G7; obtain ⟨s7, L7⟩ := new_eq n7 gg7; clear gg7
    refine ⟨by decide, fun p8 n8 => ?_⟩
    generalize gg8 : upd _ p8 _ = G8; obtain ⟨s8, L8⟩ := new_eq n8 gg8; clear gg8
    refine ⟨p7, p8, _, _, rfl, rfl, s8 _ _ L7, L8, by decide, fun p9 n9 => ?_⟩
    generalize gg9 : upd _ p9 _ = G9; obtain ⟨s9, L9⟩ := new_eq n9 gg9; clear gg9
    have S9 : Same H G9 := s1.trans (s2.trans (s3.trans (s4.trans (s5.trans (s6.trans (s7.trans (s8.trans s9)))))))
    have L9' : G9 p9 = some (.lst (dueN.map V.str)) := L9
    refine ⟨_, rfl, p9, rfl, ⟨_, SqL.of L9⟩, fun D nD => ?_⟩
    refine lc_it (walk_list (xs := dueN.map V.str)) (fun i H2 => ∃ ls : List Addr, But D G9 H2 ∧ H2 D = some (.lst (ls.map V.ref)) ∧ Rows dueRow D H2 ls (dueN.take i)) ⟨[], ?_, upd_same, trivial⟩ ?_ ?_ ?_
    · exact (But.refl D G9).upd
    · rintro i H2 hi ⟨ls, b, _, _⟩
      exact SqL.of (b _ _ L9' (ne_of_none L9' nD))
    · rintro i x H2 H2' hi ⟨ls, b, hD, hR⟩ ⟨rfl, hx⟩
      obtain ⟨y, hy, rfl⟩ : ∃ y, dueN[i]? = some y ∧ x = V.str y := by
        rw [List.getElem?_map] at hx
        cases e : dueN[i]? with
        | none => rw [e] at hx; cases hx
        | some y => rw [e] at hx; exact ⟨y, rfl, (Option.some.inj hx).symm⟩
      refine ⟨rfl, tYes_if ?_⟩
      refine ⟨_, rfl, fun D2 nD2 => ?_⟩
      have ne2 : D2 ≠ D := Ne.symm (ne_of_none hD nD2)
      refine lc_it (walk_str (z := dueS)) (fun j H3 => H3 = upd H2' D2 (.lst ((dueS.cps.toList.take j).map fun c => V.bl (decide (c ∈ y.cps.toList))))) rfl ?_ ?_ ?_
      · intros
        trivial
      · rintro j x H3 H3' hj rfl ⟨rfl, c, hc, rfl⟩
        refine ⟨rfl, tYes_if ?_⟩
        refine ⟨_, rfl, _, rfl, c, y, rfl, rfl, _, upd_same, ?_, ?_⟩
        · rw [List.length_map, List.length_take]
          exact Nat.lt_of_le_of_lt (Nat.min_le_left _ _) (Nat.lt_trans hj (by decide))
        · rw [upd_upd, take_snoc (x := c) (by rw [Array.getElem?_toList]; exact hc), List.map_append]
          rfl
      · rintro H3 rfl
        have eR : (dueS.cps.toList.take dueS.cps.size).map (fun c => V.bl (decide (c ∈ y.cps.toList))) = dueRow y := by
          rw [List.take_of_length_le (by simp)]
          rfl
        rw [eR]
        have bn : But D G9 (upd H2' D2 (.lst (dueRow y))) := b.trans (But.of_same (same_upd nD2))
        have hD' : upd H2' D2 (.lst (dueRow y)) D = some (.lst (ls.map V.ref)) := (same_upd nD2) _ _ hD
        refine ⟨_, hD', ?_, ls ++ [D2], bn.upd, ?_, ?_⟩
        · rw [List.length_map, hR.len, List.length_take]
          exact Nat.lt_of_le_of_lt (Nat.min_le_left _ _) (Nat.lt_of_lt_of_le hi (by decide))
        · rw [upd_same, List.map_append]
          rfl
        · rw [take_snoc hy]
          refine Rows.but ((But.refl D _).upd) ?_
          exact Rows.snoc ne2 upd_same (hR.but (But.of_same (same_upd nD2)))
    · rintro H2 ⟨ls, b, hD, hR⟩
      refine k D ls H2 (fun c o e => b c o (S9 c o e) (ne_of_none (S9 c o e) nD)) hD ?_
      exact hR
end
end Wk
namespace Wk
open PySem PySem.Spec PyProof.Rows L2
section
variable {P : Program} {w : World} {K : PySem.W.Frag} {mg : Str → Option Value} {base : Heap}
def spFields (K : PySem.W.Frag) : Sp := fun vs H Q _ => ∃ (l : Addr) (as : List Addr) (v : V), vs = [.ref l] ∧ H l = some (.lst (as.map V.ref)) ∧ Errs K H v as errN ∧ ∀ q H', Same H H' → H' q = some (.lst (List.replicate 15 v)) → Q (.ref q) H'
theorem sc_fields : FnScope ["_law_every", "_law_some"] ["_law_every"] (defScope s_L_fields) := ⟨rfl, rfl, rfl, by decide +kernel, rfl, by decide +kernel, by decide +kernel⟩
theorem c_fields (D : Def K mg "_law_fields" s_L_fields) (B : Bi mg) (ET : ErrT K mg) : Callee P w K mg base CX0 1 "_law_fields" ["_law_every"] (spFields K) := by
  obtain ⟨f, fd, F, g⟩ := D
  refine ⟨f, fd, F.ok sc_fields (fun vs H Q E h => ?_) (fun cdv A outer s H vs Q E hr h => ?_), g, F.kp, F.bindsN (fun _ _ _ _ _ _ us hl => match us, hl with | [_], _ => rfl)⟩
  · obtain ⟨l, as, v, rfl, _⟩ := h
    rfl
  · have hu := hu_of hr
    have nd := sc_fields.nd
    refine ⟨_, PSs.nox (pss_cons (ps_set (i := 1) nd rfl (Or.inl rfl) (pe_lst (pa_cons (WkX.pe_exF ET.t_InvalidVertex (pe_ix ix_list (pv 0) pe_int (fun _ _ => rfl))) (pa_cons (WkX.pe_exF ET.t_InvalidEdge (pe_ix ix_list (pv 0) pe_int (fun _ _ => rfl))) (pa_cons (WkX.pe_exF ET.t_Disconnected (pe_ix ix_list (pv 0) pe_int (fun _ _ => rfl))) (pa_cons (WkX.pe_exF ET.t_InvalidText (pe_ix ix_list (pv 0) pe_int (fun _ _ => rfl))) (pa_cons (WkX.pe_exF ET.t_InvalidEdit (pe_ix ix_list (pv 0) pe_int (fun _ _ => rfl))) (pa_cons (WkX.pe_exF ET.t_InvalidFloor (pe_ix ix_list (pv 0) pe_int (fun _ _ => rfl))) pa_nil))))))))
      (pss_cons (ps_set (i := 1) nd rfl (Or.inl rfl) (pe_op op_cat (pe_op op_cat (pv 1) (pe_lst (pa_cons (WkX.pe_exF ET.t_TooWeak (pe_ix ix_list (pv 0) pe_int (fun _ _ => rfl))) pa_nil))) (pe_lst (pa_cons (WkX.pe_exF ET.t_InvalidIncrease (pe_ix ix_list (pv 0) pe_int (fun _ _ => rfl))) (pa_cons (WkX.pe_exF ET.t_SameVertex (pe_ix ix_list (pv 0) pe_int (fun _ _ => rfl))) (pa_cons (WkX.pe_exF ET.t_InvalidFlow (pe_ix ix_list (pv 0) pe_int (fun _ _ => rfl))) (pa_cons (WkX.pe_exF ET.t_UnknownVertex (pe_ix ix_list (pv 0) pe_int (fun _ _ => rfl))) pa_nil)))))))
      (pss_one (ps_ret (pe_op op_cat (pv 1) (pe_lst (pa_cons (WkX.pe_exF ET.t_UnknownEdge (pe_ix ix_list (pv 0) pe_int (fun _ _ => rfl))) (pa_cons (WkX.pe_exF ET.t_OutOfRange (pe_ix ix_list (pv 0) pe_int (fun _ _ => rfl))) (pa_cons (WkX.pe_exF ET.t_NotWeakest (pe_ix ix_list (pv 0) pe_int (fun _ _ => rfl))) (pa_cons (WkX.pe_exF ET.t_NotLone (pe_ix ix_list (pv 0) pe_int (fun _ _ => rfl))) pa_nil)))))))))), ?_⟩
    obtain ⟨l, as, v, rfl, hl, hE, k⟩ := h
    obtain ⟨a0, ha0, d0, g0, m0⟩ := hE.get (i := 0) (e := ("InvalidVertex", "value")) rfl
    refine ⟨_, rfl, l, _, _, .ref a0, rfl, rfl, SqL.of ((Same.refl H) _ _ hl), at_ref ha0, a0, d0, _, v, rfl, (Same.refl H) _ _ g0, (Same.refl H) _ _ m0, (by simp [List.lookup]), ?_⟩
    obtain ⟨a1, ha1, d1, g1, m1⟩ := hE.get (i := 1) (e := ("InvalidEdge", "value")) rfl
    refine ⟨_, rfl, l, _, _, .ref a1, rfl, rfl, SqL.of ((Same.refl H) _ _ hl), at_ref ha1, a1, d1, _, v, rfl, (Same.refl H) _ _ g1, (Same.refl H) _ _ m1, (by simp [List.lookup]), ?_⟩
    obtain ⟨a2, ha2, d2, g2, m2⟩ := hE.get (i := 2) (e := ("Disconnected", "side")) rfl
    refine ⟨_, rfl, l, _, _, .ref a2, rfl, rfl, SqL.of ((Same.refl H) _ _ hl), at_ref ha2, a2, d2, _, v, rfl, (Same.refl H) _ _ g2, (Same.refl H) _ _ m2, (by simp [List.lookup]), ?_⟩
    obtain ⟨a3, ha3, d3, g3, m3⟩ := hE.get (i := 3) (e := ("InvalidText", "line")) rfl
    refine ⟨_, rfl, l, _, _, .ref a3, rfl, rfl, SqL.of ((Same.refl H) _ _ hl), at_ref ha3, a3, d3, _, v, rfl, (Same.refl H) _ _ g3, (Same.refl H) _ _ m3, (by simp [List.lookup]), ?_⟩
    obtain ⟨a4, ha4, d4, g4, m4⟩ := hE.get (i := 4) (e := ("InvalidEdit", "index")) rfl
    refine ⟨_, rfl, l, _, _, .ref a4, rfl, rfl, SqL.of ((Same.refl H) _ _ hl), at_ref ha4, a4, d4, _, v, rfl, (Same.refl H) _ _ g4, (Same.refl H) _ _ m4, (by simp [List.lookup]), ?_⟩
    obtain ⟨a5, ha5, d5, g5, m5⟩ := hE.get (i := 5) (e := ("InvalidFloor", "value")) rfl
    refine ⟨_, rfl, l, _, _, .ref a5, rfl, rfl, SqL.of ((Same.refl H) _ _ hl), at_ref ha5, a5, d5, _, v, rfl, (Same.refl H) _ _ g5, (Same.refl H) _ _ m5, (by simp [List.lookup]), ?_⟩
    refine ⟨by show 6 ≤ sizeLine; decide, fun p1 n1 => ?_⟩
    generalize gg1 : upd _ p1 _ = G1; obtain ⟨s1, L1⟩ := new_eq n1 gg1; clear gg1
    refine ⟨_, rfl, ?_⟩
    obtain ⟨a6, ha6, d6, g6, m6⟩ := hE.get (i := 6) (e := ("TooWeak", "found")) rfl
    refine ⟨_, rfl, l, _, _, .ref a6, rfl, rfl, SqL.of (s1 _ _ hl), at_ref ha6, a6, d6, _, v, rfl, s1 _ _ g6, s1 _ _ m6, (by simp [List.lookup]), ?_⟩
    refine ⟨by show 1 ≤ sizeLine; decide, fun p2 n2 => ?_⟩
    generalize gg2 : upd _ p2 _ = G2; obtain ⟨s2, L2⟩ := new_eq n2 gg2; clear gg2
    refine ⟨p1, p2, _, _, rfl, rfl, s2 _ _ L1, L2, (by show 7 ≤ sizeLine; decide), fun p3 n3 => ?_⟩
    generalize gg3 : upd _ p3 _ = G3; obtain ⟨s3, L3⟩ := new_eq n3 gg3; clear gg3
    obtain ⟨a7, ha7, d7, g7, m7⟩ := hE.get (i := 7) (e := ("InvalidIncrease", "value")) rfl
    refine ⟨_, rfl, l, _, _, .ref a7, rfl, rfl, SqL.of ((s1.trans (s2.trans s3)) _ _ hl), at_ref ha7, a7, d7, _, v, rfl, (s1.trans (s2.trans s3)) _ _ g7, (s1.trans (s2.trans s3)) _ _ m7, (by simp [List.lookup]), ?_⟩
    obtain ⟨a8, ha8, d8, g8, m8⟩ := hE.get (i := 8) (e := ("SameVertex", "value")) rfl
    refine ⟨_, rfl, l, _, _, .ref a8, rfl, rfl, SqL.of ((s1.trans (s2.trans s3)) _ _ hl), at_ref ha8, a8, d8, _, v, rfl, (s1.trans (s2.trans s3)) _ _ g8, (s1.trans (s2.trans s3)) _ _ m8, (by simp [List.lookup]), ?_⟩
    obtain ⟨a9, ha9, d9, g9, m9⟩ := hE.get (i := 9) (e := ("InvalidFlow", "value")) rfl
    refine ⟨_, rfl, l, _, _, .ref a9, rfl, rfl, SqL.of ((s1.trans (s2.trans s3)) _ _ hl), at_ref ha9, a9, d9, _, v, rfl, (s1.trans (s2.trans s3)) _ _ g9, (s1.trans (s2.trans s3)) _ _ m9, (by simp [List.lookup]), ?_⟩
    obtain ⟨a10, ha10, d10, g10, m10⟩ := hE.get (i := 10) (e := ("UnknownVertex", "value")) rfl
    refine ⟨_, rfl, l, _, _, .ref a10, rfl, rfl, SqL.of ((s1.trans (s2.trans s3)) _ _ hl), at_ref ha10, a10, d10, _, v, rfl, (s1.trans (s2.trans s3)) _ _ g10, (s1.trans (s2.trans s3)) _ _ m10, (by simp [List.lookup]), ?_⟩
    refine ⟨by show 4 ≤ sizeLine; decide, fun p4 n4 => ?_⟩
    generalize gg4 : upd _ p4 _ = G4; obtain ⟨s4, L4⟩ := new_eq n4 gg4; clear gg4
    refine ⟨p3, p4, _, _, rfl, rfl, s4 _ _ L3, L4, (by show 11 ≤ sizeLine; decide), fun p5 n5 => ?_⟩
    generalize gg5 : upd _ p5 _ = G5; obtain ⟨s5, L5⟩ := new_eq n5 gg5; clear gg5
    refine ⟨_, rfl, ?_⟩
    obtain ⟨a11, ha11, d11, g11, m11⟩ := hE.get (i := 11) (e := ("UnknownEdge", "value")) rfl
    refine ⟨_, rfl, l, _, _, .ref a11, rfl, rfl, SqL.of ((s1.trans (s2.trans (s3.trans (s4.trans s5)))) _ _ hl), at_ref ha11, a11, d11, _, v, rfl, (s1.trans (s2.trans (s3.trans (s4.trans s5)))) _ _ g11, (s1.trans (s2.trans (s3.trans (s4.trans s5)))) _ _ m11, (by simp [List.lookup]), ?_⟩
    obtain ⟨a12, ha12, d12, g12, m12⟩ := hE.get (i := 12) (e := ("OutOfRange", "value")) rfl
    refine ⟨_, rfl, l, _, _, .ref a12, rfl, rfl, SqL.of ((s1.trans (s2.trans (s3.trans (s4.trans s5)))) _ _ hl), at_ref ha12, a12, d12, _, v, rfl, (s1.trans (s2.trans (s3.trans (s4.trans s5)))) _ _ g12, (s1.trans (s2.trans (s3.trans (s4.trans s5)))) _ _ m12, (by simp [List.lookup]), ?_⟩
    obtain ⟨a13, ha13, d13, g13, m13⟩ := hE.get (i := 13) (e := ("NotWeakest", "value")) rfl
    refine ⟨_, rfl, l, _, _, .ref a13, rfl, rfl, SqL.of ((s1.trans (s2.trans (s3.trans (s4.trans s5)))) _ _ hl), at_ref ha13, a13, d13, _, v, rfl, (s1.trans (s2.trans (s3.trans (s4.trans s5)))) _ _ g13, (s1.trans (s2.trans (s3.trans (s4.trans s5)))) _ _ m13, (by simp [List.lookup]), ?_⟩
    obtain ⟨a14, ha14, d14, g14, m14⟩ := hE.get (i := 14) (e := ("NotLone", "value")) rfl
    refine ⟨_, rfl, l, _, _, .ref a14, rfl, rfl, SqL.of ((s1.trans (s2.trans (s3.trans (s4.trans s5)))) _ _ hl), at_ref ha14, a14, d14, _, v, rfl, (s1.trans (s2.trans (s3.trans (s4.trans s5)))) _ _ g14, (s1.trans (s2.trans (s3.trans (s4.trans s5)))) _ _ m14, (by simp [List.lookup]), ?_⟩
    refine ⟨by show 4 ≤ sizeLine; decide, fun p6 n6 => ?_⟩
    generalize gg6 : upd _ p6 _ = G6; obtain ⟨s6, L6⟩ := new_eq n6 gg6; clear gg6
    refine ⟨p5, p6, _, _, rfl, rfl, s6 _ _ L5, L6, (by show 15 ≤ sizeLine; decide), fun p7 n7 => ?_⟩
    generalize gg7 : upd _ p7 _ = G7; obtain ⟨s7, L7⟩ := new_eq n7 gg7; clear gg7
    exact k p7 _ (s1.trans (s2.trans (s3.trans (s4.trans (s5.trans (s6.trans s7)))))) L7
end
end Wk
namespace Wk
open PySem PySem.Spec PyProof.Rows L2
section
variable {P : Program} {w : World} {K : PySem.W.Frag} {mg : Str → Option Value} {base : Heap}
theorem kinds_eq : ∀ (i : Nat) (e : Str × Str), i < 15 → errN[i]? = some e → errN.map (fun y => decide (e.1 = y.1)) = (List.range 15).map (fun j => decide (V.int (0 + (i : Int)) = V.int (0 + ((j : Nat) : Int)))) := by
  have key : ∀ i : Fin 15, (errN[i.val]?).all (fun e => decide (errN.map (fun y => decide (e.1 = y.1)) = (List.range 15).map (fun j => decide (V.int (0 + ((i.val : Nat) : Int)) = V.int (0 + ((j : Nat) : Int)))))) = true := by decide +kernel
  intro i e hi he
  have q := key ⟨i, hi⟩
  have he' : errN[(⟨i, hi⟩ : Fin 15).val]? = some e := he
  rw [he'] at q
  exact of_decide_eq_true (show decide _ = true from q)
theorem bools_shaped : ∀ l : List Bool, PyData.canLayAll0 (l.map PyData.bool) = true ∧ PyData.depthAll (l.map PyData.bool) = 0
  | [] => ⟨rfl, rfl⟩
  | b :: l => by
    obtain ⟨h1, h2⟩ := bools_shaped l
    refine ⟨?_, ?_⟩
    · show (PyData.canLay0 (.bool b) && PyData.canLayAll0 (l.map PyData.bool)) = true
      rw [h1]
      rfl
    · show max 0 (PyData.depthAll (l.map PyData.bool)) = 0
      rw [h2]
      rfl
theorem list_shaped (l : List Bool) : SeqAt.shaped (.list (l.map PyData.bool)) = true := by
  obtain ⟨h1, h2⟩ := bools_shaped l
  show (PyData.canLayAll0 (l.map PyData.bool) && decide (PyData.depthAll (l.map PyData.bool) + 1 ≤ 64)) = true
  rw [h1, h2]
  rfl
theorem dp_bools {K : PySem.W.Frag} {H : Hp} : ∀ l : List Bool, DpAll K H (l.map V.bl) (l.map PyData.bool)
  | [] => .nil
  | x :: l => .cons (.bl x) (dp_bools l)
theorem all_shaped {α : Type} (g : α → List Bool) : ∀ ys : List α, PyData.canLayAll0 (ys.map fun y => PyData.list ((g y).map PyData.bool)) = true ∧ PyData.depthAll (ys.map fun y => PyData.list ((g y).map PyData.bool)) ≤ 1
  | [] => ⟨rfl, Nat.zero_le _⟩
  | y :: ys => by
    obtain ⟨h1, h2⟩ := all_shaped g ys
    obtain ⟨h3, h4⟩ := bools_shaped (g y)
    refine ⟨?_, ?_⟩
    · show (PyData.canLayAll0 ((g y).map PyData.bool) && PyData.canLayAll0 (ys.map fun y => PyData.list ((g y).map PyData.bool))) = true
      rw [h1, h3]
      rfl
    · show max (PyData.depthAll ((g y).map PyData.bool) + 1) (PyData.depthAll (ys.map fun y => PyData.list ((g y).map PyData.bool))) ≤ 1
      rw [h4]
      omega
theorem lists_shaped {α : Type} (g : α → List Bool) (ys : List α) : SeqAt.shaped (.list (ys.map fun y => PyData.list ((g y).map PyData.bool))) = true := by
  obtain ⟨h1, h2⟩ := all_shaped g ys
  show (PyData.canLayAll0 (ys.map fun y => PyData.list ((g y).map PyData.bool)) && decide (PyData.depthAll (ys.map fun y => PyData.list ((g y).map PyData.bool)) + 1 ≤ 64)) = true
  rw [h1]
  exact decide_eq_true (by omega)
def baseRow (e : Str × Str) : List V := baseN.map fun T => V.bl ((above e.1).contains T)
def baseB (e : Str × Str) : List Bool := baseN.map fun T => (above e.1).contains T
def dueB (y : Str) : List Bool := dueS.cps.toList.map fun c => decide (c ∈ y.cps.toList)
theorem bases_eq : errN.map (fun e => PyData.list ((baseB e).map PyData.bool)) = dueN.map (fun y => PyData.list ((dueB y).map PyData.bool)) := by
  have key : errN.map baseB = dueN.map dueB := by decide +kernel
  have q := congrArg (List.map fun l => PyData.list (l.map PyData.bool)) key
  rw [List.map_map, List.map_map] at q
  exact q
theorem base_row (e : Str × Str) : baseRow e = (baseB e).map V.bl := by
  unfold baseRow baseB
  rw [List.map_map]
  rfl
theorem due_row (y : Str) : dueRow y = (dueB y).map V.bl := by
  unfold dueRow dueB
  rw [List.map_map]
  rfl
/-- lists of lists of truth values, as data -/
theorem rows_dp {α : Type} {K : PySem.W.Frag} {D : Addr} {H : Hp} {g : α → List Bool} {row : α → List V} (hr : ∀ y, row y = (g y).map V.bl) : ∀ {ls : List Addr} {ys : List α}, Rows row D H ls ys → DpAll K H (ls.map V.ref) (ys.map fun y => PyData.list ((g y).map PyData.bool))
  | [], [], _ => .nil
  | [], _ :: _, h => h.elim
  | _ :: _, [], h => h.elim
  | l :: ls, y :: ys, h => .cons (.lst (SqL.of h.1.2) (by rw [hr y]; exact dp_bools (g y))) (rows_dp hr h.2)
def spLaw (K : PySem.W.Frag) : Sp := fun vs H Q _ => ∃ (a : Addr) (ns : List Int), vs = [.ref a] ∧ SqL K H a (ns.map V.int) ∧ ns.length ≤ 63 ∧ ∀ H', Q (.bl true) H'
theorem sc_law10 : FnScope ["_law_script", "_law_pen_here", "_law_bout", "_law_a", "_law_every", "_law_k", "_law_j", "_law_e"] ["_law_script"] (defScope s_law) := ⟨rfl, rfl, rfl, by decide +kernel, rfl, by decide +kernel, by decide +kernel⟩
theorem ok_law {f : Addr} {fd : FuncData} (F : FnP K "law" "law" s_law f fd) (B : Bi mg) (S : WkG.Sm K) {t1 t2 : Tok} {CN : Addr} {mc : Value} (g_mv : mg "MAX_VERTICES" = some (.int 40 t1)) (g_mw : mg "MAX_WEIGHT" = some (.int 1000000000 t2)) (g_net : mg "Network" = some (.ref CN))
    (cr : ClX.CRead K CN mc) (cv1 : ∃ u, ClX.CVal K CN mc "MAX_VERTICES" (.int 40) u) (cv2 : ∃ u, ClX.CVal K CN mc "MAX_WEIGHT" (.int 1000000000) u)
    (C_pen : Callee P w K mg base CX0 1 "_law_pen" ["_law_script"] (spPen K)) (C_draw : Callee P w K mg base CX0 1 "_law_draw" ["_law_pen_here", "_law_many"] spDraw) (C_pick : Callee P w K mg base CX0 2 "_law_pick" ["_law_pen_here", "_law_some"] (spPick K))
    (C_errors : Callee P w K mg base CX0 2 "_law_errors" ["_law_a", "_law_by_names"] (spErrors K)) (C_kinds : Callee P w K mg base CX0 1 "_law_kinds" ["_law_e"] (spKinds K)) (C_bases : Callee P w K mg base CX0 1 "_law_bases" ["_law_e"] (spBases K))
    (C_due : Callee P w K mg base CX0 1 "_law_due_bases" [] spDue) (C_fields : Callee P w K mg base CX0 1 "_law_fields" ["_law_every"] (spFields K)) : WkG.FnG P w K mg base CX0 3 f fd ["_law_script"] (spLaw K) := by
  refine WkG.okG F sc_law10 (fun vs H Q E h => ?_) (fun cdv A outer s H vs Q E hG hr h => ?_)
  · obtain ⟨a, ns, rfl, _⟩ := h
    rfl
  · have hu := hu_of hr
    have nd := sc_law10.nd
    have hr1 : Room 1 _ := hr.mono (by decide)
    refine ⟨_, PSs.nox (pss_cons (ps_set (i := 1) nd rfl (Or.inl rfl) (pe_c C_pen hr1 pass0 (pa_cons (pv 0) pa_nil)))
      (pss_cons (ps_if (pt_cmpR (op_neD hr.units) (pe_lst (pa_cons (pe_glob (v := .int 40) (by rfl) g_mv ⟨_, rfl⟩) (pa_cons (pe_glob (v := .int 1000000000) (by rfl) g_mw ⟨_, rfl⟩) (pa_cons (ClX.pe_cval (pe_glob (v := .ref _) (by rfl) g_net rfl)) (pa_cons (ClX.pe_cval (pe_glob (v := .ref _) (by rfl) g_net rfl)) pa_nil))))) (pe_lst (pa_cons pe_int (pa_cons (pe_op op_pow pe_int pe_int) (pa_cons pe_int (pa_cons (pe_op op_pow pe_int pe_int) pa_nil))))) (nomark _))
      (pss_one (ps_ret pe_bl)) pss_nil)
      (pss_cons (ps_for PassesOwn.never rfl (pi_range1 (by rfl) B.n_range (pa_cons (pe_op op_add pe_int (pe_callB (call_min2 rfl) (by rfl) B.n_min (by decide +kernel) (pa_cons pe_int (pa_cons (pe_callB call_len_seq (by rfl) B.n_len (by decide +kernel) (pa_cons (pv 0) pa_nil)) pa_nil)))) pa_nil)) (pg_name (i := 2) nd rfl (Or.inl rfl))
      (pss_cons (ps_set (i := 3) nd rfl (Or.inl rfl) (pe_c C_pick hr pass0 (pa_cons (pv 1) (pa_cons (pe_lst (pa_cons (pe_op op_sub (pe_c C_draw hr1 pass0 (pa_cons (pv 1) (pa_cons (pe_op op_pow pe_int pe_int) pa_nil))) pe_int) (pa_cons pe_str (pa_cons pe_str (pa_cons (pe_tup pa_nil) (pa_cons (pe_tup (pa_cons pe_str (pa_cons pe_str (pa_cons pe_int pa_nil)))) (pa_cons (pe_lst (pa_cons pe_int (pa_cons (pe_lst (pa_cons pe_int pa_nil)) pa_nil))) (pa_cons pe_non (pa_cons pe_dnewK (pa_cons pe_bl pa_nil)))))))))) pa_nil))))
      (pss_cons (ps_set (i := 4) nd rfl (Or.inl rfl) (pe_c C_errors hr pass0 (pa_cons (pv 3) (pa_cons (pe_cmpR op_eq (pe_c C_draw hr1 pass0 (pa_cons (pv 1) (pa_cons pe_int pa_nil))) pe_int (nomark _)) pa_nil))))
      (pss_cons (ps_for PassesOwn.never rfl (pi_range1 (by rfl) B.n_range (pa_cons (pe_callB call_len_seq (by rfl) B.n_len (by decide +kernel) (pa_cons (pv 4) pa_nil)) pa_nil)) (pg_name (i := 5) nd rfl (Or.inr rfl))
      (pss_one (ps_if (pt_cmpR (op_neD hr.units) (pe_c C_kinds hr1 pass0 (pa_cons (pe_ix ix_list (pv 4) (pv 5) (fun _ _ => rfl)) pa_nil)) (pe_lc (own := [("_law_j", 6)]) (by rfl) nd (pi_range1 (by rfl) B.n_range (pa_cons pe_int pa_nil)) (blkOk_by (by kernel_rfl)) (fun _ _ _ _ _ => (pg_name (i := 6) nd rfl (Or.inl rfl))) (fun _ _ _ _ _ => pts_nil) (fun _ _ _ _ _ => (pe_cmpR op_eq (pv 5) (pv 6) (nomark _)))) (nomark _))
      (pss_one (ps_ret pe_bl)) pss_nil)))
      (pss_one (ps_if (PW.pt (pw_or (pt_cmpR (op_neD hr.units) (pe_lc (own := [("_law_e", 7)]) (by rfl) nd (pi_list (pv 4)) (blkOk_by (by kernel_rfl)) (fun _ _ _ _ _ => (pg_name (i := 7) nd rfl (Or.inl rfl))) (fun _ _ _ _ _ => pts_nil) (fun _ _ _ _ _ => (pe_c C_bases hr1 pass0 (pa_cons (pv 7) pa_nil)))) (pe_c0 C_due hr1 pass0) (nomark _)) (pw_or1 (pt_cmpR op_ne (pe_callB (WkG.call_repr hG S hr.units) (by rfl) B.n_repr (by decide +kernel) (pa_cons (pe_c C_fields hr1 pass0 (pa_cons (pv 4) pa_nil)) pa_nil)) (pe_callB (WkG.call_repr hG S hr.units) (by rfl) B.n_repr (by decide +kernel) (pa_cons (pe_op op_rep (pe_lst (pa_cons (pv 3) pa_nil)) pe_int) pa_nil)) (nomark _)))))
      (pss_one (ps_ret pe_bl)) pss_nil))))))
      (pss_one (ps_ret pe_bl))))), ?_⟩
    obtain ⟨a, ns, rfl, hS, hl, k⟩ := h
    refine ⟨_, rfl, a, ns, rfl, hS, hl, fun p cs H1 np nc s1 P1 => ?_⟩
    obtain ⟨u1, hv1⟩ := cv1
    obtain ⟨u2, hv2⟩ := cv2
    refine ⟨CN, mc, _, _, rfl, cr, hv1, CN, mc, _, _, rfl, cr, hv2, by show 4 ≤ sizeLine; decide, fun p1 n1 => ?_⟩
    generalize gg1 : upd _ p1 _ = G1; obtain ⟨s2, L1⟩ := new_eq n1 gg1; clear gg1
    refine ⟨_, _, rfl, rfl, ⟨by decide, by decide, by decide⟩, _, _, rfl, rfl, ⟨by decide, by decide, by decide⟩, by show 4 ≤ sizeLine; decide, fun p2 n2 => ?_⟩
    generalize gg2 : upd _ p2 _ = G2; obtain ⟨s3, L2⟩ := new_eq n2 gg2; clear gg2
    refine ⟨.list [.int 40, .int 1000000000, .int 40, .int 1000000000], .list [.int 40, .int 1000000000, .int 40, .int 1000000000], .lst (SqL.of (s3 _ _ L1)) (.cons (.int _) (.cons (.int _) (.cons (.int _) (.cons (.int _) .nil)))),
      .lst (SqL.of L2) (.cons (.int _) (.cons (.int _) (.cons (.int _) (.cons (.int _) .nil)))), by decide +kernel, by decide +kernel, _, rfl, ?_⟩
    rw [SeqAt.eqv_refl _ (by decide +kernel)]
    refine iteF ?_
    have P2 : Pen G2 p cs 0 := P1.same (s2.trans s3)
    have S2 : Same H G2 := s1.trans (s2.trans s3)
    refine ⟨_, rfl, a, _, rfl, .inl (S2.seq hS), _, _, rfl, _, _, rfl, rfl, _, rfl, ?_, ?_, ?_⟩
    · rw [List.length_map]
      split <;> omega
    · rw [List.length_map]
      split <;> omega
    refine for_it walk_range (fun i σ H2 => i ≤ 7 ∧ ∃ x0 x2 x3 x4 x5 x6 x7 : Option V, σ = [x0, some (.ref p), x2, x3, x4, x5, x6, x7] ∧ Pen H2 p cs (3 * i)) ?_ ?_ ?_ ?_
    · exact ⟨Nat.zero_le _, _, _, _, _, _, _, _, rfl, P2⟩
    · intros
      trivial
    · rintro i x σ Hi Hi' hi ⟨hi7, x0, x2, x3, x4, x5, x6, x7, rfl, Pi⟩ ⟨rfl, rfl⟩
      have hN : 3 * i < 2 ^ 60 := by omega
      -- the menu
      refine ⟨_, rfl, _, rfl, _, _, rfl, rfl, ⟨by decide, by decide, by decide⟩, p, cs, _, 3 * i, rfl, by decide, by decide, Pi, hN, fun z H3 z0 z1 b3 P3 => ?_⟩
      refine ⟨_, _, rfl, rfl, ?_⟩
      refine ⟨by decide, fun p1 n1 => ?_⟩
      generalize gg1 : upd _ p1 _ = G1; obtain ⟨s1, L1⟩ := new_eq n1 gg1; clear gg1
      refine ⟨by show 3 ≤ sizeLine; decide, fun p2 n2 => ?_⟩
      generalize gg2 : upd _ p2 _ = G2; obtain ⟨s2, L2⟩ := new_eq n2 gg2; clear gg2
      refine ⟨by show 1 ≤ sizeLine; decide, fun p3 n3 => ?_⟩
      generalize gg3 : upd _ p3 _ = G3; obtain ⟨s3, L3⟩ := new_eq n3 gg3; clear gg3
      refine ⟨by show 2 ≤ sizeLine; decide, fun p4 n4 => ?_⟩
      generalize gg4 : upd _ p4 _ = G4; obtain ⟨s4, L4⟩ := new_eq n4 gg4; clear gg4
      intro p5 n5
      generalize gg5 : upd _ p5 _ = G5; obtain ⟨s5, L5⟩ := new_eq n5 gg5; clear gg5
      refine ⟨by show 9 ≤ sizeLine; decide, fun p6 n6 => ?_⟩
      generalize gg6 : upd _ p6 _ = G6; obtain ⟨s6, L6⟩ := new_eq n6 gg6; clear gg6
      have P4 : Pen G6 p cs (3 * i + 1) := P3.same (s1.trans (s2.trans (s3.trans (s4.trans (s5.trans s6)))))
      refine ⟨p, cs, 3 * i + 1, P4, by omega, .inl ⟨p6, _, rfl, .inl (SqL.of L6), by simp, by show 9 < 1073741824; decide, fun v H4 hv b4 P5 => ?_⟩⟩
      obtain ⟨d, hd, hf, hdep⟩ : ∃ d, (∀ H', But p H4 H' → WkG.Dx K H' v d) ∧ WkG.Fits d 300 ∧ d.depth ≤ 3 := by
        obtain ⟨t0, r0, pp, _⟩ := P3.pen
        have e1 : p1 ≠ p := Ne.symm (ne_of_none pp n1)
        have e2 : p2 ≠ p := Ne.symm (ne_of_none (s1 _ _ pp) n2)
        have e3 : p3 ≠ p := Ne.symm (ne_of_none (s2 _ _ (s1 _ _ pp)) n3)
        have e4 : p4 ≠ p := Ne.symm (ne_of_none (s3 _ _ (s2 _ _ (s1 _ _ pp))) n4)
        have e5 : p5 ≠ p := Ne.symm (ne_of_none (s4 _ _ (s3 _ _ (s2 _ _ (s1 _ _ pp)))) n5)
        have q1 := b4 _ _ (s6 _ _ (s5 _ _ (s4 _ _ (s3 _ _ (s2 _ _ L1))))) e1
        have q2 := b4 _ _ (s6 _ _ (s5 _ _ (s4 _ _ (s3 _ _ L2)))) e2
        have q3 := b4 _ _ (s6 _ _ (s5 _ _ (s4 _ _ L3))) e3
        have q4 := b4 _ _ (s6 _ _ (s5 _ _ L4)) e4
        have q5 := b4 _ _ (s6 _ _ L5) e5
        simp only [List.mem_cons, List.not_mem_nil, or_false] at hv
        rcases hv with rfl | rfl | rfl | rfl | rfl | rfl | rfl | rfl | rfl
        · refine ⟨_, fun _ _ => .int _, ?_, Nat.zero_le _⟩
          have e := WkG.fits_int (i := z - 5) (by
            have h1 : z < 1000000000 := z1
            have h2 : (z - 5).natAbs < 10 ^ 10 := by omega
            exact Nat.lt_trans h2 (by decide))
          exact ⟨e.show_, e.dep, e.lv, Nat.le_trans e.wt (by decide)⟩
        · exact ⟨_, fun _ _ => .str _, ⟨by decide +kernel, by decide +kernel, by decide +kernel, by decide +kernel⟩, by decide +kernel⟩
        · exact ⟨_, fun _ _ => .str _, ⟨by decide +kernel, by decide +kernel, by decide +kernel, by decide +kernel⟩, by decide +kernel⟩
        · exact ⟨_, fun _ b => .tup (.inl (.inl (b _ _ q1 e1))) .nil, ⟨by decide +kernel, by decide +kernel, by decide +kernel, by decide +kernel⟩, by decide +kernel⟩
        · exact ⟨_, fun _ b => .tup (.inl (.inl (b _ _ q2 e2))) (.cons (.str _) (.cons (.str _) (.cons (.int _) .nil))), ⟨by decide +kernel, by decide +kernel, by decide +kernel, by decide +kernel⟩, by decide +kernel⟩
        · exact ⟨_, fun _ b => .lst (SqL.of (b _ _ q4 e4)) (.cons (.int _) (.cons (.lst (SqL.of (b _ _ q3 e3)) (.cons (.int _) .nil)) .nil)), ⟨by decide +kernel, by decide +kernel, by decide +kernel, by decide +kernel⟩, by decide +kernel⟩
        · exact ⟨_, fun _ _ => .non, ⟨by decide +kernel, by decide +kernel, by decide +kernel, by decide +kernel⟩, by decide +kernel⟩
        · exact ⟨.dict [], fun _ b => .dK (kvs := []) (ks := []) (vs := []) (.inl (b _ _ q5 e5)) .nil rfl rfl rfl, ⟨by decide +kernel, by decide +kernel, by decide +kernel, by decide +kernel⟩, by decide +kernel⟩
        · exact ⟨_, fun _ _ => .bl _, ⟨by decide +kernel, by decide +kernel, by decide +kernel, by decide +kernel⟩, by decide +kernel⟩
      clear hv b4 L1 L2 L3 L4 L5 L6 P4 s1 s2 s3 s4 s5 s6 n1 n2 n3 n4 n5 n6 b3 P3
      -- every = errors(a, draw == 0)
      refine ⟨_, rfl, _, rfl, p, cs, _, 3 * i + 1 + 1, rfl, by decide, by decide, P5, by omega, fun z2 H5 _ _ b5 P6 => ?_⟩
      refine ⟨rfl, v, _, rfl, fun l as H6 s6 hL hE => ?_⟩
      have P7 : Pen H6 p cs (3 * (i + 1)) := P6.same s6
      have hlen : as.length = 15 := hE.len
      -- for k in range(len(every))
      refine ⟨_, rfl, l, _, rfl, .inl (SqL.of hL), _, rfl, ?_, ?_, ?_⟩
      · rw [List.length_map, hlen]
        decide
      · rw [List.length_map, hlen]
        decide
      refine for_it walk_range (fun j σ H7 => Same H6 H7 ∧ ∃ y5 y6 y7 : Option V, σ = [x0, some (.ref p), some (.int (0 + (i : Int))), some v, some (.ref l), y5, y6, y7]) ?_ ?_ ?_ ?_
      · exact ⟨Same.refl _, _, _, _, rfl⟩
      · intros
        trivial
      · rintro j x σ H7 H7' hj ⟨s7, y5, y6, y7, rfl⟩ ⟨rfl, rfl⟩
        have hj : j < 15 := by
          rw [List.length_map, hlen] at hj
          exact hj
        obtain ⟨e, he⟩ : ∃ e, errN[j]? = some e := ⟨_, List.getElem?_eq_getElem (by show j < 15; exact hj)⟩
        obtain ⟨aj, haj, hje⟩ := hE.get he
        have ez : (0 : Int) + (j : Int) = (j : Int) := by omega
        refine ⟨_, rfl, _, rfl, l, _, _, .ref aj, rfl, rfl, SqL.of (s7 _ _ hL), (by rw [ez]; exact at_ref haj), aj, v, e, rfl, List.mem_of_getElem? he, hje.same s7, fun l1 H8 s8 L1 => ?_⟩
        have L1' : H8 l1 = some (.lst ((errN.map fun y => decide (e.1 = y.1)).map V.bl)) := by
          rw [List.map_map]
          exact L1
        refine ⟨_, rfl, by decide, by decide, fun D nD => ?_⟩
        refine lc_it walk_range (fun m H9 => H9 = upd H8 D (.lst (((List.range m).map fun q => decide (V.int (0 + (j : Int)) = V.int (0 + ((q : Nat) : Int)))).map V.bl))) rfl ?_ ?_ ?_
        · intros
          trivial
        · rintro m x H9 H9' hm rfl ⟨rfl, rfl⟩
          refine ⟨rfl, tYes_if ?_⟩
          refine ⟨_, rfl, _, rfl, rfl, _, upd_same, ?_, ?_⟩
          · rw [List.length_map, List.length_map, List.length_range]
            exact Nat.lt_trans hm (by decide)
          · rw [upd_upd, List.range_succ, List.map_append, List.map_append]
            rfl
        · rintro H9 rfl
          have n1 : l1 ≠ D := ne_of_none L1' nD
          refine ⟨.list ((errN.map fun y => decide (e.1 = y.1)).map PyData.bool), .list (((List.range 15).map fun q => decide (V.int (0 + (j : Int)) = V.int (0 + ((q : Nat) : Int)))).map PyData.bool), .lst (SqL.of (by rw [upd_ne n1]; exact L1')) (dp_bools _), .lst (SqL.of upd_same) (dp_bools _), list_shaped _, list_shaped _, _, rfl, ?_⟩
          rw [kinds_eq j e hj he, SeqAt.eqv_refl _ (SeqAt.canLay_of_shaped (list_shaped _))]
          refine iteF ?_
          exact ⟨s7.trans (s8.trans (same_upd nD)), _, _, _, rfl⟩
      · rintro σ H7 ⟨s7, y5, y6, y7, rfl⟩
        have hL7 := s7 _ _ hL
        -- [bases(e) for e in every] != due_bases()
        refine ⟨_, rfl, l, rfl, ⟨_, SqL.of hL7⟩, fun D nD => ?_⟩
        refine lc_it (walk_list (xs := as.map V.ref)) (fun m H8 => ∃ ls : List Addr, But D H7 H8 ∧ H8 D = some (.lst (ls.map V.ref)) ∧ Rows baseRow D H8 ls (errN.take m)) ⟨[], (But.refl D H7).upd, upd_same, trivial⟩ ?_ ?_ ?_
        · rintro m H8 hm ⟨ls, b, _, _⟩
          exact SqL.of (b _ _ hL7 (ne_of_none hL7 nD))
        · rintro m x H8 H8' hm ⟨ls, b, hD, hR⟩ ⟨rfl, hx⟩
          have hm : m < 15 := by
            rw [List.length_map, hlen] at hm
            exact hm
          obtain ⟨e, he⟩ : ∃ e, errN[m]? = some e := ⟨_, List.getElem?_eq_getElem (by show m < 15; exact hm)⟩
          obtain ⟨am, ham, dm, g1, g2⟩ := hE.get he
          have ex : x = V.ref am := by
            rw [List.getElem?_map, ham] at hx
            exact (Option.some.inj hx).symm
          subst ex
          have k1 := b _ _ (s7 _ _ g1) (ne_of_none (s7 _ _ g1) nD)
          have k2 := b _ _ (s7 _ _ g2) (ne_of_none (s7 _ _ g2) nD)
          refine ⟨rfl, tYes_if ?_⟩
          refine ⟨_, rfl, am, v, e, rfl, List.mem_of_getElem? he, ⟨dm, k1, k2⟩, fun l2 H9 s9 L2 => ?_⟩
          have n2 : l2 ≠ D := ne_of L2 (s9 _ _ hD) (by
            intro z
            injection z with z
            cases ls with
            | nil => cases z
            | cons c r =>
              injection z with z1 z2
              cases z1)
          have bn : But D H7 H9 := b.trans (But.of_same s9)
          refine ⟨_, s9 _ _ hD, ?_, ls ++ [l2], bn.upd, ?_, ?_⟩
          · rw [List.length_map, hR.len, List.length_take]
            exact Nat.lt_of_le_of_lt (Nat.min_le_left _ _) (Nat.lt_trans hm (by decide))
          · rw [upd_same, List.map_append]
            rfl
          · rw [take_snoc he]
            refine Rows.but ((But.refl D _).upd) ?_
            exact Rows.snoc (row := baseRow) (y := e) n2 L2 (hR.but (But.of_same s9))
        · rintro H8 ⟨ls, b, hD, hR⟩
          have S8 : Same H7 H8 := fun c o e => b c o e (ne_of_none e nD)
          have hR' : Rows baseRow D H8 ls errN := by
            have e : errN.take (as.map V.ref).length = errN := by
              rw [List.length_map, hlen]
              rfl
            rw [e] at hR
            exact hR
          refine ⟨rfl, fun l3 ls3 H9 s9 hL3 hR3 => ?_⟩
          have hRn := hR'.but (D := D) (H' := H9) (But.of_same s9)
          refine ⟨_, _, .lst (SqL.of (s9 _ _ hD)) (rows_dp base_row hRn), .lst (SqL.of hL3) (rows_dp due_row hR3), lists_shaped _ _, lists_shaped _ _, _, rfl, ?_⟩
          rw [bases_eq, SeqAt.eqv_refl _ (SeqAt.canLay_of_shaped (lists_shaped _ _))]
          refine iteF ?_
          -- repr(fields(every)) != repr([a] * 15)
          have S9 : Same H6 H9 := s7.trans (S8.trans s9)
          refine ⟨_, rfl, l, as, v, rfl, S9 _ _ hL, hE.same S9, fun q H10 s10 Lq => ?_⟩
          have hfr := hf.rep (by omega) 15
          have d9 : WkG.Dx K H9 v d := (hd H5 b5).same (s6.trans S9)
          refine ⟨.ref q, .list (List.replicate 15 d), rfl, .lst (SqL.of Lq) (.rep (d9.same s10) 15), hfr.show_, Nat.le_trans hfr.dep (by decide), hfr.len (by decide), ?_⟩
          refine ⟨_, rfl, by show 1 ≤ sizeLine; decide, fun p1 n1 => ?_⟩
          generalize gg1 : upd _ p1 _ = G1; obtain ⟨s1, L1⟩ := new_eq n1 gg1; clear gg1
          refine ⟨p1, _, _, rfl, rfl, L1, by decide, by decide, (by show 1 * 15 ≤ sizeLine; decide), fun p2 n2 => ?_⟩
          generalize gg2 : upd _ p2 _ = G2; obtain ⟨s2, L2⟩ := new_eq n2 gg2; clear gg2
          have L2' : G2 p2 = some (.lst (List.replicate 15 v)) := L2
          refine ⟨.ref p2, .list (List.replicate 15 d), rfl, .lst (SqL.of L2') (.rep (d9.same (s10.trans (s1.trans s2))) 15), hfr.show_, Nat.le_trans hfr.dep (by decide), hfr.len (by decide), ?_⟩
          refine ⟨rfl, _, rfl, ?_⟩
          rw [decide_eq_true rfl]
          refine iteF ?_
          exact ⟨by omega, _, _, _, _, _, _, _, rfl, P7.same (S9.trans (s10.trans (s1.trans s2)))⟩
    · rintro σ H2 ⟨_, x0, x2, x3, x4, x5, x6, x7, rfl, _⟩
      exact k H2
end
end Wk
namespace Wk
open PySem PySem.Spec PyProof.Rows L2
def d_pen : He.DefD := ⟨("_law_pen", none), "_law_pen", "_law_pen", defArgs s_L_pen, defBody s_L_pen, defScope s_L_pen, [], []⟩
def d_draw : He.DefD := ⟨("_law_draw", none), "_law_draw", "_law_draw", defArgs s_L_draw, defBody s_L_draw, defScope s_L_draw, [], []⟩
def d_pick : He.DefD := ⟨("_law_pick", none), "_law_pick", "_law_pick", defArgs s_L_pick, defBody s_L_pick, defScope s_L_pick, [], []⟩
def d_errors : He.DefD := ⟨("_law_errors", none), "_law_errors", "_law_errors", defArgs s_L_errors, defBody s_L_errors, defScope s_L_errors, [], []⟩
def d_kinds : He.DefD := ⟨("_law_kinds", none), "_law_kinds", "_law_kinds", defArgs s_L_kinds, defBody s_L_kinds, defScope s_L_kinds, [], []⟩
def d_bases : He.DefD := ⟨("_law_bases", none), "_law_bases", "_law_bases", defArgs s_L_bases, defBody s_L_bases, defScope s_L_bases, [], []⟩
def d_due : He.DefD := ⟨("_law_due_bases", none), "_law_due_bases", "_law_due_bases", defArgs s_L_due_bases, defBody s_L_due_bases, defScope s_L_due_bases, [], []⟩
def d_fields : He.DefD := ⟨("_law_fields", none), "_law_fields", "_law_fields", defArgs s_L_fields, defBody s_L_fields, defScope s_L_fields, [], []⟩
def d_law10 : He.DefD := ⟨("law", none), "law", "law", defArgs s_law, defBody s_law, defScope s_law, [], []⟩
def d_InvalidVertex : He.DefD := ⟨("InvalidVertex", some "__init__"), "__init__", "InvalidVertex.__init__", defArgs s_InvalidVertex_init, defBody s_InvalidVertex_init, defScope s_InvalidVertex_init, [], []⟩
def d_InvalidEdge : He.DefD := ⟨("InvalidEdge", some "__init__"), "__init__", "InvalidEdge.__init__", defArgs s_InvalidEdge_init, defBody s_InvalidEdge_init, defScope s_InvalidEdge_init, [], []⟩
def d_Disconnected : He.DefD := ⟨("Disconnected", some "__init__"), "__init__", "Disconnected.__init__", defArgs s_Disconnected_init, defBody s_Disconnected_init, defScope s_Disconnected_init, [], []⟩
def d_InvalidText : He.DefD := ⟨("InvalidText", some "__init__"), "__init__", "InvalidText.__init__", defArgs s_InvalidText_init, defBody s_InvalidText_init, defScope s_InvalidText_init, [], []⟩
def d_InvalidEdit : He.DefD := ⟨("InvalidEdit", some "__init__"), "__init__", "InvalidEdit.__init__", defArgs s_InvalidEdit_init, defBody s_InvalidEdit_init, defScope s_InvalidEdit_init, [], []⟩
def d_InvalidFloor : He.DefD := ⟨("InvalidFloor", some "__init__"), "__init__", "InvalidFloor.__init__", defArgs s_InvalidFloor_init, defBody s_InvalidFloor_init, defScope s_InvalidFloor_init, [], []⟩
def d_TooWeak : He.DefD := ⟨("TooWeak", some "__init__"), "__init__", "TooWeak.__init__", defArgs s_TooWeak_init, defBody s_TooWeak_init, defScope s_TooWeak_init, [], []⟩
def d_InvalidIncrease : He.DefD := ⟨("InvalidIncrease", some "__init__"), "__init__", "InvalidIncrease.__init__", defArgs s_InvalidIncrease_init, defBody s_InvalidIncrease_init, defScope s_InvalidIncrease_init, [], []⟩
def d_SameVertex : He.DefD := ⟨("SameVertex", some "__init__"), "__init__", "SameVertex.__init__", defArgs s_SameVertex_init, defBody s_SameVertex_init, defScope s_SameVertex_init, [], []⟩
def d_InvalidFlow : He.DefD := ⟨("InvalidFlow", some "__init__"), "__init__", "InvalidFlow.__init__", defArgs s_InvalidFlow_init, defBody s_InvalidFlow_init, defScope s_InvalidFlow_init, [], []⟩
def d_UnknownVertex : He.DefD := ⟨("UnknownVertex", some "__init__"), "__init__", "UnknownVertex.__init__", defArgs s_UnknownVertex_init, defBody s_UnknownVertex_init, defScope s_UnknownVertex_init, [], []⟩
def d_UnknownEdge : He.DefD := ⟨("UnknownEdge", some "__init__"), "__init__", "UnknownEdge.__init__", defArgs s_UnknownEdge_init, defBody s_UnknownEdge_init, defScope s_UnknownEdge_init, [], []⟩
def d_OutOfRange : He.DefD := ⟨("OutOfRange", some "__init__"), "__init__", "OutOfRange.__init__", defArgs s_OutOfRange_init, defBody s_OutOfRange_init, defScope s_OutOfRange_init, [], []⟩
def d_NotWeakest : He.DefD := ⟨("NotWeakest", some "__init__"), "__init__", "NotWeakest.__init__", defArgs s_NotWeakest_init, defBody s_NotWeakest_init, defScope s_NotWeakest_init, [], []⟩
def d_NotLone : He.DefD := ⟨("NotLone", some "__init__"), "__init__", "NotLone.__init__", defArgs s_NotLone_init, defBody s_NotLone_init, defScope s_NotLone_init, [], []⟩
def fn : List He.DefD := [d_pen, d_draw, d_pick, d_errors, d_kinds, d_bases, d_due, d_fields, d_law10, d_InvalidVertex, d_InvalidEdge, d_Disconnected, d_InvalidText, d_InvalidEdit, d_InvalidFloor, d_TooWeak, d_InvalidIncrease, d_SameVertex, d_InvalidFlow, d_UnknownVertex, d_UnknownEdge, d_OutOfRange, d_NotWeakest, d_NotLone]
def fa1 : List He.Fa := [.glo "_law_pen", .glo "_law_draw", .glo "_law_pick", .glo "_law_errors", .glo "_law_kinds", .glo "_law_bases", .glo "_law_due_bases", .glo "_law_fields", .glo "law", .glo "InvalidVertex", .glo "InvalidEdge", .glo "Disconnected", .glo "InvalidText", .glo "InvalidEdit", .glo "InvalidFloor", .glo "TooWeak", .glo "InvalidIncrease", .glo "SameVertex", .glo "InvalidFlow", .glo "UnknownVertex", .glo "UnknownEdge", .glo "OutOfRange", .glo "NotWeakest", .glo "NotLone", .glo "Network"]
def fa2 : List He.Fa := [.free "abs", .free "all", .free "any", .free "bool", .free "dict", .free "enumerate", .free "int", .free "isinstance", .free "len", .free "list", .free "max", .free "min", .free "range", .free "repr", .free "set", .free "sorted", .free "str", .free "sum", .free "tuple", .free "zip", .free "reversed", .free "super", .free "ValueError", .free "LookupError", .free "KeyError", .free "IndexError", .free "ArithmeticError", .free "OverflowError", .free "ZeroDivisionError", .free "RuntimeError", .free "TypeError"]
def fa : List He.Fa := .int "MAX_VERTICES" 40 :: .int "MAX_WEIGHT" 1000000000 :: (fa1 ++ fa2)
def exE (K : PySem.W.Frag) : Bool := WkX.excB K "InvalidVertex" "value" WkX.bV "ValueError.__new__" && (WkX.excB K "InvalidEdge" "value" WkX.bV "ValueError.__new__" && (WkX.excB K "Disconnected" "side" WkX.bV "ValueError.__new__" && (WkX.excB K "InvalidText" "line" WkX.bV "ValueError.__new__" && (WkX.excB K "InvalidEdit" "index" WkX.bV "ValueError.__new__" && (WkX.excB K "InvalidFloor" "value" WkX.bV "ValueError.__new__" && (WkX.excB K "TooWeak" "found" WkX.bR "RuntimeError.__new__" && (WkX.excB K "InvalidIncrease" "value" WkX.bV "ValueError.__new__" && (WkX.excB K "SameVertex" "value" WkX.bV "ValueError.__new__" && (WkX.excB K "InvalidFlow" "value" WkX.bV "ValueError.__new__" && (WkX.excB K "UnknownVertex" "value" WkX.bK "LookupError.__new__" && (WkX.excB K "UnknownEdge" "value" WkX.bK "LookupError.__new__" && (WkX.excB K "OutOfRange" "value" WkX.bI "IndexError.__new__" && (WkX.excB K "NotWeakest" "value" WkX.bL "LookupError.__new__" && (WkX.excB K "NotLone" "value" WkX.bL "LookupError.__new__"))))))))))))))
def exI (K : PySem.W.Frag) : Bool := (errN.all fun e => errN.all fun y => decide (PySem.W.kitOne K (.ref (cA K e.1)) (.ref (cA K y.1)) = some (decide (e.1 = y.1)))) && errN.all fun e => baseN.all fun T => decide (PySem.W.kitOne K (.ref (cA K e.1)) (.type T) = some ((above e.1).contains T))
def ex (K : PySem.W.Frag) : Bool := exE K && (exI K && (WkG.smB K && (WkX.crB K (He.ga K "Network") && (WkX.cvB K (He.ga K "Network") "MAX_VERTICES" 40 && WkX.cvB K (He.ga K "Network") "MAX_WEIGHT" 1000000000))))
abbrev R : PySem.W.OpenRow := PySem.W.OpenLaw.row PySem.Challenge.rw_weakcuts_k10_errors_and_limits
abbrev hk : PySem.W.Hook := WkG.hookW 6 fa fn ex
def ob (s : PySem.W.SharedT) : WkG.AlW := WkG.obsW 6 fa fn ex (HandSHeadRun.getT s)
theorem ob_eq (s : PySem.W.SharedT) : ob s = hk.obs s.abs := WkG.obsW_eq (HandSHeadRun.getT_eq s)
def loose1 : List PySem.Str := ["_wall", "__name__", "InvalidVertex", "InvalidEdge", "Disconnected", "InvalidText", "InvalidEdit", "InvalidFloor", "TooWeak", "UnknownVertex", "UnknownEdge", "OutOfRange", "InvalidIncrease", "NotWeakest", "NotLone", "SameVertex", "InvalidFlow", "MAX_VERTICES", "MAX_WEIGHT", "LETTERS", "is_between"]
def loose2 : List PySem.Str := ["is_name", "is_tuple_of", "side_of", "last_two", "merge_rows", "least_cut", "strength_of", "Graph", "can_join", "sorted_rows", "reached", "check_connected", "format_graph", "Network", "_law_pen", "_law_draw", "_law_pick", "_law_errors", "_law_kinds", "_law_bases", "_law_due_bases", "_law_fields"]
abbrev loose : List PySem.Str := loose1 ++ loose2
theorem run (w : World) : HandSHeadRun.RunEq R (PySem.W.view R.prog [49]) hk ob 20000 loose w := by
  intro os
  kernel_rfl
section
variable {K : PySem.W.Frag} {h : Heap} {mg : Str → Option Value}
theorem def_of {x : Str} {d : He.DefD} (X : K.In h) (G : h.Ns mainGlobals mg) (c : He.SaysD fa fn K) (hd : d ∈ fn) (hg : He.Fa.glo x ∈ fa) (st : Stmt) (e : d = ⟨(x, none), x, x, defArgs st, defBody st, defScope st, [], []⟩) : Def K mg x st := by
  obtain ⟨fd, F⟩ := c.defs hd
  subst e
  exact ⟨_, fd, F, He.glo_ok X G (c.facts hg)⟩
theorem init_of {x f : Str} {d : He.DefD} (c : He.SaysD fa fn K) (hd : d ∈ fn) {qual : Str} {p1 p2 q1 q2 q3 q4 : Pos} (e : d = ⟨(x, some "__init__"), "__init__", qual, WkX.iA f p1 p2, WkX.iB f q1 q2 q3 q4, WkX.iS f, [], []⟩) :
    ∃ (qual : Str) (oc : Value) (od : Option Addr) (kV doc pm : Value) (an : Option Addr) (cdv ct : Value) (osl : Array (Option Value)) (p1 p2 q1 q2 q3 q4 : Pos),
      K.lookup (He.ma K (He.ga K x) "__init__") = some ⟨oc, od, .func (PySem.W.fnOf "__init__" qual (WkX.iA f p1 p2) (WkX.iB f q1 q2 q3 q4) (WkX.iS f) .none kV doc pm an cdv ct), osl⟩ ∧ PySem.W.codeIn K cdv qual = true := by
  obtain ⟨fd, F⟩ := c.defs hd
  subst e
  obtain ⟨oc, od, dV, kV, doc, pm, an, cdv, ct, osl, rfl, lk, hcd, hD, _⟩ := F.ex
  rcases hD with ⟨_, rfl⟩ | ⟨z, _⟩
  · exact ⟨_, oc, od, kV, doc, pm, an, cdv, ct, osl, _, _, _, _, _, _, lk, hcd⟩
  · exact absurd rfl z
theorem bi_of (X : K.In h) (G : h.Ns mainGlobals mg) (c : He.SaysD fa fn K) : Bi mg :=
  ⟨He.free_ok X G (c.facts (f := .free "abs") (by simp [fa, fa2])), He.free_ok X G (c.facts (f := .free "all") (by simp [fa, fa2])), He.free_ok X G (c.facts (f := .free "any") (by simp [fa, fa2])), He.free_ok X G (c.facts (f := .free "bool") (by simp [fa, fa2])), He.free_ok X G (c.facts (f := .free "dict") (by simp [fa, fa2])), He.free_ok X G (c.facts (f := .free "enumerate") (by simp [fa, fa2])), He.free_ok X G (c.facts (f := .free "int") (by simp [fa, fa2])), He.free_ok X G (c.facts (f := .free "isinstance") (by simp [fa, fa2])), He.free_ok X G (c.facts (f := .free "len") (by simp [fa, fa2])), He.free_ok X G (c.facts (f := .free "list") (by simp [fa, fa2])), He.free_ok X G (c.facts (f := .free "max") (by simp [fa, fa2])), He.free_ok X G (c.facts (f := .free "min") (by simp [fa, fa2])), He.free_ok X G (c.facts (f := .free "range") (by simp [fa, fa2])), He.free_ok X G (c.facts (f := .free "repr") (by simp [fa, fa2])), He.free_ok X G (c.facts (f := .free "set") (by simp [fa, fa2])), He.free_ok X G (c.facts (f := .free "sorted") (by simp [fa, fa2])), He.free_ok X G (c.facts (f := .free "str") (by simp [fa, fa2])), He.free_ok X G (c.facts (f := .free "sum") (by simp [fa, fa2])), He.free_ok X G (c.facts (f := .free "tuple") (by simp [fa, fa2])), He.free_ok X G (c.facts (f := .free "zip") (by simp [fa, fa2])), He.free_ok X G (c.facts (f := .free "reversed") (by simp [fa, fa2])), He.free_ok X G (c.facts (f := .free "super") (by simp [fa, fa2])), He.free_ok X G (c.facts (f := .free "ValueError") (by simp [fa, fa2])), He.free_ok X G (c.facts (f := .free "LookupError") (by simp [fa, fa2])), He.free_ok X G (c.facts (f := .free "KeyError") (by simp [fa, fa2])), He.free_ok X G (c.facts (f := .free "IndexError") (by simp [fa, fa2])), He.free_ok X G (c.facts (f := .free "ArithmeticError") (by simp [fa, fa2])), He.free_ok X G (c.facts (f := .free "OverflowError") (by simp [fa, fa2])), He.free_ok X G (c.facts (f := .free "ZeroDivisionError") (by simp [fa, fa2])), He.free_ok X G (c.facts (f := .free "RuntimeError") (by simp [fa, fa2])), He.free_ok X G (c.facts (f := .free "TypeError") (by simp [fa, fa2]))⟩
theorem errT_of (X : K.In h) (G : h.Ns mainGlobals mg) (c : He.SaysD fa fn K) (hx : exE K = true) : ErrT K mg := by
  unfold exE at hx
  obtain ⟨a0, hx⟩ := He.ba hx
  obtain ⟨a1, hx⟩ := He.ba hx
  obtain ⟨a2, hx⟩ := He.ba hx
  obtain ⟨a3, hx⟩ := He.ba hx
  obtain ⟨a4, hx⟩ := He.ba hx
  obtain ⟨a5, hx⟩ := He.ba hx
  obtain ⟨a6, hx⟩ := He.ba hx
  obtain ⟨a7, hx⟩ := He.ba hx
  obtain ⟨a8, hx⟩ := He.ba hx
  obtain ⟨a9, hx⟩ := He.ba hx
  obtain ⟨a10, hx⟩ := He.ba hx
  obtain ⟨a11, hx⟩ := He.ba hx
  obtain ⟨a12, hx⟩ := He.ba hx
  obtain ⟨a13, hx⟩ := He.ba hx
  exact ⟨WkX.excT_mk (He.glo_ok X G (c.facts (f := .glo "InvalidVertex") (by simp [fa, fa1]))) a0 PySem.F.excBase_ValueError WkX.tV WkX.pV WkX.oV WkX.f_value (init_of c (d := d_InvalidVertex) (by simp [fn]) rfl),
    WkX.excT_mk (He.glo_ok X G (c.facts (f := .glo "InvalidEdge") (by simp [fa, fa1]))) a1 PySem.F.excBase_ValueError WkX.tV WkX.pV WkX.oV WkX.f_value (init_of c (d := d_InvalidEdge) (by simp [fn]) rfl),
    WkX.excT_mk (He.glo_ok X G (c.facts (f := .glo "Disconnected") (by simp [fa, fa1]))) a2 PySem.F.excBase_ValueError WkX.tV WkX.pV WkX.oV WkX.f_side (init_of c (d := d_Disconnected) (by simp [fn]) rfl),
    WkX.excT_mk (He.glo_ok X G (c.facts (f := .glo "InvalidText") (by simp [fa, fa1]))) a3 PySem.F.excBase_ValueError WkX.tV WkX.pV WkX.oV WkX.f_line (init_of c (d := d_InvalidText) (by simp [fn]) rfl),
    WkX.excT_mk (He.glo_ok X G (c.facts (f := .glo "InvalidEdit") (by simp [fa, fa1]))) a4 PySem.F.excBase_ValueError WkX.tV WkX.pV WkX.oV WkX.f_index (init_of c (d := d_InvalidEdit) (by simp [fn]) rfl),
    WkX.excT_mk (He.glo_ok X G (c.facts (f := .glo "InvalidFloor") (by simp [fa, fa1]))) a5 PySem.F.excBase_ValueError WkX.tV WkX.pV WkX.oV WkX.f_value (init_of c (d := d_InvalidFloor) (by simp [fn]) rfl),
    WkX.excT_mk (He.glo_ok X G (c.facts (f := .glo "TooWeak") (by simp [fa, fa1]))) a6 PySem.F.excBase_RuntimeError WkX.tR WkX.pR WkX.oR WkX.f_found (init_of c (d := d_TooWeak) (by simp [fn]) rfl),
    WkX.excT_mk (He.glo_ok X G (c.facts (f := .glo "InvalidIncrease") (by simp [fa, fa1]))) a7 PySem.F.excBase_ValueError WkX.tV WkX.pV WkX.oV WkX.f_value (init_of c (d := d_InvalidIncrease) (by simp [fn]) rfl),
    WkX.excT_mk (He.glo_ok X G (c.facts (f := .glo "SameVertex") (by simp [fa, fa1]))) a8 PySem.F.excBase_ValueError WkX.tV WkX.pV WkX.oV WkX.f_value (init_of c (d := d_SameVertex) (by simp [fn]) rfl),
    WkX.excT_mk (He.glo_ok X G (c.facts (f := .glo "InvalidFlow") (by simp [fa, fa1]))) a9 PySem.F.excBase_ValueError WkX.tV WkX.pV WkX.oV WkX.f_value (init_of c (d := d_InvalidFlow) (by simp [fn]) rfl),
    WkX.excT_mk (He.glo_ok X G (c.facts (f := .glo "UnknownVertex") (by simp [fa, fa1]))) a10 PySem.F.excBase_LookupError WkX.tK WkX.pK WkX.oK WkX.f_value (init_of c (d := d_UnknownVertex) (by simp [fn]) rfl),
    WkX.excT_mk (He.glo_ok X G (c.facts (f := .glo "UnknownEdge") (by simp [fa, fa1]))) a11 PySem.F.excBase_LookupError WkX.tK WkX.pK WkX.oK WkX.f_value (init_of c (d := d_UnknownEdge) (by simp [fn]) rfl),
    WkX.excT_mk (He.glo_ok X G (c.facts (f := .glo "OutOfRange") (by simp [fa, fa1]))) a12 PySem.F.excBase_IndexError WkX.tI WkX.pI WkX.oI WkX.f_value (init_of c (d := d_OutOfRange) (by simp [fn]) rfl),
    WkX.excT_mk (He.glo_ok X G (c.facts (f := .glo "NotWeakest") (by simp [fa, fa1]))) a13 PySem.F.excBase_LookupError WkX.tL WkX.pL WkX.oL WkX.f_value (init_of c (d := d_NotWeakest) (by simp [fn]) rfl),
    WkX.excT_mk (He.glo_ok X G (c.facts (f := .glo "NotLone") (by simp [fa, fa1]))) hx PySem.F.excBase_LookupError WkX.tL WkX.pL WkX.oL WkX.f_value (init_of c (d := d_NotLone) (by simp [fn]) rfl)⟩
theorem isT_of (hx : exI K = true) : IsT K := by
  obtain ⟨h1, h2⟩ := He.ba hx
  refine ⟨fun e he y hy => ?_, fun e he T hT => ?_⟩
  · exact of_decide_eq_true (List.all_eq_true.mp (List.all_eq_true.mp h1 e he) y hy)
  · exact of_decide_eq_true (List.all_eq_true.mp (List.all_eq_true.mp h2 e he) T hT)
theorem facts {P : Program} {w : World} {f : Addr} (X : K.In h) (G : h.Ns mainGlobals mg) (hfa : mg ("law" : Str) = some (.ref f)) (c : He.SaysD fa fn K) (hx : ex K = true) :
    ∃ fd : FuncData, (∀ (s : Shared) (v : Value), BindsTo s fd ⟨[v], []⟩ [("_law_script", v)]) ∧ ∀ base : Heap, K.In base → base.Ns mainGlobals mg → WkG.FnG P w K mg base CX0 3 f fd ["_law_script"] (spLaw K) := by
  obtain ⟨h1, hx⟩ := He.ba hx
  obtain ⟨h2, hx⟩ := He.ba hx
  obtain ⟨h3, hx⟩ := He.ba hx
  obtain ⟨h4, hx⟩ := He.ba hx
  obtain ⟨h5, h6⟩ := He.ba hx
  have B := bi_of X G c
  have ET := errT_of X G c h1
  have IT := isT_of h2
  obtain ⟨fd, F⟩ := c.defs (d := d_law10) (by simp [fn])
  have e := hfa.symm.trans (He.glo_ok X G (c.facts (f := .glo "law") (by simp [fa, fa1])))
  cases e
  obtain ⟨t1, g1⟩ := He.int_ok X G (c.facts (f := .int "MAX_VERTICES" 40) (by simp [fa]))
  obtain ⟨t2, g2⟩ := He.int_ok X G (c.facts (f := .int "MAX_WEIGHT" 1000000000) (by simp [fa]))
  have g3 := He.glo_ok X G (c.facts (f := .glo "Network") (by simp [fa, fa1]))
  have b := FunD.bindsA (ps := ["_law_script"]) F fun _ _ _ _ _ _ us hl => match us, hl with | [_], _ => rfl
  refine ⟨fd, fun s v => b s [v] rfl, fun base _ _ => ?_⟩
  have C_draw := c_draw (P := P) (w := w) (base := base) (def_of X G c (d := d_draw) (by simp [fn]) (by simp [fa, fa1]) _ rfl) B
  exact ok_law F B (WkG.smB_ok h3) g1 g2 g3 (WkX.crB_ok h4) (WkX.cvB_ok h5) (WkX.cvB_ok h6)
    (c_pen (def_of X G c (d := d_pen) (by simp [fn]) (by simp [fa, fa1]) _ rfl) B) C_draw (c_pick (def_of X G c (d := d_pick) (by simp [fn]) (by simp [fa, fa1]) _ rfl) B C_draw)
    (c_errors (def_of X G c (d := d_errors) (by simp [fn]) (by simp [fa, fa1]) _ rfl) B ET) (c_kinds (def_of X G c (d := d_kinds) (by simp [fn]) (by simp [fa, fa1]) _ rfl) B ET IT) (c_bases (def_of X G c (d := d_bases) (by simp [fn]) (by simp [fa, fa1]) _ rfl) B ET IT)
    (c_due (def_of X G c (d := d_due) (by simp [fn]) (by simp [fa, fa1]) _ rfl) B) (c_fields (def_of X G c (d := d_fields) (by simp [fn]) (by simp [fa, fa1]) _ rfl) B ET)
end
end Wk
open PySem PySem.W PySem.Calls PyProof.Rows
set_option maxHeartbeats 0 in
theorem PySem.Challenge.cw_weakcuts_k10_errors_and_limits_holds : PySem.Challenge.rw_weakcuts_k10_errors_and_limits.Holds := by
  w_on; o_law
  refine HandSHeadRun.head_any (r := OpenLaw.row PySem.Challenge.rw_weakcuts_k10_errors_and_limits) (q := view (OpenLaw.row PySem.Challenge.rw_weakcuts_k10_errors_and_limits).prog [49]) (H := Wk.hk) (ob := Wk.ob) (M := 20000) (loose := Wk.loose) (d := HandSHeadRun.topDef (OpenLaw.row PySem.Challenge.rw_weakcuts_k10_errors_and_limits).prog 49) (kwd := []) Wk.ob_eq
    (by kernel_rfl) (fun s => by kernel_rfl) Wk.run (by kernel_rfl) (by kernel_rfl) (by kernel_rfl) (by rfl) (by first | assumption | decide +kernel) (by decide +kernel) ⟨rfl, rfl, rfl, rfl, rfl, by decide +kernel⟩ ?hw ?hc
  case hw => w_witness2
  case hc =>
    refine WkG.walk_G (l := PySem.Challenge.rw_weakcuts_k10_errors_and_limits) (n := 63) (k := 3) (x := "_law_script") (CX := fun _ => L2.CX0) rfl (by decide) (by kernel_rfl) ⟨rfl, by decide, by decide⟩ ?F (fun _ _ _ _ _ z => z)
    intro w mg fa h Y G hmg0
    obtain ⟨K, KX, c, hx⟩ := Y
    have hmg : mg ("law" : PySem.Str) = some (.ref fa) := by
      have e : (HandSHeadRun.topDef (OpenLaw.row PySem.Challenge.rw_weakcuts_k10_errors_and_limits).prog 49).name = ("law" : PySem.Str) := by kernel_rfl
      rw [← e]
      exact hmg0
    obtain ⟨fd, hb, hF⟩ := Wk.facts (P := (PySem.Challenge.rw_weakcuts_k10_errors_and_limits).prog) (w := w) KX G hmg c hx
    exact ⟨K, fd, Wk.spLaw K, KX, hb, fun H a ns hl _ hS => ⟨a, ns, rfl, hS, hl, fun _ => rfl⟩, hF⟩
